import PyProof.Rows.All
import Wide.All
import OpenK.AllK
import Wide.FinOn
import PySem.Challenge.RW_rh0272_01
set_option Elab.async false
set_option maxRecDepth 100000
section
open PySem PySem.W PyProof.Rows
set_option Elab.async false
set_option maxRecDepth 100000
set_option linter.unusedVariables false
namespace Mine

/-! ## The abstract store -/
abbrev Loc := Nat
inductive AV where
  | none
  | bool (b : Bool)
  | int (i : Int)
  | str (s : Str)
  | ref (l : Loc)
inductive AO where
  | list (vs : List AV)
  | tuple (vs : List AV)
  | inst (c : Addr) (d : Loc)
  | dict (es : List (Str × AV))
  | raw (ws : List Value)
structure St where
  σ : Loc → Option AO
  nx : Nat
noncomputable def upd (f : Loc → Option AO) (l : Loc) (o : AO) : Loc → Option AO := fun k => if k = l then some o else f k
theorem upd_same {f : Loc → Option AO} {l : Loc} {o : AO} : upd f l o l = some o := if_pos rfl
theorem upd_ne {f : Loc → Option AO} {l k : Loc} {o : AO} (h : k ≠ l) : upd f l o k = f k := if_neg h
noncomputable def setAt (f : Loc → Addr) (l : Loc) (a : Addr) : Loc → Addr := fun k => if k = l then a else f k

noncomputable def VR (ρ : Loc → Addr) (nx : Nat) : AV → Value → Prop
  | .none, v => v = .none
  | .bool b, v => v = .bool b
  | .int i, v => ∃ t, v = .int i t
  | .str x, v => ∃ t, v = .str x t
  | .ref l, v => l < nx ∧ v = .ref (ρ l)
inductive VRs (ρ : Loc → Addr) (nx : Nat) : List AV → List Value → Prop where
  | nil : VRs ρ nx [] []
  | cons {a : AV} {v : Value} {as : List AV} {vs : List Value} : VR ρ nx a v → VRs ρ nx as vs → VRs ρ nx (a :: as) (v :: vs)
noncomputable def OptVR (ρ : Loc → Addr) (nx : Nat) : Option AV → Option Value → Prop
  | none, v => v = none
  | some a, v => ∃ x, v = some x ∧ VR ρ nx a x
noncomputable def OR (ρ : Loc → Addr) (nx : Nat) : AO → Obj → Prop
  | .list vs, o => (o.cls = .type "list" ∧ o.dict = none ∧ o.slots = #[]) ∧ ∃ ws n, o.data = .seq ws n ∧ VRs ρ nx vs ws.toList
  | .tuple vs, o => o.cls = .type "tuple" ∧ ∃ ws n, o.data = .seq ws n ∧ VRs ρ nx vs ws.toList
  | .inst c d, o => d < nx ∧ o.cls = .ref c ∧ o.dict = some (ρ d) ∧ o.data = .plain
  | .raw ws, o => o = { cls := .type "list", data := .seq ws.toArray }
  | .dict es, o => o.cls = .type "dict" ∧ ∃ ds n, o.data = .dict ds n ∧ StrKeys ds ∧ ds.size ≤ es.length ∧ ∀ x, OptVR ρ nx (es.lookup x) (nsFind ds x)

theorem VR.mono {ρ ρ' : Loc → Addr} {nx nx' : Nat} (hn : nx ≤ nx') (ha : ∀ l, l < nx → ρ' l = ρ l) {a : AV} {v : Value} (h : VR ρ nx a v) : VR ρ' nx' a v := by
  cases a with
  | ref l => exact ⟨Nat.lt_of_lt_of_le h.1 hn, by rw [h.2, ha l h.1]⟩
  | _ => exact h
theorem VRs.mono {ρ ρ' : Loc → Addr} {nx nx' : Nat} (hn : nx ≤ nx') (ha : ∀ l, l < nx → ρ' l = ρ l) {a : List AV} {v : List Value} (h : VRs ρ nx a v) : VRs ρ' nx' a v := by
  induction h with
  | nil => exact .nil
  | cons h _ ih => exact .cons (h.mono hn ha) ih
theorem OptVR.mono {ρ ρ' : Loc → Addr} {nx nx' : Nat} (hn : nx ≤ nx') (ha : ∀ l, l < nx → ρ' l = ρ l) {a : Option AV} {v : Option Value} (h : OptVR ρ nx a v) : OptVR ρ' nx' a v := by
  cases a with
  | none => exact h
  | some a => obtain ⟨x, e, r⟩ := h; exact ⟨x, e, r.mono hn ha⟩
theorem OR.mono {ρ ρ' : Loc → Addr} {nx nx' : Nat} (hn : nx ≤ nx') (ha : ∀ l, l < nx → ρ' l = ρ l) {a : AO} {o : Obj} (h : OR ρ nx a o) : OR ρ' nx' a o := by
  cases a with
  | list vs => obtain ⟨hc, ws, n, hd, r⟩ := h; exact ⟨hc, ws, n, hd, r.mono hn ha⟩
  | tuple vs => obtain ⟨hc, ws, n, hd, r⟩ := h; exact ⟨hc, ws, n, hd, r.mono hn ha⟩
  | inst c d => exact ⟨Nat.lt_of_lt_of_le h.1 hn, h.2.1, by rw [h.2.2.1, ha d h.1], h.2.2.2⟩
  | raw ws => exact h
  | dict es => obtain ⟨hc, ds, n, hd, hk, hz, r⟩ := h; exact ⟨hc, ds, n, hd, hk, hz, fun x => (r x).mono hn ha⟩
theorem OR.data {ρ : Loc → Addr} {nx : Nat} {a : AO} {o : Obj} (h : OR ρ nx a o) : (∀ vs, o.data ≠ .fields vs) ∧ (∀ v, o.data ≠ .cell v) := by
  cases a with
  | list vs => obtain ⟨hc, ws, n, hd, r⟩ := h; exact ⟨fun _ e => (by rw [hd] at e; cases e), fun _ e => (by rw [hd] at e; cases e)⟩
  | tuple vs => obtain ⟨hc, ws, n, hd, r⟩ := h; exact ⟨fun _ e => (by rw [hd] at e; cases e), fun _ e => (by rw [hd] at e; cases e)⟩
  | inst c d => exact ⟨fun _ e => (by rw [h.2.2.2] at e; cases e), fun _ e => (by rw [h.2.2.2] at e; cases e)⟩
  | raw ws => have h' : o = _ := h; exact ⟨fun _ e => (by rw [h'] at e; cases e), fun _ e => (by rw [h'] at e; cases e)⟩
  | dict es => obtain ⟨hc, ds, n, hd, r⟩ := h; exact ⟨fun _ e => (by rw [hd] at e; cases e), fun _ e => (by rw [hd] at e; cases e)⟩
theorem VRs.length {ρ : Loc → Addr} {nx : Nat} {a : List AV} {v : List Value} (h : VRs ρ nx a v) : v.length = a.length := by
  induction h with
  | nil => rfl
  | cons _ _ ih => simp [ih]
theorem VRs.get {ρ : Loc → Addr} {nx : Nat} {a : List AV} {v : List Value} (h : VRs ρ nx a v) {i : Nat} {x : AV} (e : a[i]? = some x) : ∃ y, v[i]? = some y ∧ VR ρ nx x y := by
  induction h generalizing i with
  | nil => simp at e
  | cons h _ ih =>
    cases i with
    | zero => simp at e; subst e; exact ⟨_, rfl, h⟩
    | succ i => simpa using ih (by simpa using e)
theorem VRs.append {ρ : Loc → Addr} {nx : Nat} {a b : List AV} {v u : List Value} (h : VRs ρ nx a v) (h' : VRs ρ nx b u) : VRs ρ nx (a ++ b) (v ++ u) := by
  induction h with
  | nil => exact h'
  | cons h _ ih => exact .cons h ih
theorem VRs.set {ρ : Loc → Addr} {nx : Nat} {a : List AV} {v : List Value} (h : VRs ρ nx a v) (i : Nat) {x : AV} {y : Value} (hx : VR ρ nx x y) : VRs ρ nx (a.set i x) (v.set i y) := by
  induction h generalizing i with
  | nil => exact .nil
  | cons h t ih =>
    cases i with
    | zero => exact .cons hx t
    | succ i => exact .cons h (ih i)
theorem VRs.ofGet {ρ : Loc → Addr} {nx : Nat} {a : List AV} {v : List Value} (hl : v.length = a.length) (h : ∀ (i : Nat) x y, a[i]? = some x → v[i]? = some y → VR ρ nx x y) : VRs ρ nx a v := by
  induction a generalizing v with
  | nil => cases v with
    | nil => exact .nil
    | cons _ _ => simp at hl
  | cons x a ih => cases v with
    | nil => simp at hl
    | cons y v => exact .cons (h 0 x y rfl rfl) (ih (by simpa using hl) fun i x' y' e1 e2 => h (i + 1) x' y' (by simpa using e1) (by simpa using e2))

/-! ## Frames, the way from one heap to the next, the invariant -/
noncomputable def fs (envs : List Env) : List Addr := envs.filterMap (·.frame)
noncomputable def Img (ρ : Loc → Addr) (S : St) (b : Addr) : Prop := ∃ l, S.σ l ≠ none ∧ ρ l = b
structure Go (F : List Addr) (ρ : Loc → Addr) (S : St) (h : Heap) (ρ' : Loc → Addr) (S' : St) (h' : Heap) : Prop where
  nx : S.nx ≤ S'.nx
  agree : ∀ l, l < S.nx → ρ' l = ρ l
  dom : ∀ l, l < S.nx → S'.σ l ≠ none → S.σ l ≠ none
  fresh : ∀ l, S.nx ≤ l → S'.σ l ≠ none → h.get? (ρ' l) = none
  keep : ∀ b o, h.get? b = some o → ¬ Img ρ S b → b ∉ F → h'.get? b = some o
  slot : ∀ b o, h.get? b = some o → ¬ Img ρ S b → b ∈ F → ∃ sl, h'.get? b = some { o with slots := sl }
  mono : ∀ b o, h.get? b = some o → ∃ o', h'.get? b = some o'
theorem Go.refl {F : List Addr} {ρ : Loc → Addr} {S : St} {h : Heap} (hb : ∀ l, S.σ l ≠ none → l < S.nx) : Go F ρ S h ρ S h where
  nx := Nat.le_refl _
  agree := fun _ _ => rfl
  dom := fun _ _ e => e
  fresh := fun l hl e => absurd (hb l e) (Nat.not_lt.mpr hl)
  keep := fun _ _ e _ _ => e
  slot := fun _ o e _ _ => ⟨o.slots, e⟩
  mono := fun _ o e => ⟨o, e⟩
theorem Go.img {F : List Addr} {ρ ρ' : Loc → Addr} {S S' : St} {h h' : Heap} (G : Go F ρ S h ρ' S' h') (hb : ∀ l, S.σ l ≠ none → l < S.nx) {b : Addr} {o : Obj} (e : h.get? b = some o) (hi : ¬ Img ρ S b) : ¬ Img ρ' S' b := by
  rintro ⟨l, hl, rfl⟩
  by_cases q : l < S.nx
  · exact hi ⟨l, G.dom l q hl, (G.agree l q).symm⟩
  · rw [G.fresh l (Nat.not_lt.mp q) hl] at e; cases e
theorem Go.trans {F : List Addr} {ρ ρ₁ ρ₂ : Loc → Addr} {S S₁ S₂ : St} {h h₁ h₂ : Heap} (hb : ∀ l, S.σ l ≠ none → l < S.nx) (G : Go F ρ S h ρ₁ S₁ h₁) (G' : Go F ρ₁ S₁ h₁ ρ₂ S₂ h₂) : Go F ρ S h ρ₂ S₂ h₂ where
  nx := Nat.le_trans G.nx G'.nx
  agree := fun l hl => (G'.agree l (Nat.lt_of_lt_of_le hl G.nx)).trans (G.agree l hl)
  dom := fun l hl e => G.dom l hl (G'.dom l (Nat.lt_of_lt_of_le hl G.nx) e)
  fresh := fun l hl e => by
    by_cases q : l < S₁.nx
    · rw [G'.agree l q]; exact G.fresh l hl (G'.dom l q e)
    · have e1 := G'.fresh l (Nat.not_lt.mp q) e
      cases e2 : h.get? (ρ₂ l) with
      | none => rfl
      | some o => obtain ⟨o', e3⟩ := G.mono _ _ e2; rw [e1] at e3; cases e3
  keep := fun b o e hi hf => G'.keep b o (G.keep b o e hi hf) (G.img hb e hi) hf
  slot := fun b o e hi hf => by
    obtain ⟨sl, e1⟩ := G.slot b o e hi hf
    obtain ⟨sl', e2⟩ := G'.slot b _ e1 (G.img hb e hi) hf
    exact ⟨sl', e2⟩
  mono := fun b o e => by obtain ⟨o', e1⟩ := G.mono b o e; exact G'.mono b o' e1

noncomputable def FF (h₀ h : Heap) (envs : List Env) : Prop := ∀ env ∈ envs, env.scope.kind ≠ .module ∧ ∃ L o, env.frame = some L ∧ h₀.get? L = none ∧ h.get? L = some o ∧ ∀ vs, o.data ≠ .fields vs
theorem FF.fun {h₀ h : Heap} : ∀ {envs : List Env}, FF h₀ h envs → h.FunFrames h₀ envs
  | [], _ => trivial
  | e :: r, x => ⟨(x e (.head _)).1, (x e (.head _)).2, FF.fun fun e' he' => x e' (.tail _ he')⟩
theorem FF.mem {h₀ h : Heap} {envs : List Env} (x : FF h₀ h envs) {b : Addr} (hb : b ∈ fs envs) : h₀.get? b = none ∧ ∃ o, h.get? b = some o ∧ ∀ vs, o.data ≠ .fields vs := x.fun.mem hb

structure Inv (h₀ : Heap) (envs : List Env) (ρ : Loc → Addr) (S : St) (h : Heap) : Prop where
  stays : h₀.StaysIn h
  bnd : ∀ l, S.σ l ≠ none → l < S.nx
  rep : ∀ l o, S.σ l = some o → ∃ ob, h.get? (ρ l) = some ob ∧ OR ρ S.nx o ob
  inj : ∀ l l', S.σ l ≠ none → S.σ l' ≠ none → ρ l = ρ l' → l = l'
  new : ∀ l, S.σ l ≠ none → h₀.get? (ρ l) = none
  ff : FF h₀ h envs
  off : ∀ l, S.σ l ≠ none → ρ l ∉ fs envs
theorem Inv.img_get {h₀ : Heap} {envs : List Env} {ρ : Loc → Addr} {S : St} {h : Heap} (I : Inv h₀ envs ρ S h) {b : Addr} (x : Img ρ S b) : ∃ o, h.get? b = some o := by
  obtain ⟨l, hl, rfl⟩ := x
  cases e : S.σ l with
  | none => exact absurd e hl
  | some o => obtain ⟨ob, e', _⟩ := I.rep l o e; exact ⟨ob, e'⟩
theorem Inv.img_new {h₀ : Heap} {envs : List Env} {ρ : Loc → Addr} {S : St} {h : Heap} (I : Inv h₀ envs ρ S h) {b : Addr} (x : Img ρ S b) : h₀.get? b = none := by
  obtain ⟨l, hl, rfl⟩ := x; exact I.new l hl
theorem Inv.img_off {h₀ : Heap} {envs : List Env} {ρ : Loc → Addr} {S : St} {h : Heap} (I : Inv h₀ envs ρ S h) {b : Addr} (x : Img ρ S b) : b ∉ fs envs := by
  obtain ⟨l, hl, rfl⟩ := x; exact I.off l hl

/-- a heap in which all stands as it stood (new objects may have come) -/
noncomputable def Kept (h h' : Heap) : Prop := ∀ b o, h.get? b = some o → h'.get? b = some o
theorem Kept.refl (h : Heap) : Kept h h := fun _ _ e => e
theorem Kept.trans {h h₁ h₂ : Heap} (a : Kept h h₁) (b : Kept h₁ h₂) : Kept h h₂ := fun x o e => b x o (a x o e)
theorem Kept.push (h : Heap) (o : Obj) : Kept h (h.push o) := fun _ _ e => Heap.get?_push_of_some _ e
theorem Go.kept {F : List Addr} {ρ : Loc → Addr} {S : St} {h h' : Heap} (hb : ∀ l, S.σ l ≠ none → l < S.nx) (k : Kept h h') : Go F ρ S h ρ S h' where
  nx := Nat.le_refl _
  agree := fun _ _ => rfl
  dom := fun _ _ e => e
  fresh := fun l hl e => absurd (hb l e) (Nat.not_lt.mpr hl)
  keep := fun b o e _ _ => k b o e
  slot := fun b o e _ _ => ⟨o.slots, k b o e⟩
  mono := fun b o e => ⟨o, k b o e⟩
theorem Inv.kept {h₀ : Heap} {envs : List Env} {ρ : Loc → Addr} {S : St} {h h' : Heap} (I : Inv h₀ envs ρ S h) (k : Kept h h') : Inv h₀ envs ρ S h' where
  stays := fun b o e => k b o (I.stays b o e)
  bnd := I.bnd
  rep := fun l o e => by obtain ⟨ob, e', r⟩ := I.rep l o e; exact ⟨ob, k _ _ e', r⟩
  inj := I.inj
  new := I.new
  ff := fun env he => by obtain ⟨a, L, o, b, c, d, e⟩ := I.ff env he; exact ⟨a, L, o, b, c, k _ _ d, e⟩
  off := I.off

/-- a new object -/
noncomputable def St.add (S : St) (o : AO) : St := ⟨upd S.σ S.nx o, S.nx + 1⟩
theorem fresh_size {h : Heap} : h.get? h.objs.size = none := by
  cases e : h.get? h.objs.size with
  | none => rfl
  | some o => exact absurd (Heap.lt_size e) (Nat.lt_irrefl _)
theorem Inv.nx_none {h₀ : Heap} {envs : List Env} {ρ : Loc → Addr} {S : St} {h : Heap} (I : Inv h₀ envs ρ S h) : S.σ S.nx = none := by
  cases e : S.σ S.nx with
  | none => rfl
  | some o => exact absurd (I.bnd S.nx (by rw [e]; simp)) (Nat.lt_irrefl _)
theorem setAt_old {f : Loc → Addr} {n l : Nat} {a : Addr} (h : l < n) : setAt f n a l = f l := if_neg (Nat.ne_of_lt h)
theorem setAt_new {f : Loc → Addr} {n : Nat} {a : Addr} : setAt f n a n = a := if_pos rfl
theorem upd_dom {f : Loc → Option AO} {l k : Loc} {o : AO} (h : upd f l o k ≠ none) : k = l ∨ f k ≠ none := by
  unfold upd at h
  split at h
  · exact .inl ‹_›
  · exact .inr h
/-- the new object may lie anywhere that was free -/
theorem Go.add {F : List Addr} {ρ : Loc → Addr} {S : St} {h h' : Heap} {a : Addr} {o : AO} (hb : ∀ l, S.σ l ≠ none → l < S.nx) (k : Kept h h') (ha : h.get? a = none) :
    Go F ρ S h (setAt ρ S.nx a) (S.add o) h' where
  nx := Nat.le_succ _
  agree := fun l hl => setAt_old hl
  dom := fun l hl e => by
    rcases upd_dom e with q | q
    · exact absurd hl (by rw [q]; exact Nat.lt_irrefl _)
    · exact q
  fresh := fun l hl e => by
    rcases upd_dom e with q | q
    · rw [q, setAt_new]; exact ha
    · exact absurd (hb l q) (Nat.not_lt.mpr hl)
  keep := fun b o e _ _ => k b o e
  slot := fun b o e _ _ => ⟨o.slots, k b o e⟩
  mono := fun b o e => ⟨o, k b o e⟩
theorem Inv.add {h₀ : Heap} {envs : List Env} {ρ : Loc → Addr} {S : St} {h h' : Heap} {a : Addr} {o : AO} {ob : Obj} (I : Inv h₀ envs ρ S h) (k : Kept h h') (ha : h.get? a = none) (e : h'.get? a = some ob)
    (r : OR (setAt ρ S.nx a) (S.nx + 1) o ob) : Inv h₀ envs (setAt ρ S.nx a) (S.add o) h' where
  stays := fun b o e => k b o (I.stays b o e)
  bnd := fun l e => by
    rcases upd_dom e with q | q
    · rw [q]; exact Nat.lt_succ_self _
    · exact Nat.lt_succ_of_lt (I.bnd l q)
  rep := fun l o' e' => by
    by_cases q : l = S.nx
    · subst q
      have : o' = o := Option.some.inj (e'.symm.trans upd_same)
      subst this
      exact ⟨ob, by rw [setAt_new]; exact e, r⟩
    · have e2 : S.σ l = some o' := by rw [← upd_ne (f := S.σ) (o := o) q]; exact e'
      have hl := I.bnd l (by rw [e2]; simp)
      obtain ⟨ob', e3, r'⟩ := I.rep l o' e2
      exact ⟨ob', by rw [setAt_old hl]; exact k _ _ e3, r'.mono (Nat.le_succ _) fun l hl => setAt_old hl⟩
  inj := fun l l' e e' q => by
    have none_new : ∀ l, S.σ l ≠ none → ρ l ≠ a := fun l hl z => by
      obtain ⟨o, q⟩ := I.img_get ⟨l, hl, rfl⟩
      rw [z, ha] at q; cases q
    rcases upd_dom e with r | r <;> rcases upd_dom e' with r' | r'
    · rw [r, r']
    · rw [r, setAt_new, setAt_old (I.bnd l' r')] at q; exact absurd q.symm (none_new l' r')
    · rw [r', setAt_new, setAt_old (I.bnd l r)] at q; exact absurd q (none_new l r)
    · rw [setAt_old (I.bnd l r), setAt_old (I.bnd l' r')] at q; exact I.inj l l' r r' q
  new := fun l e => by
    rcases upd_dom e with q | q
    · rw [q, setAt_new]
      cases z : h₀.get? a with
      | none => rfl
      | some o => have := I.stays a o z; rw [ha] at this; cases this
    · rw [setAt_old (I.bnd l q)]; exact I.new l q
  ff := (I.kept k).ff
  off := fun l e => by
    rcases upd_dom e with q | q
    · rw [q, setAt_new]
      intro hm
      obtain ⟨_, o, z, _⟩ := I.ff.mem hm
      rw [ha] at z; cases z
    · rw [setAt_old (I.bnd l q)]; exact I.off l q

/-- an object of the store is turned -/
noncomputable def St.put (S : St) (l : Loc) (o : AO) : St := ⟨upd S.σ l o, S.nx⟩
theorem Go.put {F : List Addr} {ρ : Loc → Addr} {S : St} {h h' : Heap} {l : Loc} {o : AO} (hb : ∀ l, S.σ l ≠ none → l < S.nx) (hl : S.σ l ≠ none) (hs : Heap.SameBut (ρ l) h h') (he : ∃ o', h'.get? (ρ l) = some o') :
    Go F ρ S h ρ (S.put l o) h' where
  nx := Nat.le_refl _
  agree := fun _ _ => rfl
  dom := fun k _ e => by
    rcases upd_dom e with q | q
    · rw [q]; exact hl
    · exact q
  fresh := fun k hk e => by
    rcases upd_dom e with q | q
    · exact absurd (hb l hl) (Nat.not_lt.mpr (q ▸ hk))
    · exact absurd (hb k q) (Nat.not_lt.mpr hk)
  keep := fun b o e hi _ => (hs.2 b fun q => hi ⟨l, hl, q.symm⟩).trans e
  slot := fun b o e hi _ => ⟨o.slots, (hs.2 b fun q => hi ⟨l, hl, q.symm⟩).trans e⟩
  mono := fun b o e => by
    by_cases q : b = ρ l
    · rw [q]; exact he
    · exact ⟨o, (hs.2 b q).trans e⟩
theorem Inv.put {h₀ : Heap} {envs : List Env} {ρ : Loc → Addr} {S : St} {h h' : Heap} {l : Loc} {o : AO} {ob : Obj} (I : Inv h₀ envs ρ S h) (hl : S.σ l ≠ none) (hs : Heap.SameBut (ρ l) h h') (e : h'.get? (ρ l) = some ob) (r : OR ρ S.nx o ob) :
    Inv h₀ envs ρ (S.put l o) h' where
  stays := fun b o e => (hs.2 b fun q => by rw [q, I.new l hl] at e; cases e).trans (I.stays b o e)
  bnd := fun k e => by
    rcases upd_dom e with q | q
    · rw [q]; exact I.bnd l hl
    · exact I.bnd k q
  rep := fun k o' e' => by
    by_cases q : k = l
    · subst q
      have : o' = o := Option.some.inj (e'.symm.trans upd_same)
      subst this
      exact ⟨ob, e, r⟩
    · have e2 : S.σ k = some o' := by rw [← upd_ne (f := S.σ) (o := o) q]; exact e'
      obtain ⟨ob', e3, r'⟩ := I.rep k o' e2
      exact ⟨ob', (hs.2 _ fun z => q (I.inj k l (by rw [e2]; simp) hl z)).trans e3, r'⟩
  inj := fun k k' e e' q => by
    have : ∀ k, (S.put l o).σ k ≠ none → S.σ k ≠ none := fun k e => by
      rcases upd_dom e with q | q
      · rw [q]; exact hl
      · exact q
    exact I.inj k k' (this k e) (this k' e') q
  new := fun k e => by
    rcases upd_dom e with q | q
    · rw [q]; exact I.new l hl
    · exact I.new k q
  ff := fun env he => by
    obtain ⟨a, L, o, b, c, d, e⟩ := I.ff env he
    exact ⟨a, L, o, b, c, (hs.2 L fun q => I.off l hl (by rw [← q]; exact List.mem_filterMap.mpr ⟨env, he, b⟩)).trans d, e⟩
  off := fun k e => by
    rcases upd_dom e with q | q
    · rw [q]; exact I.off l hl
    · exact I.off k q
/-- less may be told of the store -/
noncomputable def Sub (S S' : St) : Prop := S.nx = S'.nx ∧ ∀ l o, S.σ l = some o → S'.σ l = some o
theorem Inv.sub {h₀ : Heap} {envs : List Env} {ρ : Loc → Addr} {S S' : St} {h : Heap} (I : Inv h₀ envs ρ S' h) (s : Sub S S') : Inv h₀ envs ρ S h := by
  have d : ∀ l, S.σ l ≠ none → S'.σ l ≠ none := fun l e => by
    cases q : S.σ l with
    | none => exact absurd q e
    | some o => rw [s.2 l o q]; simp
  exact { stays := I.stays, bnd := fun l e => by rw [s.1]; exact I.bnd l (d l e), rep := fun l o e => by rw [s.1]; exact I.rep l o (s.2 l o e),
          inj := fun l l' e e' => I.inj l l' (d l e) (d l' e'), new := fun l e => I.new l (d l e), ff := I.ff, off := fun l e => I.off l (d l e) }
theorem Go.sub {F : List Addr} {ρ ρ' : Loc → Addr} {S S' S'' : St} {h h' : Heap} (G : Go F ρ S h ρ' S'' h') (s : Sub S' S'') : Go F ρ S h ρ' S' h' := by
  have d : ∀ l, S'.σ l ≠ none → S''.σ l ≠ none := fun l e => by
    cases q : S'.σ l with
    | none => exact absurd q e
    | some o => rw [s.2 l o q]; simp
  exact { nx := by rw [s.1]; exact G.nx, agree := G.agree, dom := fun l hl e => G.dom l hl (d l e), fresh := fun l hl e => G.fresh l hl (d l e), keep := G.keep, slot := G.slot, mono := G.mono }
end Mine
end
section
open PySem PySem.W PyProof.Rows
set_option Elab.async false
set_option maxRecDepth 100000
set_option linter.unusedVariables false
namespace Mine

abbrev Frm := List (Str × AV)
structure Cx where
  KF : Frag
  prog : Program
  w : World
  h₀ : Heap
  n : Nat
  A : Around
  env : Env
  envs : List Env
structure Glb (prog : Program) (KF : Frag) (h₀ : Heap) : Prop where
  file : prog.main.file = PySem.Challenge.pw_rh0272_01.main.file
  top : (prog.main.scope.names.lookup ("super" : Str)).isSome = false
  K : KF.In h₀
  T : ∃ p loose mg mb, TopRead p loose mg mb h₀
structure COk (C : Cx) : Prop where
  g : Glb C.prog C.KF C.h₀
  frames : C.A.frames = some C.envs
  handled : C.A.handled = none
  depth : C.A.depth + C.n < recursionLimit
  units : C.A.units + 8 * C.n + 64 < cLine
  kind : C.env.scope.kind = .function
  glob : C.env.globals = mainGlobals
  blt : C.env.builtins = builtinsNs

/-- what the names stand for: fr -/
structure FrR (h₀ : Heap) (env : Env) (fr : Frm) (ρ : Loc → Addr) (S : St) (h : Heap) : Prop where
  look : ∀ x v, fr.lookup x = some v → (env.kindOf x = some .local ∧ ∃ m v', h.Ns env.locals m ∧ m x = some v' ∧ VR ρ S.nx v v') ∨
    (env.kindOf x = some .cell ∧ ∃ c v', env.cells.lookup x = some c ∧ h.IsCell c (some v') ∧ VR ρ S.nx v v')
  ns : ∃ m, h.Ns env.locals m
  cells : ∀ x, env.kindOf x = some .cell → ∃ c, env.cells.lookup x = some c
  isc : ∀ x c, env.cells.lookup x = some c → ∃ v, h.IsCell c v
  apart : ∀ x y c, env.cells.lookup x = some c → env.cells.lookup y = some c → x = y
  offL : ¬ Img ρ S env.locals
  newL : h₀.get? env.locals = none
  newC : ∀ x c, env.cells.lookup x = some c → h₀.get? c = none
theorem cell_up {h h' : Heap} {c : Addr} {v : Option Value} (k : ∀ o, h.get? c = some o → ∃ sl, h'.get? c = some { o with slots := sl }) (x : h.IsCell c v) : h'.IsCell c v := by
  obtain ⟨o, e, hd⟩ := x
  obtain ⟨sl, e'⟩ := k o e
  exact ⟨_, e', hd⟩
theorem ns_up {h h' : Heap} {c : Addr} {m : Str → Option Value} (k : ∀ o, h.get? c = some o → ∃ sl, h'.get? c = some { o with slots := sl }) (x : h.Ns c m) : h'.Ns c m := by
  obtain ⟨o, es, ep, e, hd, r⟩ := x
  obtain ⟨sl, e'⟩ := k o e
  exact ⟨_, es, ep, e', hd, r⟩
theorem Go.up {F : List Addr} {ρ ρ' : Loc → Addr} {S S' : St} {h h' : Heap} (G : Go F ρ S h ρ' S' h') {b : Addr} (hi : ¬ Img ρ S b) : ∀ o, h.get? b = some o → ∃ sl, h'.get? b = some { o with slots := sl } := fun o e => by
  by_cases q : b ∈ F
  · exact G.slot b o e hi q
  · exact ⟨o.slots, G.keep b o e hi q⟩
theorem Inv.cell_off {h₀ : Heap} {envs : List Env} {ρ : Loc → Addr} {S : St} {h : Heap} (I : Inv h₀ envs ρ S h) {c : Addr} {v : Option Value} (x : h.IsCell c v) : ¬ Img ρ S c := by
  rintro ⟨l, hl, rfl⟩
  cases e : S.σ l with
  | none => exact absurd e hl
  | some o =>
    obtain ⟨ob, e1, r⟩ := I.rep l o e
    obtain ⟨o', e2, hd⟩ := x
    rw [e1] at e2; cases e2
    exact r.data.2 _ hd
theorem FrR.go {h₀ : Heap} {envs : List Env} {env : Env} {fr : Frm} {F : List Addr} {ρ ρ' : Loc → Addr} {S S' : St} {h h' : Heap} (R : FrR h₀ env fr ρ S h) (I : Inv h₀ envs ρ S h) (G : Go F ρ S h ρ' S' h') : FrR h₀ env fr ρ' S' h' where
  look := fun x v e => by
    rcases R.look x v e with ⟨k, m, v', a, b, c⟩ | ⟨k, c, v', a, b, d⟩
    · exact .inl ⟨k, m, v', ns_up (G.up R.offL) a, b, c.mono G.nx G.agree⟩
    · exact .inr ⟨k, c, v', a, cell_up (G.up (I.cell_off b)) b, d.mono G.nx G.agree⟩
  ns := by obtain ⟨m, a⟩ := R.ns; exact ⟨m, ns_up (G.up R.offL) a⟩
  cells := R.cells
  isc := fun x c a => by obtain ⟨v, b⟩ := R.isc x c a; exact ⟨v, cell_up (G.up (I.cell_off b)) b⟩
  apart := R.apart
  offL := by
    obtain ⟨m, o, _, _, e, _⟩ := R.ns
    exact G.img I.bnd e R.offL
  newL := R.newL
  newC := R.newC

/-- an exception in flight -/
noncomputable def ExcAt (KF : Frag) (h₀ hb : Heap) (e : Addr) (h : Heap) : Prop :=
  hb.get? e = none ∧ h₀.get? e = none ∧ ∃ oe vs a0 C, h.get? e = some oe ∧ oe.cls = .ref C ∧ nsIn KF mainGlobals "DiskError" = some (some (.ref C)) ∧ oe.data = .fields vs ∧ vs[0]? = some a0 ∧
    (vs[1]? = some .none ∨ ∃ T oT ts, vs[1]? = some (.ref T) ∧ hb.get? T = none ∧ h₀.get? T = none ∧ T ≠ e ∧ h.get? T = some oT ∧ oT.data = .fields ts ∧ ts[3]? = some .none)
theorem none_back {F : List Addr} {ρ ρ' : Loc → Addr} {S S' : St} {h h' : Heap} (G : Go F ρ S h ρ' S' h') {b : Addr} (e : h'.get? b = none) : h.get? b = none := by
  cases q : h.get? b with
  | none => rfl
  | some o => obtain ⟨o', e'⟩ := G.mono b o q; rw [e] at e'; cases e'
theorem ExcAt.back {KF : Frag} {F : List Addr} {ρ ρ' : Loc → Addr} {S S' : St} {h₀ hb hb' h : Heap} {e : Addr} (G : Go F ρ S hb ρ' S' hb') (x : ExcAt KF h₀ hb' e h) : ExcAt KF h₀ hb e h := by
  obtain ⟨h1, hz, oe, vs, a0, C, h2, h3, h4, h5, h6, h7⟩ := x
  refine ⟨none_back G h1, hz, oe, vs, a0, C, h2, h3, h4, h5, h6, ?_⟩
  rcases h7 with h7 | ⟨T, oT, ts, q1, q2, q3⟩
  · exact .inl h7
  · exact .inr ⟨T, oT, ts, q1, none_back G q2, q3⟩

/-! ## What follows an expression -/
noncomputable def KV (C : Cx) (ρ : Loc → Addr) (S : St) (s : Shared) (P : AV → St → Prop) (Q : Value → Shared → Prop) : Prop :=
  ∀ v S' ρ' h' tk v', P v S' → Go (fs C.envs) ρ S s.heap ρ' S' h' → Inv C.h₀ C.envs ρ' S' h' → VR ρ' S'.nx v v' → Q v' { s with heap := h', toks := tk }
noncomputable def KB (C : Cx) (ρ : Loc → Addr) (S : St) (s : Shared) (P : Bool → St → Prop) (Q : Bool → Shared → Prop) : Prop :=
  ∀ b S' ρ' h' tk, P b S' → Go (fs C.envs) ρ S s.heap ρ' S' h' → Inv C.h₀ C.envs ρ' S' h' → Q b { s with heap := h', toks := tk }
noncomputable def KVs (C : Cx) (ρ : Loc → Addr) (S : St) (s : Shared) (P : List AV → St → Prop) (Q : List Value → Shared → Prop) : Prop :=
  ∀ v S' ρ' h' tk v', P v S' → Go (fs C.envs) ρ S s.heap ρ' S' h' → Inv C.h₀ C.envs ρ' S' h' → VRs ρ' S'.nx v v' → Q v' { s with heap := h', toks := tk }
noncomputable def KX (C : Cx) (ρ : Loc → Addr) (S : St) (s : Shared) (X : St → Prop) (E : Value → Shared → Prop) : Prop :=
  ∀ S' ρ' h' tk e, X S' → Go (fs C.envs) ρ S s.heap ρ' S' h' → Inv C.h₀ C.envs ρ' S' h' → ExcAt C.KF C.h₀ s.heap e h' → E (.ref e) { s with heap := h', toks := tk }

noncomputable def SE (C : Cx) (fr : Frm) (e : Expr) (S : St) (P : AV → St → Prop) (X : St → Prop) : Prop :=
  COk C → ∀ ρ s Q E, Inv C.h₀ C.envs ρ S s.heap → FrR C.h₀ C.env fr ρ S s.heap → KV C ρ S s P Q → KX C ρ S s X E → wpAny (model C.prog C.w) C.A (eval e C.env) Q E s
noncomputable def SB (C : Cx) (fr : Frm) (e : Expr) (S : St) (P : Bool → St → Prop) (X : St → Prop) : Prop :=
  COk C → ∀ ρ s Q E, Inv C.h₀ C.envs ρ S s.heap → FrR C.h₀ C.env fr ρ S s.heap → KB C ρ S s P Q → KX C ρ S s X E → wpAny (model C.prog C.w) C.A (isTrue e C.env (eval e C.env)) Q E s
noncomputable def SAs (C : Cx) (fr : Frm) (es : List Expr) (S : St) (P : List AV → St → Prop) (X : St → Prop) : Prop :=
  COk C → ∀ ρ s Q E pos, Inv C.h₀ C.envs ρ S s.heap → FrR C.h₀ C.env fr ρ S s.heap → KVs C ρ S s P Q → KX C ρ S s X E → wpAny (model C.prog C.w) C.A (spliced (backTo pos (starEach es C.env))) Q E s

section
variable {C : Cx} {ρ ρ₁ : Loc → Addr} {S S₁ : St} {s : Shared} {h₁ : Heap} {t₁ : Nat}
theorem KV.step {P : AV → St → Prop} {Q : Value → Shared → Prop} (k : KV C ρ S s P Q) (I : Inv C.h₀ C.envs ρ S s.heap) (G : Go (fs C.envs) ρ S s.heap ρ₁ S₁ h₁) : KV C ρ₁ S₁ { s with heap := h₁, toks := t₁ } P Q :=
  fun v S' ρ' h' tk v' p g i r => k v S' ρ' h' tk v' p (Go.trans I.bnd G g) i r
theorem KB.step {P : Bool → St → Prop} {Q : Bool → Shared → Prop} (k : KB C ρ S s P Q) (I : Inv C.h₀ C.envs ρ S s.heap) (G : Go (fs C.envs) ρ S s.heap ρ₁ S₁ h₁) : KB C ρ₁ S₁ { s with heap := h₁, toks := t₁ } P Q :=
  fun v S' ρ' h' tk p g i => k v S' ρ' h' tk p (Go.trans I.bnd G g) i
theorem KVs.step {P : List AV → St → Prop} {Q : List Value → Shared → Prop} (k : KVs C ρ S s P Q) (I : Inv C.h₀ C.envs ρ S s.heap) (G : Go (fs C.envs) ρ S s.heap ρ₁ S₁ h₁) : KVs C ρ₁ S₁ { s with heap := h₁, toks := t₁ } P Q :=
  fun v S' ρ' h' tk v' p g i r => k v S' ρ' h' tk v' p (Go.trans I.bnd G g) i r
theorem KX.step {X : St → Prop} {E : Value → Shared → Prop} (k : KX C ρ S s X E) (I : Inv C.h₀ C.envs ρ S s.heap) (G : Go (fs C.envs) ρ S s.heap ρ₁ S₁ h₁) : KX C ρ₁ S₁ { s with heap := h₁, toks := t₁ } X E :=
  fun S' ρ' h' tk e p g i x => k S' ρ' h' tk e p (Go.trans I.bnd G g) i (x.back G)
theorem KV.now {P : AV → St → Prop} {Q : Value → Shared → Prop} (k : KV C ρ S s P Q) (I : Inv C.h₀ C.envs ρ S s.heap) {v : AV} {v' : Value} {tk : Nat} (p : P v S) (r : VR ρ S.nx v v') : Q v' { s with toks := tk } :=
  k v S ρ s.heap tk v' p (Go.refl I.bnd) I r
theorem KB.now {P : Bool → St → Prop} {Q : Bool → Shared → Prop} (k : KB C ρ S s P Q) (I : Inv C.h₀ C.envs ρ S s.heap) {v : Bool} {tk : Nat} (p : P v S) : Q v { s with toks := tk } :=
  k v S ρ s.heap tk p (Go.refl I.bnd) I
theorem KVs.now {P : List AV → St → Prop} {Q : List Value → Shared → Prop} (k : KVs C ρ S s P Q) (I : Inv C.h₀ C.envs ρ S s.heap) {v : List AV} {v' : List Value} {tk : Nat} (p : P v S) (r : VRs ρ S.nx v v') : Q v' { s with toks := tk } :=
  k v S ρ s.heap tk v' p (Go.refl I.bnd) I r
end

/-! ## Operations on values: the state stays or one object comes -/
noncomputable def binI : Operator → Int → Int → Option Int
  | .Add, a, b => some (a + b)
  | .Sub, a, b => some (a - b)
  | .Mult, a, b => if -1000000000 ≤ a ∧ a ≤ 1000000000 then some (a * b) else none
  | .Mod, a, b => if 0 < b then some (a % b) else none
  | .FloorDiv, a, b => if 0 < b ∧ b < 1000000 then some (a / b) else none
  | .BitAnd, a, b => some (Builtin.bitAnd a b)
  | .BitOr, a, b => some (Builtin.bitOr a b)
  | _, _, _ => none
noncomputable def cmpI : CmpOp → Int → Int → Option Bool
  | .Lt, a, b => some (decide (a < b))
  | .LtE, a, b => some (decide (a ≤ b))
  | .Gt, a, b => some (decide (b < a))
  | .GtE, a, b => some (decide (b ≤ a))
  | .Eq, a, b => some (decide (a = b))
  | .NotEq, a, b => some (!decide (a = b))
  | _, _, _ => none
section
variable {prog : Program} {w : World} {A : Around} {E : Value → Shared → Prop} {s : Shared}
theorem none_some {α : Type} {a : α} {p : Prop} (e : none = some a) : p := nomatch e
theorem of_ite {α : Type} {c : Prop} [Decidable c] {x r : α} (e : (if c then some x else none) = some r) : c ∧ x = r := by
  by_cases h : c
  · rw [if_pos h] at e; exact ⟨h, Option.some.inj e⟩
  · rw [if_neg h] at e; cases e
theorem op_int {op : Operator} {a b r : Int} {t u : Tok} {Q : Value → Shared → Prop} (e : binI op a b = some r) (h : ∀ tk t', Q (.int r t') { s with toks := tk }) : wpAny (model prog w) A (binaryOp op (.int a t) (.int b u)) Q E s := by
  cases op
  case Add => have e := Option.some.inj e; subst e; exact add_int (h _ _)
  case Sub => have e := Option.some.inj e; subst e; exact sub_int (h _ _)
  case Mult =>
    obtain ⟨hb, e⟩ := of_ite e
    subst e
    exact mul_int (h _ _) (.of_left (intBits_le_64 (by (first | lia | omega)) (by (first | lia | omega))))
  case Mod =>
    obtain ⟨hb, e⟩ := of_ite e
    subst e
    have z := h (s.toks + 1) s.toks
    rw [← Int.fmod_eq_emod_of_nonneg a (by (first | lia | omega) : (0:Int) ≤ b)] at z
    exact mod_int (by (first | lia | omega)) z
  case BitOr => have e := Option.some.inj e; subst e; exact or_int (h _ _)
  case BitAnd => have e := Option.some.inj e; subst e; exact and_int (h _ _)
  case FloorDiv =>
    obtain ⟨hb, e⟩ := of_ite e
    subst e
    have z := h (s.toks + 1) s.toks
    rw [← Int.fdiv_eq_ediv_of_nonneg a (by (first | lia | omega) : (0:Int) ≤ b)] at z
    exact floordiv_int (by (first | lia | omega)) z (.inl (PyProof.noPylong_small (by (first | lia | omega))))
  all_goals exact none_some e
theorem cmp_int {op : CmpOp} {a b : Int} {r : Bool} {t u : Tok} {Q : Value → Shared → Prop} (e : cmpI op a b = some r) (h : Q (.bool r) s) : wpAny (model prog w) A (compareOp op (.int a t) (.int b u)) Q E s := by
  cases op
  case Eq => have e := Option.some.inj e; subst e; exact eq_int (by rw [show (a == b) = decide (a = b) from rfl]; exact h)
  case NotEq => have e := Option.some.inj e; subst e; exact ne_int (by rw [show (a != b) = !decide (a = b) from rfl]; exact h)
  case Lt => have e := Option.some.inj e; subst e; exact lt_int h
  case LtE => have e := Option.some.inj e; subst e; exact le_int h
  case Gt => have e := Option.some.inj e; subst e; exact gt_int h
  case GtE => have e := Option.some.inj e; subst e; exact ge_int h
  all_goals exact none_some e
end
end Mine
end
section
open PySem PySem.W PyProof.Rows PySem.Calls
set_option Elab.async false
set_option maxRecDepth 100000
set_option linter.unusedVariables false
namespace Mine

abbrev IL (ns : List Int) : List AV := ns.map AV.int
theorem ints_are {ρ : Loc → Addr} {nx : Nat} : ∀ {ns : List Int} {vs : List Value}, VRs ρ nx (IL ns) vs → IntsAre vs ns
  | [], _, .nil => .nil
  | n :: _, _, .cons h r => by obtain ⟨t, rfl⟩ := h; exact .cons n t (ints_are r)
theorem of_ints {ρ : Loc → Addr} {nx : Nat} : ∀ {ns : List Int} {vs : List Value}, IntsAre vs ns → VRs ρ nx (IL ns) vs
  | _, _, .nil => .nil
  | _, _, .cons n t r => .cons ⟨t, rfl⟩ (of_ints r)
theorem Inv.listO {h₀ : Heap} {envs : List Env} {ρ : Loc → Addr} {S : St} {h : Heap} (I : Inv h₀ envs ρ S h) {l : Loc} {vs : List AV} (e : S.σ l = some (.list vs)) : ∃ ws n, h.get? (ρ l) = some { cls := .type "list", dict := none, data := .seq ws n, slots := #[] } ∧ VRs ρ S.nx vs ws.toList := by
  obtain ⟨ob, e1, hc, ws, n, hd, r⟩ := I.rep l _ e
  obtain ⟨a, b, c, d⟩ := ob
  obtain ⟨h1, h2, h3⟩ := hc
  dsimp only at h1 h2 h3 hd
  subst h1 h2 h3 hd
  exact ⟨ws, n, e1, r⟩
theorem Inv.list {h₀ : Heap} {envs : List Env} {ρ : Loc → Addr} {S : St} {h : Heap} (I : Inv h₀ envs ρ S h) {l : Loc} {vs : List AV} (e : S.σ l = some (.list vs)) : ∃ ws, h.IsList (ρ l) ws ∧ VRs ρ S.nx vs ws.toList := by
  obtain ⟨ws, n, e1, r⟩ := I.listO e
  exact ⟨ws, ⟨_, e1, rfl, n, rfl⟩, r⟩
theorem Inv.tuple {h₀ : Heap} {envs : List Env} {ρ : Loc → Addr} {S : St} {h : Heap} (I : Inv h₀ envs ρ S h) {l : Loc} {vs : List AV} (e : S.σ l = some (.tuple vs)) : ∃ ws, h.IsTuple (ρ l) ws ∧ VRs ρ S.nx vs ws.toList := by
  obtain ⟨ob, e1, hc, ws, n, hd, r⟩ := I.rep l _ e
  exact ⟨ws, ⟨ob, e1, hc, n, hd⟩, r⟩

noncomputable def Bop (op : Operator) (a b : AV) (S : St) (P : AV → St → Prop) : Prop := match a, b with
  | .int i, .int j => ∃ r, binI op i j = some r ∧ P (.int r) S
  | .ref l, .ref m => op = .Add ∧ ∃ xs ys, S.σ l = some (.list xs) ∧ S.σ m = some (.list ys) ∧ xs.length + ys.length ≤ 100000 ∧ P (.ref S.nx) (S.add (.list (xs ++ ys)))
  | .ref l, .int k => op = .Mult ∧ ∃ x, S.σ l = some (.list [.int x]) ∧ 0 ≤ k ∧ k ≤ 100000 ∧ P (.ref S.nx) (S.add (.list (IL (List.replicate k.toNat x))))
  | _, _ => False
noncomputable def Cmp (op : CmpOp) (a b : AV) (S : St) (P : Bool → St → Prop) : Prop := match a, b with
  | .int i, .int j => ∃ r, cmpI op i j = some r ∧ P r S
  | .int i, .ref l => ∃ ns, (S.σ l = some (.list (IL ns)) ∨ S.σ l = some (.tuple (IL ns))) ∧ ((op = .In ∧ P (ns.any (· == i)) S) ∨ (op = .NotIn ∧ P (!(ns.any (· == i))) S))
  | .ref l, .none => (op = .Is ∧ P false S) ∨ (op = .IsNot ∧ P true S)
  | .int i, .none => (op = .Is ∧ P false S) ∨ (op = .IsNot ∧ P true S)
  | .none, .none => (op = .Is ∧ P true S) ∨ (op = .IsNot ∧ P false S)
  | .ref l, .ref m => ∃ xs ys, S.σ l = some (.list (IL xs)) ∧ S.σ m = some (.list (IL ys)) ∧ xs.length ≤ 100000 ∧ ys.length ≤ 100000 ∧ ((op = .Eq ∧ P (decide (xs = ys)) S) ∨ (op = .NotEq ∧ P (!decide (xs = ys)) S))
  | _, _ => False
noncomputable def Tru (a : AV) (P : Bool → Prop) : Prop := match a with
  | .bool b => P b
  | .int i => P (decide (i ≠ 0))
  | .none => P false
  | _ => False

section
variable {C : Cx} {ρ : Loc → Addr} {S : St} {s : Shared}

/-- an object made at the heap's end -/
theorem KV.made {P : AV → St → Prop} {Q : Value → Shared → Prop} (k : KV C ρ S s P Q) (I : Inv C.h₀ C.envs ρ S s.heap) {o : AO} {ob : Obj} {h' : Heap} {a : Addr} {tk : Nat} (kp : Kept s.heap h') (ha : s.heap.get? a = none) (e : h'.get? a = some ob)
    (r : OR ρ S.nx o ob) (p : P (.ref S.nx) (S.add o)) : Q (.ref a) { s with heap := h', toks := tk } := by
  have r' : OR (setAt ρ S.nx a) (S.nx + 1) o ob := r.mono (Nat.le_succ _) fun l hl => setAt_old hl
  exact k _ _ (setAt ρ S.nx a) h' tk _ p (Go.add I.bnd kp ha) (I.add kp ha e r') ⟨Nat.lt_succ_self _, by rw [setAt_new]⟩
theorem KV.pushed {P : AV → St → Prop} {Q : Value → Shared → Prop} (k : KV C ρ S s P Q) (I : Inv C.h₀ C.envs ρ S s.heap) {o : AO} {ob : Obj} {tk : Nat} (hf : ob.isFreed = false)
    (r : OR ρ S.nx o ob) (p : P (.ref S.nx) (S.add o)) : Q (.ref s.heap.objs.size) { s with heap := s.heap.push ob, toks := tk } :=
  k.made I (Kept.push _ _) fresh_size (Heap.get?_push_size _ hf) r p

theorem bop_sound {op : Operator} {a b : AV} {x y : Value} {P : AV → St → Prop} {X : St → Prop} {Q : Value → Shared → Prop} {E : Value → Shared → Prop} (c : COk C) (I : Inv C.h₀ C.envs ρ S s.heap) (ra : VR ρ S.nx a x) (rb : VR ρ S.nx b y)
    (h : Bop op a b S P) (k : KV C ρ S s P Q) : wpAny (model C.prog C.w) C.A (binaryOp op x y) Q E s := by
  cases a <;> cases b <;> first | exact False.elim h | skip
  · obtain ⟨t, rfl⟩ := ra; obtain ⟨u, rfl⟩ := rb; obtain ⟨r, e, p⟩ := h
    exact op_int e fun tk t' => k.now I p ⟨_, rfl⟩
  · obtain ⟨hl, rfl⟩ := ra; obtain ⟨u, rfl⟩ := rb; obtain ⟨rfl, x, e, h0, h1, p⟩ := h
    rename_i l kk
    obtain ⟨ws, n, e1, r⟩ := I.listO e
    obtain ⟨_, ⟨tx, rfl⟩, rr⟩ : ∃ v, (∃ t, v = Value.int x t) ∧ ws.toList = [v] := by
      generalize ws.toList = wl at r
      cases r with
      | cons h t => cases t with
        | nil => exact ⟨_, h, rfl⟩
    have ew : ws = #[Value.int x tx] := by
      obtain ⟨wl⟩ := ws; dsimp only at rr; rw [rr]
    subst ew
    refine wpAny_binaryOp_repeat_ref (T := "list") (U := "int") (by decide) ⟨_, e1, rfl⟩ (fun s' => typeIs_int s' kk u) noFill_list_mul PySem.F.fills_int_mul PySem.F.slot_int_rmul repeat_list PySem.F.slot_int_index.lookup
      (call_meets PySem.F.slot_int_rmul (typeIs_int s kk u) PySem.F.entry_int_rmul (PySem.F.args_int_rmul_2 _ _) (lm_int_rmul_list_any kk u (ρ l) #[Value.int x tx] n none #[])
        ⟨e1, rfl, ⟨_, e1, rfl⟩, call_meets PySem.F.slot_list_mul ⟨_, e1, rfl⟩ PySem.F.entry_list_mul (PySem.F.args_list_mul_2 _ _)
          (lm_list_mul_any (ρ l) #[Value.int x tx] n none #[] kk u (by simp [Builtin.List.listFitsIndex]; (first | lia | omega)) (by simp; (first | lia | omega)) (by simp [Builtin.List.listTooLong, sizeLine]; (first | lia | omega)))
          ⟨e1, ?_⟩⟩)
    refine k.pushed (o := .list (IL (List.replicate kk.toNat x))) I rfl ⟨⟨rfl, rfl, rfl⟩, _, _, rfl, ?_⟩ p
    rw [show (#[Value.int x tx] : Array Value) = [Value.int x tx].toArray from rfl, listMul_foldl_if]
    have : (List.replicate kk.toNat [Value.int x tx]).flatten = List.replicate kk.toNat (Value.int x tx) := by
      induction kk.toNat with
      | zero => rfl
      | succ n ih => rw [List.replicate_succ, List.flatten_cons, ih]; rfl
    show VRs _ _ _ ((List.replicate kk.toNat [Value.int x tx]).flatten)
    rw [this]
    refine of_ints ?_
    induction kk.toNat with
    | zero => exact .nil
    | succ n ih => exact .cons _ _ ih
  · obtain ⟨hl, rfl⟩ := ra; obtain ⟨hm, rfl⟩ := rb; obtain ⟨rfl, xs, ys, e1, e2, hz, p⟩ := h
    rename_i l m
    obtain ⟨ws, L1, r1⟩ := I.list e1
    obtain ⟨us, L2, r2⟩ := I.list e2
    have z1 := r1.length
    have z2 := r2.length
    obtain ⟨⟨cls, dd, data, sl⟩, ho, hc, n, hd⟩ := id L1
    obtain ⟨⟨cls2, dd2, data2, sl2⟩, ho2, hc2, n2, hd2⟩ := id L2
    simp only at hc hd hc2 hd2
    subst hc hd hc2 hd2
    refine concat_meets ⟨_, ho, rfl⟩ ⟨_, ho2, rfl⟩ noFill_list_add seq_list_add PySem.F.slot_list_add PySem.F.entry_list_add (PySem.F.args_list_add_2 _ _) (list_addW (ρ l) (ρ m) ws us n n2 dd dd2 sl sl2 ?_) ⟨ho, ho2, ?_⟩
    · rw [sizeLine_eq]; simp only [Array.length_toList] at z1 z2; (first | lia | omega)
    · exact k.pushed (o := .list (xs ++ ys)) I rfl ⟨⟨rfl, rfl, rfl⟩, _, _, rfl, by rw [Array.toList_append]; exact r1.append r2⟩ p
theorem any_isIntA (k : Int) {ws : Array Value} {ns : List Int} (hi : IntsAre ws.toList ns) : ws.any (isInt k) = ns.any (· == k) := by
  rw [← Array.any_toList, any_isInt k hi]
theorem cmp_sound {op : CmpOp} {a b : AV} {x y : Value} {P : Bool → St → Prop} {Q : Value → Shared → Prop} {E : Value → Shared → Prop} (c : COk C) (I : Inv C.h₀ C.envs ρ S s.heap) (ra : VR ρ S.nx a x) (rb : VR ρ S.nx b y)
    (h : Cmp op a b S P) (k : ∀ b tk, P b S → Q (.bool b) { s with toks := tk }) : wpAny (model C.prog C.w) C.A (compareOp op x y) Q E s := by
  cases a <;> cases b <;> first | exact False.elim h | skip
  · cases ra; cases rb
    rcases h with ⟨rfl, p⟩ | ⟨rfl, p⟩
    · exact wpAny_is_plain rfl (k _ s.toks p)
    · exact wpAny_isNot_plain rfl (k _ s.toks p)
  · obtain ⟨t, rfl⟩ := ra; cases rb
    rcases h with ⟨rfl, p⟩ | ⟨rfl, p⟩
    · exact wpAny_is_other rfl (by intro q; cases q) (k _ s.toks p)
    · exact wpAny_isNot_other rfl (by intro q; cases q) (k _ s.toks p)
  · obtain ⟨t, rfl⟩ := ra; obtain ⟨u, rfl⟩ := rb; obtain ⟨r, e, p⟩ := h
    exact cmp_int e (k _ s.toks p)
  · obtain ⟨t, rfl⟩ := ra; obtain ⟨hl, rfl⟩ := rb; obtain ⟨ns, e, p⟩ := h
    rcases e with e | e
    · obtain ⟨ws, L, r⟩ := I.list e
      have hi := ints_are r
      rcases p with ⟨rfl, p⟩ | ⟨rfl, p⟩
      · exact in_list_ints (vs := ws.toList) L hi (k _ s.toks p)
      · exact notin_list_ints (vs := ws.toList) L hi (k _ s.toks p)
    · obtain ⟨ws, L, r⟩ := I.tuple e
      have hi := ints_are r
      rename_i i _
      rcases p with ⟨rfl, p⟩ | ⟨rfl, p⟩
      · exact SeqAt.in_tupleAt (isInt i) L (fun y hy => (eq_isInt i t hi y (by simpa using hy)).at _ _) (by rw [any_isIntA _ hi]; exact k _ s.toks p)
      · exact SeqAt.notIn_tupleAt (isInt i) L (fun y hy => (eq_isInt i t hi y (by simpa using hy)).at _ _) (by rw [any_isIntA _ hi]; exact k _ s.toks p)
  · obtain ⟨hl, rfl⟩ := ra; cases rb
    rcases h with ⟨rfl, p⟩ | ⟨rfl, p⟩
    · exact wpAny_is_other rfl (by intro q; cases q) (k _ s.toks p)
    · exact wpAny_isNot_other rfl (by intro q; cases q) (k _ s.toks p)
  · obtain ⟨hl, rfl⟩ := ra; obtain ⟨hm, rfl⟩ := rb; obtain ⟨xs, ys, e1, e2, z1, z2, h⟩ := h
    obtain ⟨ws, L1, r1⟩ := I.list e1
    obtain ⟨us, L2, r2⟩ := I.list e2
    have hu : C.A.units + 64 < cLine := by have := c.units; (first | lia | omega)
    rcases h with ⟨rfl, p⟩ | ⟨rfl, p⟩
    · exact eq_intsK (vs := ws.toList) (us := us.toList) L1 (ints_are r1) L2 (ints_are r2) hu (k _ s.toks p)
    · exact ne_intsK (vs := ws.toList) (us := us.toList) L1 (ints_are r1) L2 (ints_are r2) hu (k _ s.toks p)
theorem tru_sound {a : AV} {x : Value} {P : Bool → Prop} {Q : Bool → Shared → Prop} {E : Value → Shared → Prop} {nx : Nat} (ra : VR ρ nx a x) (h : Tru a P) (k : ∀ b, P b → Q b s) : wpAny (model C.prog C.w) C.A (truthy x) Q E s := by
  cases a <;> first | exact False.elim h | skip
  · cases ra; exact truthy_none (k _ h)
  · cases ra; exact wpAny_truthy_bool (k _ h)
  · obtain ⟨t, rfl⟩ := ra
    rename_i i
    exact truthy_int (by rw [show (i != 0) = decide (i ≠ 0) from by by_cases q : i = 0 <;> simp [q]]; exact k _ h)
end

/-! ## Rules for expressions -/
section
variable {C : Cx} {fr : Frm} {S : St} {P : AV → St → Prop} {PB : Bool → St → Prop} {PL : List AV → St → Prop} {X : St → Prop}

theorem SE.mono {e : Expr} {P' : AV → St → Prop} (H : SE C fr e S P' X) (h : ∀ v S', P' v S' → P v S') : SE C fr e S P X :=
  fun c ρ s Q E I F k kx => H c ρ s Q E I F (fun v S' ρ' h' tk v' p => k v S' ρ' h' tk v' (h v S' p)) kx

theorem SE.name {x : Str} {pos : Pos} {v : AV} (hv : fr.lookup x = some v) (h : P v S) (hd : (x == ("__debug__" : Str)) = false := by decide) : SE C fr (.Name x pos) S P X := fun c ρ s Q E I F k kx => by
  rcases F.look x v hv with ⟨hk, m, v', hn, hm, r⟩ | ⟨hk, cc, v', hl, hc, r⟩
  · exact wpAny_Name (wpAny_loadName_local c.kind hk hn hm (k.now (tk := s.toks) I h r)) hd
  · exact wpAny_Name (wpAny_loadName_cell c.kind hk hl hc (k.now (tk := s.toks) I h r)) hd
theorem mg_glb {KF : Frag} {h₀ h : Heap} {x : Str} {v : Value} {M : Model} {A : Around} {env : Env} {s : Shared} {Q : Value → Shared → Prop} {E : Value → Shared → Prop} {pg : Program} (g : Glb pg KF h₀) (st : h₀.StaysIn s.heap) (hg : env.globals = mainGlobals)
    (e : nsIn KF mainGlobals x = some (some v)) (h : Q v s) : wpAny M A (loadGlobal env x) Q E s := by
  obtain ⟨p, loose, mg, mb, T⟩ := g.T
  exact loadGlobal_global (by rw [hg]; exact T.g.keeps st) (mg_of g.K T.g e) h
theorem SE.glob {x : Str} {pos : Pos} {v : AV} {v' : Value} (hk : C.env.kindOf x = some .globalImplicit) (hv : nsIn C.KF mainGlobals x = some (some v')) (hr : ∀ ρ nx, VR ρ nx v v') (h : P v S) (hd : (x == ("__debug__" : Str)) = false := by decide) :
    SE C fr (.Name x pos) S P X := fun c ρ s Q E I F k kx =>
  Name_function_global c.kind hk (mg_glb (h := s.heap) c.g I.stays c.glob hv (k.now (tk := s.toks) I h (hr _ _))) hd
theorem SE.cInt {i : Int} {kk : Nat} {pos : Pos} (h : P (.int i) S) : SE C fr (.Constant (.int i) kk pos) S P X := fun c ρ s Q E I F k kx => wpAny_Constant_int (k.now I h ⟨_, rfl⟩)
theorem SE.cNone {kk : Nat} {pos : Pos} (h : P .none S) : SE C fr (.Constant .none kk pos) S P X := fun c ρ s Q E I F k kx => wpAny_Constant_none (k.now (tk := s.toks) I h rfl)
theorem SE.cBool {b : Bool} {kk : Nat} {pos : Pos} (h : P (.bool b) S) : SE C fr (.Constant (.bool b) kk pos) S P X := fun c ρ s Q E I F k kx => wpAny_Constant_bool (k.now (tk := s.toks) I h rfl)
theorem SE.cStr {x : Str} {kk : Nat} {pos : Pos} (h : P (.str x) S) : SE C fr (.Constant (.str x) kk pos) S P X := fun c ρ s Q E I F k kx => wpAny_Constant_str (k.now I h ⟨_, rfl⟩)

theorem SE.binop {l r : Expr} {op : Operator} {pos : Pos} (h : SE C fr l S (fun a S₁ => SE C fr r S₁ (fun b S₂ => Bop op a b S₂ P) X) X) : SE C fr (.BinOp l op r pos) S P X := fun c ρ s Q E I F k kx =>
  wpAny_BinOp (h c ρ s _ E I F (fun a S₁ ρ₁ h₁ t₁ x p₁ G₁ I₁ r₁ => p₁ c ρ₁ _ _ E I₁ (F.go I G₁) (fun b S₂ ρ₂ h₂ t₂ y p₂ G₂ I₂ r₂ =>
    bop_sound (X := X) c I₂ (r₁.mono G₂.nx G₂.agree) r₂ p₂ ((k.step I G₁).step I₁ G₂)) (kx.step I G₁)) kx)
theorem SE.cmp {l r : Expr} {op : CmpOp} {pos : Pos} (h : SE C fr l S (fun a S₁ => SE C fr r S₁ (fun b S₂ => Cmp op a b S₂ (fun b S₃ => P (.bool b) S₃)) X) X) (hm : behindInMarks op r = false := by with_unfolding_all rfl) :
    SE C fr (.Compare l [op] [r] pos) S P X := fun c ρ s Q E I F k kx =>
  wpAny_Compare1 (h c ρ s _ E I F (fun a S₁ ρ₁ h₁ t₁ x p₁ G₁ I₁ r₁ => p₁ c ρ₁ _ _ E I₁ (F.go I G₁) (fun b S₂ ρ₂ h₂ t₂ y p₂ G₂ I₂ r₂ =>
    cmp_sound (s := { s with heap := h₂, toks := t₂ }) c I₂ (r₁.mono G₂.nx G₂.agree) r₂ p₂ (fun b tk p => ((k.step (t₁ := t₁) I G₁).step (t₁ := t₂) I₁ G₂).now I₂ p rfl)) (kx.step I G₁)) kx) hm
theorem SB.cmp {l r : Expr} {op : CmpOp} {pos : Pos} (h : SE C fr l S (fun a S₁ => SE C fr r S₁ (fun b S₂ => Cmp op a b S₂ PB) X) X) (hm : behindInMarks op r = false := by with_unfolding_all rfl) :
    SB C fr (.Compare l [op] [r] pos) S PB X := fun c ρ s Q E I F k kx =>
  wpAny_isTrue_Compare1 (h c ρ s _ E I F (fun a S₁ ρ₁ h₁ t₁ x p₁ G₁ I₁ r₁ => p₁ c ρ₁ _ _ E I₁ (F.go I G₁) (fun b S₂ ρ₂ h₂ t₂ y p₂ G₂ I₂ r₂ =>
    cmp_sound (s := { s with heap := h₂, toks := t₂ }) c I₂ (r₁.mono G₂.nx G₂.agree) r₂ p₂ (fun b tk p => wpAny_truthy_bool (((k.step (t₁ := t₁) I G₁).step (t₁ := t₂) I₁ G₂).now I₂ p))) (kx.step I G₁)) kx) hm
theorem SB.not {e : Expr} {pos : Pos} (h : SB C fr e S (fun b S' => PB (!b) S') X) : SB C fr (.UnaryOp .Not e pos) S PB X := fun c ρ s Q E I F k kx =>
  wpAny_isTrue_Not (h c ρ s _ E I F (fun b S' ρ' h' tk p G I' => k _ S' ρ' h' tk p G I') kx)
/-- the test of a value that is no test's own form -/
theorem SB.val {e : Expr} (he : ∀ env whole, isTrue e env whole = (do let v ← whole; standAt e.pos; holding [v] (truthy v))) (h : SE C fr e S (fun a S' => Tru a (fun b => PB b S')) X) : SB C fr e S PB X := fun c ρ s Q E I F k kx =>
  wpAny_isTrue_value (h c ρ s _ E I F (fun a S₁ ρ₁ h₁ t₁ x p G I₁ r => tru_sound (s := { s with heap := h₁, toks := t₁ }) r p fun b p => k b S₁ ρ₁ h₁ t₁ p G I₁) kx) (he _ _)
theorem SE.ifexp {t b e : Expr} {pos : Pos} (h : SB C fr t S (fun c S' => if c then SE C fr b S' P X else SE C fr e S' P X) X) : SE C fr (.IfExp t b e pos) S P X := fun c ρ s Q E I F k kx =>
  wpAny_IfExp (h c ρ s _ E I F (fun b S₁ ρ₁ h₁ t₁ p G I₁ => by
    cases b with
    | true => exact p c ρ₁ _ Q E I₁ (F.go I G) (k.step I G) (kx.step I G)
    | false => exact p c ρ₁ _ Q E I₁ (F.go I G) (k.step I G) (kx.step I G)) kx)

noncomputable def SAll (C : Cx) (fr : Frm) (op : BoolOp) (es : List Expr) (S : St) (P : Bool → St → Prop) (X : St → Prop) : Prop :=
  COk C → ∀ ρ s Q E, Inv C.h₀ C.envs ρ S s.heap → FrR C.h₀ C.env fr ρ S s.heap → KB C ρ S s P Q → KX C ρ S s X E → wpAny (model C.prog C.w) C.A (allTrue op es C.env) Q E s
theorem SAll.and_nil (h : PB true S) : SAll C fr .And [] S PB X := fun c ρ s Q E I F k kx => wpAny_allTrue_And_nil (k.now (tk := s.toks) I h)
theorem SAll.or_nil (h : PB false S) : SAll C fr .Or [] S PB X := fun c ρ s Q E I F k kx => wpAny_allTrue_Or_nil (k.now (tk := s.toks) I h)
theorem SAll.and {e : Expr} {r : List Expr} (h : SB C fr e S (fun b S' => if b then SAll C fr .And r S' PB X else PB false S') X) : SAll C fr .And (e :: r) S PB X := fun c ρ s Q E I F k kx =>
  wpAny_allTrue_And_cons (h c ρ s _ E I F (fun b S₁ ρ₁ h₁ t₁ p G I₁ => by
    cases b with
    | true => exact p c ρ₁ _ Q E I₁ (F.go I G) (k.step I G) (kx.step I G)
    | false => exact k _ S₁ ρ₁ h₁ t₁ p G I₁) kx)
theorem SAll.or {e : Expr} {r : List Expr} (h : SB C fr e S (fun b S' => if b then PB true S' else SAll C fr .Or r S' PB X) X) : SAll C fr .Or (e :: r) S PB X := fun c ρ s Q E I F k kx =>
  wpAny_allTrue_Or_cons (h c ρ s _ E I F (fun b S₁ ρ₁ h₁ t₁ p G I₁ => by
    cases b with
    | false => exact p c ρ₁ _ Q E I₁ (F.go I G) (k.step I G) (kx.step I G)
    | true => exact k _ S₁ ρ₁ h₁ t₁ p G I₁) kx)
theorem SB.boolop {op : BoolOp} {es : List Expr} {pos : Pos} (h : SAll C fr op es S PB X) : SB C fr (.BoolOp op es pos) S PB X := fun c ρ s Q E I F k kx => wpAny_isTrue_BoolOp (h c ρ s Q E I F k kx)
/-- and, or as values: two of them -/
theorem SE.or2 {x y : Expr} {pos : Pos} (h : SE C fr x S (fun a S₁ => Tru a (fun b => if b then P a S₁ else SE C fr y S₁ P X)) X) : SE C fr (.BoolOp .Or [x, y] pos) S P X := fun c ρ s Q E I F k kx =>
  wpAny_Or2 (h c ρ s _ E I F (fun a S₁ ρ₁ h₁ t₁ x p G I₁ r => tru_sound (s := { s with heap := h₁, toks := t₁ }) r p fun b p => by
    cases b with
    | true => exact k _ S₁ ρ₁ h₁ t₁ _ p G I₁ r
    | false => exact p c ρ₁ _ Q E I₁ (F.go I G) (k.step I G) (kx.step I G)) kx)
theorem SE.and2 {x y : Expr} {pos : Pos} (h : SE C fr x S (fun a S₁ => Tru a (fun b => if b then SE C fr y S₁ P X else P a S₁)) X) : SE C fr (.BoolOp .And [x, y] pos) S P X := fun c ρ s Q E I F k kx =>
  wpAny_And2 (h c ρ s _ E I F (fun a S₁ ρ₁ h₁ t₁ x p G I₁ r => tru_sound (s := { s with heap := h₁, toks := t₁ }) r p fun b p => by
    cases b with
    | false => exact k _ S₁ ρ₁ h₁ t₁ _ p G I₁ r
    | true => exact p c ρ₁ _ Q E I₁ (F.go I G) (k.step I G) (kx.step I G)) kx)
/-- a chain of two comparisons, as a test -/
theorem SB.chain {l m r : Expr} {o₁ o₂ : CmpOp} {pos : Pos} (h : SE C fr l S (fun a S₁ => SE C fr m S₁ (fun b S₂ => Cmp o₁ a b S₂ (fun t S₃ => if t then SE C fr r S₃ (fun d S₄ => Cmp o₂ b d S₄ PB) X else PB false S₃)) X) X)
    (hm : lastMarks [o₁, o₂] [m, r] = false := by with_unfolding_all rfl) : SB C fr (.Compare l [o₁, o₂] [m, r] pos) S PB X := fun c ρ s Q E I F k kx => by
  refine isTrue_chain (h c ρ s _ E I F (fun a S₁ ρ₁ h₁ t₁ x p₁ G₁ I₁ r₁ => ?_) kx) hm
  refine wpAny_bind (wpAny_holding ?_)
  refine p₁ c ρ₁ _ _ E I₁ (F.go I G₁) (fun b S₂ ρ₂ h₂ t₂ y p₂ G₂ I₂ r₂ => ?_) (kx.step I G₁)
  refine wpAny_bind (wpAny_standAt (wpAny_bind (wpAny_holding ?_)))
  refine cmp_sound (s := { s with heap := h₂, toks := t₂ }) c I₂ (r₁.mono G₂.nx G₂.agree) r₂ p₂ (fun t tk p => ?_)
  refine wpAny_bind (wpAny_release (wpAny_bind (wpAny_holding (wpAny_truthy_bool ?_))))
  have F₁ := F.go I G₁
  have F₂ := F₁.go I₁ G₂
  have k₂ := (k.step (t₁ := t₁) I G₁).step (t₁ := tk) I₁ G₂
  have kx₂ := (kx.step (t₁ := t₁) I G₁).step (t₁ := tk) I₁ G₂
  cases t with
  | false =>
    rw [if_neg (by decide)]
    exact wpAny_pure (k₂.now (tk := tk) I₂ p)
  | true =>
    rw [if_pos rfl]
    refine wpAny_bind (wpAny_holding ?_)
    refine p c ρ₂ { s with heap := h₂, toks := tk } _ E I₂ F₂ (fun d S₄ ρ₄ h₄ t₄ z p₄ G₄ I₄ r₄ => ?_) kx₂
    refine wpAny_bind (wpAny_standAt (wpAny_bind (wpAny_operateT ?_)))
    refine cmp_sound (s := { s with heap := h₄, toks := t₄ }) c I₄ (r₂.mono G₄.nx G₄.agree) r₄ p₄ (fun t tk' p => ?_)
    exact wpAny_holding (wpAny_truthy_bool ((k₂.step (t₁ := t₄) I₂ G₄).now I₄ p))

/-! arguments and items -/
theorem SAs.nil (h : PL [] S) : SAs C fr [] S PL X := fun c ρ s Q E pos I F k kx => wpAny_items_nil (k.now (tk := s.toks) I h .nil)
theorem SAs.cons {e : Expr} {r : List Expr} (h : SE C fr e S (fun v S₁ => SAs C fr r S₁ (fun vs S₂ => PL (v :: vs) S₂) X) X) (he : ∀ env, starEach (e :: r) env = (false, eval e env) :: starEach r env := by intro _; with_unfolding_all rfl) :
    SAs C fr (e :: r) S PL X := fun c ρ s Q E pos I F k kx =>
  wpAny_items_cons (h c ρ s _ E I F (fun a S₁ ρ₁ h₁ t₁ x p₁ G₁ I₁ r₁ => p₁ c ρ₁ _ _ E pos I₁ (F.go I G₁) (fun b S₂ ρ₂ h₂ t₂ y p₂ G₂ I₂ r₂ =>
    (k.step (t₁ := t₁) I G₁) (a :: b) S₂ ρ₂ h₂ t₂ (x :: y) p₂ G₂ I₂ (.cons (r₁.mono G₂.nx G₂.agree) r₂)) (kx.step I G₁)) kx) (he _)
theorem SE.list {es : List Expr} {pos : Pos} (h : SAs C fr es S (fun vs S' => vs.length ≤ 100000 ∧ P (.ref S'.nx) (S'.add (.list vs))) X) : SE C fr (.List es pos) S P X := fun c ρ s Q E I F k kx =>
  wpAny_List_spliced (h c ρ s _ E pos I F (fun a S₁ ρ₁ h₁ t₁ x p₁ G₁ I₁ r₁ => ⟨by rw [r₁.length, sizeLine_eq]; have := p₁.1; (first | lia | omega),
    (k.step (t₁ := t₁) I G₁).pushed (s := { s with heap := h₁, toks := t₁ }) (tk := t₁) (o := .list a) I₁ rfl ⟨⟨rfl, rfl, rfl⟩, _, _, rfl, r₁⟩ p₁.2⟩) kx)
theorem SE.tuple {es : List Expr} {k : Nat} {pos : Pos} (h : SAs C fr es S (fun vs S' => vs.length ≤ 100000 ∧ P (.ref S'.nx) (S'.add (.tuple vs))) X) : SE C fr (.Tuple es k pos) S P X := fun c ρ s Q E I F k kx =>
  wpAny_Tuple_spliced (h c ρ s _ E pos I F (fun a S₁ ρ₁ h₁ t₁ x p₁ G₁ I₁ r₁ => ⟨by rw [r₁.length, sizeLine_eq]; have := p₁.1; (first | lia | omega),
    (k.step (t₁ := t₁) I G₁).pushed (s := { s with heap := h₁, toks := t₁ }) (tk := t₁) (o := .tuple a) I₁ rfl ⟨rfl, _, _, rfl, r₁⟩ p₁.2⟩) kx)
end
end Mine
end
section
open PySem PySem.W PyProof.Rows PySem.Calls
set_option Elab.async false
set_option maxRecDepth 100000
set_option linter.unusedVariables false
namespace Mine

/-! ## Instances -/
noncomputable def getOk (K : Frag) (c : Addr) (x : Str) : Bool := plainGet K c x && hasDictIn K c && (findIn K (.ref c) x == some none)
noncomputable def setOk (K : Frag) (c : Addr) (x : Str) : Bool := (findIn K (.ref c) "__setattr__" == some (some (.builtin "object.__setattr__"))) && plainOver K c && (findIn K (.ref c) x == some none) && hasDictIn K c
noncomputable def dput (x : Str) (v : AV) : List (Str × AV) → List (Str × AV)
  | [] => [(x, v)]
  | (y, u) :: r => if x = y then (x, v) :: r else (y, u) :: dput x v r
theorem dput_lookup (x : Str) (v : AV) : ∀ (es : List (Str × AV)) (y : Str), (dput x v es).lookup y = if y = x then some v else es.lookup y
  | [], y => by
    by_cases h : y = x
    · subst h; simp [dput]
    · have : (y == x) = false := beq_eq_false_iff_ne.mpr h
      simp [dput, List.lookup_cons, this, h]
  | (z, u) :: r, y => by
    unfold dput
    by_cases hz : x = z
    · subst hz
      rw [if_pos rfl]
      by_cases h : y = x
      · subst h; simp
      · have : (y == x) = false := beq_eq_false_iff_ne.mpr h
        simp [List.lookup_cons, this, h]
    · rw [if_neg hz, List.lookup_cons, List.lookup_cons, dput_lookup x v r y]
      by_cases h : y = z
      · subst h
        have : ¬ y = x := fun q => hz q.symm
        simp [this]
      · have : (y == z) = false := beq_eq_false_iff_ne.mpr h
        simp [this]
theorem dput_length (x : Str) (v : AV) : ∀ (es : List (Str × AV)), (dput x v es).length = if (es.lookup x).isSome then es.length else es.length + 1
  | [] => by simp [dput]
  | (z, u) :: r => by
    unfold dput
    by_cases hz : x = z
    · subst hz; simp
    · have : (x == z) = false := beq_eq_false_iff_ne.mpr hz
      rw [if_neg hz, List.length_cons, dput_length x v r, List.lookup_cons, this]
      split <;> simp
theorem OR.ns {ρ : Loc → Addr} {nx : Nat} {es : List (Str × AV)} {o : Obj} (r : OR ρ nx (.dict es) o) {h : Heap} {a : Addr} (e : h.get? a = some o) : ∃ m, h.Ns a m ∧ ∀ x, OptVR ρ nx (es.lookup x) (m x) := by
  obtain ⟨hc, ds, n, hd, hk, hz, hr⟩ := r
  exact ⟨nsFind ds, ⟨o, ds, n, e, hd, hk, fun _ => rfl⟩, hr⟩
theorem refKey_none {ds : Array DictEntry} (hk : StrKeys ds) : ds.any (·.refKey) = false := by
  rw [Array.any_eq_false']; intro e he; obtain ⟨n, t, h⟩ := hk e he; simp [DictEntry.refKey, h]
theorem lookIn_of {ds : Array DictEntry} {n : Nat} {o : Obj} (hd : o.data = .dict ds n) (hk : StrKeys ds) (x : Str) : lookIn x o = some (nsFind ds x) := by
  unfold lookIn
  rw [hd]
  dsimp only
  unfold nsFind findBy
  rw [← Array.find?_toList]
  cases q : ds.toList.find? (fun e => e.key.isStr x) with
  | some e => rfl
  | none =>
    have := refKey_none hk
    rw [← Array.any_toList] at this
    simp [this]

section
variable {C : Cx} {ρ : Loc → Addr} {S : St} {s : Shared}
theorem Inv.inst {h₀ : Heap} {envs : List Env} {h : Heap} (I : Inv h₀ envs ρ S h) {l d : Loc} {c : Addr} {es : List (Str × AV)} (e1 : S.σ l = some (.inst c d)) (e2 : S.σ d = some (.dict es)) :
    ∃ ox od, InstAt h (ρ l) ox c (some od) ∧ ox.dict = some (ρ d) ∧ h.get? (ρ d) = some od ∧ OR ρ S.nx (.dict es) od := by
  obtain ⟨ox, q1, r1, r2, r3, r4⟩ := I.rep l _ e1
  obtain ⟨od, q2, r5⟩ := I.rep d _ e2
  refine ⟨ox, od, ⟨q1, r2, ?_, ?_⟩, r3, q2, r5⟩
  · unfold notCls; rw [r4]
  · rw [r3]; exact q2
theorem getAttr_inst {l d : Loc} {c : Addr} {es : List (Str × AV)} {x : Str} {v : AV} {expr : Bool} {Q : Value → Shared → Prop} {E : Value → Shared → Prop} (X : C.KF.In s.heap) (I : Inv C.h₀ C.envs ρ S s.heap) (e1 : S.σ l = some (.inst c d)) (e2 : S.σ d = some (.dict es))
    (hg : getOk C.KF c x = true) (hv : es.lookup x = some v) (h : ∀ v' tk, VR ρ S.nx v v' → Q v' { s with toks := tk }) : wpAny (model C.prog C.w) C.A (getAttr (.ref (ρ l)) x expr) Q E s := by
  obtain ⟨ox, od, IA, hd, ho, r⟩ := I.inst e1 e2
  unfold getOk at hg
  simp only [Bool.and_eq_true, beq_iff_eq] at hg
  obtain ⟨⟨g1, g2⟩, g3⟩ := hg
  obtain ⟨hc, ds, n, hdd, hk, hz, hr⟩ := r
  have z := hr x
  rw [hv] at z
  obtain ⟨v', q, rv⟩ := z
  refine get_value (v := v') X IA (plainGet_of g1).1 (findObj_own g2 g3 rfl (by rw [lookIn_of hdd hk, q])) ?_ (h v' _ rv)
  cases v with
  | none => cases rv; rfl
  | bool b => cases rv; rfl
  | int i => obtain ⟨t, rfl⟩ := rv; rfl
  | str u => obtain ⟨t, rfl⟩ := rv; rfl
  | ref l => obtain ⟨_, rfl⟩ := rv; rfl

theorem osa_inst {l d : Loc} {c : Addr} {es : List (Str × AV)} {x : Str} {tkn : Tok} {v : AV} {v' : Value} {R : Result → Shared → Prop} (X : C.KF.In s.heap) (I : Inv C.h₀ C.envs ρ S s.heap) (e1 : S.σ l = some (.inst c d)) (e2 : S.σ d = some (.dict es))
    (hg : setOk C.KF c x = true) (hlen : es.length ≤ 1000) (rv : VR ρ S.nx v v') (h : ∀ h' tk ob', Heap.SameBut (ρ d) s.heap h' → h'.get? (ρ d) = some ob' → OR ρ S.nx (.dict (dput x v es)) ob' → R (.ok (.ret .none)) { s with heap := h', toks := tk }) :
    codeAny (model C.prog C.w) C.A (.call (.builtin "object.__setattr__") ⟨[.ref (ρ l), .str x tkn, v'], []⟩) R s := by
  obtain ⟨ox, od, IA, hd, ho, r⟩ := I.inst e1 e2
  unfold setOk at hg
  simp only [Bool.and_eq_true, beq_iff_eq] at hg
  obtain ⟨⟨⟨g1, g2⟩, g3⟩, g4⟩ := hg
  obtain ⟨hc, ds, n, hdd, hk, hz, hr⟩ := r
  have ht : takerIn C.KF c x = some none := by unfold takerIn; rw [g3]; rfl
  refine osa_open X IA g2 ht fun b => ?_
  obtain ⟨cd, hcl, hd'⟩ := any_some g4
  obtain ⟨hx, hcl', hn, -⟩ := IA
  obtain ⟨oc, odi, oda, osl⟩ := ox
  dsimp only at hcl' hd
  subst hcl' hd
  refine wpAny_bind (wpAny_pure (wpAny_bind (wpAny_bind (wpAny_loadPart hx (wpAny_bind ((looks_clsIn X hcl).here ?_))))))
  rw [hd']
  refine wpAny_pure (a := some (ρ d)) (wpAny_bind (wpAny_pure (wpAny_bind ?_)))
  unfold nsSet
  refine wpAny_bind (wpAny_bind (wpAny_askSetting (wpAny_pure (wpAny_bind (wpAny_mkText (wpAny_bind (wpAny_loadPart ho ?_)))))))
  obtain ⟨cls, dd, dt, sl⟩ := od
  dsimp only at hdd hc
  subst hdd hc
  dsimp only
  have cc : (!ds.any (·.key.isStr x) && ds.any (·.refKey)) = false := by rw [refKey_none hk, Bool.and_false]
  rw [aRefKeyMayBeTheName_at, cc]
  have hm := hr
  have key : ∀ hsh, ∃ ob',
      (s.heap.update (ρ d) (Obj.putName x hsh (.str x s.toks) v')).get? (ρ d) = some ob' ∧ OR ρ S.nx (.dict (dput x v es)) ob' := by
    intro hsh
    cases hi : ds.findIdx? (·.key.isStr x) with
    | some i =>
      refine ⟨_, Heap.get?_update_self _ ho (by simp only [Obj.putName_eq, Obj.putNameByArray, hi]; rfl), ?_⟩
      simp only [Obj.putName_eq, Obj.putNameByArray, hi]
      refine ⟨rfl, _, _, rfl, hk.modify _ _, ?_, fun y => ?_⟩
      · have : (dput x v es).length = es.length := by
          rw [dput_length]
          have q := findBy_of_findIdx? (fun n v => v.isStr n) ds x
          have z := hr x
          rw [hi] at q
          dsimp only at q
          cases w : es.lookup x with
          | some _ => simp
          | none =>
            rw [w] at z
            have z' : nsFind ds x = none := z
            unfold nsFind at z'
            rw [z'] at q
            obtain ⟨hlt, _⟩ := Array.findIdx?_eq_some_iff_getElem.mp hi
            simp [hlt] at q
        rw [this, Array.size_modify]; exact hz
      · rw [dput_lookup]
        unfold nsFind
        rw [findBy_modify (fun n v => v.isStr n) Value.isStr_inj ds x y v' i hi]
        split
        · exact ⟨v', rfl, rv⟩
        · exact hr y
    | none =>
      refine ⟨_, Heap.get?_update_self _ ho (by simp only [Obj.putName_eq, Obj.putNameByArray, hi]; rfl), ?_⟩
      simp only [Obj.putName_eq, Obj.putNameByArray, hi]
      refine ⟨rfl, _, _, rfl, hk.push _ _ _ _, ?_, fun y => ?_⟩
      · have : (dput x v es).length = es.length + 1 := by
          rw [dput_length]
          have q := findBy_of_findIdx? (fun n v => v.isStr n) ds x
          have z := hr x
          rw [hi] at q
          dsimp only at q
          cases w : es.lookup x with
          | none => simp
          | some a =>
            rw [w] at z
            obtain ⟨_, z', _⟩ := z
            unfold nsFind at z'
            rw [z'] at q
            cases q
        rw [this, Array.size_push]; (first | lia | omega)
      · rw [dput_lookup]
        unfold nsFind
        rw [findBy_push (fun n v => v.isStr n) ds x y _ _ v' (fun y => by
          show (x == y) = decide (y = x)
          by_cases h : y = x
          · subst h; simp
          · have : ¬ x = y := fun e => h e.symm
            simp [h, this]) hi]
        split
        · exact ⟨v', rfl, rv⟩
        · exact hr y
  obtain ⟨ob', k2, k3⟩ := key (if x.cps.isEmpty = true then 0 else reduceHash (C.w.params.strHash x.cps))
  refine wpAny_updatePart ho ?_
  refine wpAny_bind (wpAny_lookBehind k2 ?_ ?_)
  · obtain ⟨_, ds', n', hd2, _, hz', _⟩ := k3
    rw [hd2]
    refine pastItsLine_dict ?_
    have : (dput x v es).length ≤ es.length + 1 := by rw [dput_length]; split <;> (first | lia | omega)
    rw [sizeLine_eq]; (first | lia | omega)
  · exact wpAny_pure (h _ _ ob' (Heap.SameBut.update ..) k2 k3)
theorem setAttr_inst {l d : Loc} {c : Addr} {es : List (Str × AV)} {x : Str} {v : AV} {v' : Value} {Q : Unit → Shared → Prop} {E : Value → Shared → Prop} (X : C.KF.In s.heap) (I : Inv C.h₀ C.envs ρ S s.heap) (e1 : S.σ l = some (.inst c d)) (e2 : S.σ d = some (.dict es))
    (hg : setOk C.KF c x = true) (hlen : es.length ≤ 1000) (rv : VR ρ S.nx v v') (h : ∀ h' tk ob', Heap.SameBut (ρ d) s.heap h' → h'.get? (ρ d) = some ob' → OR ρ S.nx (.dict (dput x v es)) ob' → Q () { s with heap := h', toks := tk }) :
    wpAny (model C.prog C.w) C.A (setAttr (.ref (ρ l)) x v') Q E s := by
  obtain ⟨ox, od, IA, _⟩ := I.inst e1 e2
  have hg' := hg
  unfold setOk at hg'
  simp only [Bool.and_eq_true, beq_iff_eq] at hg'
  exact set_plain X IA hg'.1.1.1 (osa_inst (s := { s with toks := s.toks + 1 }) X I e1 e2 hg hlen rv h)
end
end Mine
end
section
open PySem PySem.W PyProof.Rows PySem.Calls
set_option Elab.async false
set_option maxRecDepth 100000
set_option linter.unusedVariables false
namespace Mine

noncomputable def Sub? (a b : AV) (S : St) (P : AV → St → Prop) : Prop := match a, b with
  | .ref l, .int k => ∃ vs v, (S.σ l = some (.list vs) ∨ S.σ l = some (.tuple vs)) ∧ 0 ≤ k ∧ k < 100000 ∧ vs[k.toNat]? = some v ∧ P v S
  | _, _ => False
section
variable {C : Cx} {fr : Frm} {S : St} {P : AV → St → Prop} {PB : Bool → St → Prop} {PL : List AV → St → Prop} {X : St → Prop}
theorem COk.K {C : Cx} {ρ : Loc → Addr} {S : St} {h : Heap} (c : COk C) (I : Inv C.h₀ C.envs ρ S h) : C.KF.In h := c.g.K.keeps I.stays

theorem SE.attr {e : Expr} {x : Str} {pos : Pos} (h : SE C fr e S (fun a S' => ∃ l c d es v, a = .ref l ∧ S'.σ l = some (.inst c d) ∧ S'.σ d = some (.dict es) ∧ getOk C.KF c x = true ∧ es.lookup x = some v ∧ P v S') X)
    (he : ∀ env whole, attributeBase e x env whole = whole := by intro _ _; rfl) : SE C fr (.Attribute e x pos) S P X := fun c ρ s Q E I F k kx => by
  refine Attribute_any_ (h c ρ s _ E I F (fun a S₁ ρ₁ h₁ t₁ y p G I₁ r => ?_) kx) (by rw [arm_eval_Attribute, he])
  obtain ⟨l, cc, d, es, v, rfl, e1, e2, g, hv, p⟩ := p
  obtain ⟨_, rfl⟩ := r
  exact getAttr_inst (s := { s with heap := h₁, toks := t₁ }) (c.K I₁) I₁ e1 e2 g hv fun v' tk rv => (k.step (t₁ := t₁) I G).now I₁ p rv

theorem SE.sub {e i : Expr} {pos : Pos} (h : SE C fr e S (fun a S₁ => SE C fr i S₁ (fun b S₂ => Sub? a b S₂ P) X) X)
    (hs : ∀ o j, subscripted i false o j = operate [o, j] (getItem o j) := by intro _ _; with_unfolding_all rfl) : SE C fr (.Subscript e i pos) S P X := fun c ρ s Q E I F k kx =>
  Subscript_ (h c ρ s _ E I F (fun a S₁ ρ₁ h₁ t₁ x p₁ G₁ I₁ r₁ => p₁ c ρ₁ _ _ E I₁ (F.go I G₁) (fun b S₂ ρ₂ h₂ t₂ y p₂ G₂ I₂ r₂ => by
    have k₂ := (k.step (t₁ := t₁) I G₁).step (t₁ := t₂) I₁ G₂
    cases a <;> cases b <;> first | exact False.elim p₂ | skip
    obtain ⟨hlt, rfl⟩ := r₁
    obtain ⟨u, rfl⟩ := r₂
    obtain ⟨vs, v, hl, h0, hz, hx, p⟩ := p₂
    rename_i l j
    rw [← G₂.agree l hlt]
    rcases hl with e | e
    · obtain ⟨ws, L, r⟩ := I₂.list e
      obtain ⟨y, hy, ry⟩ := r.get hx
      exact tail_any L.typeIs slot_list_getitem.lookup (wpAny_getItem_list L h0 (by (first | lia | omega)) (by simpa using hy) (k₂.now (tk := t₂) I₂ p ry)) (hs _ _)
    · obtain ⟨ws, L, r⟩ := I₂.tuple e
      obtain ⟨y, hy, ry⟩ := r.get hx
      have hlen : j.toNat < ws.toList.length := (List.getElem?_eq_some_iff.mp hy).1
      exact item_tupleT (l := ws.toList) L (by (first | lia | omega)) (by (first | lia | omega)) (by unfold seqIndex?; simp only [if_neg (show ¬ j < 0 by (first | lia | omega))]; rw [if_pos (by simp only [Bool.and_eq_true, decide_eq_true_eq]; (first | lia | omega))]) hy (k₂.now (tk := t₂) I₂ p ry) (hs _ _)) (kx.step I G₁)) kx)

theorem slice_raw {A : Around} {ρ : Loc → Addr} {s : Shared} {value lo hi : Expr} {pp : Pos} {l : Loc} {vs : List AV} {i j : Int} {u1 u2 : Tok} {Q : Value → Shared → Prop} {E : Value → Shared → Prop} (I : Inv C.h₀ C.envs ρ S s.heap) (e : S.σ l = some (.list vs)) (hz : vs.length ≤ 100000)
    (h0 : 0 ≤ i) (h1 : i ≤ j) (h2 : j.toNat ≤ vs.length) (k : KV C ρ S s P Q) (p : P (.ref S.nx) (S.add (.list ((vs.drop i.toNat).take (j.toNat - i.toNat))))) :
    wpAny (model C.prog C.w) A (subscriptTail value (.Slice (some lo) (some hi) none pp) (.ref (ρ l)) (.ref s.heap.objs.size)) Q E { s with heap := s.heap.push { cls := .type "slice", data := .fields #[.int i u1, .int j u2, .none] } } := by
  obtain ⟨ws, L, r⟩ := I.list e
  have hlen := r.length
  refine tail_any (L.push _).typeIs list_getitem_lookup (wpAny_getItem_list_slice (L.push _) (Heap.IsSliceOf.new ..) (.int i u1) (.int j u2) .none (by simp) ?_ (by rw [sizeLine_eq]; simp only [Array.length_toList] at hlen; (first | lia | omega))) rfl
  have ei : i = ((i.toNat : Nat) : Int) := by (first | lia | omega)
  have ej : j = ((j.toNat : Nat) : Int) := by (first | lia | omega)
  have hp : slicePick ws (some i) (some j) none = ((ws.toList.drop i.toNat).take (j.toNat - i.toNat)).toArray := by
    rw [ei, ej, slicePick_run ws i.toNat j.toNat (by simp only [Array.length_toList] at hlen; (first | lia | omega)) (by (first | lia | omega))]; rfl
  rw [hp]
  refine k.made I (o := .list ((vs.drop i.toNat).take (j.toNat - i.toNat))) (ob := { cls := .type "list", data := .seq ((ws.toList.drop i.toNat).take (j.toNat - i.toNat)).toArray }) (tk := s.toks) ((Kept.push _ _).trans (Kept.push _ _)) ?_ (Heap.get?_push_size _ rfl) ⟨⟨rfl, rfl, rfl⟩, _, _, rfl, ?_⟩ p
  · rw [Heap.size_push]
    cases q : s.heap.get? (s.heap.objs.size + 1) with
    | none => rfl
    | some o => exact absurd (Heap.lt_size q) (Nat.not_lt.mpr (Nat.le_succ _))
  · show VRs _ _ _ ((ws.toList.drop i.toNat).take (j.toNat - i.toNat))
    refine .ofGet (by simp only [List.length_take, List.length_drop]; rw [hlen]) fun q x y e1 e2 => ?_
    rw [List.getElem?_take] at e1 e2
    split at e1
    · rename_i hq
      rw [if_pos hq] at e2
      rw [List.getElem?_drop] at e1 e2
      obtain ⟨z, e3, rz⟩ := r.get e1
      rw [e2] at e3; cases e3; exact rz
    · cases e1
theorem SE.slice {e lo hi : Expr} {pp pos : Pos} (h : SE C fr e S (fun a S₁ => SE C fr lo S₁ (fun b S₂ => SE C fr hi S₂ (fun d S₃ => ∃ l i j vs, a = .ref l ∧ b = .int i ∧ d = .int j ∧ S₃.σ l = some (.list vs) ∧ vs.length ≤ 100000 ∧ 0 ≤ i ∧ i ≤ j ∧ j.toNat ≤ vs.length ∧
    P (.ref S₃.nx) (S₃.add (.list ((vs.drop i.toNat).take (j.toNat - i.toNat))))) X) X) X) : SE C fr (.Subscript e (.Slice (some lo) (some hi) none pp) pos) S P X := fun c ρ s Q E I F k kx => by
  refine Subscript_ (h c ρ s _ E I F (fun a S₁ ρ₁ h₁ t₁ x p₁ G₁ I₁ r₁ => ?_) kx)
  refine wpAny_Slice (wpAny_evalPart_some (p₁ c ρ₁ _ _ E I₁ (F.go I G₁) (fun b S₂ ρ₂ h₂ t₂ y p₂ G₂ I₂ r₂ => ?_) (kx.step I G₁)))
  refine wpAny_evalPart_some (p₂ c ρ₂ _ _ E I₂ ((F.go I G₁).go I₁ G₂) (fun d S₃ ρ₃ h₃ t₃ z p₃ G₃ I₃ r₃ => ?_) ((kx.step I G₁).step I₁ G₂))
  refine wpAny_evalPart_none ?_
  obtain ⟨l, i, j, vs, rfl, rfl, rfl, e, hz, h0, h1, h2, p⟩ := p₃
  obtain ⟨hl, rfl⟩ := r₁
  obtain ⟨u1, rfl⟩ := r₂
  obtain ⟨u2, rfl⟩ := r₃
  have k₃ := ((k.step (t₁ := t₁) I G₁).step (t₁ := t₂) I₁ G₂).step (t₁ := t₃) I₂ G₃
  rw [← G₂.agree l hl, ← G₃.agree l (Nat.lt_of_lt_of_le hl G₂.nx)]
  exact slice_raw (s := { s with heap := h₃, toks := t₃ }) I₃ e hz h0 h1 h2 k₃ p
end

theorem mem_of_lookup {α : Type} {x : Str} {v : α} : ∀ {l : List (Str × α)}, l.lookup x = some v → (x, v) ∈ l
  | [], h => by simp at h
  | (y, u) :: r, h => by
    rw [List.lookup_cons] at h
    split at h
    · rename_i hy; cases h; rw [beq_iff_eq.mp hy]; exact .head _
    · exact .tail _ (mem_of_lookup h)
/-! ## Statements -/
/-- what is this frame's own: its namespace, its cells; none of it stood in the heap he -/
noncomputable def Own (env : Env) (he : Heap) : Prop := he.get? env.locals = none ∧ (env.func.isSome = true → ∀ x c, env.cells.lookup x = some c → he.get? c = none)
/-- a name that may be stored: a comprehension's block stores into none of its cells -/
noncomputable def IsV (C : Cx) (x : Str) : Prop := C.env.kindOf x = some .local ∨ (C.env.kindOf x = some .cell ∧ C.env.func.isSome = true)
structure Gr (ρ : Loc → Addr) (S : St) (ρ' : Loc → Addr) (S' : St) : Prop where
  nx : S.nx ≤ S'.nx
  agree : ∀ l, l < S.nx → ρ' l = ρ l
theorem Gr.refl (ρ : Loc → Addr) (S : St) : Gr ρ S ρ S := ⟨Nat.le_refl _, fun _ _ => rfl⟩
theorem Gr.trans {ρ ρ₁ ρ₂ : Loc → Addr} {S S₁ S₂ : St} (a : Gr ρ S ρ₁ S₁) (b : Gr ρ₁ S₁ ρ₂ S₂) : Gr ρ S ρ₂ S₂ := ⟨Nat.le_trans a.nx b.nx, fun l hl => (b.agree l (Nat.lt_of_lt_of_le hl a.nx)).trans (a.agree l hl)⟩
theorem Go.gr {F : List Addr} {ρ ρ' : Loc → Addr} {S S' : St} {h h' : Heap} (G : Go F ρ S h ρ' S' h') : Gr ρ S ρ' S' := ⟨G.nx, G.agree⟩
noncomputable def KN (C : Cx) (ρe : Loc → Addr) (Se : St) (he : Heap) (ρ : Loc → Addr) (S : St) (s : Shared) (PN : Frm → St → Prop) (Q : Flow → Shared → Prop) : Prop :=
  ∀ fr' S' ρ' h' tk, PN fr' S' → Gr ρ S ρ' S' → Go (fs C.envs) ρe Se he ρ' S' h' → Inv C.h₀ C.envs ρ' S' h' → FrR C.h₀ C.env fr' ρ' S' h' → Q .next { s with heap := h', toks := tk }
noncomputable def KR (C : Cx) (ρe : Loc → Addr) (Se : St) (he : Heap) (s : Shared) (PR : AV → St → Prop) (Q : Flow → Shared → Prop) : Prop :=
  ∀ v S' ρ' h' tk v', PR v S' → Go (fs C.envs) ρe Se he ρ' S' h' → Inv C.h₀ C.envs ρ' S' h' → VR ρ' S'.nx v v' → Q (.ret v') { s with heap := h', toks := tk }
noncomputable def KE (C : Cx) (ρe : Loc → Addr) (Se : St) (he : Heap) (s : Shared) (X : St → Prop) (E : Value → Shared → Prop) : Prop :=
  ∀ S' ρ' h' tk e, X S' → Go (fs C.envs) ρe Se he ρ' S' h' → Inv C.h₀ C.envs ρ' S' h' → ExcAt C.KF C.h₀ he e h' → E (.ref e) { s with heap := h', toks := tk }
noncomputable def Bnd (S : St) : Prop := ∀ l, S.σ l ≠ none → l < S.nx
noncomputable def SS (C : Cx) (fr : Frm) (st : Stmt) (S : St) (PN : Frm → St → Prop) (PR : AV → St → Prop) (X : St → Prop) : Prop :=
  COk C → ∀ ρe Se he ρ s Q E, Bnd Se → Own C.env he → Go (fs C.envs) ρe Se he ρ S s.heap → Inv C.h₀ C.envs ρ S s.heap → FrR C.h₀ C.env fr ρ S s.heap →
    KN C ρe Se he ρ S s PN Q → KR C ρe Se he s PR Q → KE C ρe Se he s X E → wpAny (model C.prog C.w) C.A (exec st C.env) Q E s
noncomputable def SL (C : Cx) (fr : Frm) (sts : List Stmt) (S : St) (PN : Frm → St → Prop) (PR : AV → St → Prop) (X : St → Prop) : Prop :=
  COk C → ∀ ρe Se he ρ s Q E, Bnd Se → Own C.env he → Go (fs C.envs) ρe Se he ρ S s.heap → Inv C.h₀ C.envs ρ S s.heap → FrR C.h₀ C.env fr ρ S s.heap →
    KN C ρe Se he ρ S s PN Q → KR C ρe Se he s PR Q → KE C ρe Se he s X E → wpAny (model C.prog C.w) C.A (execs sts C.env) Q E s

section
variable {C : Cx} {fr : Frm} {S : St} {PN : Frm → St → Prop} {PR : AV → St → Prop} {X : St → Prop}
variable {ρe ρ ρ₁ : Loc → Addr} {Se S₁ : St} {he h₁ : Heap} {s : Shared} {t₁ : Nat}
/-- from what follows the frame's statement to what follows its expression -/
theorem KE.x {E : Value → Shared → Prop} (kx : KE C ρe Se he s X E) (hb : Bnd Se) (G : Go (fs C.envs) ρe Se he ρ S s.heap) : KX C ρ S s X E :=
  fun S' ρ' h' tk e p g i x => kx S' ρ' h' tk e p (Go.trans hb G g) i (x.back G)
theorem KN.step {Q : Flow → Shared → Prop} (kn : KN C ρe Se he ρ S s PN Q) (g : Gr ρ S ρ₁ S₁) : KN C ρe Se he ρ₁ S₁ { s with heap := h₁, toks := t₁ } PN Q :=
  fun fr' S' ρ' h' tk p g' => kn fr' S' ρ' h' tk p (g.trans g')
theorem SL.nil (h : PN fr S) : SL C fr [] S PN PR X := fun c ρe Se he ρ s Q E hb ow G I F kn kr kx => wpAny_execs_nil (kn fr S ρ s.heap s.toks h (.refl _ _) G I F)
theorem SL.cons {st : Stmt} {r : List Stmt} (h : SS C fr st S (fun fr' S' => SL C fr' r S' PN PR X) PR X) : SL C fr (st :: r) S PN PR X := fun c ρe Se he ρ s Q E hb ow G I F kn kr kx =>
  wpAny_execs_cons (h c ρe Se he ρ s _ E hb ow G I F (fun fr' S' ρ' h' tk p g G' I' F' => p c ρe Se he ρ' { s with heap := h', toks := tk } Q E hb ow G' I' F' (kn.step g) kr kx)
    (fun v S' ρ' h' tk v' p g i r => kr v S' ρ' h' tk v' p g i r) kx)
/-- less may be told of the frame and of the store -/
noncomputable def Le (fr fr' : Frm) : Prop := ∀ x v, fr.lookup x = some v → fr'.lookup x = some v
theorem Le.refl (fr : Frm) : Le fr fr := fun _ _ e => e
theorem Le.nil (fr : Frm) : Le [] fr := fun _ _ e => by simp at e
theorem Le.cons {x : Str} {v : AV} {r fr : Frm} (e : fr.lookup x = some v) (h : Le r fr) : Le ((x, v) :: r) fr := fun y u q => by
  rw [List.lookup_cons] at q
  split at q
  · rename_i hy; cases q; rw [beq_iff_eq.mp hy]; exact e
  · exact h y u q
theorem FrR.le {h₀ : Heap} {env : Env} {fr fr' : Frm} {h : Heap} (R : FrR h₀ env fr' ρ S h) (l : Le fr fr') : FrR h₀ env fr ρ S h := { R with look := fun x v e => R.look x v (l x v e) }
theorem FrR.sub {h₀ : Heap} {env : Env} {fr : Frm} {S' : St} {h : Heap} (R : FrR h₀ env fr ρ S' h) (l : Sub S S') : FrR h₀ env fr ρ S h where
  look := by rw [l.1]; exact R.look
  ns := R.ns
  cells := R.cells
  isc := R.isc
  apart := R.apart
  offL := fun ⟨k, hk, e⟩ => R.offL ⟨k, by
    cases q : S.σ k with
    | none => exact absurd q hk
    | some o => rw [l.2 k o q]; simp, e⟩
  newL := R.newL
  newC := R.newC
theorem Gr.sub {ρ' : Loc → Addr} {S' S'' : St} (g : Gr ρ S ρ' S'') (d : Sub S S') : Gr ρ S' ρ' S'' := ⟨by rw [← d.1]; exact g.nx, fun l hl => g.agree l (by rw [d.1]; exact hl)⟩
theorem SL.less {sts : List Stmt} {fr' : Frm} {S' : St} (l : Le fr' fr) (d : Sub S' S) (h : SL C fr' sts S' PN PR X) : SL C fr sts S PN PR X := fun c ρe Se he ρ s Q E hb ow G I F kn kr kx =>
  h c ρe Se he ρ s Q E hb ow (G.sub d) (I.sub d) ((F.sub d).le l) (fun fr' S' ρ' h' tk p g => kn fr' S' ρ' h' tk p (g.sub d)) kr kx

theorem SS.ret {e : Expr} {pos : Pos} (h : SE C fr e S PR X) : SS C fr (.Return (some e) pos) S PN PR X := fun c ρe Se he ρ s Q E hb ow G I F kn kr kx =>
  wpAny_Return_some (h c ρ s _ E I F (fun v S' ρ' h' tk v' p g i r => kr v S' ρ' h' tk v' p (Go.trans hb G g) i r) (kx.x hb G))
theorem SS.ifs {t : Expr} {b o : List Stmt} {pos : Pos} (h : SB C fr t S (fun c S' => if c then SL C fr b S' PN PR X else SL C fr o S' PN PR X) X) : SS C fr (.If t b o pos) S PN PR X := fun c ρe Se he ρ s Q E hb ow G I F kn kr kx =>
  wpAny_If (h c ρ s _ E I F (fun v S' ρ' h' tk p g i => by
    cases v with
    | true => exact p c ρe Se he ρ' { s with heap := h', toks := tk } Q E hb ow (Go.trans hb G g) i (F.go I g) (kn.step g.gr) kr kx
    | false => exact p c ρe Se he ρ' { s with heap := h', toks := tk } Q E hb ow (Go.trans hb G g) i (F.go I g) (kn.step g.gr) kr kx) (kx.x hb G))
theorem inter_fn {env : Env} (h : env.scope.kind = .function) : interactive env = false := by unfold interactive; rw [h]; rfl
theorem SS.expr {e : Expr} {pos : Pos} (h : SE C fr e S (fun _ S' => PN fr S') X) (hs : ∀ env, swapsWith e none pos.line env = pure false := by intro _; rfl) :
    SS C fr (.Expr e pos) S PN PR X := fun c ρe Se he ρ s Q E hb ow G I F kn kr kx =>
  wpAny_Expr_any (h c ρ s _ E I F (fun v S' ρ' h' tk v' p g i r => kn fr S' ρ' h' tk p g.gr (Go.trans hb G g) i (F.go I g)) (kx.x hb G)) (inter_fn c.kind) (hs _)
end
end Mine
end
section
open PySem PySem.W PyProof.Rows PySem.Calls
set_option Elab.async false
set_option maxRecDepth 100000
set_option linter.unusedVariables false
namespace Mine

theorem Ns.uniq {h : Heap} {a : Addr} {m m' : Str → Option Value} (x : h.Ns a m) (y : h.Ns a m') (n : Str) : m n = m' n := by
  obtain ⟨o, es, ep, e, hd, _, hm⟩ := x
  obtain ⟨o', es', ep', e', hd', _, hm'⟩ := y
  rw [e] at e'; cases e'
  rw [hd] at hd'; cases hd'
  rw [← hm, ← hm']
theorem Ns.ob {h : Heap} {a : Addr} {m : Str → Option Value} (x : h.Ns a m) : ∃ o, h.get? a = some o ∧ (∀ vs, o.data ≠ .fields vs) ∧ (∀ v, o.data ≠ .cell v) := by
  obtain ⟨o, es, ep, e, hd, _⟩ := x
  exact ⟨o, e, fun _ q => (by rw [hd] at q; cases q), fun _ q => (by rw [hd] at q; cases q)⟩
/-- one object that is none of the store's is turned -/
theorem Inv.but {h₀ : Heap} {envs : List Env} {ρ : Loc → Addr} {S : St} {h h' : Heap} {a : Addr} (I : Inv h₀ envs ρ S h) (ha : ¬ Img ρ S a) (hn : h₀.get? a = none) (hs : Heap.SameBut a h h') (he : ∃ o, h'.get? a = some o ∧ ∀ vs, o.data ≠ .fields vs) : Inv h₀ envs ρ S h' where
  stays := fun b o e => (hs.2 b fun q => by rw [q, hn] at e; cases e).trans (I.stays b o e)
  bnd := I.bnd
  rep := fun l o e => by
    obtain ⟨ob, e', r⟩ := I.rep l o e
    exact ⟨ob, (hs.2 _ fun q => ha ⟨l, by rw [e]; simp, q⟩).trans e', r⟩
  inj := I.inj
  new := I.new
  ff := fun env he' => by
    obtain ⟨x1, L, o, x2, x3, x4, x5⟩ := I.ff env he'
    by_cases q : L = a
    · subst q
      obtain ⟨o', y1, y2⟩ := he
      exact ⟨x1, L, o', x2, x3, y1, y2⟩
    · exact ⟨x1, L, o, x2, x3, (hs.2 L q).trans x4, x5⟩
  off := I.off
theorem Go.but {F : List Addr} {ρe ρ : Loc → Addr} {Se S : St} {he h h' : Heap} {a : Addr} (G : Go F ρe Se he ρ S h) (hn : he.get? a = none) (hs : Heap.SameBut a h h') (hx : ∃ o, h'.get? a = some o) : Go F ρe Se he ρ S h' where
  nx := G.nx
  agree := G.agree
  dom := G.dom
  fresh := G.fresh
  keep := fun b o e hi hf => (hs.2 b fun q => by rw [q, hn] at e; cases e).trans (G.keep b o e hi hf)
  slot := fun b o e hi hf => by obtain ⟨sl, e'⟩ := G.slot b o e hi hf; exact ⟨sl, (hs.2 b fun q => by rw [q, hn] at e; cases e).trans e'⟩
  mono := fun b o e => by
    obtain ⟨o', e'⟩ := G.mono b o e
    by_cases q : b = a
    · rw [q]; exact hx
    · exact ⟨o', (hs.2 b q).trans e'⟩

section
variable {C : Cx} {fr : Frm} {S : St} {PN : Frm → St → Prop} {PR : AV → St → Prop} {X : St → Prop}
variable {ρe ρ : Loc → Addr} {Se : St} {he : Heap} {s : Shared}

noncomputable def KU (C : Cx) (ρe : Loc → Addr) (Se : St) (he : Heap) (ρ : Loc → Addr) (S : St) (s : Shared) (PN : Frm → St → Prop) (Q : Unit → Shared → Prop) : Prop :=
  ∀ fr' S' ρ' h' tk, PN fr' S' → Gr ρ S ρ' S' → Go (fs C.envs) ρe Se he ρ' S' h' → Inv C.h₀ C.envs ρ' S' h' → FrR C.h₀ C.env fr' ρ' S' h' → Q () { s with heap := h', toks := tk }
theorem lookup_here {x : Str} {v : AV} {fr : Frm} : ((x, v) :: fr).lookup x = some v := by simp
theorem lookup_there {x y : Str} {v : AV} {fr : Frm} (h : y ≠ x) : ((x, v) :: fr).lookup y = fr.lookup y := by
  rw [List.lookup_cons, beq_eq_false_iff_ne.mpr h]
theorem store_sound {x : Str} {v : AV} {v' : Value} {Q : Unit → Shared → Prop} {E : Value → Shared → Prop} (c : COk C) (ow : Own C.env he) (G : Go (fs C.envs) ρe Se he ρ S s.heap) (I : Inv C.h₀ C.envs ρ S s.heap) (F : FrR C.h₀ C.env fr ρ S s.heap)
    (hk : IsV C x) (rv : VR ρ S.nx v v')
    (k : KU C ρe Se he ρ S s (fun fr' S' => fr' = (x, v) :: fr ∧ S' = S) Q) : wpAny (model C.prog C.w) C.A (storeName C.env x v') Q E s := by
  obtain ⟨m₀, hm₀⟩ := F.ns
  obtain ⟨oL, eL, dL, cL⟩ := Ns.ob hm₀
  rcases hk with hk | ⟨hk, hfun⟩
  · refine wpAny_storeName_local hk hm₀ (fun h' hn hs => ?_) (by rw [c.kind]; rfl)
    obtain ⟨o', e', d', c'⟩ := Ns.ob hn
    refine k _ S ρ h' _ ⟨rfl, rfl⟩ (.refl _ _) (G.but ow.1 hs ⟨_, e'⟩) (I.but F.offL F.newL hs ⟨_, e', d'⟩) ?_
    have cell_keep : ∀ c v, s.heap.IsCell c v → h'.IsCell c v := fun cc v ⟨o, e, d⟩ => ⟨o, (hs.2 cc fun q => by rw [q, eL] at e; cases e; exact cL _ d).trans e, d⟩
    exact { look := fun y u hy => by
              by_cases q : y = x
              · subst q
                rw [lookup_here] at hy; cases hy
                exact .inl ⟨hk, _, v', hn, if_pos rfl, rv⟩
              · rw [lookup_there q] at hy
                rcases F.look y u hy with ⟨k1, m, u', a, b, r⟩ | ⟨k1, cc, u', a, b, r⟩
                · refine .inl ⟨k1, _, u', hn, ?_, r⟩
                  show (if y = x then some v' else m₀ y) = some u'
                  rw [if_neg q, Ns.uniq hm₀ a y]; exact b
                · exact .inr ⟨k1, cc, u', a, cell_keep _ _ b, r⟩
            ns := ⟨_, hn⟩
            cells := F.cells
            isc := fun y cc a => by obtain ⟨u, b⟩ := F.isc y cc a; exact ⟨u, cell_keep _ _ b⟩
            apart := F.apart
            offL := F.offL
            newL := F.newL
            newC := F.newC }
  · obtain ⟨cc, hc⟩ := F.cells x hk
    obtain ⟨v₀, hv⟩ := F.isc x cc hc
    refine wpAny_storeName_cell c.kind hk hc hv fun h' hv' hs => ?_
    obtain ⟨oc, ec, dc⟩ := hv'
    have hne : C.env.locals ≠ cc := fun q => by
      obtain ⟨o, e, d⟩ := hv
      rw [← q, eL] at e; cases e; exact cL _ d
    refine k _ S ρ h' s.toks ⟨rfl, rfl⟩ (.refl _ _) (G.but (ow.2 hfun x cc hc) hs ⟨_, ec⟩) (I.but (I.cell_off hv) (F.newC x cc hc) hs ⟨oc, ec, fun vs q => by rw [dc] at q; cases q⟩) ?_
    exact { look := fun y u hy => by
              by_cases q : y = x
              · subst q
                rw [lookup_here] at hy; cases hy
                exact .inr ⟨hk, cc, v', hc, ⟨oc, ec, dc⟩, rv⟩
              · rw [lookup_there q] at hy
                rcases F.look y u hy with ⟨k1, m, u', a, b, r⟩ | ⟨k1, c2, u', a, b, r⟩
                · exact .inl ⟨k1, m, u', a.sameBut hs hne, b, r⟩
                · refine .inr ⟨k1, c2, u', a, ?_, r⟩
                  obtain ⟨o, e, d⟩ := b
                  exact ⟨o, (hs.2 c2 fun z => q (F.apart y x cc (z ▸ a) hc)).trans e, d⟩
            ns := ⟨m₀, hm₀.sameBut hs hne⟩
            cells := F.cells
            isc := fun y c2 a => by
              obtain ⟨u, b⟩ := F.isc y c2 a
              by_cases z : c2 = cc
              · exact ⟨some v', z ▸ ⟨oc, ec, dc⟩⟩
              · obtain ⟨o, e, d⟩ := b
                exact ⟨u, o, (hs.2 c2 z).trans e, d⟩
            apart := F.apart
            offL := F.offL
            newL := F.newL
            newC := F.newC }

theorem setItem_at {prog : Program} {w : World} {A : Around} {s : Shared} {E : Value → Shared → Prop} {l : Addr} {items : Array Value} {n : Nat} {k : Int} {t : Tok} {v : Value} {Q : Unit → Shared → Prop} (ho : s.heap.get? l = some { cls := .type "list", dict := none, data := .seq items n, slots := #[] })
    (h0 : 0 ≤ k) (hfit : k < 2 ^ 63) (hn : k < items.size)
    (hQ : ∀ h' n', h'.get? l = some { cls := .type "list", dict := none, data := .seq (items.setIfInBounds k.toNat v) n', slots := #[] } → Heap.SameBut l s.heap h' → Q () { s with heap := h' }) :
    wpAny (model prog w) A (setItem (.ref l) (.int k t) v) Q E s := by
  have hT : s.TypeIs (.ref l) "list" := ⟨_, ho, rfl⟩
  unfold setItem
  try with_reducible refine wpAny_holding ?_
  first | refine wpAny_bind (wpAny_pure ?_) | skip
  refine wpAny_bind (wpAny_sequenceKey hT (by decide) ?_)
  refine wpAny_bind (wpAny_callSpecial?_slot (name := Str.ofString "__setitem__") hT slot_list_setitem (wpAny_call_entry slot_list_setitem hT entry_list_setitem ?_ (args_list_setitem _ _ _)))
  show wpAny _ _ (Builtin.List.listSubscript? (.int k t) >>= _) _ _ s
  refine wpAny_bind (wpAny_listSubscript_int (fitsIndex_of h0 hfit) ?_)
  clear hfit
  obtain ⟨j, rfl⟩ := Int.eq_ofNat_of_zero_le h0
  have hj : j < items.size := by (first | lia | omega)
  have hx' : items[j]? = some items[j] := Array.getElem?_eq_getElem hj
  show wpAny _ _ ((seqItemAt l j >>= fun r => pure (r.map (j, ·))) >>= _) _ _ s
  refine wpAny_bind (wpAny_bind (wpAny_seqItemAt ho rfl (wpAny_pure ?_)))
  rw [hx']
  show wpAny _ _ (setSeqItemAt l j v >>= _) _ _ s
  have hfin : ∃ n', (s.heap.update l (Obj.mapSeq (·.setIfInBounds j v))).get? l = some { cls := .type "list", dict := none, data := .seq (items.setIfInBounds j v) n', slots := #[] } := by
    have e := Heap.get?_update_self (Obj.mapSeq (·.setIfInBounds j v)) ho (by simp [Obj.mapSeq]; rfl)
    exact ⟨_, e.trans (by simp only [Obj.mapSeq]; rfl)⟩
  obtain ⟨n', hfin⟩ := hfin
  refine wpAny_bind (wpAny_setSeqItemAt ho rfl ?_)
  first
    | exact wpAny_bind (wpAny_pure (wpAny_pure ⟨.none, rfl, wpAny_pure (hQ _ n' hfin (Heap.SameBut.update ..))⟩))
    | exact wpAny_pure ⟨.none, rfl, wpAny_pure (hQ _ n' hfin (Heap.SameBut.update ..))⟩

/-! ## Targets -/
noncomputable def ST (C : Cx) (fr : Frm) (t : Expr) (v : AV) (S : St) (PN : Frm → St → Prop) (X : St → Prop) : Prop :=
  COk C → ∀ ρe Se he ρ s Q E v', Bnd Se → Own C.env he → Go (fs C.envs) ρe Se he ρ S s.heap → Inv C.h₀ C.envs ρ S s.heap → FrR C.h₀ C.env fr ρ S s.heap → VR ρ S.nx v v' →
    KU C ρe Se he ρ S s PN Q → KE C ρe Se he s X E → wpAny (model C.prog C.w) C.A (assign t C.env v') Q E s
noncomputable def STs (C : Cx) (fr : Frm) (ts : List Expr) (vs : List AV) (S : St) (PN : Frm → St → Prop) (X : St → Prop) : Prop :=
  COk C → ∀ ρe Se he ρ s Q E vs', Bnd Se → Own C.env he → Go (fs C.envs) ρe Se he ρ S s.heap → Inv C.h₀ C.envs ρ S s.heap → FrR C.h₀ C.env fr ρ S s.heap → VRs ρ S.nx vs vs' →
    KU C ρe Se he ρ S s PN Q → KE C ρe Se he s X E → wpAny (model C.prog C.w) C.A (assignInOrder ((assignEach ts C.env).map (·.2)) vs') Q E s
theorem ST.name {x : Str} {pos : Pos} {v : AV} (hk : IsV C x) (h : PN ((x, v) :: fr) S) : ST C fr (.Name x pos) v S PN X := fun c ρe Se he ρ s Q E v' hb ow G I F r k kx =>
  wpAny_assign_Name (store_sound c ow G I F hk r fun fr' S' ρ' h' tk p g => k fr' S' ρ' h' tk (by rw [p.1, p.2]; exact h) g)
theorem STs.nil (h : PN fr S) : STs C fr [] [] S PN X := fun c ρe Se he ρ s Q E v' hb ow G I F r k kx => by
  cases r
  exact wpAny_assignInOrder_none (k fr S ρ s.heap s.toks h (.refl _ _) G I F)
theorem STs.cons {t : Expr} {ts : List Expr} {v : AV} {vs : List AV} (h : ST C fr t v S (fun fr' S' => STs C fr' ts vs S' PN X) X) (hs : ∀ env, assignEach (t :: ts) env = (false, assign t env) :: assignEach ts env := by intro _; rfl) : STs C fr (t :: ts) (v :: vs) S PN X :=
  fun c ρe Se he ρ s Q E v' hb ow G I F r k kx => by
  cases r with
  | cons r1 r2 =>
    rename_i x xs
    rw [hs]
    refine wpAny_assignInOrder_more ?_
    exact h c ρe Se he ρ s _ E x hb ow G I F r1 (fun fr' S' ρ' h' tk p g G' I' F' => p c ρe Se he ρ' { s with heap := h', toks := tk } Q E xs hb ow G' I' F' (r2.mono g.nx g.agree)
      (fun fr2 S2 ρ2 h2 tk2 p2 g2 => k fr2 S2 ρ2 h2 tk2 p2 (g.trans g2)) kx) kx
theorem ST.tup {ts : List Expr} {kk : Nat} {pos : Pos} {l : Loc} {vs : List AV} (e : S.σ l = some (.tuple vs)) (hlen : ts.length = vs.length) (h : STs C fr ts vs S PN X)
    (hs : ∀ env, (assignEach ts env).length = ts.length ∧ (assignEach ts env).findIdx? (·.1) = none := by intro _; exact ⟨rfl, rfl⟩) : ST C fr (.Tuple ts kk pos) (.ref l) S PN X := fun c ρe Se he ρ s Q E v' hb ow G I F r k kx => by
  obtain ⟨hl, rfl⟩ := r
  obtain ⟨ws, L, rr⟩ := I.tuple e
  have hw : ws.size = vs.length := by rw [← rr.length, Array.length_toList]
  refine wpAny_assign_Tuple c.handled L (by rw [(hs _).1, hlen, hw]) (hs _).2 fun h' hx => ?_
  have kp : Kept s.heap h' := fun b o e => hx b o (fun q => by rw [q, fresh_size] at e; cases e) e
  have G1 := Go.kept (F := fs C.envs) (ρ := ρ) I.bnd kp
  exact h c ρe Se he ρ { s with heap := h' } Q E _ hb ow (Go.trans hb G G1) (I.kept kp) (F.go I G1) rr k kx
theorem ST.attr {o : Expr} {x : Str} {pos : Pos} {v : AV} (h : SE C fr o S (fun a S₁ => ∃ l c d es, a = .ref l ∧ S₁.σ l = some (.inst c d) ∧ S₁.σ d = some (.dict es) ∧ setOk C.KF c x = true ∧ es.length ≤ 1000 ∧ PN fr (S₁.put d (.dict (dput x v es)))) X) :
    ST C fr (.Attribute o x pos) v S PN X := fun c ρe Se he ρ s Q E v' hb ow G I F r k kx => by
  rw [arm_assign_Attribute]
  refine wpAny_bind (wpAny_holding (h c ρ s _ E I F (fun a S₁ ρ₁ h₁ t₁ y p G₁ I₁ r₁ => ?_) (kx.x hb G)))
  obtain ⟨l, cc, d, es, rfl, e1, e2, g, hz, p⟩ := p
  obtain ⟨_, rfl⟩ := r₁
  refine wpAny_bind (wpAny_standAt (wpAny_bind (wpAny_holding ?_)))
  refine setAttr_inst (s := { s with heap := h₁, toks := t₁ }) (c.K I₁) I₁ e1 e2 g hz (r.mono G₁.nx G₁.agree) fun h' tk ob' hs' e3 r3 => wpAny_release ?_
  have hd : S₁.σ d ≠ none := by rw [e2]; simp
  have G2 := Go.put (F := fs C.envs) (o := .dict (dput x v es)) I₁.bnd hd hs' ⟨_, e3⟩
  exact k _ _ ρ₁ h' tk p (G₁.gr.trans G2.gr) (Go.trans hb (Go.trans hb G G₁) G2) (I₁.put hd hs' e3 r3) ((F.go I G₁).go I₁ G2)
theorem ST.sub {o i : Expr} {pos : Pos} {v : AV} (h : SE C fr o S (fun a S₁ => SE C fr i S₁ (fun b S₂ => ∃ l k vs, a = .ref l ∧ b = .int k ∧ S₂.σ l = some (.list vs) ∧ 0 ≤ k ∧ k < 100000 ∧ k.toNat < vs.length ∧ PN fr (S₂.put l (.list (vs.set k.toNat v)))) X) X) :
    ST C fr (.Subscript o i pos) v S PN X := fun c ρe Se he ρ s Q E v' hb ow G I F r k kx => by
  rw [arm_assign_Subscript]
  refine wpAny_bind (wpAny_holding (h c ρ s _ E I F (fun a S₁ ρ₁ h₁ t₁ y p G₁ I₁ r₁ => ?_) (kx.x hb G)))
  refine wpAny_bind (wpAny_holding (p c ρ₁ _ _ E I₁ (F.go I G₁) (fun b S₂ ρ₂ h₂ t₂ z p₂ G₂ I₂ r₂ => ?_) ((kx.x hb G).step I G₁)))
  obtain ⟨l, j, vs, rfl, rfl, e, h0, h1, hn, p⟩ := p₂
  obtain ⟨hl, rfl⟩ := r₁
  obtain ⟨u, rfl⟩ := r₂
  rw [← G₂.agree l hl]
  obtain ⟨ws, nn, L, rr⟩ := I₂.listO e
  have hw : ws.size = vs.length := by rw [← rr.length, Array.length_toList]
  refine wpAny_bind (wpAny_standAt (wpAny_bind (wpAny_holding ?_)))
  refine setItem_at (s := { s with heap := h₂, toks := t₂ }) L h0 (by (first | lia | omega)) (by (first | lia | omega)) fun h' n3 e3 hs' => wpAny_release ?_
  have hd : S₂.σ l ≠ none := by rw [e]; simp
  have r3 : OR ρ₂ S₂.nx (.list (vs.set j.toNat v)) { cls := .type "list", dict := none, data := .seq (ws.setIfInBounds j.toNat v') n3, slots := #[] } := ⟨⟨rfl, rfl, rfl⟩, _, _, rfl, by
    rw [Array.toList_setIfInBounds]
    exact rr.set _ ((r.mono G₁.nx G₁.agree).mono G₂.nx G₂.agree)⟩
  have G3 := Go.put (F := fs C.envs) (o := .list (vs.set j.toNat v)) I₂.bnd hd hs' ⟨_, e3⟩
  exact k _ _ ρ₂ h' _ p ((G₁.gr.trans G₂.gr).trans G3.gr) (Go.trans hb (Go.trans hb (Go.trans hb G G₁) G₂) G3) (I₂.put hd hs' e3 r3) (((F.go I G₁).go I₁ G₂).go I₂ G3)

/-! ## Assignments -/
theorem SS.assign {t value : Expr} {pos : Pos} (h : SE C fr value S (fun v S' => ST C fr t v S' PN X) X) (hs : ∀ env, swapsWithSole [t] value pos.line env = pure false := by intro _; rfl)
    (hw : ∀ env, env.scope.kind = .function → swappedStores [t] value env = pure none := by intro _ _; rfl) (ht : ∀ env, assignEach [t] env = [(false, assign t env)] := by intro _; rfl) : SS C fr (.Assign [t] value pos) S PN PR X :=
  fun c ρe Se he ρ s Q E hb ow G I F kn kr kx => by
  refine wpAny_Assign_stores (h c ρ s _ E I F (fun v S₁ ρ₁ h₁ t₁ y p G₁ I₁ r₁ => ?_) (kx.x hb G)) (hs _) (hw _ c.kind)
  rw [ht]
  exact p c ρe Se he ρ₁ { s with heap := h₁, toks := t₁ } _ E y hb ow (Go.trans hb G G₁) I₁ (F.go I G₁) r₁ (fun fr' S' ρ' h' tk p' g => kn fr' S' ρ' h' tk p' (G₁.gr.trans g)) kx
/-- two or three names of the frame's at once: they are stored from the last -/
noncomputable def binds (xs : List Str) (vs : List AV) (fr : Frm) : Frm := xs.zip vs ++ fr
theorem bindAll_sound {Q : Unit → Shared → Prop} {E : Value → Shared → Prop} (c : COk C) (hb : Bnd Se) (ow : Own C.env he) (xs : List Str) (vs : List AV) (ws : List Value) (fr : Frm) (ρ : Loc → Addr) (s : Shared) (hl : xs.length = vs.length)
    (hk : ∀ x ∈ xs, IsV C x) (G : Go (fs C.envs) ρe Se he ρ S s.heap) (I : Inv C.h₀ C.envs ρ S s.heap) (F : FrR C.h₀ C.env fr ρ S s.heap) (rr : VRs ρ S.nx vs ws)
    (k : KU C ρe Se he ρ S s (fun fr' S' => fr' = (xs.zip vs).reverse ++ fr ∧ S' = S) Q) :
    wpAny (model C.prog C.w) C.A (assignInOrder (xs.map fun n => bindName C.env n) ws) Q E s := by
  induction xs generalizing vs ws fr ρ s with
  | nil =>
    cases vs with
    | cons _ _ => simp at hl
    | nil =>
      cases rr
      exact wpAny_assignInOrder_none (k fr S ρ s.heap s.toks ⟨rfl, rfl⟩ (.refl _ _) G I F)
  | cons x xs ih =>
    cases rr with
    | nil => simp at hl
    | cons r rr =>
      rename_i v w vs ws
      refine wpAny_assignInOrder_more (wpAny_bindName (store_sound c ow G I F (hk x (.head _)) r fun fr' S' ρ' h' tk p g G' I' F' => ?_))
      obtain ⟨rfl, rfl⟩ := p
      refine ih vs ws _ ρ' { s with heap := h', toks := tk } (by simpa using hl) (fun y hy => hk y (.tail _ hy)) G' I' F' (rr.mono g.nx g.agree) fun fr2 S2 ρ2 h2 tk2 p2 g2 => ?_
      refine k fr2 S2 ρ2 h2 tk2 ⟨?_, p2.2⟩ (g.trans g2)
      rw [p2.1]; simp
theorem SS.swap {ts : List Expr} {kk : Nat} {tpos : Pos} {value : Expr} {pos : Pos} {xs : List Str} (hk : ∀ x ∈ xs, C.env.kindOf x = some .local)
    (h : SE C fr value S (fun v S' => ∃ l vs, v = .ref l ∧ S'.σ l = some (.tuple vs) ∧ vs.length = xs.length ∧ PN (xs.zip vs ++ fr) S') X) (hs : ∀ env, swapsWithSole [.Tuple ts kk tpos] value pos.line env = pure false := by intro _; rfl)
    (hw : swappedStores [.Tuple ts kk tpos] value C.env = pure (some xs)) : SS C fr (.Assign [.Tuple ts kk tpos] value pos) S PN PR X :=
  fun c ρe Se he ρ s Q E hb ow G I F kn kr kx => by
  rw [exec_Assign, hs, hw]
  refine wpAny_bind (wpAny_standAt (wpAny_bind (wpAny_pure ?_)))
  rw [if_neg (by decide)]
  refine wpAny_bind (h c ρ s _ E I F (fun v S₁ ρ₁ h₁ t₁ y p G₁ I₁ r₁ => ?_) (kx.x hb G))
  refine wpAny_bind (wpAny_pure ?_)
  obtain ⟨l, vs, rfl, e, hlen, p⟩ := p
  obtain ⟨hl, rfl⟩ := r₁
  obtain ⟨ws, L, rr⟩ := I₁.tuple e
  have hw : ws.size = vs.length := by rw [← rr.length, Array.length_toList]
  unfold assignStores
  dsimp only
  rw [← hlen, ← hw]
  refine wpAny_bind (wpAny_rule (wpAny_bind (wpAny_unpackItems_tuple (s := { s with heap := h₁, toks := t₁ }) c.handled L fun h' hx => ?_)))
  have kp : Kept h₁ h' := fun b o e => hx b o (fun q => by rw [q, fresh_size] at e; cases e) e
  have G2 := Go.kept (F := fs C.envs) (ρ := ρ₁) I₁.bnd kp
  have rv : VRs ρ₁ S₁.nx vs.reverse ws.toList.reverse := by
    have key : ∀ {a : List AV} {b : List Value}, VRs ρ₁ S₁.nx a b → VRs ρ₁ S₁.nx a.reverse b.reverse := fun h => by
      induction h with
      | nil => exact .nil
      | cons h _ ih => simp only [List.reverse_cons]; exact ih.append (.cons h .nil)
    exact key rr
  refine wpAny_bind (bindAll_sound (S := S₁) c hb ow xs.reverse vs.reverse _ fr ρ₁ { s with heap := h', toks := t₁ } (by simp [hlen]) (fun x hx => .inl (hk x (by simpa using hx))) (Go.trans hb (Go.trans hb G G₁) G2) (I₁.kept kp) ((F.go I G₁).go I₁ G2) rv fun fr2 S2 ρ2 h2 tk2 p2 g2 G' I' F' => wpAny_pure ?_)
  obtain ⟨rfl, rfl⟩ := p2
  refine kn _ _ ρ2 h2 tk2 ?_ (G₁.gr.trans g2) G' I' F'
  rw [show (xs.reverse.zip vs.reverse).reverse = xs.zip vs from by
    show (List.zipWith Prod.mk _ _).reverse = List.zipWith Prod.mk _ _
    rw [← List.reverse_zipWith hlen.symm, List.reverse_reverse]]
  exact p
theorem SS.aug {x : Str} {p' pos : Pos} {op : Operator} {value : Expr} {i : Int} (hop : op = .Add ∨ op = .Sub) (hx : fr.lookup x = some (.int i)) (hk : C.env.kindOf x = some .local)
    (h : SE C fr value S (fun v S' => ∃ j, v = .int j ∧ PN ((x, .int (if op = .Add then i + j else i - j)) :: fr) S') X) : SS C fr (.AugAssign (.Name x p') op value pos) S PN PR X := fun c ρe Se he ρ s Q E hb ow G I F kn kr kx => by
  obtain ⟨m, v', hn, hm, t, rfl⟩ : ∃ m v', s.heap.Ns C.env.locals m ∧ m x = some v' ∧ VR ρ S.nx (.int i) v' := by
    rcases F.look x _ hx with ⟨_, r⟩ | ⟨k2, _⟩
    · exact r
    · rw [hk] at k2; cases k2
  refine wpAny_AugAssign_Name (wpAny_loadName_local c.kind hk hn hm (h c ρ s _ E I F (fun v S₁ ρ₁ h₁ t₁ y p G₁ I₁ r₁ => ?_) (kx.x hb G)))
  obtain ⟨j, rfl, p⟩ := p
  obtain ⟨u, rfl⟩ := r₁
  have fin : ∀ tk, wpAny (model C.prog C.w) C.A (storeName C.env x (.int (if op = .Add then i + j else i - j) t₁)) (fun _ => Q .next) E { s with heap := h₁, toks := tk } := fun tk =>
    store_sound (s := { s with heap := h₁, toks := tk }) c ow (Go.trans hb G G₁) I₁ (F.go I G₁) (.inl hk) (v := .int (if op = .Add then i + j else i - j)) ⟨_, rfl⟩ fun fr' S' ρ' h' tk' q g => kn fr' S' ρ' h' tk' (by rw [q.1, q.2]; exact p) (G₁.gr.trans g)
  rcases hop with rfl | rfl
  · exact iadd_int (fin _)
  · exact isub_int (fin _)
end
end Mine
end
section
open PySem PySem.W PyProof.Rows PySem.Calls
set_option Elab.async false
set_option maxRecDepth 100000
set_option linter.unusedVariables false
namespace Mine

/-! ## An exception leaves a frame -/
theorem hide_stay {h : Heap} {l : List Addr} {b : Addr} {o : Obj} (e : h.get? b = some o) (n : b ∉ l) : (hideAll h l).get? b = some o := hideAll_get l e n
section
variable {KF : Frag} {h₀ he h h' : Heap} {env : Env} {envs : List Env} {ρe ρ : Loc → Addr} {Se S : St} {e : Addr}
theorem left_go {hid : List Addr} (hf : ∀ b ∈ hid, he.get? b = none ∨ b ∈ fs envs) (G : Go (fs envs) ρe Se he ρ S h) (ff : FF h₀ h envs) (hb : Bnd Se)
    (st : (hideAll h hid).StaysIn h') (up : ∀ b o, h.get? b = some o → (∀ vs, o.data ≠ .fields vs) → ∃ sl, h'.get? b = some { o with slots := sl }) : Go (fs envs) ρe Se he ρ S h' where
  nx := G.nx
  agree := G.agree
  dom := G.dom
  fresh := G.fresh
  keep := fun b o e1 hi hfr => st b o (hide_stay (G.keep b o e1 hi hfr) fun q => by
    rcases hf b q with z | z
    · rw [z] at e1; cases e1
    · exact hfr z)
  slot := fun b o e1 hi hfr => by
    obtain ⟨sl, e2⟩ := G.slot b o e1 hi hfr
    obtain ⟨_, o', e3, d⟩ := ff.mem hfr
    rw [e2] at e3; cases e3
    obtain ⟨sl', e4⟩ := up b _ e2 d
    exact ⟨sl', e4⟩
  mono := fun b o e1 => by
    obtain ⟨o', e2⟩ := G.mono b o e1
    by_cases q : b ∈ hid
    · rcases hf b q with z | z
      · rw [z] at e1; cases e1
      · obtain ⟨_, o'', e3, d⟩ := ff.mem z
        obtain ⟨sl', e4⟩ := up b _ e3 d
        exact ⟨_, e4⟩
    · exact ⟨o', st b o' (hide_stay e2 q)⟩
theorem left_inv {hid : List Addr} (hf : ∀ b ∈ hid, (h₀.get? b = none ∧ ∃ o vs, h.get? b = some o ∧ o.data = .fields vs) ∨ b ∈ fs envs) (I : Inv h₀ envs ρ S h)
    (st : (hideAll h hid).StaysIn h') (up : ∀ b o, h.get? b = some o → (∀ vs, o.data ≠ .fields vs) → ∃ sl, h'.get? b = some { o with slots := sl }) : Inv h₀ envs ρ S h' where
  stays := fun b o e1 => st b o (hide_stay (I.stays b o e1) fun q => by
    rcases hf b q with z | z
    · rw [z.1] at e1; cases e1
    · rw [(I.ff.mem z).1] at e1; cases e1)
  bnd := I.bnd
  rep := fun l o e1 => by
    obtain ⟨ob, e2, r⟩ := I.rep l o e1
    refine ⟨ob, st _ _ (hide_stay e2 fun q => ?_), r⟩
    rcases hf _ q with ⟨_, o', vs, e3, d⟩ | z
    · rw [e2] at e3; cases e3; exact r.data.1 _ d
    · exact I.off l (by rw [e1]; simp) z
  inj := I.inj
  new := I.new
  ff := fun env' he' => by
    obtain ⟨a, L, o, b, c, d, e1⟩ := I.ff env' he'
    obtain ⟨sl, e2⟩ := up L o d e1
    exact ⟨a, L, _, b, c, e2, e1⟩
  off := I.off
theorem ffh_of {h : Heap} (I : Inv h₀ envs ρ S h) (hid : List Addr) (hh : ∀ b ∈ fs envs, b ∈ hid) : h.FunFrames (hideAll h hid) envs := FF.fun fun env' he' => by
  obtain ⟨a, L', o, b, c, d, e1⟩ := I.ff env' he'
  exact ⟨a, L', o, b, hideAll_none _ (hh _ (List.mem_filterMap.mpr ⟨env', he', b⟩)), d, e1⟩
/-- what comes of it -/
theorem left_fin {oe : Obj} {vs : Array Value} {a0 : Value} {C : Addr} (hb : Bnd Se) (I : Inv h₀ envs ρ S h) (G : Go (fs envs) ρe Se he ρ S h)
    (x1 : he.get? e = none) (x2 : h₀.get? e = none) (x3 : h.get? e = some oe) (x4 : oe.cls = .ref C) (x5 : nsIn KF mainGlobals "DiskError" = some (some (.ref C))) (x6 : oe.data = .fields vs)
    (hid : List Addr) (hh : ∀ b ∈ hid, (b = e ∨ (he.get? b = none ∧ h₀.get? b = none ∧ ∃ o vs, h.get? b = some o ∧ o.data = .fields vs)) ∨ b ∈ fs envs) (h' : Heap) (hw : Heap.LeftW (hideAll h hid) envs e oe.cls a0 h h') :
    Go (fs envs) ρe Se he ρ S h' ∧ Inv h₀ envs ρ S h' ∧ ExcAt KF h₀ he e h' := by
  obtain ⟨y1, y2, y3, y4⟩ := hw
  refine ⟨left_go (hid := hid) (fun b q => ?_) G I.ff hb y1 y4, left_inv (hid := hid) (fun b q => ?_) I y1 y4, ?_⟩
  · rcases hh b q with (z | z) | z
    · exact .inl (z ▸ x1)
    · exact .inl z.1
    · exact .inr z
  · rcases hh b q with (z | z) | z
    · exact .inl ⟨z ▸ x2, oe, vs, z ▸ x3, x6⟩
    · exact .inl z.2
    · exact .inr z
  · obtain ⟨oe', vs', T, oT, ts, z1, ⟨z2, z3⟩, z4, z5, z6, z7, z8, z9, z10⟩ := y3
    have notHid : ∀ (g : Heap), (∀ b o, g.get? b = some o → ∃ o', h.get? b = some o') → (∀ b ∈ hid, b ≠ e → b ∉ fs envs → g.get? b = none) → g.get? T = none := fun g m hg => by
      cases q : g.get? T with
      | none => rfl
      | some o =>
        obtain ⟨o', q'⟩ := m T o q
        by_cases w : T ∈ hid
        · by_cases w2 : T ∈ fs envs
          · obtain ⟨_, o2, q2, d2⟩ := I.ff.mem w2
            obtain ⟨sl, q3⟩ := y4 T o2 q2 d2
            rw [z8] at q3; cases q3
            exact absurd z9 (d2 _)
          · rw [hg T w z7 w2] at q; cases q
        · rw [hide_stay q' w] at z6; cases z6
    refine ⟨x1, x2, oe', vs', a0, C, z1, z2.trans x4, x5, z4, z3, .inr ⟨T, oT, ts, z5, notHid he (fun b o q => G.mono b o q) (fun b q n1 n2 => ?_), notHid h₀ (fun b o q => ⟨o, I.stays b o q⟩) (fun b q n1 n2 => ?_), z7, z8, z9, z10⟩⟩
    · rcases hh b q with (w | w) | w
      · exact absurd w n1
      · exact w.1
      · exact absurd w n2
    · rcases hh b q with (w | w) | w
      · exact absurd w n1
      · exact w.2.1
      · exact absurd w n2
theorem leave_sound {M : Model} {A : Around} {s : Shared} {Q : Unit → Shared → Prop} {E : Value → Shared → Prop} {L : Addr} (hfr : A.frames = some (env :: envs)) (hf : env.frame = some L) (hb : Bnd Se) (I : Inv h₀ (env :: envs) ρ S s.heap) (G : Go (fs (env :: envs)) ρe Se he ρ S s.heap)
    (x : ExcAt KF h₀ he e s.heap) (k : ∀ h', Go (fs (env :: envs)) ρe Se he ρ S h' → Inv h₀ (env :: envs) ρ S h' → ExcAt KF h₀ he e h' → Q () { s with heap := h' }) : wpAny M A (leaving env (.ref e)) Q E s := by
  obtain ⟨x1, x2, oe, vs, a0, C, x3, x4, x5, x6, x7, x8⟩ := x
  have ffh := ffh_of I
  have fin := fun hid hh h' w => let z := left_fin (a0 := a0) hb I G x1 x2 x3 x4 x5 x6 hid hh h' w; k h' z.1 z.2.1 z.2.2
  rcases x8 with x8 | ⟨T, oT, ts, w1, w2, w3, w4, w5, w6, w7⟩
  · refine wpAny_leaving_firstW (base := hideAll s.heap (e :: fs (env :: envs))) hfr (ffh _ fun b hb => .tail _ hb) hf x3 (fun b o q => of_hideAll _ q) (hideAll_none _ (.head _)) x6 x8 x7 (fin _ fun b hb => ?_)
    rcases List.mem_cons.mp hb with rfl | hb
    · exact .inl (.inl rfl)
    · exact .inr hb
  · refine wpAny_leaving_nextW (base := hideAll s.heap (e :: T :: fs (env :: envs))) (cls := oe.cls) (a0 := a0) hfr (ffh _ fun b hb => .tail _ (.tail _ hb)) hf ⟨oe, vs, T, oT, ts, x3, ⟨rfl, x7⟩, x6, w1, hideAll_none _ (.tail _ (.head _)), w4, w5, w6, w7⟩ (fun b o q => of_hideAll _ q) (hideAll_none _ (.head _)) (fin _ fun b hb => ?_)
    rcases List.mem_cons.mp hb with rfl | hb
    · exact .inl (.inl rfl)
    · rcases List.mem_cons.mp hb with rfl | hb
      · exact .inl (.inr ⟨w2, w3, oT, ts, w5, w6⟩)
      · exact .inr hb
end
end Mine
end
section
open PySem PySem.W PyProof.Rows PySem.Calls
set_option Elab.async false
set_option maxRecDepth 100000
set_option linter.unusedVariables false
namespace Mine

/-! ## Calls of the text's own defs -/
noncomputable def fdAt (K : Frag) (a : Addr) : FuncData := match K.lookup a with | some ⟨_, _, .func fd, _⟩ => fd | _ => default
noncomputable def isFd (K : Frag) (a : Addr) : Bool := match K.lookup a with | some ⟨_, _, .func _, _⟩ => true | _ => false
theorem fd_of {K : Frag} {h : Heap} {a : Addr} (X : K.In h) (e : isFd K a = true) : ∃ o, h.get? a = some o ∧ o.data = .func (fdAt K a) := by
  unfold isFd at e
  unfold fdAt
  split at e
  · rename_i c d fd sl ho; exact ⟨_, X _ _ ho, rfl⟩
  · cases e
noncomputable def adr (K : Frag) (f : Str) : Addr := match nsIn K mainGlobals f with | some (some (.ref a)) => a | _ => 0
structure FnA (K : Frag) (a : Addr) (params : List Str) (bd : List Stmt) (sc : Scope) : Prop where
  is : isFd K a = true
  body : (fdAt K a).body = .stmts bd
  scope : (fdAt K a).scope = sc
  code : codeIn K (fdAt K a).code (fdAt K a).qualname = true
  ground : (fdAt K a).globals = mainGlobals ∧ (fdAt K a).builtins = builtinsNs ∧ (fdAt K a).closure = []
  bind : ∀ vs, vs.length = params.length → bindArgs (fdAt K a) ⟨vs, []⟩ = pure (params.zip vs)
  kinds : (params.all fun x => sc.names.lookup x == some .local || sc.names.lookup x == some .cell) = true
  nodup : params.Nodup
  sort : sc.kind = .function ∧ sc.isCoroutine = false ∧ sc.isGenerator = false

structure FnF (K : Frag) (f : Str) (params : List Str) (bd : List Stmt) (sc : Scope) : Prop where
  glob : nsIn K mainGlobals f = some (some (.ref (adr K f)))
  fn : FnA K (adr K f) params bd sc

theorem bindL_notin {kindOf : Str → Option NameKind} {x : Str} : ∀ {bs : List (Str × Value)} {m : Str → Option Value}, x ∉ bs.map (·.1) → bindL kindOf bs m x = m x
  | [], _, _ => rfl
  | (n, v) :: r, m, h => by
    have h1 : x ≠ n := fun q => h (by simp [q])
    have h2 : x ∉ r.map (·.1) := fun q => h (by simp at q ⊢; exact .inr q)
    unfold bindL
    rw [bindL_notin h2]
    split
    · exact if_neg h1
    · rfl
theorem bindC_notin {kindOf : Str → Option NameKind} {x : Str} : ∀ {bs : List (Str × Value)} {m : Str → Option Value}, x ∉ bs.map (·.1) → bindC kindOf bs m x = m x
  | [], _, _ => rfl
  | (n, v) :: r, m, h => by
    have h1 : x ≠ n := fun q => h (by simp [q])
    have h2 : x ∉ r.map (·.1) := fun q => h (by simp at q ⊢; exact .inr q)
    unfold bindC
    rw [bindC_notin h2]
    split
    · rfl
    · exact if_neg h1
theorem zip_fst_sub {α β : Type} {x : α} {l : List α} {r : List β} (h : x ∈ (l.zip r).map (·.1)) : x ∈ l := by
  obtain ⟨p, hp, rfl⟩ := List.mem_map.mp h
  exact (List.of_mem_zip hp).1
theorem bind_rel {ρ : Loc → Addr} {nx : Nat} {kindOf : Str → Option NameKind} {ps : List Str} {as : List AV} {vs : List Value} (hl : as.length = ps.length) (hnd : ps.Nodup) (rr : VRs ρ nx as vs) (m mc : Str → Option Value) {x : Str} {v : AV} (e : (ps.zip as).lookup x = some v) :
    x ∈ ps ∧ ∃ v', VR ρ nx v v' ∧ (kindOf x = some .local → bindL kindOf (ps.zip vs) m x = some v') ∧ (kindOf x ≠ some .local → bindC kindOf (ps.zip vs) mc x = some v') := by
  induction ps generalizing as vs m mc with
  | nil => simp at e
  | cons p ps ih =>
    cases rr with
    | nil => simp at hl
    | cons r rr =>
      rename_i a w as vs
      rw [List.zip_cons_cons, List.lookup_cons] at e
      rw [List.nodup_cons] at hnd
      rw [List.zip_cons_cons]
      by_cases q : x = p
      · subst q
        simp at e; subst e
        have hni : x ∉ (ps.zip vs).map (·.1) := fun z => hnd.1 (zip_fst_sub z)
        refine ⟨.head _, w, r, fun hk => ?_, fun hk => ?_⟩
        · unfold bindL; rw [bindL_notin hni, if_pos hk]; exact if_pos rfl
        · unfold bindC; rw [bindC_notin hni, if_neg hk]; exact if_pos rfl
      · rw [beq_eq_false_iff_ne.mpr q] at e
        obtain ⟨h1, v', h2, h3, h4⟩ := ih (by simpa using hl) hnd.2 rr (if kindOf p = some .local then fun y => if y = p then some w else m y else m) (if kindOf p = some .local then mc else fun y => if y = p then some w else mc y) e
        exact ⟨.tail _ h1, v', h2, fun hk => by unfold bindL; exact h3 hk, fun hk => by unfold bindC; exact h4 hk⟩
theorem cellsFrom_has {x : Str} : ∀ {names : List (Str × NameKind)} {n : Nat} {acc : List (Str × Addr)}, (x ∈ acc.map (·.1) ∨ names.lookup x = some .cell) → x ∈ (cellsFrom n names acc).map (·.1)
  | [], n, acc, h => h.elim id fun q => by simp at q
  | (y, k) :: r, n, acc, h => by
    unfold cellsFrom
    split
    · rename_i hk
      refine cellsFrom_has ?_
      rcases h with h | h
      · exact .inl (by simp at h ⊢; exact .inr h)
      · rw [List.lookup_cons] at h
        split at h
        · rename_i hy; exact .inl (by simp [beq_iff_eq.mp hy])
        · exact .inr h
    · rename_i hk
      refine cellsFrom_has ?_
      rcases h with h | h
      · exact .inl h
      · rw [List.lookup_cons] at h
        split at h
        · cases h; exact absurd rfl hk
        · exact .inr h
theorem lookup_isSome_of_mem {α : Type} {x : Str} : ∀ {l : List (Str × α)}, x ∈ l.map (·.1) → (l.lookup x).isSome = true
  | [], h => by simp at h
  | (y, v) :: r, h => by
    rw [List.lookup_cons]
    split
    · rfl
    · rename_i hy
      refine lookup_isSome_of_mem ?_
      rcases List.mem_cons.mp h with q | q
      · exact absurd q (by simpa using hy)
      · exact q
theorem pair_apart {l : List (Str × Addr)} (h : l.Pairwise fun x y => x.2 ≠ y.2) : ∀ {x y : Str} {c : Addr}, (x, c) ∈ l → (y, c) ∈ l → x = y := by
  induction h with
  | nil => intro _ _ _ h; cases h
  | cons h1 _ ih =>
    intro x y c h2 h3
    rcases List.mem_cons.mp h2 with q2 | q2 <;> rcases List.mem_cons.mp h3 with q3 | q3
    · rw [← q2] at q3; exact (congrArg Prod.fst q3).symm
    · exact absurd (by rw [← q2]) (h1 _ q3)
    · exact absurd (by rw [← q3]) (h1 _ q2)
    · exact ih q2 q3

structure Entered (C C' : Cx) (scope : Scope) : Prop where
  fn : C'.env.func.isSome = true
  KF : C'.KF = C.KF
  w : C'.w = C.w
  prog : C'.prog = C.prog
  h₀ : C'.h₀ = C.h₀
  n : C'.n + 1 = C.n
  kind : ∀ x, C'.env.kindOf x = scope.names.lookup x
  scope : C'.env.scope = scope
  top : ∃ L, C'.envs = C'.env :: C.envs ∧ C'.env.frame = some L

/-- what a call of a def does, as the code it is -/
noncomputable def SFA (C : Cx) (a : Addr) (args : List AV) (S : St) (P : AV → St → Prop) (X : St → Prop) : Prop :=
  COk C → ∀ ρ s (R : Result → Shared → Prop) vs, Inv C.h₀ C.envs ρ S s.heap → VRs ρ S.nx args vs → KV C ρ S s P (fun v s' => R (.ok (.ret v)) s') → KX C ρ S s X (fun e s' => R (.error e) s') → codeAny (model C.prog C.w) C.A (.call (.ref a) ⟨vs, []⟩) R s
abbrev SF (C : Cx) (f : Str) (args : List AV) (S : St) (P : AV → St → Prop) (X : St → Prop) : Prop := SFA C (adr C.KF f) args S P X
theorem SFA.mono {C : Cx} {a : Addr} {args : List AV} {S : St} {P P' : AV → St → Prop} {X X' : St → Prop} (H : SFA C a args S P X) (h : ∀ v S', P v S' → P' v S') (hx : ∀ S', X S' → X' S') : SFA C a args S P' X' :=
  fun c ρ s R vs I r k kx => H c ρ s R vs I r (fun v S' ρ' h' tk v' p => k v S' ρ' h' tk v' (h v S' p)) (fun S' ρ' h' tk e p => kx S' ρ' h' tk e (hx S' p))

theorem Go.outer {L : Addr} {F : List Addr} {ρ ρ' : Loc → Addr} {S S' : St} {h h' : Heap} (hL : h.get? L = none) (G : Go (L :: F) ρ S h ρ' S' h') : Go F ρ S h ρ' S' h' :=
  { G with keep := fun b o e hi hf => G.keep b o e hi fun q => by
             rcases List.mem_cons.mp q with rfl | q
             · rw [hL] at e; cases e
             · exact hf q
           slot := fun b o e hi hf => G.slot b o e hi (.tail _ hf) }
theorem Inv.outer {h₀ : Heap} {env : Env} {envs : List Env} {ρ : Loc → Addr} {S : St} {h : Heap} {L : Addr} (hf : env.frame = some L) (I : Inv h₀ (env :: envs) ρ S h) : Inv h₀ envs ρ S h :=
  { I with ff := fun e he => I.ff e (.tail _ he), off := fun l e q => I.off l e (by unfold fs; rw [List.filterMap_cons, hf]; exact .tail _ q) }

section
variable {C : Cx} {fr : Frm} {S : St} {P : AV → St → Prop} {X : St → Prop}
theorem SFA.body {a : Addr} {params : List Str} {body : List Stmt} {scope : Scope} {args : List AV} (H : FnA C.KF a params body scope) (hn : 1 ≤ C.n) (hlen : args.length = params.length)
    (h : ∀ C', Entered C C' scope → SL C' (params.zip args) body S (fun _ S' => P .none S') P X) : SFA C a args S P X := fun c ρ s R vs I r k kx => by
  have K := c.K I
  obtain ⟨o, ho, hd⟩ := fd_of K H.is
  generalize hfd : fdAt C.KF a = fd at hd
  have hsc : fd.scope = scope := by rw [← hfd]; exact H.scope
  have hgr := H.ground
  rw [hfd] at hgr
  obtain ⟨g1, g2, g3⟩ := hgr
  obtain ⟨p, loose, mg, mb, T⟩ := c.g.T
  have hlv : vs.length = params.length := by rw [r.length, hlen]
  have hb := H.bind vs hlv
  rw [hfd] at hb
  have hcode := H.code
  rw [hfd] at hcode
  have hbody := H.body
  rw [hfd] at hbody
  refine codeAny_call_cells (by have := c.depth; (first | lia | omega)) ho hd (T.nolimit.keeps I.stays) (codeRec_of K hcode) hbody hb g3 ?_ ?_ (by rw [hsc]; exact H.sort.2.1) (by rw [hsc]; exact H.sort.2.2) (by rw [hsc]; exact H.sort.1)
  · intro x hx
    have hxp : x.1 ∈ params := (List.of_mem_zip (show (x.1, x.2) ∈ params.zip vs from hx)).1
    have := List.all_eq_true.mp H.kinds x.1 hxp
    rw [hsc]
    rw [Bool.or_eq_true, beq_iff_eq, beq_iff_eq] at this
    rcases this with q | q
    · exact .inl q
    · exact .inr ⟨q, lookup_isSome_of_mem (cellsFrom_has (.inr q))⟩
  · intro s₁ x
    obtain ⟨h₁, tk, rfl⟩ := x.toInCall.same
    generalize hL : s.heap.objs.size = L at x ⊢
    have hns := x.toInCall.ns
    have hke := x.toInCall.keep
    have hfresh : s.heap.get? L = none := by rw [← hL]; exact fresh_size
    let C' : Cx := { C with n := C.n - 1, A := C.A.deeper (callEnvC fd L a), env := callEnvC fd L a, envs := callEnvC fd L a :: C.envs }
    have hfrm : (callEnvC fd L a).frame = some L := rfl
    have hloc : (callEnvC fd L a).locals = L := rfl
    have hkd : ∀ x, C'.env.kindOf x = scope.names.lookup x := fun x => by
      show fd.scope.names.lookup x = _; rw [hsc]
    have ent : Entered C C' scope := ⟨rfl, rfl, rfl, rfl, rfl, by show C.n - 1 + 1 = C.n; (first | lia | omega), hkd, hsc, L, rfl, rfl⟩
    have c' : COk C' := by
      refine ⟨c.g, Around.frames_deeper c.frames, c.handled, ?_, ?_, ?_, g1, g2⟩
      · show C.A.depth + 1 + (C.n - 1) < _; have := c.depth; (first | lia | omega)
      · show C.A.units + 3 + 8 * (C.n - 1) + 64 < _; have := c.units; (first | lia | omega)
      · show fd.scope.kind = _; rw [hsc]; exact H.sort.1
    have above : ∀ n cc, C'.env.cells.lookup n = some cc → L < cc := fun n cc e => x.above n cc (mem_of_lookup e)
    have newAt : ∀ a, L ≤ a → s.heap.get? a = none := fun a ha => by
      cases q : s.heap.get? a with
      | none => rfl
      | some o => exact absurd (Heap.lt_size q) (by rw [hL]; exact Nat.not_lt.mpr ha)
    have new0 : ∀ a, L ≤ a → C.h₀.get? a = none := fun a ha => by
      cases q : C.h₀.get? a with
      | none => rfl
      | some o => have := I.stays a o q; rw [newAt a ha] at this; cases this
    obtain ⟨oL, eL, dL, _⟩ := Ns.ob hns
    have offImg : ∀ a, L ≤ a → ¬ Img ρ S a := fun a ha q => by
      obtain ⟨o, e⟩ := I.img_get q
      rw [newAt a ha] at e; cases e
    have I₁ : Inv C'.h₀ C'.envs ρ S h₁ := by
      have I0 := I.kept (h' := h₁) hke
      refine { I0 with ff := fun env he => ?_, off := fun l hl q => ?_ }
      · rcases List.mem_cons.mp he with rfl | he
        · refine ⟨?_, L, oL, rfl, new0 L (Nat.le_refl _), eL, dL⟩
          show fd.scope.kind ≠ _; rw [hsc, H.sort.1]; decide
        · exact I0.ff env he
      · rcases List.mem_cons.mp (show ρ l ∈ L :: fs C.envs from q) with q | q
        · exact offImg L (Nat.le_refl _) ⟨l, hl, q⟩
        · exact I0.off l hl q
    have F₁ : FrR C'.h₀ C'.env (params.zip args) ρ S h₁ := by
      refine ⟨fun y v e => ?_, ⟨_, hns⟩, fun y hy => ?_, fun y cc hcc => ⟨_, x.cell y cc hcc⟩, fun y z cc e1 e2 => pair_apart x.apart (mem_of_lookup e1) (mem_of_lookup e2), offImg L (Nat.le_refl _), new0 L (Nat.le_refl _), fun y cc e => new0 cc (Nat.le_of_lt (above y cc e))⟩
      · obtain ⟨hy, v', rv, q1, q2⟩ := bind_rel (kindOf := C'.env.kindOf) hlen H.nodup r (fun _ => none) (fun _ => none) e
        have := List.all_eq_true.mp H.kinds y hy
        rw [Bool.or_eq_true, beq_iff_eq, beq_iff_eq] at this
        rcases this with q | q
        · exact .inl ⟨by rw [hkd]; exact q, _, v', hns, q1 (by rw [hkd]; exact q), rv⟩
        · have hk : C'.env.kindOf y = some .cell := by rw [hkd]; exact q
          have hs : (C'.env.cells.lookup y).isSome = true := by
            show ((cellsFrom (L + 1) fd.scope.names []).lookup y).isSome = true
            rw [hsc]; exact lookup_isSome_of_mem (cellsFrom_has (.inr q))
          obtain ⟨cc, hcc⟩ := Option.isSome_iff_exists.mp hs
          refine .inr ⟨hk, cc, v', hcc, ?_, rv⟩
          rw [← q2 (by rw [hk]; simp)]
          exact x.cell y cc hcc
      · have hs : (C'.env.cells.lookup y).isSome = true := by
          show ((cellsFrom (L + 1) fd.scope.names []).lookup y).isSome = true
          rw [hsc]; rw [hkd] at hy; exact lookup_isSome_of_mem (cellsFrom_has (.inr hy))
        exact Option.isSome_iff_exists.mp hs
    refine h C' ent c' ρ S s.heap ρ { s with heap := h₁, toks := tk } _ _ I.bnd ⟨hfresh, fun _ y cc e => newAt cc (Nat.le_of_lt (above y cc e))⟩ (Go.kept I.bnd hke) I₁ F₁ (fun fr' S' ρ' h' tk' p g G' I' F' => ?_) (fun v S' ρ' h' tk' v' p G' I' rv => ?_) (fun S' ρ' h' tk' e p G' I' xx => ?_)
    · exact k .none S' ρ' h' tk' .none p (Go.outer hfresh G') (I'.outer hfrm) rfl
    · exact k v S' ρ' h' tk' v' p (Go.outer hfresh G') (I'.outer hfrm) rv
    · exact leave_sound (s := { s with heap := h', toks := tk' }) c'.frames hfrm I.bnd I' G' xx fun h'' G2 I2 x2 => kx S' ρ' h'' tk' e p (Go.outer hfresh G2) (I2.outer hfrm) x2

theorem SF.call {f : Str} {args : List AV} (H : SF C f args S P X) (c : COk C) {ρ : Loc → Addr} {s : Shared} {Q E : Value → Shared → Prop} {vs : List Value} (I : Inv C.h₀ C.envs ρ S s.heap) (r : VRs ρ S.nx args vs) (k : KV C ρ S s P Q) (kx : KX C ρ S s X E) :
    wpAny (model C.prog C.w) C.A (PySem.call (.ref (adr C.KF f)) vs) Q E s := wpAny_call (H c ρ s _ vs I r k kx)
theorem SE.call {f : Str} {np pos : Pos} {e : Expr} {es : List Expr} (hk : C.env.kindOf f = some .globalImplicit) (hv : nsIn C.KF mainGlobals f = some (some (.ref (adr C.KF f)))) (hi : isFd C.KF (adr C.KF f) = true)
    (h : SAs C fr (e :: es) S (fun vs S' => SF C f vs S' P X) X) (he : ∀ env, starEach (e :: es) env = (false, eval e env) :: starEach es env := by intro _; rfl) (hd : (f == ("__debug__" : Str)) = false := by decide) : SE C fr (.Call (.Name f np) (e :: es) [] pos) S P X := fun c ρ s Q E I F k kx => by
  obtain ⟨o, ho, hd'⟩ := fd_of c.g.K hi
  refine wpAny_Call_NameR (Name_function_global c.kind hk (mg_glb (h := s.heap) c.g I.stays c.glob hv ?_) hd)
  refine callWith_def hd' (h c ρ s _ E pos I F (fun vs S₁ ρ₁ h₁ t₁ ws p G₁ I₁ r => ⟨I₁.stays _ _ ho, ?_⟩) kx) (he _)
  exact SF.call p c (s := { s with heap := h₁, toks := t₁ }) I₁ r (k.step I G₁) (kx.step I G₁)
end
end Mine
end
section
open PySem PySem.W PyProof.Rows PySem.Calls
set_option Elab.async false
set_option maxRecDepth 100000
set_option linter.unusedVariables false
namespace Mine

/-! ## Loops -/
noncomputable def ownL (env : Env) : List Addr := env.locals :: (if env.func.isSome then env.cells.filterMap fun p => env.cells.lookup p.1 else [])
theorem ownL_cell {env : Env} {x : Str} {c : Addr} (hf : env.func.isSome = true) (e : env.cells.lookup x = some c) : c ∈ ownL env := .tail _ (by rw [if_pos hf]; exact List.mem_filterMap.mpr ⟨(x, c), mem_of_lookup e, e⟩)
theorem ownL_mem {env : Env} {b : Addr} (h : b ∈ ownL env) : b = env.locals ∨ (env.func.isSome = true ∧ ∃ x, env.cells.lookup x = some b) := by
  rcases List.mem_cons.mp h with q | q
  · exact .inl q
  · split at q
    · rename_i hf
      obtain ⟨p, _, e⟩ := List.mem_filterMap.mp q; exact .inr ⟨hf, p.1, e⟩
    · cases q
noncomputable def hideOwn (env : Env) (h : Heap) : Heap := hideAll h (ownL env)
theorem own_hide (env : Env) (h : Heap) : Own env (hideOwn env h) := ⟨hideAll_none _ (.head _), fun hf x c e => hideAll_none _ (ownL_cell hf e)⟩
theorem Own.not {env : Env} {he : Heap} (ow : Own env he) {b : Addr} {o : Obj} (e : he.get? b = some o) : b ∉ ownL env := fun q => by
  rcases ownL_mem q with rfl | ⟨hf, x, q⟩
  · rw [ow.1] at e; cases e
  · rw [ow.2 hf x b q] at e; cases e
theorem Go.hide {F : List Addr} {ρ : Loc → Addr} {S : St} {h : Heap} (env : Env) (hb : Bnd S) : Go F ρ S (hideOwn env h) ρ S h := Go.kept hb fun b o e => of_hideAll _ e
theorem Go.join {F : List Addr} {ρe ρ ρ' : Loc → Addr} {Se S S' : St} {he h h' : Heap} {env : Env} (hb : Bnd Se) (ow : Own env he) (G : Go F ρe Se he ρ S h) (G' : Go F ρ S (hideOwn env h) ρ' S' h') : Go F ρe Se he ρ' S' h' where
  nx := Nat.le_trans G.nx G'.nx
  agree := fun l hl => (G'.agree l (Nat.lt_of_lt_of_le hl G.nx)).trans (G.agree l hl)
  dom := fun l hl e => G.dom l hl (G'.dom l (Nat.lt_of_lt_of_le hl G.nx) e)
  fresh := fun l hl e => by
    by_cases q : l < S.nx
    · rw [G'.agree l q]; exact G.fresh l hl (G'.dom l q e)
    · have e1 := G'.fresh l (Nat.not_lt.mp q) e
      cases e2 : he.get? (ρ' l) with
      | none => rfl
      | some o =>
        obtain ⟨o', e3⟩ := G.mono _ _ e2
        rw [show (hideOwn env h).get? (ρ' l) = some o' from hideAll_get _ e3 (ow.not e2)] at e1; cases e1
  keep := fun b o e hi hf => G'.keep b o (hideAll_get _ (G.keep b o e hi hf) (ow.not e)) (G.img hb e hi) hf
  slot := fun b o e hi hf => by
    obtain ⟨sl, e1⟩ := G.slot b o e hi hf
    obtain ⟨sl', e2⟩ := G'.slot b _ (hideAll_get _ e1 (ow.not e)) (G.img hb e hi) hf
    exact ⟨sl', e2⟩
  mono := fun b o e => by
    obtain ⟨o', e1⟩ := G.mono b o e
    exact G'.mono b o' (hideAll_get _ e1 (ow.not e))
abbrev noX : St → Prop := fun _ => False
theorem KE.no {C : Cx} {ρe : Loc → Addr} {Se : St} {he : Heap} {s : Shared} {E : Value → Shared → Prop} : KE C ρe Se he s noX E := fun _ _ _ _ _ p => p.elim
theorem KX.no {C : Cx} {ρ : Loc → Addr} {S : St} {s : Shared} {E : Value → Shared → Prop} : KX C ρ S s noX E := fun _ _ _ _ _ p => p.elim
theorem not_img_free {h₀ : Heap} {envs : List Env} {ρ : Loc → Addr} {S : St} {h : Heap} {a : Addr} (I : Inv h₀ envs ρ S h) (e : h.get? a = none) : ¬ Img ρ S a := fun q => by
  obtain ⟨o, e'⟩ := I.img_get q
  rw [e] at e'; cases e'

/-- a thing of the interpreter's own (an iterator, its tuples): none of the store's, none of the frames' -/
structure Rec (h₀ he : Heap) (envs : List Env) (ρ : Loc → Addr) (S : St) (h : Heap) (a : Addr) : Prop where
  img : ¬ Img ρ S a
  new : h₀.get? a = none
  newE : he.get? a = none
  off : a ∉ fs envs
  fld : ∃ o, h.get? a = some o ∧ (∀ v, o.data ≠ .cell v) ∧ (∀ ds n, o.data ≠ .dict ds n)
noncomputable def Recs (h₀ he : Heap) (envs : List Env) (ρ : Loc → Addr) (S : St) (h : Heap) (l : List Addr) : Prop := ∀ a ∈ l, Rec h₀ he envs ρ S h a
/-- made just now -/
theorem Rec.made {h₀ he : Heap} {envs : List Env} {F : List Addr} {ρe ρ : Loc → Addr} {Se S : St} {h h' : Heap} {a : Addr} {o : Obj} (I : Inv h₀ envs ρ S h) (G : Go F ρe Se he ρ S h) (e : h.get? a = none) (e' : h'.get? a = some o)
    (d1 : ∀ v, o.data ≠ .cell v) (d2 : ∀ ds n, o.data ≠ .dict ds n) : Rec h₀ he envs ρ S h' a where
  img := not_img_free I e
  new := by
    cases q : h₀.get? a with
    | none => rfl
    | some o => have := I.stays _ o q; rw [e] at this; cases this
  newE := none_back G e
  off := fun q => by
    obtain ⟨_, o', e1, _⟩ := I.ff.mem q
    rw [e] at e1; cases e1
  fld := ⟨o, e', d1, d2⟩
section
variable {h₀ he : Heap} {envs : List Env} {ρ : Loc → Addr} {S : St} {h h' : Heap} {wr : List Addr}
theorem Inv.byRec (I : Inv h₀ envs ρ S h) (R : Recs h₀ he envs ρ S h wr) (hs : ∀ b o, b ∉ wr → h.get? b = some o → h'.get? b = some o) : Inv h₀ envs ρ S h' where
  stays := fun b o e => hs b o (fun q => by rw [(R b q).new] at e; cases e) (I.stays b o e)
  bnd := I.bnd
  rep := fun l o e => by
    obtain ⟨ob, e', r⟩ := I.rep l o e
    exact ⟨ob, hs _ _ (fun q => (R _ q).img ⟨l, by rw [e]; simp, rfl⟩) e', r⟩
  inj := I.inj
  new := I.new
  ff := fun env he' => by
    obtain ⟨x1, L, o, x2, x3, x4, x5⟩ := I.ff env he'
    exact ⟨x1, L, o, x2, x3, hs L o (fun q => (R L q).off (List.mem_filterMap.mpr ⟨env, he', x2⟩)) x4, x5⟩
  off := I.off
theorem Go.byRec {F : List Addr} {ρe : Loc → Addr} {Se : St} (G : Go F ρe Se he ρ S h) (R : Recs h₀ he envs ρ S h wr) (hs : ∀ b o, b ∉ wr → h.get? b = some o → h'.get? b = some o) : Go F ρe Se he ρ S h' where
  nx := G.nx
  agree := G.agree
  dom := G.dom
  fresh := G.fresh
  keep := fun b o e hi hf => hs b o (fun q => by rw [(R b q).newE] at e; cases e) (G.keep b o e hi hf)
  slot := fun b o e hi hf => by obtain ⟨sl, e'⟩ := G.slot b o e hi hf; exact ⟨sl, hs b _ (fun q => by rw [(R b q).newE] at e; cases e) e'⟩
  mono := fun b o e => by
    obtain ⟨o', e'⟩ := G.mono b o e
    exact ⟨o', hs b _ (fun q => by rw [(R b q).newE] at e; cases e) e'⟩
theorem FrR.byRec {env : Env} {fr : Frm} (F : FrR h₀ env fr ρ S h) (R : Recs h₀ he envs ρ S h wr) (hs : ∀ b o, b ∉ wr → h.get? b = some o → h'.get? b = some o) : FrR h₀ env fr ρ S h' := by
  have nL : env.locals ∉ wr := fun q => by
    obtain ⟨oa, ea, d1, d2⟩ := (R _ q).fld
    obtain ⟨m, o', es, ep, e1, d, _⟩ := F.ns
    rw [ea] at e1; cases e1; exact d2 _ _ d
  have nC : ∀ c v, h.IsCell c v → h'.IsCell c v := fun c v ⟨o, e, d⟩ => ⟨o, hs c o (fun q => by
    obtain ⟨oa, ea, d1, d2⟩ := (R _ q).fld
    rw [ea] at e; cases e; exact d1 _ d) e, d⟩
  have nN : ∀ m, h.Ns env.locals m → h'.Ns env.locals m := fun m ⟨o, es, ep, e, r⟩ => ⟨o, es, ep, hs _ o nL e, r⟩
  exact { look := fun x v e => by
            rcases F.look x v e with ⟨k, m, v', a1, b, c⟩ | ⟨k, c, v', a1, b, d⟩
            · exact .inl ⟨k, m, v', nN m a1, b, c⟩
            · exact .inr ⟨k, c, v', a1, nC _ _ b, d⟩
          ns := by obtain ⟨m, a1⟩ := F.ns; exact ⟨m, nN m a1⟩
          cells := F.cells
          isc := fun x c e => by obtain ⟨v, b⟩ := F.isc x c e; exact ⟨v, nC _ _ b⟩
          apart := F.apart
          offL := F.offL
          newL := F.newL
          newC := F.newC }
theorem Rec.stays {env : Env} {fr : Frm} {ρ' : Loc → Addr} {S' : St} {a : Addr} (R : Rec h₀ he envs ρ S h a) (I : Inv h₀ envs ρ S h) (F : FrR h₀ env fr ρ S h) (G : Go (fs envs) ρ S (hideOwn env h) ρ' S' h') :
    Rec h₀ he envs ρ' S' h' a ∧ ∀ o, h.get? a = some o → h'.get? a = some o := by
  obtain ⟨oa, ea, d1, d2⟩ := R.fld
  have ho : a ∉ ownL env := fun q => by
    rcases ownL_mem q with rfl | ⟨_, x, q⟩
    · obtain ⟨m, o', es, ep, e1, d, _⟩ := F.ns
      rw [ea] at e1; cases e1; exact d2 _ _ d
    · obtain ⟨v, o', e1, d⟩ := F.isc x a q
      rw [ea] at e1; cases e1; exact d1 _ d
  have z1 := G.keep a oa (hideAll_get _ ea ho) R.img R.off
  have z2 := G.img I.bnd (hideAll_get _ ea ho) R.img
  exact ⟨⟨z2, R.new, R.newE, R.off, oa, z1, d1, d2⟩, fun o e => by rw [ea] at e; cases e; exact z1⟩
theorem Rec.less {S' : St} {a : Addr} (R : Rec h₀ he envs ρ S h a) (sb : Sub S' S) : Rec h₀ he envs ρ S' h a :=
  { R with img := fun ⟨k, hk, q⟩ => R.img ⟨k, by
      cases w : S'.σ k with
      | none => exact absurd w hk
      | some o => rw [sb.2 k o w]; simp, q⟩ }
theorem Rec.up {ρ' : Loc → Addr} {S' : St} {a : Addr} (R : Rec h₀ he envs ρ S h a) (k : Kept h h') (im : ∀ a o, h.get? a = some o → ¬ Img ρ S a → ¬ Img ρ' S' a) : Rec h₀ he envs ρ' S' h' a := by
  obtain ⟨o, e, d⟩ := R.fld
  exact ⟨im a o e R.img, R.new, R.newE, R.off, o, k _ _ e, d⟩
theorem Rec.at' {a : Addr} {o : Obj} (R : Rec h₀ he envs ρ S h a) (e : h'.get? a = some o) (d1 : ∀ v, o.data ≠ .cell v) (d2 : ∀ ds n, o.data ≠ .dict ds n) : Rec h₀ he envs ρ S h' a := { R with fld := ⟨o, e, d1, d2⟩ }
end

noncomputable def Drawn (C : Cx) (target : Expr) (I : Addr) (Qn Ks : Shared → Prop) (E : Value → Shared → Prop) (s : Shared) : Prop :=
  wpAny (model C.prog C.w) C.A (pyNext (.ref I)) (fun r s₁ => match r with | none => Qn s₁ | some v => wpAny (model C.prog C.w) C.A (letOwnedTupleGo target (.ref I) v) (fun _ s₂ => wpAny (model C.prog C.w) C.A (assign target C.env v) (fun _ s₃ => Ks s₃) E s₂) E s₁) E s
structure Feed (C : Cx) (ρe : Loc → Addr) (Se : St) (he : Heap) (target : Expr) (I : Addr) (n : Nat) (Sti : Nat → (Loc → Addr) → St → Heap → Prop) (Av : Nat → St → Prop) (item : Nat → Frm → St → Frm → St → Prop) : Prop where
  stab : ∀ i fr ρ S h ρ' S' h', Sti i ρ S h → Inv C.h₀ C.envs ρ S h → FrR C.h₀ C.env fr ρ S h → Gr ρ S ρ' S' → Go (fs C.envs) ρ S (hideOwn C.env h) ρ' S' h' → Sti i ρ' S' h'
  less : ∀ i ρ S S' h, Sti i ρ S h → Sub S' S → Sti i ρ S' h
  kept : ∀ i ρ S h ρ' S' h', Sti i ρ S h → Gr ρ S ρ' S' → Kept h h' → (∀ a o, h.get? a = some o → ¬ Img ρ S a → ¬ Img ρ' S' a) → Sti i ρ' S' h'
  self : ∀ i ρ S s (Q : Value → Shared → Prop) E, Sti i ρ S s.heap → Q (.ref I) s → wpAny (model C.prog C.w) C.A (pyIter (.ref I)) Q E s
  draw : ∀ i fr ρ S s (Qn Ks : Shared → Prop) E, i < n → Go (fs C.envs) ρe Se he ρ S s.heap → Inv C.h₀ C.envs ρ S s.heap → FrR C.h₀ C.env fr ρ S s.heap → Sti i ρ S s.heap → Av i S →
      (∀ fr₁ S₁ ρ₁ h₁ tk, item i fr S fr₁ S₁ → Gr ρ S ρ₁ S₁ → Go (fs C.envs) ρe Se he ρ₁ S₁ h₁ → Inv C.h₀ C.envs ρ₁ S₁ h₁ → FrR C.h₀ C.env fr₁ ρ₁ S₁ h₁ → Sti (i + 1) ρ₁ S₁ h₁ → Ks { s with heap := h₁, toks := tk }) → Drawn C target I Qn Ks E s
  fin : ∀ fr ρ S s (Qn Ks : Shared → Prop) E, Go (fs C.envs) ρe Se he ρ S s.heap → Inv C.h₀ C.envs ρ S s.heap → FrR C.h₀ C.env fr ρ S s.heap → Sti n ρ S s.heap → Av n S →
      (∀ h₁ tk, Go (fs C.envs) ρe Se he ρ S h₁ → Inv C.h₀ C.envs ρ S h₁ → FrR C.h₀ C.env fr ρ S h₁ → Qn { s with heap := h₁, toks := tk }) → Drawn C target I Qn Ks E s

section
variable {C : Cx} {PN : Frm → St → Prop} {PR : AV → St → Prop} {X : St → Prop}
variable {ρe : Loc → Addr} {Se : St} {he : Heap} {s₀ : Shared}
theorem for_feed {target : Expr} {body : List Stmt} {I : Addr} (c : COk C) (hbe : Bnd Se) (ow : Own C.env he) {n : Nat} {J : Nat → Frm → St → Prop} {Sti : Nat → (Loc → Addr) → St → Heap → Prop} {Av : Nat → St → Prop} {item : Nat → Frm → St → Frm → St → Prop}
    (fd : Feed C ρe Se he target I n Sti Av item)
    (turn : ∀ i fr S, J i fr S → i < n → Av i S ∧ ∀ fr₁ S₁, item i fr S fr₁ S₁ → SL C fr₁ body S₁ (fun fr₃ S₃ => ∃ fr₄ S₄, Le fr₄ fr₃ ∧ Sub S₄ S₃ ∧ J (i + 1) fr₄ S₄) PR noX)
    (done : ∀ fr S, J n fr S → Av n S ∧ PN fr S) {fr : Frm} {ρ : Loc → Addr} {S : St} {s : Shared} {Q : Flow → Shared → Prop} {R : Result → Shared → Prop} (hR : ∀ f s', Q f s' → R (.ok f) s')
    (G : Go (fs C.envs) ρe Se he ρ S s.heap) (I₀ : Inv C.h₀ C.envs ρ S s.heap) (F : FrR C.h₀ C.env fr ρ S s.heap) (st : Sti 0 ρ S s.heap) (j : J 0 fr S)
    (kn : KN C ρe Se he ρ S s PN Q) (kr : KR C ρe Se he s PR Q) : codeAny (model C.prog C.w) C.A (.forLoop target (.ref I) body [] C.env) R s := by
  refine codeAny_forLoop_any (fun k s' => ∃ i fr' S' ρ' h' tk, s' = { s with heap := h', toks := tk } ∧ i ≤ n ∧ k = n + 1 - i ∧ J i fr' S' ∧ Gr ρ S ρ' S' ∧ Go (fs C.envs) ρe Se he ρ' S' h' ∧ Inv C.h₀ C.envs ρ' S' h' ∧ FrR C.h₀ C.env fr' ρ' S' h' ∧ Sti i ρ' S' h') ?_ (n + 1)
    ⟨0, fr, S, ρ, s.heap, s.toks, rfl, Nat.zero_le _, rfl, j, .refl _ _, G, I₀, F, st⟩
  rintro k s' ⟨i, fr', S', ρ', h', tk, rfl, hi, rfl, j', g', G', I', F', st'⟩
  by_cases hlt : i < n
  · obtain ⟨av, tn⟩ := turn i fr' S' j' hlt
    refine fd.draw i fr' ρ' S' { s with heap := h', toks := tk } _ _ _ hlt G' I' F' st' av fun fr₁ S₁ ρ₁ h₁ tk₁ it g₁ G₁ I₁ F₁ st₁ => ?_
    refine tn fr₁ S₁ it c ρ₁ S₁ (hideOwn C.env h₁) ρ₁ { s with heap := h₁, toks := tk₁ } _ _ I₁.bnd (own_hide _ _) (Go.hide _ I₁.bnd) I₁ F₁ (fun fr₃ S₃ ρ₃ h₃ tk₃ p₃ g₃ G₃ I₃ F₃ => ?_) (fun v S₃ ρ₃ h₃ tk₃ v₃ p₃ G₃ I₃ r₃ => ?_) KE.no
    · obtain ⟨fr₄, S₄, le, sb, j₄⟩ := p₃
      refine ⟨n + 1 - (i + 1), by (first | lia | omega), i + 1, fr₄, S₄, ρ₃, h₃, tk₃, rfl, hlt, rfl, j₄, ?_, ((Go.join hbe ow G₁ G₃).sub sb), I₃.sub sb, (F₃.sub sb).le le, fd.less _ _ _ _ _ (fd.stab _ _ _ _ _ _ _ _ st₁ I₁ F₁ g₃ G₃) sb⟩
      have g03 := (g'.trans g₁).trans g₃
      exact ⟨by rw [sb.1]; exact g03.nx, g03.agree⟩
    · exact hR _ _ (kr v S₃ ρ₃ h₃ tk₃ v₃ p₃ (Go.join hbe ow G₁ G₃) I₃ r₃)
  · obtain rfl : i = n := Nat.le_antisymm hi (Nat.not_lt.mp hlt)
    obtain ⟨av, pn⟩ := done fr' S' j'
    refine fd.fin fr' ρ' S' { s with heap := h', toks := tk } _ _ _ G' I' F' st' av fun h₁ tk₁ G₁ I₁ F₁ => ?_
    exact wpAny_execs_nil (hR _ _ (kn fr' S' ρ' h₁ tk₁ pn g' G₁ I₁ F₁))

/-! ## Targets of loops -/
noncomputable def bN (x : Str) : AV → St → Frm → Frm → Prop := fun v S fr fr₁ => fr₁ = (x, v) :: fr
noncomputable def bT (x y : Str) : AV → St → Frm → Frm → Prop := fun v S fr fr₁ => ∃ l a b, v = .ref l ∧ S.σ l = some (.tuple [a, b]) ∧ fr₁ = (y, b) :: (x, a) :: fr
noncomputable def Binds (C : Cx) (target : Expr) (bnd : AV → St → Frm → Frm → Prop) : Prop := (∀ v S fr fr₁, bnd v S fr fr₁ → ST C fr target v S (fun fr' S' => fr' = fr₁ ∧ S' = S) noX) ∧ ((∀ it v, letOwnedTupleGo target it v = pure ()) ∨ ∃ elts k pos, target = .Tuple elts k pos)
theorem binds_N {x : Str} {px : Pos} (hk : IsV C x) : Binds C (.Name x px) (bN x) := ⟨fun v S fr fr₁ h => .name hk ⟨h.symm, rfl⟩, .inl fun _ _ => rfl⟩
theorem sts_two {fr : Frm} {S : St} {x y : Str} {px py : Pos} {a b : AV} (hx : IsV C x) (hy : IsV C y) : STs C fr [.Name x px, .Name y py] [a, b] S (fun fr' S' => fr' = (y, b) :: (x, a) :: fr ∧ S' = S) noX :=
  .cons (.name hx (.cons (.name hy (.nil ⟨rfl, rfl⟩))))
theorem binds_T {x y : Str} {px py pos : Pos} {k : Nat} (hx : IsV C x) (hy : IsV C y) : Binds C (.Tuple [.Name x px, .Name y py] k pos) (bT x y) := by
  refine ⟨?_, .inr ⟨_, _, _, rfl⟩⟩
  rintro v S fr fr₁ ⟨l, a, b, rfl, e, rfl⟩
  exact .tup e rfl (sts_two hx hy)
/-- a target is assigned inside a loop -/
theorem bind_st {fr fr₁ : Frm} {S : St} {v : AV} {v' : Value} {target : Expr} {ρ : Loc → Addr} {s : Shared} {Ks : Shared → Prop} {E : Value → Shared → Prop} (c : COk C) (hbe : Bnd Se) (ow : Own C.env he) (h : ST C fr target v S (fun fr' S' => fr' = fr₁ ∧ S' = S) noX)
    (G : Go (fs C.envs) ρe Se he ρ S s.heap) (I : Inv C.h₀ C.envs ρ S s.heap) (F : FrR C.h₀ C.env fr ρ S s.heap) (r : VR ρ S.nx v v')
    (k : ∀ ρ₁ h₁ tk, Gr ρ S ρ₁ S → Go (fs C.envs) ρ S (hideOwn C.env s.heap) ρ₁ S h₁ → Go (fs C.envs) ρe Se he ρ₁ S h₁ → Inv C.h₀ C.envs ρ₁ S h₁ → FrR C.h₀ C.env fr₁ ρ₁ S h₁ → Ks { s with heap := h₁, toks := tk }) :
    wpAny (model C.prog C.w) C.A (assign target C.env v') (fun _ s₃ => Ks s₃) E s :=
  h c ρ S (hideOwn C.env s.heap) ρ s _ E v' I.bnd (own_hide _ _) (Go.hide _ I.bnd) I F r (fun fr' S' ρ' h' tk p g G' I' F' => by
    obtain ⟨rfl, rfl⟩ := p
    exact k ρ' h' tk g G' (Go.join hbe ow G G') I' F') KE.no
theorem bind_raw {fr : Frm} {S : St} {a b : AV} {T : Addr} {ws : Array Value} {x y : Str} {px py pos : Pos} {kk : Nat} {ρ : Loc → Addr} {s : Shared} {Ks : Shared → Prop} {E : Value → Shared → Prop} (c : COk C) (hbe : Bnd Se) (ow : Own C.env he) (hx : IsV C x) (hy : IsV C y)
    (hT : s.heap.IsTuple T ws) (G : Go (fs C.envs) ρe Se he ρ S s.heap) (I : Inv C.h₀ C.envs ρ S s.heap) (F : FrR C.h₀ C.env fr ρ S s.heap) (r : VRs ρ S.nx [a, b] ws.toList)
    (k : ∀ ρ₁ h₁ tk, Gr ρ S ρ₁ S → Go (fs C.envs) ρ S (hideOwn C.env s.heap) ρ₁ S h₁ → Go (fs C.envs) ρe Se he ρ₁ S h₁ → Inv C.h₀ C.envs ρ₁ S h₁ → FrR C.h₀ C.env ((y, b) :: (x, a) :: fr) ρ₁ S h₁ → Ks { s with heap := h₁, toks := tk }) :
    wpAny (model C.prog C.w) C.A (assign (.Tuple [.Name x px, .Name y py] kk pos) C.env (.ref T)) (fun _ s₃ => Ks s₃) E s := by
  have hw : ws.size = 2 := by rw [← Array.length_toList, r.length]; rfl
  refine wpAny_assign_Tuple c.handled hT (by rw [hw]; rfl) rfl fun h' hx' => ?_
  have kp : Kept s.heap h' := fun b o e => hx' b o (fun q => by rw [q, fresh_size] at e; cases e) e
  have G1 := Go.kept (F := fs C.envs) (ρ := ρ) I.bnd kp
  refine sts_two hx hy (fr := fr) (S := S) c ρ S (hideOwn C.env s.heap) ρ { s with heap := h' } _ E _ I.bnd (own_hide _ _) (Go.trans I.bnd (Go.hide _ I.bnd) G1) (I.kept kp) (F.go I G1) r (fun fr' S' ρ' h'' tk p g G' I' F' => ?_) KE.no
  obtain ⟨rfl, rfl⟩ := p
  exact k ρ' h'' tk g G' (Go.join hbe ow G G') I' F'
end
end Mine
end
section
open PySem PySem.W PyProof.Rows PySem.Calls
set_option Elab.async false
set_option maxRecDepth 100000
set_option linter.unusedVariables false
namespace Mine

section
variable {C : Cx} {ρe : Loc → Addr} {Se : St} {he : Heap}
/-! ## What loops draw from -/
theorem letgo_list {prog : Program} {w : World} {A : Around} {E : Value → Shared → Prop} {s : Shared} {t : Expr} {I l : Addr} {i : Nat} {v : Value} {Q : Unit → Shared → Prop} (ht : (∀ it v, letOwnedTupleGo t it v = pure ()) ∨ ∃ elts k pos, t = .Tuple elts k pos) (hit : s.heap.IsListIter I l i) (h : Q () s) : wpAny (model prog w) A (letOwnedTupleGo t (.ref I) v) Q E s := by
  rcases ht with ht | ⟨ts, k, pos, rfl⟩
  · rw [ht]; exact wpAny_pure h
  · cases v with
    | ref T => exact wpAny_letOwnedTupleGo_listiter hit h
    | _ => exact wpAny_pure h
theorem rec_of_fields {h₀ : Heap} {envs : List Env} {ρ : Loc → Addr} {S : St} {h h' : Heap} {a : Addr} {o : Obj} {vs : Array Value} (R : Rec h₀ he envs ρ S h a) (e : h'.get? a = some o) (d : o.data = .fields vs) : Rec h₀ he envs ρ S h' a :=
  R.at' e (fun v q => by rw [d] at q; cases q) (fun ds n q => by rw [d] at q; cases q)
theorem one_of {h h' : Heap} {a : Addr} (hs : Heap.SameBut a h h') : ∀ b o, b ∉ [a] → h.get? b = some o → h'.get? b = some o := fun b o hb e => (hs.2 b (by simpa using hb)).trans e
theorem recs_one {h₀ : Heap} {envs : List Env} {ρ : Loc → Addr} {S : St} {h : Heap} {a : Addr} (R : Rec h₀ he envs ρ S h a) : Recs h₀ he envs ρ S h [a] := fun b hb => by rw [List.mem_singleton.mp hb]; exact R

abbrev avL (l : Loc) (n : Nat) (bnd : AV → St → Frm → Frm → Prop) (i : Nat) (S : St) : Prop := ∃ vs, S.σ l = some (.list vs) ∧ vs.length = n ∧ (i < n → ∃ v, vs[i]? = some v ∧ ∀ fr, ∃ fr₁, bnd v S fr fr₁)
abbrev itL (l : Loc) (bnd : AV → St → Frm → Frm → Prop) (i : Nat) (fr : Frm) (S : St) (fr₁ : Frm) (S₁ : St) : Prop := S₁ = S ∧ ∃ vs v, S.σ l = some (.list vs) ∧ vs[i]? = some v ∧ bnd v S fr fr₁
theorem Feed.list (c : COk C) (hbe : Bnd Se) (ow : Own C.env he) {target : Expr} {bnd : AV → St → Frm → Frm → Prop} (hb : Binds C target bnd) (I : Addr) (l : Loc) (n : Nat) :
    Feed C ρe Se he target I n (fun i ρ' S' h' => l < S'.nx ∧ h'.IsListIter I (ρ' l) i ∧ Rec C.h₀ he C.envs ρ' S' h' I) (avL l n bnd) (itL l bnd) where
  stab := by
    rintro i fr' ρ' S' h' ρ'' S'' h'' ⟨a1, ⟨o, b1, b2, b3⟩, a3⟩ I' F' g G'
    obtain ⟨z1, z2⟩ := a3.stays I' F' G'
    exact ⟨Nat.lt_of_lt_of_le a1 g.nx, ⟨o, z2 o b1, b2, by rw [g.agree l a1]; exact b3⟩, z1⟩
  less := by
    rintro i ρ' S' S'' h' ⟨a1, a2, a3⟩ sb
    exact ⟨by rw [sb.1]; exact a1, a2, a3.less sb⟩
  kept := by
    rintro i ρ' S' h' ρ'' S'' h'' ⟨a1, ⟨o, b1, b2, b3⟩, a3⟩ g k im
    exact ⟨Nat.lt_of_lt_of_le a1 g.nx, ⟨o, k _ _ b1, b2, by rw [g.agree l a1]; exact b3⟩, a3.up k im⟩
  self := by
    rintro i ρ' S' s' Q E' ⟨a1, a2, a3⟩ q
    exact wpAny_pyIter_listiter a2 q
  draw := by
    rintro i fr' ρ' S' s' Qn Ks E' hi G' I' F' ⟨a1, a2, a3⟩ ⟨vs', e', _, av⟩ k
    obtain ⟨v, hv, hbd⟩ := av hi
    obtain ⟨fr₁, hfr⟩ := hbd fr'
    obtain ⟨ws', L', rr'⟩ := I'.list e'
    obtain ⟨x, hx, rx⟩ := rr'.get hv
    refine wpAny_pyNext_list_item a2 L' (by simpa using hx) fun h₂ hit hs' => ?_
    obtain ⟨o2, q1, q2, q3⟩ := id hit
    have ex := one_of hs'
    have R2 : Rec C.h₀ he C.envs ρ' S' h₂ I := rec_of_fields a3 q1 q3
    have G2 := G'.byRec (recs_one a3) ex
    have I2 := I'.byRec (recs_one a3) ex
    have F2 := F'.byRec (recs_one a3) ex
    refine letgo_list (s := { s' with heap := h₂ }) hb.2 hit ?_
    refine bind_st (s := { s' with heap := h₂ }) c hbe ow (hb.1 _ _ _ _ hfr) G2 I2 F2 rx fun ρ₁ h₁ tk g₁ Gh G₁ I₁ F₁ => ?_
    refine k fr₁ S' ρ₁ h₁ tk ⟨rfl, vs', v, e', hv, hfr⟩ g₁ G₁ I₁ F₁ ?_
    obtain ⟨z1, z2⟩ := R2.stays I2 F2 Gh
    exact ⟨a1, ⟨o2, z2 _ q1, q2, by rw [g₁.agree l a1]; exact q3⟩, z1⟩
  fin := by
    rintro fr' ρ' S' s' Qn Ks E' G' I' F' ⟨a1, a2, a3⟩ ⟨vs', e', hv, _⟩ k
    obtain ⟨ws', L', rr'⟩ := I'.list e'
    have hw : ws'.size = n := by rw [← hv, ← rr'.length, Array.length_toList]
    refine wpAny_pyNext_list_end c.handled a2 L' (by simp [hw]) fun h₂ hs' => ?_
    have ex : ∀ b o, b ∉ [I] → s'.heap.get? b = some o → h₂.get? b = some o := fun b o hb e => hs' b o (by simpa using hb) e
    exact k h₂ s'.toks (G'.byRec (recs_one a3) ex) (I'.byRec (recs_one a3) ex) (F'.byRec (recs_one a3) ex)

abbrev avT (l : Loc) (n : Nat) (bnd : AV → St → Frm → Frm → Prop) (i : Nat) (S : St) : Prop := ∃ vs, S.σ l = some (.tuple vs) ∧ vs.length = n ∧ (i < n → ∃ v, vs[i]? = some v ∧ ∀ fr, ∃ fr₁, bnd v S fr fr₁)
abbrev itT (l : Loc) (bnd : AV → St → Frm → Frm → Prop) (i : Nat) (fr : Frm) (S : St) (fr₁ : Frm) (S₁ : St) : Prop := S₁ = S ∧ ∃ vs v, S.σ l = some (.tuple vs) ∧ vs[i]? = some v ∧ bnd v S fr fr₁
theorem letgo_tup {prog : Program} {w : World} {A : Around} {E : Value → Shared → Prop} {s : Shared} {t : Expr} {I l : Addr} {i : Nat} {v : Value} {Q : Unit → Shared → Prop} (ht : (∀ it v, letOwnedTupleGo t it v = pure ()) ∨ ∃ elts k pos, t = .Tuple elts k pos) (hit : s.heap.IsTupleIter I l i) (h : Q () s) : wpAny (model prog w) A (letOwnedTupleGo t (.ref I) v) Q E s := by
  rcases ht with ht | ⟨ts, k, pos, rfl⟩
  · rw [ht]; exact wpAny_pure h
  · cases v with
    | ref T =>
      obtain ⟨o, ho, hc, hd⟩ := hit
      unfold letOwnedTupleGo
      refine wpAny_bind (wpAny_load ho ?_)
      rw [hc, hd]
      refine wpAny_ite ?_
      rw [if_neg (by
        intro q
        rw [Bool.and_eq_true] at q
        exact absurd q.1 (by decide))]
      exact wpAny_pure h
    | _ => exact wpAny_pure h
theorem Feed.tuple (c : COk C) (hbe : Bnd Se) (ow : Own C.env he) {target : Expr} {bnd : AV → St → Frm → Frm → Prop} (hb : Binds C target bnd) (I : Addr) (l : Loc) (n : Nat) :
    Feed C ρe Se he target I n (fun i ρ' S' h' => l < S'.nx ∧ h'.IsTupleIter I (ρ' l) i ∧ Rec C.h₀ he C.envs ρ' S' h' I) (avT l n bnd) (itT l bnd) where
  stab := by
    rintro i fr' ρ' S' h' ρ'' S'' h'' ⟨a1, ⟨o, b1, b2, b3⟩, a3⟩ I' F' g G'
    obtain ⟨z1, z2⟩ := a3.stays I' F' G'
    exact ⟨Nat.lt_of_lt_of_le a1 g.nx, ⟨o, z2 o b1, b2, by rw [g.agree l a1]; exact b3⟩, z1⟩
  less := by
    rintro i ρ' S' S'' h' ⟨a1, a2, a3⟩ sb
    exact ⟨by rw [sb.1]; exact a1, a2, a3.less sb⟩
  kept := by
    rintro i ρ' S' h' ρ'' S'' h'' ⟨a1, ⟨o, b1, b2, b3⟩, a3⟩ g k im
    exact ⟨Nat.lt_of_lt_of_le a1 g.nx, ⟨o, k _ _ b1, b2, by rw [g.agree l a1]; exact b3⟩, a3.up k im⟩
  self := by
    rintro i ρ' S' s' Q E' ⟨a1, a2, a3⟩ q
    exact wpAny_pyIter_tupleiter a2 q
  draw := by
    rintro i fr' ρ' S' s' Qn Ks E' hi G' I' F' ⟨a1, a2, a3⟩ ⟨vs', e', _, av⟩ k
    obtain ⟨v, hv, hbd⟩ := av hi
    obtain ⟨fr₁, hfr⟩ := hbd fr'
    obtain ⟨ws', L', rr'⟩ := I'.tuple e'
    obtain ⟨x, hx, rx⟩ := rr'.get hv
    refine wpAny_pyNext_tuple_item a2 L' (by simpa using hx) fun h₂ hit hs' => ?_
    obtain ⟨o2, q1, q2, q3⟩ := id hit
    have ex := one_of hs'
    have R2 : Rec C.h₀ he C.envs ρ' S' h₂ I := rec_of_fields a3 q1 q3
    have G2 := G'.byRec (recs_one a3) ex
    have I2 := I'.byRec (recs_one a3) ex
    have F2 := F'.byRec (recs_one a3) ex
    refine letgo_tup (s := { s' with heap := h₂ }) hb.2 hit ?_
    refine bind_st (s := { s' with heap := h₂ }) c hbe ow (hb.1 _ _ _ _ hfr) G2 I2 F2 rx fun ρ₁ h₁ tk g₁ Gh G₁ I₁ F₁ => ?_
    refine k fr₁ S' ρ₁ h₁ tk ⟨rfl, vs', v, e', hv, hfr⟩ g₁ G₁ I₁ F₁ ?_
    obtain ⟨z1, z2⟩ := R2.stays I2 F2 Gh
    exact ⟨a1, ⟨o2, z2 _ q1, q2, by rw [g₁.agree l a1]; exact q3⟩, z1⟩
  fin := by
    rintro fr' ρ' S' s' Qn Ks E' G' I' F' ⟨a1, a2, a3⟩ ⟨vs', e', hv, _⟩ k
    obtain ⟨ws', L', rr'⟩ := I'.tuple e'
    have hw : ws'.size = n := by rw [← hv, ← rr'.length, Array.length_toList]
    refine wpAny_pyNext_tuple_end c.handled a2 L' (by simp [hw]) fun h₂ hs' => ?_
    have ex : ∀ b o, b ∉ [I] → s'.heap.get? b = some o → h₂.get? b = some o := fun b o hb e => hs' b o (by simpa using hb) e
    exact k h₂ s'.toks (G'.byRec (recs_one a3) ex) (I'.byRec (recs_one a3) ex) (F'.byRec (recs_one a3) ex)

abbrev itR (a : Int) (x : Str) (i : Nat) (fr : Frm) (S : St) (fr₁ : Frm) (S₁ : St) : Prop := S₁ = S ∧ fr₁ = (x, .int (a + i)) :: fr
theorem Feed.range (c : COk C) (hbe : Bnd Se) (ow : Own C.env he) {x : Str} {px : Pos} (hx : IsV C x) (I : Addr) (a : Int) (n : Nat) :
    Feed C ρe Se he (.Name x px) I n (fun i ρ' S' h' => IsRangeIter h' I (a + (i : Nat)) ((n : Int) - (i : Nat)) 1 ∧ Rec C.h₀ he C.envs ρ' S' h' I) (fun _ _ => True) (itR a x) where
  stab := by
    rintro i fr' ρ' S' h' ρ'' S'' h'' ⟨a1, a3⟩ I' F' g G'
    obtain ⟨z1, z2⟩ := a3.stays I' F' G'
    exact ⟨z2 _ a1, z1⟩
  less := by
    rintro i ρ' S' S'' h' ⟨a1, a3⟩ sb
    exact ⟨a1, a3.less sb⟩
  kept := by
    rintro i ρ' S' h' ρ'' S'' h'' ⟨a1, a3⟩ g k im
    exact ⟨k _ _ a1, a3.up k im⟩
  self := by
    rintro i ρ' S' s' Q E' ⟨a1, a3⟩ q
    exact wpAny_pyIter_rangeiter a1 q
  draw := by
    rintro i fr' ρ' S' s' Qn Ks E' hi G' I' F' ⟨a1, a3⟩ _ k
    refine wpAny_pyNext_range_item a1 (by (first | lia | omega)) fun h₂ hit hs' => ?_
    have ex := one_of hs'
    have R2 : Rec C.h₀ he C.envs ρ' S' h₂ I := rec_of_fields a3 hit rfl
    have G2 := G'.byRec (recs_one a3) ex
    have I2 := I'.byRec (recs_one a3) ex
    have F2 := F'.byRec (recs_one a3) ex
    refine wpAny_pure (bind_st (s := { s' with heap := h₂, toks := s'.toks + 1 }) c hbe ow ((binds_N hx).1 (.int (a + i)) S' fr' _ rfl) G2 I2 F2 ⟨_, rfl⟩ fun ρ₁ h₁ tk g₁ Gh G₁ I₁ F₁ => ?_)
    refine k _ S' ρ₁ h₁ tk ⟨rfl, rfl⟩ g₁ G₁ I₁ F₁ ?_
    obtain ⟨z1, z2⟩ := R2.stays I2 F2 Gh
    refine ⟨?_, z1⟩
    have e1 : a + ((i + 1 : Nat) : Int) = a + (i : Nat) + 1 := by push_cast; (first | lia | omega)
    have e2 : (n : Int) - ((i + 1 : Nat) : Int) = n - (i : Nat) - 1 := by push_cast; (first | lia | omega)
    rw [e1, e2]
    exact z2 _ hit
  fin := by
    rintro fr' ρ' S' s' Qn Ks E' G' I' F' ⟨a1, a3⟩ _ k
    refine wpAny_pyNext_range_end c.handled a1 (by (first | lia | omega)) fun h₂ hs' => ?_
    have ex : ∀ b o, b ∉ [I] → s'.heap.get? b = some o → h₂.get? b = some o := fun b o hb e => hs' b o (by simpa using hb) e
    exact k h₂ s'.toks (G'.byRec (recs_one a3) ex) (I'.byRec (recs_one a3) ex) (F'.byRec (recs_one a3) ex)

abbrev avE (l : Loc) (n : Nat) (S : St) : Prop := ∃ vs, S.σ l = some (.list vs) ∧ vs.length = n
abbrev itE (l : Loc) (x y : Str) (i : Nat) (fr : Frm) (S : St) (fr₁ : Frm) (S₁ : St) : Prop := S₁ = S ∧ ∃ vs v, S.σ l = some (.list vs) ∧ vs[i]? = some v ∧ fr₁ = (y, v) :: (x, .int i) :: fr
theorem Feed.enum (c : COk C) (hbe : Bnd Se) (ow : Own C.env he) {x y : Str} {px py pos : Pos} {kk : Nat} (hx : IsV C x) (hy : IsV C y) (e it : Addr) (hne : e ≠ it) (l : Loc) (n : Nat) :
    Feed C ρe Se he (.Tuple [.Name x px, .Name y py] kk pos) e n (fun i ρ' S' h' => l < S'.nx ∧ (∃ old, IsEnum h' e it (i : Nat) old) ∧ h'.IsListIter it (ρ' l) i ∧ Recs C.h₀ he C.envs ρ' S' h' [e, it]) (fun _ => avE l n) (itE l x y) where
  stab := by
    rintro i fr' ρ' S' h' ρ'' S'' h'' ⟨a1, ⟨old, a2⟩, ⟨o, b1, b2, b3⟩, a3⟩ I' F' g G'
    obtain ⟨z1, z2⟩ := (a3 e (by simp)).stays I' F' G'
    obtain ⟨z3, z4⟩ := (a3 it (by simp)).stays I' F' G'
    refine ⟨Nat.lt_of_lt_of_le a1 g.nx, ⟨old, z2 _ a2⟩, ⟨o, z4 o b1, b2, by rw [g.agree l a1]; exact b3⟩, fun b hb => ?_⟩
    simp only [List.mem_cons, List.not_mem_nil, or_false] at hb
    rcases hb with rfl | rfl
    · exact z1
    · exact z3
  less := by
    rintro i ρ' S' S'' h' ⟨a1, a2, a3, a4⟩ sb
    exact ⟨by rw [sb.1]; exact a1, a2, a3, fun b hb => (a4 b hb).less sb⟩
  kept := by
    rintro i ρ' S' h' ρ'' S'' h'' ⟨a1, ⟨old, a2⟩, ⟨o, b1, b2, b3⟩, a3⟩ g k im
    exact ⟨Nat.lt_of_lt_of_le a1 g.nx, ⟨old, k _ _ a2⟩, ⟨o, k _ _ b1, b2, by rw [g.agree l a1]; exact b3⟩, fun b hb => (a3 b hb).up k im⟩
  self := by
    rintro i ρ' S' s' Q E' ⟨a1, ⟨old, a2⟩, a3⟩ q
    exact wpAny_pyIter_enum a2 q
  draw := by
    rintro i fr' ρ' S' s' Qn Ks E' hi G' I' F' ⟨a1, ⟨old, a2⟩, a3, a4⟩ ⟨vs', e', hlen⟩ k
    obtain ⟨v, hv⟩ : ∃ v, vs'[i]? = some v := ⟨_, List.getElem?_eq_getElem (by (first | lia | omega))⟩
    obtain ⟨ws', L', rr'⟩ := I'.list e'
    obtain ⟨u, hu, ru⟩ := rr'.get hv
    refine wpAny_pyNext_enum_item a2 a3 L' (by simpa using hu) hne fun h₂ o1 hit ht _ hk => ?_
    refine wpAny_letOwnedTupleGo_enum (s := { s' with heap := h₂, toks := s'.toks + 1 }) o1 fun h₃ hen hs3 => ?_
    have tsz : s'.heap.objs.size ≠ e := fun q => by have a2' : s'.heap.get? e = some _ := a2; rw [← q, fresh_size] at a2'; cases a2'
    obtain ⟨oi, q1, q2, q3⟩ := id hit
    have ex : ∀ b o, b ∉ [e, it] → s'.heap.get? b = some o → h₃.get? b = some o := fun b o hb q => by
      simp only [List.mem_cons, List.not_mem_nil, or_false, not_or] at hb
      exact (hs3.2 b hb.1).trans (hk b o hb.1 hb.2 q)
    have hit3 : h₃.get? it = some oi := (hs3.2 it (Ne.symm hne)).trans q1
    have R2 : Recs C.h₀ he C.envs ρ' S' h₃ [e, it] := fun b hb => by
      simp only [List.mem_cons, List.not_mem_nil, or_false] at hb
      rcases hb with rfl | rfl
      · exact rec_of_fields (a4 _ (by simp)) hen rfl
      · exact rec_of_fields (a4 _ (by simp)) hit3 q3
    have G2 := G'.byRec a4 ex
    have I2 := I'.byRec a4 ex
    have F2 := F'.byRec a4 ex
    have hT : h₃.IsTuple s'.heap.objs.size #[.int i s'.toks, u] := ⟨_, (hs3.2 _ tsz).trans ht, rfl, _, rfl⟩
    refine bind_raw (a := .int i) (b := v) (s := { s' with heap := h₃, toks := s'.toks + 1 }) c hbe ow hx hy hT G2 I2 F2 (.cons ⟨_, rfl⟩ (.cons ru .nil)) fun ρ₁ h₁ tk g₁ Gh G₁ I₁ F₁ => ?_
    refine k _ S' ρ₁ h₁ tk ⟨rfl, vs', v, e', hv, rfl⟩ g₁ G₁ I₁ F₁ ?_
    obtain ⟨z1, z2⟩ := (R2 e (by simp)).stays I2 F2 Gh
    obtain ⟨z3, z4⟩ := (R2 it (by simp)).stays I2 F2 Gh
    refine ⟨a1, ⟨_, z2 _ (by rw [show ((i + 1 : Nat) : Int) = (i : Int) + 1 by push_cast; rfl]; exact hen)⟩, ⟨oi, z4 _ hit3, q2, by rw [g₁.agree l a1]; exact q3⟩, fun b hb => ?_⟩
    simp only [List.mem_cons, List.not_mem_nil, or_false] at hb
    rcases hb with rfl | rfl
    · exact z1
    · exact z3
  fin := by
    rintro fr' ρ' S' s' Qn Ks E' G' I' F' ⟨a1, ⟨old, a2⟩, a3, a4⟩ ⟨vs', e', hv⟩ k
    obtain ⟨ws', L', rr'⟩ := I'.list e'
    have hw : ws'.size = n := by rw [← hv, ← rr'.length, Array.length_toList]
    refine wpAny_pyNext_enum_end c.handled a2 a3 L' (by simp [hw]) fun h₂ hs' => ?_
    have R1 := recs_one (a4 it (by simp))
    have ex : ∀ b o, b ∉ [it] → s'.heap.get? b = some o → h₂.get? b = some o := fun b o hb e => hs' b o (by simpa using hb) e
    exact k h₂ s'.toks (G'.byRec R1 ex) (I'.byRec R1 ex) (F'.byRec R1 ex)

abbrev avZ (l1 l2 : Loc) (n : Nat) (S : St) : Prop := ∃ vs us, S.σ l1 = some (.list vs) ∧ S.σ l2 = some (.list us) ∧ vs.length = n ∧ us.length = n
abbrev itZ (l1 l2 : Loc) (x y : Str) (i : Nat) (fr : Frm) (S : St) (fr₁ : Frm) (S₁ : St) : Prop := S₁ = S ∧ ∃ vs us v u, S.σ l1 = some (.list vs) ∧ S.σ l2 = some (.list us) ∧ vs[i]? = some v ∧ us[i]? = some u ∧ fr₁ = (y, u) :: (x, v) :: fr
theorem recs5 {h₀ : Heap} {envs : List Env} {ρ : Loc → Addr} {S : St} {h : Heap} {a b c' d : Addr} (r1 : Rec h₀ he envs ρ S h a) (r2 : Rec h₀ he envs ρ S h b) (r3 : Rec h₀ he envs ρ S h c') (r4 : Rec h₀ he envs ρ S h d) : Recs h₀ he envs ρ S h [a, b, c', d] := fun x hx => by
  simp only [List.mem_cons, List.not_mem_nil, or_false] at hx
  rcases hx with rfl | rfl | rfl | rfl <;> assumption
structure ZipSt (h₀ : Heap) (envs : List Env) (he : Heap) (z TI TO i1 i2 : Addr) (l1 l2 : Loc) (i : Nat) (ρ : Loc → Addr) (S : St) (h : Heap) : Prop where
  n1 : l1 < S.nx
  n2 : l2 < S.nx
  hz : IsZip h z TI TO .none
  hti : IsPair h TI (.ref i1) (.ref i2)
  hto : ∃ a b, IsPair h TO a b
  it1 : h.IsListIter i1 (ρ l1) i
  it2 : h.IsListIter i2 (ρ l2) i
  rz : Rec h₀ he envs ρ S h z
  rti : Rec h₀ he envs ρ S h TI
  rto : Rec h₀ he envs ρ S h TO
  r1 : Rec h₀ he envs ρ S h i1
  r2 : Rec h₀ he envs ρ S h i2
theorem rec_ne_img {h₀ : Heap} {envs : List Env} {ρ : Loc → Addr} {S : St} {h : Heap} {a : Addr} {l : Loc} {o : AO} (R : Rec h₀ he envs ρ S h a) (e : S.σ l = some o) : ρ l ≠ a := fun q => R.img ⟨l, by rw [e]; simp, q⟩
theorem Feed.zip (c : COk C) (hbe : Bnd Se) (ow : Own C.env he) {x y : Str} {px py pos : Pos} {kk : Nat} (hx : IsV C x) (hy : IsV C y) (z TI TO i1 i2 : Addr) (d1 : TI ≠ z) (d2 : TO ≠ z) (d3 : i1 ≠ z) (d4 : i2 ≠ z) (d5 : TI ≠ TO) (d6 : TI ≠ i1) (d7 : TI ≠ i2) (d8 : TO ≠ i1) (d9 : TO ≠ i2) (d10 : i1 ≠ i2) (l1 l2 : Loc) (n : Nat) :
    Feed C ρe Se he (.Tuple [.Name x px, .Name y py] kk pos) z n (ZipSt C.h₀ C.envs he z TI TO i1 i2 l1 l2) (fun _ => avZ l1 l2 n) (itZ l1 l2 x y) where
  stab := by
    rintro i fr' ρ' S' h' ρ'' S'' h'' ⟨n1, n2, hz, ti, ⟨a, b, to⟩, ⟨o1, p1, p2, p3⟩, ⟨o2, q1, q2, q3⟩, rz, rti, rto, r1, r2⟩ I' F' g G'
    obtain ⟨a1, a2⟩ := rz.stays I' F' G'
    obtain ⟨b1, b2⟩ := rti.stays I' F' G'
    obtain ⟨c1, c2⟩ := rto.stays I' F' G'
    obtain ⟨e1, e2⟩ := r1.stays I' F' G'
    obtain ⟨f1, f2⟩ := r2.stays I' F' G'
    exact ⟨Nat.lt_of_lt_of_le n1 g.nx, Nat.lt_of_lt_of_le n2 g.nx, a2 _ hz, b2 _ ti, ⟨a, b, c2 _ to⟩, ⟨o1, e2 o1 p1, p2, by rw [g.agree l1 n1]; exact p3⟩, ⟨o2, f2 o2 q1, q2, by rw [g.agree l2 n2]; exact q3⟩, a1, b1, c1, e1, f1⟩
  less := by
    rintro i ρ' S' S'' h' ⟨n1, n2, hz, ti, to, p, q, rz, rti, rto, r1, r2⟩ sb
    exact ⟨by rw [sb.1]; exact n1, by rw [sb.1]; exact n2, hz, ti, to, p, q, rz.less sb, rti.less sb, rto.less sb, r1.less sb, r2.less sb⟩
  kept := by
    rintro i ρ' S' h' ρ'' S'' h'' ⟨n1, n2, hz, ti, ⟨a, b, to⟩, ⟨o1, p1, p2, p3⟩, ⟨o2, q1, q2, q3⟩, rz, rti, rto, r1, r2⟩ g k im
    exact ⟨Nat.lt_of_lt_of_le n1 g.nx, Nat.lt_of_lt_of_le n2 g.nx, k _ _ hz, k _ _ ti, ⟨a, b, k _ _ to⟩, ⟨o1, k _ _ p1, p2, by rw [g.agree l1 n1]; exact p3⟩, ⟨o2, k _ _ q1, q2, by rw [g.agree l2 n2]; exact q3⟩, rz.up k im, rti.up k im, rto.up k im, r1.up k im, r2.up k im⟩
  self := by
    rintro i ρ' S' s' Q E' st q
    exact wpAny_pyIter_zip st.hz q
  draw := by
    rintro i fr' ρ' S' s' Qn Ks E' hi G' I' F' ⟨n1, n2, hz, ti, ⟨a, b, to⟩, it1, it2, rz, rti, rto, r1, r2⟩ ⟨vs', us', e1, e2, len1, len2⟩ k
    obtain ⟨v, hv⟩ : ∃ v, vs'[i]? = some v := ⟨_, List.getElem?_eq_getElem (by (first | lia | omega))⟩
    obtain ⟨u, hu⟩ : ∃ u, us'[i]? = some u := ⟨_, List.getElem?_eq_getElem (by (first | lia | omega))⟩
    obtain ⟨ws1, L1, rr1⟩ := I'.list e1
    obtain ⟨ws2, L2, rr2⟩ := I'.list e2
    obtain ⟨v', hv', rv⟩ := rr1.get hv
    obtain ⟨u', hu', ru⟩ := rr2.get hu
    have D : ZipApart z TI TO i1 i2 (ρ' l1) (ρ' l2) := ⟨d1, d2, d3, d4, d5, d6, d7, d8, d9, d10, rec_ne_img rz e1, rec_ne_img rto e1, rec_ne_img r1 e1, rec_ne_img r2 e1, rec_ne_img rz e2, rec_ne_img rto e2, rec_ne_img r1 e2, rec_ne_img r2 e2⟩
    refine wpAny_pyNext_zip_item D hz ti to it1 it2 L1 L2 (by simpa using hv') (by simpa using hu') fun h₂ y1 y2 y3 y4 y5 _ y6 => ?_
    refine wpAny_letOwnedTupleGo_zip (s := { s' with heap := h₂ }) y1 fun h₃ y7 y8 => ?_
    obtain ⟨o1, p1, p2, p3⟩ := id y3
    obtain ⟨o2, q1, q2, q3⟩ := id y4
    have tsz : s'.heap.objs.size ≠ z := fun q => by have a2' : s'.heap.get? z = some _ := hz; rw [← q, fresh_size] at a2'; cases a2'
    have ex : ∀ b o, b ∉ [z, TO, i1, i2] → s'.heap.get? b = some o → h₃.get? b = some o := fun b o hb q => by
      simp only [List.mem_cons, List.not_mem_nil, or_false, not_or] at hb
      exact (y8.2 b hb.1).trans (y6 b o hb.1 hb.2.1 hb.2.2.1 hb.2.2.2 q)
    have R4 := recs5 rz rto r1 r2
    have z1 : h₃.get? i1 = some o1 := (y8.2 i1 d3).trans p1
    have z2 : h₃.get? i2 = some o2 := (y8.2 i2 d4).trans q1
    have z3 : IsPair h₃ TO v' u' := (y8.2 TO d2).trans y2
    have z4 : IsPair h₃ TI (.ref i1) (.ref i2) := ex TI _ (by simp [d1, d5, d6, d7]) ti
    have G2 := G'.byRec R4 ex
    have I2 := I'.byRec R4 ex
    have F2 := F'.byRec R4 ex
    have hT : h₃.IsTuple s'.heap.objs.size #[v', u'] := ⟨_, (y8.2 _ tsz).trans y5, rfl, _, rfl⟩
    have w0 : Rec C.h₀ he C.envs ρ' S' h₃ z := rec_of_fields rz y7 rfl
    have w1 : Rec C.h₀ he C.envs ρ' S' h₃ TI := rti.at' z4 (fun _ q => by cases q) (fun _ _ q => by cases q)
    have w2 : Rec C.h₀ he C.envs ρ' S' h₃ TO := rto.at' z3 (fun _ q => by cases q) (fun _ _ q => by cases q)
    have w3 : Rec C.h₀ he C.envs ρ' S' h₃ i1 := rec_of_fields r1 z1 p3
    have w4 : Rec C.h₀ he C.envs ρ' S' h₃ i2 := rec_of_fields r2 z2 q3
    refine bind_raw (a := v) (b := u) (s := { s' with heap := h₃ }) c hbe ow hx hy hT G2 I2 F2 (.cons rv (.cons ru .nil)) fun ρ₁ h₁ tk g₁ Gh G₁ I₁ F₁ => ?_
    refine k _ S' ρ₁ h₁ tk ⟨rfl, vs', us', v, u, e1, e2, hv, hu, rfl⟩ g₁ G₁ I₁ F₁ ?_
    obtain ⟨a1, a2⟩ := w0.stays I2 F2 Gh
    obtain ⟨b1, b2⟩ := w1.stays I2 F2 Gh
    obtain ⟨c1, c2⟩ := w2.stays I2 F2 Gh
    obtain ⟨x1, x2⟩ := w3.stays I2 F2 Gh
    obtain ⟨f1, f2⟩ := w4.stays I2 F2 Gh
    exact ⟨n1, n2, a2 _ y7, b2 _ z4, ⟨_, _, c2 _ z3⟩, ⟨o1, x2 o1 z1, p2, by rw [g₁.agree l1 n1]; exact p3⟩, ⟨o2, f2 o2 z2, q2, by rw [g₁.agree l2 n2]; exact q3⟩, a1, b1, c1, x1, f1⟩
  fin := by
    rintro fr' ρ' S' s' Qn Ks E' G' I' F' ⟨n1, n2, hz, ti, ⟨a, b, to⟩, it1, it2, rz, rti, rto, r1, r2⟩ ⟨vs', us', e1, e2, len1, len2⟩ k
    obtain ⟨ws1, L1, rr1⟩ := I'.list e1
    obtain ⟨ws2, L2, rr2⟩ := I'.list e2
    have D : ZipApart z TI TO i1 i2 (ρ' l1) (ρ' l2) := ⟨d1, d2, d3, d4, d5, d6, d7, d8, d9, d10, rec_ne_img rz e1, rec_ne_img rto e1, rec_ne_img r1 e1, rec_ne_img r2 e1, rec_ne_img rz e2, rec_ne_img rto e2, rec_ne_img r1 e2, rec_ne_img r2 e2⟩
    have hw : ws1.size = n := by rw [← len1, ← rr1.length, Array.length_toList]
    refine wpAny_pyNext_zip_end c.handled D hz ti to it1 it2 L1 L2 (.inl (by simp [hw])) fun h₂ y6 => ?_
    have ex : ∀ b o, b ∉ [z, TO, i1, i2] → s'.heap.get? b = some o → h₂.get? b = some o := fun b o hb q => by
      simp only [List.mem_cons, List.not_mem_nil, or_false, not_or] at hb
      exact y6 b o hb.1 hb.2.1 hb.2.2.1 hb.2.2.2 q
    have R4 := recs5 rz rto r1 r2
    exact k h₂ s'.toks (G'.byRec R4 ex) (I'.byRec R4 ex) (F'.byRec R4 ex)
end
end Mine
end
section
open PySem PySem.W PyProof.Rows PySem.Calls
set_option Elab.async false
set_option maxRecDepth 100000
set_option linter.unusedVariables false
namespace Mine

/-! ## Builtins by name -/
theorem mg_blt {KF : Frag} {h₀ : Heap} {x : Str} {v : Value} {M : Model} {A : Around} {env : Env} {s : Shared} {Q : Value → Shared → Prop} {E : Value → Shared → Prop} {pg : Program} (g : Glb pg KF h₀) (st : h₀.StaysIn s.heap) (hg : env.globals = mainGlobals) (hb : env.builtins = builtinsNs)
    (e : nsIn KF mainGlobals x = some none) (hv : bootBuiltins x = some v) (hn : x ≠ "__name__") (h : Q v s) : wpAny M A (loadGlobal env x) Q E s := by
  obtain ⟨p, loose, mg, mb, T⟩ := g.T
  exact loadGlobal_builtin (by rw [hg]; exact T.g.keeps st) (mg_none_of g.K T.g e) (by rw [hb]; exact T.b.keeps st) ((T.builtins x hn).trans hv) h
noncomputable def isB (C : Cx) (x : Str) (v : Value) : Prop := C.env.kindOf x = some .globalImplicit ∧ nsIn C.KF mainGlobals x = some none ∧ bootBuiltins x = some v ∧ x ≠ "__name__" ∧ (x == ("__debug__" : Str)) = false
theorem name_blt {C : Cx} {x : Str} {v : Value} {np : Pos} {s : Shared} {Q : Value → Shared → Prop} {E : Value → Shared → Prop} (c : COk C) (st : C.h₀.StaysIn s.heap) (b : isB C x v) (h : Q v s) : wpAny (model C.prog C.w) C.A (eval (.Name x np) C.env) Q E s :=
  Name_function_global c.kind b.1 (mg_blt c.g st c.glob c.blt b.2.1 b.2.2.1 b.2.2.2.1 h) b.2.2.2.2

/-- all that stood in the store stands, more may have come -/
noncomputable def Ext (S S' : St) : Prop := S.nx ≤ S'.nx ∧ ∀ l o, S.σ l = some o → S'.σ l = some o
theorem Ext.refl (S : St) : Ext S S := ⟨Nat.le_refl _, fun _ _ e => e⟩
theorem Ext.trans {S S₁ S₂ : St} (a : Ext S S₁) (b : Ext S₁ S₂) : Ext S S₂ := ⟨Nat.le_trans a.1 b.1, fun l o e => b.2 l o (a.2 l o e)⟩
theorem Ext.add {S S' : St} {o : AO} (x : Ext S S') (hb : Bnd S') : Ext S (S'.add o) := ⟨Nat.le_succ_of_le x.1, fun l o' e => by
  have e1 := x.2 l o' e
  have : l ≠ S'.nx := fun q => absurd (hb l (by rw [e1]; simp)) (by rw [q]; exact Nat.lt_irrefl _)
  exact (upd_ne this).trans e1⟩
theorem Bnd.add {S : St} {o : AO} (hb : Bnd S) : Bnd (S.add o) := fun l e => by
  rcases upd_dom e with q | q
  · rw [q]; exact Nat.lt_succ_self _
  · exact Nat.lt_succ_of_lt (hb l q)
theorem SE.bnd {C : Cx} {fr : Frm} {e : Expr} {S : St} {P : AV → St → Prop} {X : St → Prop} (h : Bnd S → SE C fr e S P X) : SE C fr e S P X := fun c ρ s Q E I F k kx => h I.bnd c ρ s Q E I F k kx
theorem SB.bnd {C : Cx} {fr : Frm} {e : Expr} {S : St} {P : Bool → St → Prop} {X : St → Prop} (h : Bnd S → SB C fr e S P X) : SB C fr e S P X := fun c ρ s Q E I F k kx => h I.bnd c ρ s Q E I F k kx
theorem SL.bnd {C : Cx} {fr : Frm} {sts : List Stmt} {S : St} {PN : Frm → St → Prop} {PR : AV → St → Prop} {X : St → Prop} (h : Bnd S → SL C fr sts S PN PR X) : SL C fr sts S PN PR X := fun c ρe Se he ρ s Q E hb ow G I F kn kr kx => h I.bnd c ρe Se he ρ s Q E hb ow G I F kn kr kx
theorem SS.bnd {C : Cx} {fr : Frm} {st : Stmt} {S : St} {PN : Frm → St → Prop} {PR : AV → St → Prop} {X : St → Prop} (h : Bnd S → SS C fr st S PN PR X) : SS C fr st S PN PR X := fun c ρe Se he ρ s Q E hb ow G I F kn kr kx => h I.bnd c ρe Se he ρ s Q E hb ow G I F kn kr kx
theorem SFA.bnd {C : Cx} {a : Addr} {args : List AV} {S : St} {P : AV → St → Prop} {X : St → Prop} (h : Bnd S → SFA C a args S P X) : SFA C a args S P X := fun c ρ s R vs I r k kx => h I.bnd c ρ s R vs I r k kx

/-! ## Sources of loops -/
inductive Tgt : Expr → (AV → St → Frm → Frm → Prop) → (Cx → Prop) → Prop where
  | N (x : Str) (px : Pos) : Tgt (.Name x px) (bN x) (fun C => IsV C x)
  | T (x y : Str) (px py pos : Pos) (k : Nat) : Tgt (.Tuple [.Name x px, .Name y py] k pos) (bT x y) (fun C => IsV C x ∧ IsV C y)
theorem Tgt.binds {t : Expr} {bnd : AV → St → Frm → Frm → Prop} {ok : Cx → Prop} (h : Tgt t bnd ok) {C : Cx} (k : ok C) : Binds C t bnd := by
  cases h with
  | N x px => exact binds_N k
  | T x y px py pos kk => exact binds_T k.1 k.2
noncomputable def Avt := Nat → St → Prop
noncomputable def Itt := Nat → Frm → St → Frm → St → Prop
noncomputable def SI (C : Cx) (fr : Frm) (target iter : Expr) (ok : Cx → Prop) (S : St) (P : Nat → Avt → Itt → St → Prop) (X : St → Prop) : Prop :=
  COk C → ∀ ρe Se he ρ s Q E, Bnd Se → Go (fs C.envs) ρe Se he ρ S s.heap → Inv C.h₀ C.envs ρ S s.heap → FrR C.h₀ C.env fr ρ S s.heap →
    (∀ n Av item Sti S' ρ' h' tk I, P n Av item S' → Gr ρ S ρ' S' → Go (fs C.envs) ρ S s.heap ρ' S' h' → Inv C.h₀ C.envs ρ' S' h' → FrR C.h₀ C.env fr ρ' S' h' → Sti 0 ρ' S' h' → (∀ i fr S fr₁ S₁, item i fr S fr₁ S₁ → S₁ = S) →
      (∀ env', COk { C with env := env' } → ok { C with env := env' } → Own env' he → Feed { C with env := env' } ρe Se he target I n Sti Av item) → Q (.ref I) { s with heap := h', toks := tk }) →
    KX C ρ S s X E → wpAny (model C.prog C.w) C.A (eval iter C.env) (fun x s₁ => wpAny (model C.prog C.w) C.A (pyIter x) Q E s₁) E s
section
variable {C : Cx} {fr : Frm} {S : St} {X : St → Prop} {target iter : Expr} {ok : Cx → Prop} {P : Nat → Avt → Itt → St → Prop}
theorem SI.list {bnd : AV → St → Frm → Frm → Prop} (tg : Tgt target bnd ok) (h : SE C fr iter S (fun a S₁ => ∃ l vs, a = .ref l ∧ S₁.σ l = some (.list vs) ∧ P vs.length (avL l vs.length bnd) (itL l bnd) S₁) X) : SI C fr target iter ok S P X :=
  fun c ρe Se he ρ s Q E hb G I F k kx => by
  refine h c ρ s _ E I F (fun a S₁ ρ₁ h₁ t₁ y p G₁ I₁ r₁ => ?_) kx
  obtain ⟨l, vs, rfl, e, p⟩ := p
  obtain ⟨hl, rfl⟩ := r₁
  obtain ⟨ws, L, rr⟩ := I₁.list e
  refine wpAny_pyIter_list (s := { s with heap := h₁, toks := t₁ }) L ?_
  have kp := Kept.push h₁ { cls := .type "list_iterator", data := .fields #[.ref (ρ₁ l), .int 0 0] }
  have G2 := Go.kept (F := fs C.envs) (ρ := ρ₁) I₁.bnd kp
  have gI : (h₁.push { cls := .type "list_iterator", data := .fields #[.ref (ρ₁ l), .int 0 0] }).get? h₁.objs.size = some { cls := .type "list_iterator", data := .fields #[.ref (ρ₁ l), .int 0 0] } := Heap.get?_push_size _ rfl
  have R := Rec.made I₁ (Go.trans hb G G₁) fresh_size gI (fun _ q => by cases q) (fun _ _ q => by cases q)
  exact k _ _ _ (fun i ρ' S' h' => l < S'.nx ∧ h'.IsListIter h₁.objs.size (ρ' l) i ∧ Rec C.h₀ he C.envs ρ' S' h' h₁.objs.size) S₁ ρ₁ _ t₁ _ p G₁.gr (Go.trans I.bnd G₁ G2) (I₁.kept kp) ((F.go I G₁).go I₁ G2) ⟨hl, ⟨_, gI, rfl, rfl⟩, R⟩ (fun i fr S fr₁ S₁ z => z.1)
    fun env' c' o' ow' => Feed.list (C := { C with env := env' }) c' hb ow' (tg.binds o') _ l vs.length
theorem SI.tuple {bnd : AV → St → Frm → Frm → Prop} (tg : Tgt target bnd ok) (h : SE C fr iter S (fun a S₁ => ∃ l vs, a = .ref l ∧ S₁.σ l = some (.tuple vs) ∧ P vs.length (avT l vs.length bnd) (itT l bnd) S₁) X) : SI C fr target iter ok S P X :=
  fun c ρe Se he ρ s Q E hb G I F k kx => by
  refine h c ρ s _ E I F (fun a S₁ ρ₁ h₁ t₁ y p G₁ I₁ r₁ => ?_) kx
  obtain ⟨l, vs, rfl, e, p⟩ := p
  obtain ⟨hl, rfl⟩ := r₁
  obtain ⟨ws, L, rr⟩ := I₁.tuple e
  refine wpAny_pyIter_tuple (s := { s with heap := h₁, toks := t₁ }) L ?_
  have kp := Kept.push h₁ { cls := .type "tuple_iterator", data := .fields #[.ref (ρ₁ l), .int 0 0] }
  have G2 := Go.kept (F := fs C.envs) (ρ := ρ₁) I₁.bnd kp
  have gI : (h₁.push { cls := .type "tuple_iterator", data := .fields #[.ref (ρ₁ l), .int 0 0] }).get? h₁.objs.size = some { cls := .type "tuple_iterator", data := .fields #[.ref (ρ₁ l), .int 0 0] } := Heap.get?_push_size _ rfl
  have R := Rec.made I₁ (Go.trans hb G G₁) fresh_size gI (fun _ q => by cases q) (fun _ _ q => by cases q)
  exact k _ _ _ (fun i ρ' S' h' => l < S'.nx ∧ h'.IsTupleIter h₁.objs.size (ρ' l) i ∧ Rec C.h₀ he C.envs ρ' S' h' h₁.objs.size) S₁ ρ₁ _ t₁ _ p G₁.gr (Go.trans I.bnd G₁ G2) (I₁.kept kp) ((F.go I G₁).go I₁ G2) ⟨hl, ⟨_, gI, rfl, rfl⟩, R⟩ (fun i fr S fr₁ S₁ z => z.1)
    fun env' c' o' ow' => Feed.tuple (C := { C with env := env' }) c' hb ow' (tg.binds o') _ l vs.length

theorem range_size (a b : Int) (h0 : a ≤ b) (ha : -1000000 ≤ a) (hb : b ≤ 1000000) : Builtin.Range.small a b 1 = true ∧ Builtin.Range.rangeSize a b 1 = (((b - a).toNat : Nat) : Int) := by
  have e : Builtin.Range.rangeSize a b 1 = b - a := by
    unfold Builtin.Range.rangeSize
    simp
    (first | lia | omega)
  refine ⟨?_, by rw [e]; (first | lia | omega)⟩
  unfold Builtin.Range.small
  rw [e]
  unfold Builtin.Range.rangeFitsLong
  simp
  (first | lia | omega)
theorem range_iter {a b : Int} {r : Addr} {t u v : Tok} (h0 : a ≤ b) (ha : -1000000 ≤ a) (hb' : b ≤ 1000000) {x : Str} {px : Pos} {ρe ρ : Loc → Addr} {Se : St} {he : Heap} {s : Shared} {Q : Value → Shared → Prop} {E : Value → Shared → Prop} (c : COk C) (hb : Bnd Se) (G : Go (fs C.envs) ρe Se he ρ S s.heap) (I : Inv C.h₀ C.envs ρ S s.heap) (F : FrR C.h₀ C.env fr ρ S s.heap) (hr : IsRange s.heap r a b 1 t u v) (p : P (b - a).toNat (fun _ _ => True) (itR a x) S)
    (k : ∀ n Av item Sti S' ρ' h' tk I, P n Av item S' → Gr ρ S ρ' S' → Go (fs C.envs) ρ S s.heap ρ' S' h' → Inv C.h₀ C.envs ρ' S' h' → FrR C.h₀ C.env fr ρ' S' h' → Sti 0 ρ' S' h' → (∀ i fr S fr₁ S₁, item i fr S fr₁ S₁ → S₁ = S) →
      (∀ env', COk { C with env := env' } → IsV { C with env := env' } x → Own env' he → Feed { C with env := env' } ρe Se he (.Name x px) I n Sti Av item) → Q (.ref I) { s with heap := h', toks := tk }) :
    wpAny (model C.prog C.w) C.A (pyIter (.ref r)) Q E s := by
  obtain ⟨z1, z2⟩ := range_size a b h0 ha hb'
  refine wpAny_pyIter_range hr z1 ?_
  rw [z2]
  have kp := Kept.push s.heap { cls := .type "range_iterator", data := .fields #[rawInt a, rawInt (((b - a).toNat : Nat) : Int), rawInt 1] }
  have G2 := Go.kept (F := fs C.envs) (ρ := ρ) I.bnd kp
  have gI : (s.heap.push { cls := .type "range_iterator", data := .fields #[rawInt a, rawInt (((b - a).toNat : Nat) : Int), rawInt 1] }).get? s.heap.objs.size = some { cls := .type "range_iterator", data := .fields #[rawInt a, rawInt (((b - a).toNat : Nat) : Int), rawInt 1] } := Heap.get?_push_size _ rfl
  have R := Rec.made I G fresh_size gI (fun _ q => by cases q) (fun _ _ q => by cases q)
  exact k _ _ _ (fun i ρ' S' h' => IsRangeIter h' s.heap.objs.size (a + (i : Nat)) (((b - a).toNat : Int) - (i : Nat)) 1 ∧ Rec C.h₀ he C.envs ρ' S' h' s.heap.objs.size) S ρ _ s.toks _ p (.refl _ _) G2 (I.kept kp) (F.go I G2) ⟨by simpa using gI, R⟩ (fun i fr S fr₁ S₁ z => z.1)
    fun env' c' o' ow' => Feed.range (C := { C with env := env' }) c' hb ow' o' _ a _
theorem SI.range1 {x : Str} {px np pos : Pos} {e : Expr} (b : isB C "range" (.type "range")) (h : SE C fr e S (fun v S₁ => ∃ n : Int, v = .int n ∧ 0 ≤ n ∧ n ≤ 1000000 ∧ P n.toNat (fun _ _ => True) (itR 0 x) S₁) X) (hst : ∀ env, starEach [e] env = [(false, eval e env)] := by intro _; rfl) :
    SI C fr (.Name x px) (.Call (.Name "range" np) [e] [] pos) (fun C => IsV C x) S P X := fun c ρe Se he ρ s Q E hb G I F k kx => by
  refine wpAny_Call_NameR (name_blt c I.stays b ?_)
  refine callWith_type1 (SAs.cons (PL := fun vs S₁ => ∃ n : Int, vs = [.int n] ∧ 0 ≤ n ∧ n ≤ 1000000 ∧ P n.toNat (fun _ _ => True) (itR 0 x) S₁) (h.mono fun v S₁ z => ?_) (fun env => by rw [hst]; rfl) c ρ s _ E pos I F (fun vs S₁ ρ₁ h₁ t₁ ws p G₁ I₁ r => ?_) kx) (by rw [hst]; rfl)
  · obtain ⟨n, rfl, z⟩ := z; exact .nil ⟨n, rfl, z⟩
  · obtain ⟨n, rfl, z0, z1, p⟩ := p
    obtain ⟨v, t, rfl, rfl⟩ : ∃ v t, ws = [v] ∧ v = Value.int n t := by
      cases r with
      | cons r1 r2 => cases r2; obtain ⟨t, rfl⟩ := r1; exact ⟨_, t, rfl, rfl⟩
    refine call_range_1 (s := { s with heap := h₁, toks := t₁ }) ?_
    have kp := Kept.push h₁ { cls := .type "range", data := .fields #[.int 0 t₁, .int n t, .int 1 (t₁ + 1)] }
    have G2 := Go.kept (F := fs C.envs) (ρ := ρ₁) I₁.bnd kp
    refine range_iter (P := P) (b := n) (px := px) (s := { s with heap := h₁.push _, toks := _ }) (by (first | lia | omega)) (by (first | lia | omega)) z1 c hb (Go.trans hb (Go.trans hb G G₁) G2) (I₁.kept kp) ((F.go I G₁).go I₁ G2) (IsRange.new ..) (by simpa using p) fun n Av item Sti S' ρ' h' tk Ia p' g' G' I' F' st' it' fd' => ?_
    exact k n Av item Sti S' ρ' h' tk Ia p' (G₁.gr.trans g') (Go.trans I.bnd (Go.trans I.bnd G₁ G2) G') I' F' st' it' fd'
theorem SI.enum {x y : Str} {px py tp np pos : Pos} {kk : Nat} {e : Expr} (b : isB C "enumerate" (.type "enumerate")) (h : SE C fr e S (fun v S₁ => ∃ l vs, v = .ref l ∧ S₁.σ l = some (.list vs) ∧ P vs.length (fun _ => avE l vs.length) (itE l x y) S₁) X) (hst : ∀ env, starEach [e] env = [(false, eval e env)] := by intro _; rfl) :
    SI C fr (.Tuple [.Name x px, .Name y py] kk tp) (.Call (.Name "enumerate" np) [e] [] pos) (fun C => IsV C x ∧ IsV C y) S P X := fun c ρe Se he ρ s Q E hb G I F k kx => by
  refine wpAny_Call_NameR (name_blt c I.stays b ?_)
  refine callWith_type1 (SAs.cons (PL := fun vs S₁ => ∃ l us, vs = [.ref l] ∧ S₁.σ l = some (.list us) ∧ P us.length (fun _ => avE l us.length) (itE l x y) S₁) (h.mono fun v S₁ z => ?_) (fun env => by rw [hst]; rfl) c ρ s _ E pos I F (fun vs S₁ ρ₁ h₁ t₁ ws p G₁ I₁ r => ?_) kx) (by rw [hst]; rfl)
  · obtain ⟨l, us, rfl, z⟩ := z; exact .nil ⟨l, us, rfl, z⟩
  · obtain ⟨l, us, rfl, e1, p⟩ := p
    obtain ⟨hl, rfl⟩ : l < S₁.nx ∧ ws = [.ref (ρ₁ l)] := by
      cases r with
      | cons r1 r2 => cases r2; obtain ⟨q, rfl⟩ := r1; exact ⟨q, rfl⟩
    obtain ⟨wl, L, rr⟩ := I₁.list e1
    refine call_enumerate_list (s := { s with heap := h₁, toks := t₁ }) L fun h' y1 y2 y3 y4 => ?_
    refine wpAny_pyIter_enum (s := { s with heap := h', toks := t₁ }) y1 ?_
    have kp : Kept h₁ h' := y4
    have G2 := Go.kept (F := fs C.envs) (ρ := ρ₁) I₁.bnd kp
    obtain ⟨o, q1, q2, q3⟩ := id y2
    have R1 := Rec.made I₁ (Go.trans hb G G₁) fresh_size q1 (fun _ q => by rw [q3] at q; cases q) (fun _ _ q => by rw [q3] at q; cases q)
    have fr2 : h₁.get? (h₁.objs.size + 1) = none := by
      cases q : h₁.get? (h₁.objs.size + 1) with
      | none => rfl
      | some o => exact absurd (Heap.lt_size q) (Nat.not_lt.mpr (Nat.le_succ _))
    have R2 := Rec.made I₁ (Go.trans hb G G₁) fr2 (show h'.get? (h₁.objs.size + 1) = some _ from y1) (fun _ q => by cases q) (fun _ _ q => by cases q)
    exact k _ _ _ (fun i ρ' S' h' => l < S'.nx ∧ (∃ old, IsEnum h' (h₁.objs.size + 1) h₁.objs.size (i : Nat) old) ∧ h'.IsListIter h₁.objs.size (ρ' l) i ∧ Recs C.h₀ he C.envs ρ' S' h' [h₁.objs.size + 1, h₁.objs.size]) S₁ ρ₁ h' t₁ _ p G₁.gr (Go.trans I.bnd G₁ G2) (I₁.kept kp) ((F.go I G₁).go I₁ G2)
      ⟨hl, ⟨_, y1⟩, y2, fun b hb => by
        simp only [List.mem_cons, List.not_mem_nil, or_false] at hb
        rcases hb with rfl | rfl
        · exact R2
        · exact R1⟩ (fun i fr S fr₁ S₁ z => z.1)
      fun env' c' o' ow' => Feed.enum (C := { C with env := env' }) c' hb ow' o'.1 o'.2 _ _ (Nat.succ_ne_self _) l us.length
theorem SI.zip {x y : Str} {px py tp np pos : Pos} {kk : Nat} {e₁ e₂ : Expr} (b : isB C "zip" (.type "zip")) (h : SAs C fr [e₁, e₂] S (fun vs S₁ => ∃ l1 l2 us1 us2, vs = [.ref l1, .ref l2] ∧ S₁.σ l1 = some (.list us1) ∧ S₁.σ l2 = some (.list us2) ∧ us1.length = us2.length ∧ P us1.length (fun _ => avZ l1 l2 us1.length) (itZ l1 l2 x y) S₁) X)
    (hst : ∀ env, starEach [e₁, e₂] env = [(false, eval e₁ env), (false, eval e₂ env)] := by intro _; rfl) (hst2 : ∀ env, starEach [e₂] env = [(false, eval e₂ env)] := by intro _; rfl) :
    SI C fr (.Tuple [.Name x px, .Name y py] kk tp) (.Call (.Name "zip" np) [e₁, e₂] [] pos) (fun C => IsV C x ∧ IsV C y) S P X := fun c ρe Se he ρ s Q E hb G I F k kx => by
  refine wpAny_Call_NameR (name_blt c I.stays b ?_)
  refine callWith_type1 (h c ρ s _ E pos I F (fun vs S₁ ρ₁ h₁ t₁ ws p G₁ I₁ r => ?_) kx) (by rw [hst, hst2]) (by rw [hst2]; rfl)
  obtain ⟨l1, l2, us1, us2, rfl, e1, e2, hlen, p⟩ := p
  obtain ⟨hl1, hl2, rfl⟩ : l1 < S₁.nx ∧ l2 < S₁.nx ∧ ws = [.ref (ρ₁ l1), .ref (ρ₁ l2)] := by
    cases r with
    | cons r1 r2 => cases r2 with
      | cons r2 r3 => cases r3; obtain ⟨q, rfl⟩ := r1; obtain ⟨q2, rfl⟩ := r2; exact ⟨q, q2, rfl⟩
  obtain ⟨wl1, L1, rr1⟩ := I₁.list e1
  obtain ⟨wl2, L2, rr2⟩ := I₁.list e2
  refine call_zip_2 (s := { s with heap := h₁, toks := t₁ }) L1 L2 fun h' y1 y2 y3 y4 y5 y6 y7 => ?_
  refine wpAny_pyIter_zip (s := { s with heap := h', toks := t₁ }) y1 ?_
  have kp : Kept h₁ h' := y7
  have G2 := Go.kept (F := fs C.envs) (ρ := ρ₁) I₁.bnd kp
  have frk : ∀ k, h₁.get? (h₁.objs.size + k) = none := fun k => by
    cases q : h₁.get? (h₁.objs.size + k) with
    | none => rfl
    | some o => exact absurd (Heap.lt_size q) (Nat.not_lt.mpr (Nat.le_add_right _ _))
  obtain ⟨o1, p1, p2, p3⟩ := id y4
  obtain ⟨o2, q1, q2, q3⟩ := id y5
  have GG := Go.trans hb G G₁
  have R1 := Rec.made I₁ GG (frk 0) p1 (fun _ q => by rw [p3] at q; cases q) (fun _ _ q => by rw [p3] at q; cases q)
  have R2 := Rec.made I₁ GG (frk 1) q1 (fun _ q => by rw [q3] at q; cases q) (fun _ _ q => by rw [q3] at q; cases q)
  have R3 := Rec.made I₁ GG (frk 2) (show h'.get? (h₁.objs.size + 2) = some _ from y2) (fun _ q => by cases q) (fun _ _ q => by cases q)
  have R4 := Rec.made I₁ GG (frk 3) (show h'.get? (h₁.objs.size + 3) = some _ from y3) (fun _ q => by cases q) (fun _ _ q => by cases q)
  have R5 := Rec.made I₁ GG (frk 4) (show h'.get? (h₁.objs.size + 4) = some _ from y1) (fun _ q => by cases q) (fun _ _ q => by cases q)
  have ne : ∀ i j : Nat, i ≠ j → h₁.objs.size + i ≠ h₁.objs.size + j := fun i j h q => h (Nat.add_left_cancel q)
  exact k _ _ _ (ZipSt C.h₀ C.envs he (h₁.objs.size + 4) (h₁.objs.size + 2) (h₁.objs.size + 3) h₁.objs.size (h₁.objs.size + 1) l1 l2) S₁ ρ₁ h' t₁ _ p G₁.gr (Go.trans I.bnd G₁ G2) (I₁.kept kp) ((F.go I G₁).go I₁ G2)
    ⟨hl1, hl2, y1, y2, ⟨_, _, y3⟩, y4, y5, R5, R3, R4, R1, R2⟩ (fun i fr S fr₁ S₁ z => z.1)
    fun env' c' o' ow' => Feed.zip (C := { C with env := env' }) c' hb ow' o'.1 o'.2 _ _ _ _ _ (ne 2 4 (by decide)) (ne 3 4 (by decide)) (ne 0 4 (by decide)) (ne 1 4 (by decide)) (ne 2 3 (by decide)) (ne 2 0 (by decide)) (ne 2 1 (by decide)) (ne 3 0 (by decide)) (ne 3 1 (by decide)) (ne 0 1 (by decide)) l1 l2 us1.length
end

/-! ## The for statement -/
theorem SS.for {C : Cx} {fr : Frm} {S : St} {PN : Frm → St → Prop} {PR : AV → St → Prop} {X : St → Prop} {target iter : Expr} {ok : Cx → Prop} {body : List Stmt} {pos : Pos} (hok : ok C)
    (h : SI C fr target iter ok S (fun n Av item S₁ => ∃ J : Nat → Frm → St → Prop, J 0 fr S₁ ∧
      (∀ i fr' S', J i fr' S' → i < n → Av i S' ∧ ∀ fr₁ S₂, item i fr' S' fr₁ S₂ → SL C fr₁ body S₂ (fun fr₃ S₃ => ∃ fr₄ S₄, Le fr₄ fr₃ ∧ Sub S₄ S₃ ∧ J (i + 1) fr₄ S₄) PR noX) ∧
      (∀ fr' S', J n fr' S' → Av n S' ∧ PN fr' S')) X)
    (hs : ∀ env x, foldedSetIterable iter env x = pure x := by intro _ _; rfl) : SS C fr (.For target iter body [] pos) S PN PR X := fun c ρe Se he ρ s Q E hb ow G I F kn kr kx => by
  refine wpAny_For (h c ρe Se he ρ s _ E hb G I F (fun n Av item Sti S' ρ' h' tk Ia p g' G' I' F' st' it' fd' => ?_) (kx.x hb G)) (hs _)
  obtain ⟨J, j0, turn, done⟩ := p
  exact for_feed c hb ow (fd' C.env c hok ow) turn done (fun f s' q => q) (s := { s with heap := h', toks := tk }) (Go.trans hb G G') I' F' st' j0 (kn.step g') kr
end Mine
end
section
open PySem PySem.W PyProof.Rows PySem.Calls
set_option Elab.async false
set_option maxRecDepth 100000
set_option linter.unusedVariables false
namespace Mine

/-! ## List comprehensions -/
noncomputable def clR (cells : List (Str × Addr)) : List (Str × NameKind) → List (Str × Addr) → List (Str × Addr)
  | [], acc => acc
  | (n, k) :: r, acc => if (k == .free) = true then clR cells r ((n, (cells.lookup n).getD 0) :: acc) else clR cells r acc
theorem closure_loop {env : Env} : ∀ (names : List (Str × NameKind)) (acc : List (Str × Addr)), (∀ n, (n, NameKind.free) ∈ names → ∃ c, env.cells.lookup n = some c) →
    (forIn names acc fun x r => match x with
      | (name, kind) => if (kind == .free) = true then do let c ← cellOf env name; pure (ForInStep.yield ((name, c) :: r)) else pure (ForInStep.yield r) : Sem (List (Str × Addr))) = pure (clR env.cells names acc)
  | [], acc, _ => rfl
  | (n, k) :: r, acc, h => by
    rw [List.forIn_cons]
    unfold clR
    by_cases hk : (k == .free) = true
    · obtain ⟨c, hc⟩ := h n (by rw [beq_iff_eq.mp hk]; exact .head _)
      simp only [hk, if_true]
      have : cellOf env n = pure c := by unfold cellOf; rw [hc]
      rw [this, hc]
      exact closure_loop r _ fun n' hn => h n' (.tail _ hn)
    · simp only [hk]
      exact closure_loop r _ fun n' hn => h n' (.tail _ hn)
theorem closure_is {env : Env} {scope : Scope} (h : ∀ n, (n, NameKind.free) ∈ scope.names → ∃ c, env.cells.lookup n = some c) : closureFor scope env = pure (clR env.cells scope.names []) := by
  simp only [closureFor]
  rw [closure_loop scope.names [] h]
  rfl
theorem clR_lookup {cells : List (Str × Addr)} {x : Str} {c : Addr} : ∀ {names : List (Str × NameKind)} {acc : List (Str × Addr)}, (∀ n, (n, NameKind.free) ∈ names → ∃ c, cells.lookup n = some c) → (∀ y d, acc.lookup y = some d → cells.lookup y = some d) →
    (clR cells names acc).lookup x = some c → cells.lookup x = some c
  | [], acc, _, ha, h => ha x c h
  | (n, k) :: r, acc, hn, ha, h => by
    unfold clR at h
    split at h
    · rename_i hk
      refine clR_lookup (fun n' q => hn n' (.tail _ q)) (fun y d q => ?_) h
      rw [List.lookup_cons] at q
      split at q
      · rename_i hy
        obtain ⟨c', hc⟩ := hn n (by rw [beq_iff_eq.mp hk]; exact .head _)
        rw [hc] at q; cases q
        rw [beq_iff_eq.mp hy]; exact hc
      · exact ha y d q
    · exact clR_lookup (fun n' q => hn n' (.tail _ q)) ha h
theorem clR_has {cells : List (Str × Addr)} {x : Str} : ∀ {names : List (Str × NameKind)} {acc : List (Str × Addr)}, (x ∈ acc.map (·.1) ∨ (x, NameKind.free) ∈ names) → x ∈ (clR cells names acc).map (·.1)
  | [], acc, h => h.elim id fun q => by simp at q
  | (n, k) :: r, acc, h => by
    unfold clR
    split
    · refine clR_has ?_
      rcases h with h | h
      · exact .inl (by simp at h ⊢; exact .inr h)
      · rcases List.mem_cons.mp h with q | q
        · cases q; exact .inl (by simp)
        · exact .inr q
    · rename_i hk
      refine clR_has ?_
      rcases h with h | h
      · exact .inl h
      · rcases List.mem_cons.mp h with q | q
        · cases q; exact absurd rfl hk
        · exact .inr q

/-- the tests of a clause: none or one -/
noncomputable def STests (C : Cx) (fr : Frm) (ifs : List Expr) (S : St) (P : Bool → St → Prop) (X : St → Prop) : Prop := match ifs with
  | [] => P true S
  | [e] => SB C fr e S P X
  | _ => False
theorem comp_loop {prog : Program} {w : World} {A : Around} {elt target iter : Expr} {ifs : List Expr} {scope : Scope} {pos : Pos} {it acc : Value} {env : Env} {R : Result → Shared → Prop} (I : Nat → Shared → Prop)
    (turn : ∀ n s, I n s → wpAny (model prog w) A (pyNext it) (fun r s₁ => match r with
      | none => R (.ok .next) s₁
      | some v => wpAny (model prog w) A (letOwnedTupleGo target it v) (fun _ s₁' => wpAny (model prog w) A (assign target env v) (fun _ s₂ =>
          wpAny (model prog w) A (forIn ifs true fun c r => if r = true then do let ok ← isTrue c env (eval c env); pure (ForInStep.yield ok) else pure (ForInStep.yield r)) (fun ok s₃ =>
            if ok = true then wpAny (model prog w) A (eval elt env) (fun x s₄ =>
              wpAny (model prog w) A (call (.builtin "list.append") [acc, x]) (fun _ s₅ => ∃ m, m < n ∧ I m s₅) (notedBy (model prog w) A env fun e s' => R (.error e) s') s₄) (notedBy (model prog w) A env fun e s' => R (.error e) s') s₃
            else ∃ m, m < n ∧ I m s₃) (notedBy (model prog w) A env fun e s' => R (.error e) s') s₂) (notedBy (model prog w) A env fun e s' => R (.error e) s') s₁') (notedBy (model prog w) A env fun e s' => R (.error e) s') s₁) (notedBy (model prog w) A env fun e s' => R (.error e) s') s)
    {s : Shared} (n : Nat) (h : I n s) : codeAny (model prog w) A (.compLoop (.ListComp elt [⟨target, iter, ifs, 0⟩] scope pos) 0 it acc env) R s := by
  refine codeAny_loop rfl I (fun n s hI => ?_) n h
  show wpAny _ A ((compTurn (.ListComp elt [⟨target, iter, ifs, 0⟩] scope pos) 0 it acc env).onRaise (fun x => do noteFrame x env; theTreesLotGoes x)) _ _ s
  refine wpAny_noted ?_
  rw [compTurn_list]
  refine wpAny_bind (wpAny_standAt (wpAny_bind (wpAny_mono (turn n s hI) (fun r s₁ h₁ => ?_) fun _ _ h' => h')))
  cases r with
  | none => exact wpAny_pure h₁
  | some v =>
    refine wpAny_bind (wpAny_mono h₁ (fun _ s₁' h₁' => ?_) fun _ _ h' => h')
    refine wpAny_bind (wpAny_mono h₁' (fun _ s₂ h₂ => wpAny_bind (wpAny_mono h₂ (fun ok s₃ h₃ => ?_) fun _ _ h' => h')) fun _ _ h' => h')
    cases ok with
    | true =>
      rw [if_pos rfl] at h₃
      exact wpAny_bind (wpAny_bind (wpAny_mono h₃ (fun x s₄ h₄ => wpAny_bind (wpAny_mono h₄ (fun _ s₅ h₅ => wpAny_pure (wpAny_pure ⟨rfl, h₅⟩)) fun _ _ h' => h')) fun _ _ h' => h'))
    | false =>
      rw [if_neg (by decide)] at h₃
      exact wpAny_bind (wpAny_pure (wpAny_pure ⟨rfl, h₃⟩))
end Mine
end
section
open PySem PySem.W PyProof.Rows PySem.Calls
set_option Elab.async false
set_option maxRecDepth 100000
set_option linter.unusedVariables false
namespace Mine

noncomputable def relS (scope sc : Scope) : List (Str × NameKind) := scope.names.map fun (n, k) => if (k == .free && sc.kind == .function && sc.names.lookup n == some .cell) then (n, .cell) else (n, k)
structure InComp (C C' : Cx) (scope : Scope) : Prop where
  KF : C'.KF = C.KF
  w : C'.w = C.w
  prog : C'.prog = C.prog
  h₀ : C'.h₀ = C.h₀
  n : C'.n = C.n
  kind : ∀ x, C'.env.kindOf x = (relS scope C.env.scope).lookup x
noncomputable def CompTurns (C : Cx) (scope : Scope) (frc : Frm) (ifs : List Expr) (elt : Expr) (n : Nat) (Av : Avt) (item : Itt) (S₁ : St) (Y : Nat → List AV → Prop) : Prop :=
  Y 0 [] ∧ n ≤ 100000 ∧ (∀ i S' fr₁ S₂, item i frc S' fr₁ S₂ → Le frc fr₁) ∧
  (∀ C', InComp C C' scope → ∀ i ys S', i < n → Y i ys → Ext S₁ S' → Av i S' ∧ ∀ fr₁, item i frc S' fr₁ S' →
    STests C' fr₁ ifs S' (fun b S₃ => Ext S' S₃ ∧ if b = true then SE C' fr₁ elt S₃ (fun y S₄ => Ext S₃ S₄ ∧ Y (i + 1) (ys ++ [y])) noX else Y (i + 1) ys) noX) ∧
  (∀ S', Ext S₁ S' → Av n S')
theorem tests_sound {C : Cx} {fr : Frm} {ifs : List Expr} {S : St} {P : Bool → St → Prop} (h : STests C fr ifs S P noX) (c : COk C) {ρ : Loc → Addr} {s : Shared} {Q : Bool → Shared → Prop} {E : Value → Shared → Prop} (I : Inv C.h₀ C.envs ρ S s.heap) (F : FrR C.h₀ C.env fr ρ S s.heap) (k : KB C ρ S s P Q) :
    wpAny (model C.prog C.w) C.A (forIn ifs true fun c r => if r = true then do let ok ← isTrue c C.env (eval c C.env); pure (ForInStep.yield ok) else pure (ForInStep.yield r)) Q E s := by
  match ifs, h with
  | [], h => exact wpAny_tests_nil (k.now (tk := s.toks) I h)
  | [e], h => exact wpAny_tests_one (h c ρ s Q E I F k KX.no)
theorem Le.trans {a b c : Frm} (x : Le a b) (y : Le b c) : Le a c := fun k v e => y k v (x k v e)
theorem relabel_cell {names : List (Str × NameKind)} {env : Env} {x : Str} (hcell : ∀ y ∈ names, y.2 ≠ .cell)
    (h : (names.map fun (n, k) => if (k == NameKind.free && env.scope.kind == .function && env.kindOf n == some .cell) then (n, NameKind.cell) else (n, k)).lookup x = some .cell) : (x, NameKind.free) ∈ names := by
  induction names with
  | nil => simp at h
  | cons p r ih =>
    obtain ⟨n, k⟩ := p
    rw [List.map_cons, List.lookup_cons] at h
    by_cases hk : (k == NameKind.free && env.scope.kind == .function && env.kindOf n == some .cell) = true
    · simp only [hk, if_true] at h
      split at h
      · rename_i hx
        simp only [Bool.and_eq_true, beq_iff_eq] at hk hx
        rw [hx, hk.1.1]; exact .head _
      · exact .tail _ (ih (fun y hy => hcell y (.tail _ hy)) h)
    · rw [if_neg hk] at h
      dsimp only at h
      split at h
      · cases h
        exact absurd rfl (hcell (n, .cell) (.head _))
      · exact .tail _ (ih (fun y hy => hcell y (.tail _ hy)) h)

theorem comp_core {C : Cx} {fr frc : Frm} {S : St} {target iter elt : Expr} {ifs : List Expr} {ok : Cx → Prop} {scope : Scope} {pos cpos : Pos} {X : St → Prop} {P : AV → St → Prop} (use : Option (Value → Sem Unit))
    (hfrc : ∀ p ∈ frc, fr.lookup p.1 = some p.2 ∧ (relS scope C.env.scope).lookup p.1 = some .cell) (hcell : ∀ y ∈ scope.names, y.2 ≠ .cell) (hkind : scope.kind = .function)
    (hnames : ∀ y ∈ scope.names, y.2 = .local → scope.names.lookup y.1 = some .local) (hfree : ∀ p ∈ scope.names, p.2 = .free → C.env.kindOf p.1 = some .cell)
    (ok' : ∀ C', InComp C C' scope → ok C')
    (h : SI C fr target iter ok S (fun n Av item S₁ => ∃ Y, CompTurns C scope frc ifs elt n Av item S₁ Y ∧ (∀ ys S' la, Y n ys → Ext S₁ S' → S₁.nx ≤ la → S'.σ la = some (.list ys) → P (.ref la) S')) X)
    (c : COk C) {ρ : Loc → Addr} {s : Shared} {Q : Value → Shared → Prop} {E : Value → Shared → Prop} (I : Inv C.h₀ C.envs ρ S s.heap) (F : FrR C.h₀ C.env fr ρ S s.heap) (kx : KX C ρ S s X E)
    (fin : ∀ la S' ρ' h' tk Cc m, P (.ref la) S' → Go (fs C.envs) ρ S s.heap ρ' S' h' → Inv C.h₀ C.envs ρ' S' h' → FrR C.h₀ C.env fr ρ' S' h' → la < S'.nx → h'.Ns Cc m → ¬ Img ρ' S' Cc → C.h₀.get? Cc = none → s.heap.get? Cc = none → Cc ∉ fs C.envs →
      compPost (model C.prog C.w) C.A E use Q (.ref (ρ' la)) Cc (.ok .next) { s with heap := h', toks := tk })
    (hs : ∀ env x, foldedSetIterable iter env x = pure x := by intro _ _; rfl) :
    wpAny (model C.prog C.w) C.A (comprehension (.ListComp elt [⟨target, iter, ifs, 0⟩] scope pos) scope C.env cpos (newList []) false (eval iter C.env) use) Q E s := by
  have hfree' : ∀ n, (n, NameKind.free) ∈ scope.names → ∃ cc, C.env.cells.lookup n = some cc := fun n hn => F.cells n (hfree _ hn rfl)
  refine wpAny_comprehension_free rfl (hs _) (closure_is hfree') hkind hnames (h c ρ S s.heap ρ s _ E I.bnd (Go.refl I.bnd) I F (fun n Av item Sti S₁ ρ₁ h₁ t₁ Ia p g₁ G₁ I₁ F₁ st₁ it₁ fd₁ => ?_) kx)
  obtain ⟨Y, ⟨y0, hn, hle, turn, avEnd⟩, hP⟩ := p
  refine wpAny_newObj_type (wpAny_newFunctionEnv hcell (by intro y hy; simp at hy) (fun h₂ hns₂ hsb₂ => ?_) hkind)
  dsimp only at hns₂ hsb₂ ⊢
  generalize hH : h₁.push { cls := .type "list", dict := none, data := .seq ([] : List Value).toArray } = H1 at hns₂ hsb₂ ⊢
  have kp1 : Kept h₁ H1 := hH ▸ Kept.push _ _
  have kp2 : Kept H1 h₂ := fun b o e => hsb₂.extBut b o (fun q => by rw [q, fresh_size] at e; cases e) (Heap.get?_push_of_some _ e)
  have kp := kp1.trans kp2
  have eD : h₂.get? h₁.objs.size = some { cls := .type "list", dict := none, data := .seq ([] : List Value).toArray } := kp2 _ _ (hH ▸ Heap.get?_push_size _ rfl)
  have frC : ∀ b o, h₁.get? b = some o → b ≠ H1.objs.size := fun b o e q => by have := kp1 b o e; rw [q, fresh_size] at this; cases this
  have fr1C : h₁.get? H1.objs.size = none := by
    cases q : h₁.get? H1.objs.size with
    | none => rfl
    | some o => exact absurd rfl (frC _ o q)
  have r0 : OR (setAt ρ₁ S₁.nx h₁.objs.size) (S₁.nx + 1) (.list []) { cls := .type "list", dict := none, data := .seq ([] : List Value).toArray } := ⟨⟨rfl, rfl, rfl⟩, _, _, rfl, .nil⟩
  have I₂ : Inv C.h₀ C.envs (setAt ρ₁ S₁.nx h₁.objs.size) (S₁.add (.list [])) h₂ := I₁.add kp fresh_size eD r0
  have G₂ : Go (fs C.envs) ρ₁ S₁ h₁ (setAt ρ₁ S₁.nx h₁.objs.size) (S₁.add (.list [])) h₂ := Go.add I₁.bnd kp fresh_size
  obtain ⟨ρ₂, hρ⟩ : ∃ x, setAt ρ₁ S₁.nx h₁.objs.size = x := ⟨_, rfl⟩
  have new₀ : C.h₀.get? H1.objs.size = none := by
    cases q : C.h₀.get? H1.objs.size with
    | none => rfl
    | some o => have := I₁.stays _ o q; rw [fr1C] at this; cases this
  have newS : s.heap.get? H1.objs.size = none := none_back G₁ fr1C
  have offF : H1.objs.size ∉ fs C.envs := fun q => by
    obtain ⟨_, o', e1, _⟩ := I₁.ff.mem q
    rw [fr1C] at e1; cases e1
  have offI : ¬ Img (setAt ρ₁ S₁.nx h₁.objs.size) (S₁.add (.list [])) H1.objs.size := fun ⟨l, hl, q⟩ => by
    rcases upd_dom hl with z | z
    · rw [z, setAt_new] at q
      have := eD; rw [q] at this
      rw [← hH, Heap.size_push] at q
      exact absurd q (Nat.ne_of_lt (Nat.lt_succ_self _))
    · rw [setAt_old (I₁.bnd l z)] at q
      exact not_img_free I₁ fr1C ⟨l, z, q⟩
  rw [hρ] at I₂ G₂ offI
  let C' : Cx := { C with env := compEnvC scope (clR C.env.cells scope.names []) H1.objs.size C.env }
  have kin : ∀ x, C'.env.kindOf x = (relS scope C.env.scope).lookup x := fun x => rfl
  have ic : InComp C C' scope := ⟨rfl, rfl, rfl, rfl, rfl, kin⟩
  have c' : COk C' := ⟨c.g, c.frames, c.handled, c.depth, c.units, hkind, c.glob, c.blt⟩
  have clL : ∀ x cc, C'.env.cells.lookup x = some cc → C.env.cells.lookup x = some cc := fun x cc e => clR_lookup (acc := []) hfree' (fun _ _ q => by simp at q) e
  have celln : ∀ x, C'.env.kindOf x = some .cell → (x, NameKind.free) ∈ scope.names := fun x e => relabel_cell hcell e
  have clH : ∀ x, (x, NameKind.free) ∈ scope.names → ∃ cc, C'.env.cells.lookup x = some cc := fun x e => Option.isSome_iff_exists.mp (lookup_isSome_of_mem (clR_has (.inr e)))
  have F₂ := (F₁.go I₁ G₂)
  have FC : FrR C'.h₀ C'.env frc ρ₂ (S₁.add (.list [])) h₂ := by
    refine ⟨fun x v e => .inr ?_, ⟨_, hns₂⟩, fun x e => clH x (celln x e), fun x cc e => F₂.isc x cc (clL x cc e), fun x y cc e1 e2 => F₂.apart x y cc (clL x cc e1) (clL y cc e2), offI, new₀, fun x cc e => F₂.newC x cc (clL x cc e)⟩
    obtain ⟨e1, e2⟩ := hfrc (x, v) (mem_of_lookup e)
    have e3 : C'.env.kindOf x = some .cell := e2
    have e4 := celln x e3
    obtain ⟨cc, e5⟩ := clH x e4
    rcases F₂.look x v e1 with ⟨k, _⟩ | ⟨k, c2, v', a, b, r⟩
    · rw [hfree _ e4 rfl] at k; cases k
    · have := clL x cc e5
      rw [a] at this; cases this
      exact ⟨e3, _, v', e5, b, r⟩
  have hok : ok C' := ok' C' ic
  have fd : Feed C' ρ S s.heap target Ia n Sti Av item := fd₁ _ c' hok ⟨newS, fun q => by cases q⟩
  have st₂ : Sti 0 ρ₂ (S₁.add (.list [])) h₂ := fd.kept _ _ _ _ _ _ _ st₁ G₂.gr kp fun a o e hi => G₂.img I₁.bnd e hi
  have GG := Go.trans I.bnd G₁ G₂
  have hD : ρ₂ S₁.nx = h₁.objs.size := by rw [← hρ, setAt_new]
  have ext0 : Ext S₁ (S₁.add (.list [])) := (Ext.refl S₁).add I₁.bnd
  have loop : ∀ tk₀, codeAny (model C.prog C.w) C.A (.compLoop (.ListComp elt [⟨target, iter, ifs, 0⟩] scope pos) 0 (.ref Ia) (.ref h₁.objs.size) C'.env) (compPost (model C.prog C.w) C.A E use Q (.ref h₁.objs.size) H1.objs.size) { s with heap := h₂, toks := tk₀ } := fun tk₀ => by
    refine comp_loop (fun k s' => ∃ i ys S' ρ' h' tk, s' = { s with heap := h', toks := tk } ∧ i ≤ n ∧ k = n + 1 - i ∧ Y i ys ∧ ys.length ≤ i ∧ Ext S₁ S' ∧ S'.σ S₁.nx = some (.list ys) ∧ Gr ρ₂ (S₁.add (.list [])) ρ' S' ∧ Go (fs C.envs) ρ S s.heap ρ' S' h' ∧ Inv C.h₀ C.envs ρ' S' h' ∧ FrR C.h₀ C'.env frc ρ' S' h' ∧ Sti i ρ' S' h') ?_ (n + 1)
      ⟨0, [], _, ρ₂, h₂, tk₀, rfl, Nat.zero_le _, rfl, y0, Nat.le_refl _, ext0, upd_same, .refl _ _, GG, I₂, FC, st₂⟩
    rintro k s' ⟨i, ys, S', ρ', h', tk, rfl, hi, rfl, hy, hyl, ex, ela, g', G', I', F', st'⟩
    have hla : S₁.nx < S'.nx := I'.bnd _ (by rw [ela]; simp)
    have hD' : ρ' S₁.nx = h₁.objs.size := by rw [g'.agree S₁.nx (Nat.lt_succ_self _), hD]
    by_cases hlt : i < n
    · obtain ⟨av, tn⟩ := turn C' ic i ys S' hlt hy ex
      refine fd.draw i frc ρ' S' { s with heap := h', toks := tk } _ _ _ hlt G' I' F' st' av fun fr₁ Sx ρ₁' h₁' tk₁ it g₁' G₁' I₁' F₁' st₁' => ?_
      obtain rfl : Sx = S' := it₁ _ _ _ _ _ it
      refine tests_sound (tn fr₁ it) c' (s := { s with heap := h₁', toks := tk₁ }) I₁' F₁' fun b S₃ ρ₃ h₃ tk₃ p₃ G₃ I₃ => ?_
      obtain ⟨ex3, p₃⟩ := p₃
      have F₃ := F₁'.go I₁' G₃
      cases b with
      | false =>
        rw [if_neg (by decide)] at p₃ ⊢
        refine ⟨n + 1 - (i + 1), by (first | lia | omega), i + 1, ys, S₃, ρ₃, h₃, tk₃, rfl, hlt, rfl, p₃, by (first | lia | omega), ex.trans ex3, ex3.2 _ _ ela, (g'.trans g₁').trans G₃.gr, Go.trans I.bnd G₁' G₃, I₃, F₃.le (hle _ _ _ _ it), ?_⟩
        exact fd.stab _ _ _ _ _ _ _ _ st₁' I₁' F₁' G₃.gr (Go.trans I₁'.bnd (Go.hide _ I₁'.bnd) G₃)
      | true =>
        rw [if_pos rfl] at p₃ ⊢
        refine p₃ c' ρ₃ { s with heap := h₃, toks := tk₃ } _ _ I₃ F₃ (fun y S₄ ρ₄ h₄ tk₄ y' p₄ G₄ I₄ r₄ => ?_) KX.no
        obtain ⟨ex4, p₄⟩ := p₄
        have ela4 := ex4.2 _ _ (ex3.2 _ _ ela)
        have gg := ((g'.trans g₁').trans G₃.gr).trans G₄.gr
        have hD4 : ρ₄ S₁.nx = h₁.objs.size := by rw [gg.agree S₁.nx (Nat.lt_succ_self _), hD]
        obtain ⟨ws, nn, L, rr⟩ := I₄.listO ela4
        rw [hD4] at L
        refine append_at (s := { s with heap := h₄, toks := tk₄ }) L (fun h₅ hs5 e5 => ?_) (by rw [← Array.length_toList, rr.length, sizeLine_eq]; (first | lia | omega))
        have hne : S₄.σ S₁.nx ≠ none := by rw [ela4]; simp
        rw [← hD4] at hs5 e5
        have r5 : OR ρ₄ S₄.nx (.list (ys ++ [y])) { cls := .type "list", data := .seq (ws.push y') (nn + 1) } := ⟨⟨rfl, rfl, rfl⟩, _, _, rfl, by rw [Array.toList_push]; exact rr.append (.cons r₄ .nil)⟩
        have G5 := Go.put (F := fs C.envs) (o := .list (ys ++ [y])) I₄.bnd hne hs5 ⟨_, e5⟩
        have I5 := I₄.put hne hs5 e5 r5
        have F4 := F₃.go I₃ G₄
        have F5 := F4.go I₄ G5
        have G35 := Go.trans I₁'.bnd (Go.trans I₁'.bnd G₃ G₄) G5
        refine ⟨n + 1 - (i + 1), by (first | lia | omega), i + 1, ys ++ [y], S₄.put S₁.nx (.list (ys ++ [y])), ρ₄, h₅, tk₄, rfl, hlt, rfl, p₄, by rw [List.length_append, List.length_singleton]; (first | lia | omega), ?_, upd_same, gg.trans G5.gr, Go.trans I.bnd G₁' G35, I5, F5.le (hle _ _ _ _ it), ?_⟩
        · have ex5 := (ex.trans ex3).trans ex4
          refine ⟨ex5.1, fun l o e => ?_⟩
          have : l ≠ S₁.nx := fun q => absurd (I₁.bnd l (by rw [e]; simp)) (by rw [q]; exact Nat.lt_irrefl _)
          exact (upd_ne this).trans (ex5.2 l o e)
        · exact fd.stab _ _ _ _ _ _ _ _ st₁' I₁' F₁' G35.gr (Go.trans I₁'.bnd (Go.hide _ I₁'.bnd) G35)
    · rw [Nat.le_antisymm hi (Nat.not_lt.mp hlt)] at hy st'
      refine fd.fin frc ρ' S' { s with heap := h', toks := tk } _ _ _ G' I' F' st' (avEnd S' ex) fun h₁' tk₁ G₁' I₁' F₁' => ?_
      obtain ⟨m, hm⟩ := F₁'.ns
      rw [← hD']
      exact fin S₁.nx S' ρ' h₁' tk₁ H1.objs.size m (hP ys S' _ hy ex (Nat.le_refl _) ela) G₁' I₁' (F.go I G₁') hla hm F₁'.offL new₀ newS offF
  have e0 : { newEnv scope H1.objs.size C.env.globals (clR C.env.cells scope.names []) C.env.qual none .none (some C.env) C.env.builtins with scope := relabel scope C.env } = C'.env := rfl
  refine codeAny_compStart_list ?_ ?_
  · exact loop _
  · exact fd.self _ _ _ _ _ _ st₂ (loop _)
end Mine
end
section
open PySem PySem.W PyProof.Rows PySem.Calls
set_option Elab.async false
set_option maxRecDepth 100000
set_option linter.unusedVariables false
namespace Mine

/-- one thing is turned that is none of the store's, of the frames', of what was -/
theorem Inv.wr {h₀ : Heap} {envs : List Env} {ρ : Loc → Addr} {S : St} {h h' : Heap} {a : Addr} (I : Inv h₀ envs ρ S h) (hi : ¬ Img ρ S a) (hn : h₀.get? a = none) (hf : a ∉ fs envs) (hs : Heap.SameBut a h h') : Inv h₀ envs ρ S h' where
  stays := fun b o e => (hs.2 b fun q => by rw [q, hn] at e; cases e).trans (I.stays b o e)
  bnd := I.bnd
  rep := fun l o e => by
    obtain ⟨ob, e', r⟩ := I.rep l o e
    exact ⟨ob, (hs.2 _ fun q => hi ⟨l, by rw [e]; simp, q⟩).trans e', r⟩
  inj := I.inj
  new := I.new
  ff := fun env he' => by
    obtain ⟨x1, L, o, x2, x3, x4, x5⟩ := I.ff env he'
    exact ⟨x1, L, o, x2, x3, (hs.2 L fun q => hf (by rw [← q]; exact List.mem_filterMap.mpr ⟨env, he', x2⟩)).trans x4, x5⟩
  off := I.off
theorem Go.wr {F : List Addr} {ρe ρ : Loc → Addr} {Se S : St} {he h h' : Heap} {a : Addr} (G : Go F ρe Se he ρ S h) (hn : he.get? a = none) (hs : Heap.SameBut a h h') : Go F ρe Se he ρ S h' where
  nx := G.nx
  agree := G.agree
  dom := G.dom
  fresh := G.fresh
  keep := fun b o e hi hf => (hs.2 b fun q => by rw [q, hn] at e; cases e).trans (G.keep b o e hi hf)
  slot := fun b o e hi hf => by obtain ⟨sl, e'⟩ := G.slot b o e hi hf; exact ⟨sl, (hs.2 b fun q => by rw [q, hn] at e; cases e).trans e'⟩
  mono := fun b o e => by
    obtain ⟨o', e'⟩ := G.mono b o e
    exact ⟨o', (hs.2 b fun q => by rw [q, hn] at e; cases e).trans e'⟩
theorem FrR.wr {h₀ : Heap} {env : Env} {fr : Frm} {ρ : Loc → Addr} {S : St} {h h' : Heap} {a : Addr} (F : FrR h₀ env fr ρ S h) (hl : env.locals ≠ a) (hc : ∀ x cc, env.cells.lookup x = some cc → cc ≠ a) (hs : Heap.SameBut a h h') : FrR h₀ env fr ρ S h' := by
  have nC : ∀ x c v, env.cells.lookup x = some c → h.IsCell c v → h'.IsCell c v := fun x c v e ⟨o, e', d⟩ => ⟨o, (hs.2 c (hc x c e)).trans e', d⟩
  have nN : ∀ m, h.Ns env.locals m → h'.Ns env.locals m := fun m hm => hm.sameBut hs hl
  exact { look := fun x v e => by
            rcases F.look x v e with ⟨k, m, v', a1, b, c⟩ | ⟨k, c, v', a1, b, d⟩
            · exact .inl ⟨k, m, v', nN m a1, b, c⟩
            · exact .inr ⟨k, c, v', a1, nC _ _ _ a1 b, d⟩
          ns := by obtain ⟨m, a1⟩ := F.ns; exact ⟨m, nN m a1⟩
          cells := F.cells
          isc := fun x c e => by obtain ⟨v, b⟩ := F.isc x c e; exact ⟨v, nC _ _ _ e b⟩
          apart := F.apart
          offL := F.offL
          newL := F.newL
          newC := F.newC }
theorem FrR.not_own {h₀ : Heap} {env : Env} {fr : Frm} {ρ : Loc → Addr} {S : St} {h : Heap} {a : Addr} (F : FrR h₀ env fr ρ S h) (hn : h.get? a = none) : env.locals ≠ a ∧ ∀ x cc, env.cells.lookup x = some cc → cc ≠ a := by
  constructor
  · rintro rfl
    obtain ⟨m, o, _, _, e, _⟩ := F.ns
    rw [hn] at e; cases e
  · rintro x cc e rfl
    obtain ⟨v, o, e', _⟩ := F.isc x cc e
    rw [hn] at e'; cases e'

section
variable {C : Cx} {fr frc : Frm} {S : St} {target iter elt : Expr} {ifs : List Expr} {ok : Cx → Prop} {scope : Scope} {pos : Pos} {X : St → Prop} {P : AV → St → Prop}
structure CompOk (C : Cx) (fr frc : Frm) (scope : Scope) : Prop where
  frc : ∀ p ∈ frc, fr.lookup p.1 = some p.2 ∧ (relS scope C.env.scope).lookup p.1 = some .cell
  cell : ∀ y ∈ scope.names, y.2 ≠ .cell
  kind : scope.kind = .function
  names : ∀ y ∈ scope.names, y.2 = .local → scope.names.lookup y.1 = some .local
  free : ∀ p ∈ scope.names, p.2 = .free → C.env.kindOf p.1 = some .cell
theorem SE.comp (K : CompOk C fr frc scope) (ok' : ∀ C', InComp C C' scope → ok C')
    (h : SI C fr target iter ok S (fun n Av item S₁ => ∃ Y, CompTurns C scope frc ifs elt n Av item S₁ Y ∧ (∀ ys S' la, Y n ys → Ext S₁ S' → S₁.nx ≤ la → S'.σ la = some (.list ys) → P (.ref la) S')) X)
    (hs : ∀ env x, foldedSetIterable iter env x = pure x := by intro _ _; rfl) : SE C fr (.ListComp elt [⟨target, iter, ifs, 0⟩] scope pos) S P X := fun c ρ s Q E I F k kx => by
  rw [eval_ListComp]
  exact comp_core none K.frc K.cell K.kind K.names K.free ok' h c I F kx (fun la S' ρ' h' tk Cc m p G' I' F' hla hm hi h0 hS hf => ⟨m, hm, fun h'' sb =>
    k (.ref la) S' ρ' h'' tk _ p (G'.wr hS sb) (I'.wr hi h0 hf sb) ⟨hla, rfl⟩⟩) hs
theorem SS.assignComp {PN : Frm → St → Prop} {PR : AV → St → Prop} {y : Str} {py spos : Pos} (hy : IsV C y) (K : CompOk C fr frc scope) (ok' : ∀ C', InComp C C' scope → ok C')
    (h : SI C fr target iter ok S (fun n Av item S₁ => ∃ Y, CompTurns C scope frc ifs elt n Av item S₁ Y ∧ (∀ ys S' la, Y n ys → Ext S₁ S' → S₁.nx ≤ la → S'.σ la = some (.list ys) → PN ((y, .ref la) :: fr) S')) X)
    (hsw : swapsWith (.ListComp elt [⟨target, iter, ifs, 0⟩] scope pos) (some (.Name y py)) spos.line C.env = pure true)
    (hs : ∀ env x, foldedSetIterable iter env x = pure x := by intro _ _; rfl) : SS C fr (.Assign [.Name y py] (.ListComp elt [⟨target, iter, ifs, 0⟩] scope pos) spos) S PN PR X := fun c ρe Se he ρ s Q E hb ow G I F kn kr kx => by
  rw [exec_Assign_Name_used _ _ _ _ hsw]
  refine wpAny_bind (wpAny_standAt (wpAny_bind ?_))
  show wpAny _ _ (do let _ ← comprehension (.ListComp elt [⟨target, iter, ifs, 0⟩] scope pos) scope C.env _ (newList []) false (eval iter C.env) (some (PySem.assign (.Name y py) C.env))) _ _ s
  refine wpAny_bind (wpAny_mono (comp_core (P := fun v S' => PN ((y, v) :: fr) S') (Q := fun _ s' => Q .next s') (some (PySem.assign (.Name y py) C.env)) K.frc K.cell K.kind K.names K.free ok' (h) c I F (kx.x hb G) (fun la S' ρ' h' tk Cc m p G' I' F' hla hm hi h0 hS hf => ?_) hs) (fun _ s' hq => wpAny_pure (wpAny_pure hq)) fun _ _ e => e)
  obtain ⟨n1, n2⟩ := F.not_own hS
  refine wpAny_assign_Name (store_sound (Se := S') (he := hideOwn C.env h') (s := { s with heap := h', toks := tk }) (v := .ref la) c (own_hide _ _) (Go.hide _ I'.bnd) I' F' hy ⟨hla, rfl⟩ fun fr' S2 ρ2 h2 tk2 q g2 G2 I2 F2 => ?_)
  obtain ⟨rfl, rfl⟩ := q
  have hCo : Cc ∉ ownL C.env := fun z => by
    rcases ownL_mem z with z | ⟨_, x, z⟩
    · exact n1 z.symm
    · exact n2 x _ z rfl
  obtain ⟨oc, es, ep, ec, rc⟩ := hm
  have ec' := hideAll_get _ ec hCo
  refine ⟨m, ⟨oc, es, ep, G2.keep Cc oc ec' hi hf, rc⟩, fun h'' sb => ?_⟩
  have hi2 := G2.img I'.bnd ec' hi
  have GG : Go (fs C.envs) ρe Se he ρ2 S2 h2 := Go.join hb ow (Go.trans hb G G') G2
  exact kn _ S2 ρ2 h'' tk2 p (G'.gr.trans g2) (GG.wr (none_back G hS) sb) (I2.wr hi2 h0 hf sb) (F2.wr n1 n2 sb)
end
end Mine
end
section
open PySem PySem.W PyProof.Rows PySem.Calls
set_option Elab.async false
set_option maxRecDepth 100000
set_option linter.unusedVariables false
namespace Mine

/-! ## Builtins called -/
noncomputable def SC (C : Cx) (fv : Value) (args : List AV) (S : St) (P : AV → St → Prop) : Prop :=
  COk C → ∀ ρ s Q E vs, Inv C.h₀ C.envs ρ S s.heap → VRs ρ S.nx args vs → KV C ρ S s P Q → wpAny (model C.prog C.w) C.A (call fv vs) Q E s
section
variable {C : Cx} {fr : Frm} {S : St} {P : AV → St → Prop} {X : St → Prop}
theorem SE.blt {f : Str} {id : String} {np pos : Pos} {e : Expr} {es : List Expr} (b : isB C f (.builtin id)) (h : SAs C fr (e :: es) S (fun vs S' => SC C (.builtin id) vs S' P) X)
    (he : ∀ env, starEach (e :: es) env = (false, eval e env) :: starEach es env := by intro _; rfl) (hp : ∀ env pos, (backTo pos (starEach es env)).any (·.1) = false := by intro _ _; rfl) : SE C fr (.Call (.Name f np) (e :: es) [] pos) S P X := fun c ρ s Q E I F k kx => by
  refine wpAny_Call_NameR (name_blt c I.stays b ?_)
  exact PyProof.Rows.callWith_builtin1 (h c ρ s _ E pos I F (fun vs S₁ ρ₁ h₁ t₁ ws p G₁ I₁ r => p c ρ₁ { s with heap := h₁, toks := t₁ } Q E ws I₁ r (k.step I G₁)) kx) (he _) (hp _ _)
theorem SE.typ {f : Str} {T : String} {np pos : Pos} {e : Expr} {es : List Expr} (b : isB C f (.type T)) (h : SAs C fr (e :: es) S (fun vs S' => SC C (.type T) vs S' P) X)
    (he : ∀ env, starEach (e :: es) env = (false, eval e env) :: starEach es env := by intro _; rfl) (hp : ∀ env pos, (backTo pos (starEach es env)).any (·.1) = false := by intro _ _; rfl) : SE C fr (.Call (.Name f np) (e :: es) [] pos) S P X := fun c ρ s Q E I F k kx => by
  refine wpAny_Call_NameR (name_blt c I.stays b ?_)
  exact PyProof.Rows.callWith_type1 (h c ρ s _ E pos I F (fun vs S₁ ρ₁ h₁ t₁ ws p G₁ I₁ r => p c ρ₁ { s with heap := h₁, toks := t₁ } Q E ws I₁ r (k.step I G₁)) kx) (he _) (hp _ _)
/-- a method of a list -/
structure LMeth (name : Str) (id : String) : Prop where
  slot : Slot "list" name id
  ty : typeOf (.builtin id) = pure (.type "method_descriptor")
theorem sh_no {α : Type} {ys : List (Bool × α)} (h : ys = []) : ys = [] ∨ ∃ x r, ys = (false, x) :: r := .inl h
theorem sh_one {α : Type} {ys r : List (Bool × α)} {x : α} (h : ys = (false, x) :: r) : ys = [] ∨ ∃ x r, ys = (false, x) :: r := .inr ⟨x, r, h⟩
theorem SE.meth {o : Expr} {name : Str} {id : String} {apos pos : Pos} {args : List Expr} (m : LMeth name id)
    (h : SE C fr o S (fun a S₁ => ∃ l vs, a = .ref l ∧ S₁.σ l = some (.list vs) ∧ SAs C fr args S₁ (fun ws S₂ => SC C (.builtin id) (.ref l :: ws) S₂ P) X) X)
    (hbase : ∀ env, attributeBase o name env (eval o env) = eval o env := by intro _; rfl)
    (hfew : ∀ env, ((backTo pos (starEach args env)).all (fun x => !x.1) && (backToKw pos (keywordEach [] env)).all (fun x => x.1.isSome) && decide (args.length + ([] : List Keyword).length + (if ([] : List Keyword).isEmpty then 0 else 1) < 30)) = true := by intro _; rfl)
    (hline : (apos.endLine == pos.line) = true := by rfl) (hany : ∀ env, (backTo pos (starEach args env)).any (·.1) = false := by intro _; rfl)
    (hsh : ∀ env, backTo pos (starEach args env) = [] ∨ ∃ x r, backTo pos (starEach args env) = (false, x) :: r := by intro _; exact sh_one rfl) : SE C fr (.Call (.Attribute o name apos) args [] pos) S P X := fun c ρ s Q E I F k kx => by
  refine wpAny_Call_method (T := "list") (id := id) (hbase _) (hfew _) hline PySem.F.plainAttrs_list m.slot m.ty (h c ρ s _ E I F (fun a S₁ ρ₁ h₁ t₁ y p G₁ I₁ r₁ => ?_) kx)
  obtain ⟨l, vs, rfl, e, p⟩ := p
  obtain ⟨hl, rfl⟩ := r₁
  obtain ⟨ws, n, L, rr⟩ := I₁.listO e
  refine ⟨⟨_, L, rfl⟩, fun a q => (by cases q; exact ⟨_, L, rfl⟩), ?_⟩
  refine callWith_builtin (hany _) ?_
  have key := p c ρ₁ { s with heap := h₁, toks := t₁ } (fun us s₂ => wpAny (model C.prog C.w) C.A (PySem.call (.builtin id) (.ref (ρ₁ l) :: us)) Q E s₂) E pos I₁ (F.go I G₁) (fun us S₂ ρ₂ h₂ t₂ us' p₂ G₂ I₂ r₂ => ?_) (kx.step I G₁)
  · rcases hsh C.env with q | ⟨x, r, q⟩
    · rw [q] at key ⊢
      unfold evalArgs
      show wpAny _ _ (spliced [] >>= _) _ _ _
      refine wpAny_bind (wpAny_mono key (fun us s' h' => ?_) fun _ _ x => x)
      refine wpAny_holding ?_
      exact wpAny_bind (wpAny_pure (wpAny_bind (wpAny_pure (wpAny_pure h'))))
    · rw [q] at key ⊢
      exact evalArgs_plain key
  · exact p₂ c ρ₂ { s with heap := h₂, toks := t₂ } Q E _ I₂ (.cons ⟨Nat.lt_of_lt_of_le hl G₂.nx, by rw [G₂.agree l hl]⟩ r₂) ((k.step (t₁ := t₁) I G₁).step I₁ G₂)

theorem KV.kept {C : Cx} {ρ : Loc → Addr} {S : St} {s : Shared} {P : AV → St → Prop} {Q : Value → Shared → Prop} (k : KV C ρ S s P Q) (I : Inv C.h₀ C.envs ρ S s.heap) {h' : Heap} (kp : Kept s.heap h') {v : AV} {v' : Value} {tk : Nat} (p : P v S) (r : VR ρ S.nx v v') : Q v' { s with heap := h', toks := tk } :=
  k v S ρ h' tk v' p (Go.kept I.bnd kp) (I.kept kp) r
theorem SC.len {l : Loc} {vs : List AV} (e : S.σ l = some (.list vs)) (hz : vs.length ≤ 1000000) (h : P (.int vs.length) S) : SC C (.builtin "len") [.ref l] S P := fun c ρ s Q E ws I r k => by
  cases r with
  | cons r1 r2 =>
    cases r2; obtain ⟨hl, rfl⟩ := r1
    obtain ⟨us, L, rr⟩ := I.list e
    have hw : us.size = vs.length := by rw [← rr.length, Array.length_toList]
    refine call_len_list L (by rw [hw]; (first | lia | omega)) ?_
    rw [hw]
    exact k.now I h ⟨_, rfl⟩
theorem SC.max2 {a b : Int} (h : P (.int (if b > a then b else a)) S) : SC C (.builtin "max") [.int a, .int b] S P := fun c ρ s Q E ws I r k => by
  cases r with
  | cons r1 r2 =>
    cases r2 with
    | cons r2 r3 =>
      cases r3; obtain ⟨t, rfl⟩ := r1; obtain ⟨u, rfl⟩ := r2
      refine max_two_ints c.handled fun h' tk kp => k.kept I kp h ?_
      split
      · exact ⟨_, rfl⟩
      · exact ⟨_, rfl⟩
theorem SC.min2 {a b : Int} (h : P (.int (if b < a then b else a)) S) : SC C (.builtin "min") [.int a, .int b] S P := fun c ρ s Q E ws I r k => by
  cases r with
  | cons r1 r2 =>
    cases r2 with
    | cons r2 r3 =>
      cases r3; obtain ⟨t, rfl⟩ := r1; obtain ⟨u, rfl⟩ := r2
      refine min_two_ints c.handled fun h' tk kp => k.kept I kp h ?_
      split
      · exact ⟨_, rfl⟩
      · exact ⟨_, rfl⟩
theorem SC.maxL {l : Loc} {ns : List Int} (e : S.σ l = some (.list (IL ns))) (hne : 0 < ns.length) (h : ∀ M, M ∈ ns → (∀ a ∈ ns, a ≤ M) → P (.int M) S) : SC C (.builtin "max") [.ref l] S P := fun c ρ s Q E ws I r k => by
  cases r with
  | cons r1 r2 =>
    cases r2; obtain ⟨hl, rfl⟩ := r1
    obtain ⟨us, L, rr⟩ := I.list e
    have hi := ints_are rr
    obtain ⟨xs, ex⟩ := hi.allInts.items
    have hns : ns = xs.toList.map (·.1) := by rw [← hi.numsOf, ← nums_intItems, ← ex]
    have hsz : 0 < xs.size := by
      have h3 := hne; rw [hns, List.length_map, Array.length_toList] at h3; exact h3
    rw [show us = us.toList.toArray from rfl, ex] at L
    refine max_intList c.handled L hsz fun v h' tk hv kp => ?_
    obtain ⟨t, rfl⟩ := intItems_at hv
    obtain ⟨h1, h2⟩ := argBest_gt (numAt xs) (xs.size - 1)
    refine k.kept I kp (h _ ?_ fun a ha => ?_) ⟨_, rfl⟩
    · rw [hns, numAt_eq]; exact PySem.getD_mem (by rw [List.length_map, Array.length_toList]; (first | lia | omega))
    · rw [hns] at ha
      obtain ⟨j, hj, rfl⟩ := mem_getD ha
      rw [List.length_map, Array.length_toList] at hj
      rw [← numAt_eq]; exact h2 j (by (first | lia | omega))
theorem SC.abs {a : Int} (h : P (.int (if a < 0 then -a else a)) S) : SC C (.builtin "abs") [.int a] S P := fun c ρ s Q E ws I r k => by
  cases r with
  | cons r1 r2 =>
    cases r2; obtain ⟨t, rfl⟩ := r1
    exact call_abs_int fun u tk => k.now I h ⟨_, rfl⟩
theorem SC.int {a : Int} (h : P (.int a) S) : SC C (.type "int") [.int a] S P := fun c ρ s Q E ws I r k => by
  cases r with
  | cons r1 r2 =>
    cases r2; obtain ⟨t, rfl⟩ := r1
    exact call_int_int (k.now (tk := s.toks) I h ⟨_, rfl⟩)
theorem SC.list {l : Loc} {vs : List AV} (e : S.σ l = some (.list vs)) (hz : vs.length ≤ 100000) (h : P (.ref S.nx) (S.add (.list vs))) : SC C (.type "list") [.ref l] S P := fun c ρ s Q E ws I r k => by
  cases r with
  | cons r1 r2 =>
    cases r2; obtain ⟨hl, rfl⟩ := r1
    obtain ⟨us, n, L, rr⟩ := I.listO e
    have hw : us.size = vs.length := by rw [← rr.length, Array.length_toList]
    refine call_list_seq (ρ l) (.inl rfl) L rfl rfl (fun h' c' kp e' => ?_) (by rw [hw, sizeLine_eq]; (first | lia | omega))
    exact k.made (o := .list vs) I (tk := s.toks) kp fresh_size e' ⟨⟨rfl, rfl, rfl⟩, _, _, rfl, rr⟩ h
theorem SC.sorted {l : Loc} {ns : List Int} (e : S.σ l = some (.list (IL ns))) (hz : ns.length < 64) (h : ∀ ns' : List Int, ns'.Perm ns → ns'.Pairwise (· ≤ ·) → P (.ref S.nx) (S.add (.list (IL ns')))) : SC C (.builtin "sorted") [.ref l] S P := fun c ρ s Q E ws I r k => by
  cases r with
  | cons r1 r2 =>
    cases r2; obtain ⟨hl, rfl⟩ := r1
    obtain ⟨us, L, rr⟩ := I.list e
    have hw : us.toList.length = ns.length := by rw [rr.length, List.length_map]
    refine sorted_ints (vs := us.toList) L (ints_are rr) (by (first | lia | omega)) fun out ns' a1 a2 a3 => ?_
    obtain ⟨ee, he⟩ := sortedAll_at s.heap us.toList out
    refine k.made (o := .list (IL ns')) I (tk := s.toks) (fun _ _ => sortedAll_old) ?_ he ⟨⟨rfl, rfl, rfl⟩, _, _, rfl, of_ints a1⟩ (h ns' a2 a3)
    cases q : s.heap.get? (s.heap.objs.size + 1) with
    | none => rfl
    | some o => exact absurd (Heap.lt_size q) (Nat.not_lt.mpr (Nat.le_succ _))
theorem range_all (bs : List Bool) : (List.range bs.length).all (fun i => bs.getD i false) = bs.all id := by
  rw [Bool.eq_iff_iff, List.all_eq_true, List.all_eq_true]
  constructor
  · intro h b hb
    obtain ⟨i, hi, rfl⟩ := List.mem_iff_getElem.mp hb
    have := h i (List.mem_range.mpr hi)
    simpa [List.getD_eq_getElem?_getD, List.getElem?_eq_getElem hi] using this
  · intro h i hi
    have hi' := List.mem_range.mp hi
    have := h bs[i] (List.getElem_mem hi')
    simpa [List.getD_eq_getElem?_getD, List.getElem?_eq_getElem hi'] using this
theorem range_any (bs : List Bool) : (List.range bs.length).any (fun i => bs.getD i false) = bs.any id := by
  rw [Bool.eq_iff_iff, List.any_eq_true, List.any_eq_true]
  constructor
  · rintro ⟨i, hi, h⟩
    have hi' := List.mem_range.mp hi
    refine ⟨bs[i], List.getElem_mem hi', ?_⟩
    simpa [List.getD_eq_getElem?_getD, List.getElem?_eq_getElem hi'] using h
  · rintro ⟨b, hb, h⟩
    obtain ⟨i, hi, rfl⟩ := List.mem_iff_getElem.mp hb
    refine ⟨i, List.mem_range.mpr hi, ?_⟩
    simpa [List.getD_eq_getElem?_getD, List.getElem?_eq_getElem hi] using h
theorem bools_walk {prog : Program} {w : World} {A : Around} {ρ : Loc → Addr} {nx : Nat} {bs : List Bool} {us : Array Value} (rr : VRs ρ nx (bs.map AV.bool) us.toList) : TruthOf prog w A (fun i v => us[i]? = some v) (fun i => bs.getD i false) := by
  intro i v s Q E hv hQ
  have hw : us.size = bs.length := by rw [← Array.length_toList, rr.length, List.length_map]
  have hi : i < bs.length := by
    rw [← hw]; exact (Array.getElem?_eq_some_iff.mp hv).1
  have e1 : (bs.map AV.bool)[i]? = some (.bool bs[i]) := by simp [hi]
  obtain ⟨y, hy, ry⟩ := rr.get e1
  have : us[i]? = some y := by simpa using hy
  rw [this] at hv; cases hv
  cases ry
  refine wpAny_truthy_bool ?_
  simpa [List.getD_eq_getElem?_getD, List.getElem?_eq_getElem hi] using hQ
theorem SC.all {l : Loc} {bs : List Bool} (e : S.σ l = some (.list (bs.map AV.bool))) (h : P (.bool (bs.all id)) S) : SC C (.builtin "all") [.ref l] S P := fun c ρ s Q E ws I r k => by
  cases r with
  | cons r1 r2 =>
    cases r2; obtain ⟨hl, rfl⟩ := r1
    obtain ⟨us, L, rr⟩ := I.list e
    have hw : us.size = bs.length := by rw [← Array.length_toList, rr.length, List.length_map]
    have hlt : ρ l < s.heap.objs.size := by obtain ⟨_, e, _⟩ := L; exact Heap.lt_size e
    refine call_all_walk (wpAny_pyIter_list L ⟨_, _, _, _, _, _, _, rfl, Walks.list (A := C.A.in1) c.handled s.heap.objs.size (ρ l) (Nat.ne_of_lt hlt) us, ⟨⟨_, Heap.get?_push_size _ rfl, rfl, rfl⟩, L.push _⟩, bools_walk rr, fun h' tk hk => ?_⟩)
    rw [hw, range_all]
    exact k.kept (h' := h') I (fun b o q => hk b o (fun hm => by rw [List.mem_singleton.mp hm, fresh_size] at q; cases q) (Heap.get?_push_of_some _ q)) h rfl
theorem SC.any {l : Loc} {bs : List Bool} (e : S.σ l = some (.list (bs.map AV.bool))) (h : P (.bool (bs.any id)) S) : SC C (.builtin "any") [.ref l] S P := fun c ρ s Q E ws I r k => by
  cases r with
  | cons r1 r2 =>
    cases r2; obtain ⟨hl, rfl⟩ := r1
    obtain ⟨us, L, rr⟩ := I.list e
    have hw : us.size = bs.length := by rw [← Array.length_toList, rr.length, List.length_map]
    have hlt : ρ l < s.heap.objs.size := by obtain ⟨_, e, _⟩ := L; exact Heap.lt_size e
    refine call_any_walk (wpAny_pyIter_list L ⟨_, _, _, _, _, _, _, rfl, Walks.list (A := C.A.in1) c.handled s.heap.objs.size (ρ l) (Nat.ne_of_lt hlt) us, ⟨⟨_, Heap.get?_push_size _ rfl, rfl, rfl⟩, L.push _⟩, bools_walk rr, fun h' tk hk => ?_⟩)
    rw [hw, range_any]
    exact k.kept (h' := h') I (fun b o q => hk b o (fun hm => by rw [List.mem_singleton.mp hm, fresh_size] at q; cases q) (Heap.get?_push_of_some _ q)) h rfl
/-! methods of lists -/
theorem KV.putL {C : Cx} {ρ : Loc → Addr} {S : St} {s : Shared} {P : AV → St → Prop} {Q : Value → Shared → Prop} (k : KV C ρ S s P Q) (I : Inv C.h₀ C.envs ρ S s.heap) {h' : Heap} {l : Loc} {o : AO} {ob : Obj} {v : AV} {v' : Value} {tk : Nat} (hl : S.σ l ≠ none) (hs : Heap.SameBut (ρ l) s.heap h') (e : h'.get? (ρ l) = some ob) (r : OR ρ S.nx o ob)
    (p : P v (S.put l o)) (rv : VR ρ S.nx v v') : Q v' { s with heap := h', toks := tk } :=
  k v (S.put l o) ρ h' tk v' p (Go.put I.bnd hl hs ⟨_, e⟩) (I.put hl hs e r) rv
theorem lm_append : LMeth "append" "list.append" := ⟨PySem.slot_list_append, PySem.F.type_list_append⟩
theorem lm_remove : LMeth "remove" "list.remove" := ⟨PySem.F.slot_list_remove, PySem.F.type_list_remove⟩
theorem lm_clear : LMeth "clear" "list.clear" := ⟨PySem.F.slot_list_clear, PySem.F.type_list_clear⟩
theorem SC.append {l : Loc} {vs : List AV} {v : AV} (e : S.σ l = some (.list vs)) (hz : vs.length ≤ 100000) (h : P .none (S.put l (.list (vs ++ [v])))) : SC C (.builtin "list.append") [.ref l, v] S P := fun c ρ s Q E ws I r k => by
  cases r with
  | cons r1 r2 =>
    cases r2 with
    | cons r2 r3 =>
      cases r3; obtain ⟨hl, rfl⟩ := r1
      obtain ⟨us, n, L, rr⟩ := I.listO e
      have hw : us.size = vs.length := by rw [← rr.length, Array.length_toList]
      refine append_at L (fun h' hs e' => ?_) (by rw [hw, sizeLine_eq]; (first | lia | omega))
      exact k.putL (o := .list (vs ++ [v])) (tk := s.toks) I (by rw [e]; simp) hs e' ⟨⟨rfl, rfl, rfl⟩, _, _, rfl, by rw [Array.toList_push]; exact rr.append (.cons r2 .nil)⟩ h rfl
theorem SC.clear {l : Loc} {vs : List AV} (e : S.σ l = some (.list vs)) (hz : vs.length ≤ 100000) (h : P .none (S.put l (.list []))) : SC C (.builtin "list.clear") [.ref l] S P := fun c ρ s Q E ws I r k => by
  cases r with
  | cons r1 r2 =>
    cases r2; obtain ⟨hl, rfl⟩ := r1
    obtain ⟨us, n, L, rr⟩ := I.listO e
    have hw : us.size = vs.length := by rw [← rr.length, Array.length_toList]
    refine call_meets PySem.F.slot_list_clear ⟨_, L, rfl⟩ PySem.F.entry_list_clear (PySem.F.args_list_clear_1 _) (AutoSeq1.list_clear_list_0 (ρ l) us n (by rw [hw, sizeLine_eq]; (first | lia | omega))) ⟨L, ?_⟩
    have e' := Heap.get?_update_self (Obj.mapSeq fun _ => #[]) L rfl
    exact k.putL (o := .list []) I (by rw [e]; simp) (Heap.SameBut.update ..) e' ⟨⟨rfl, rfl, rfl⟩, _, _, rfl, .nil⟩ h rfl

theorem VRs.eraseIdx {ρ : Loc → Addr} {nx : Nat} {a : List AV} {v : List Value} (h : VRs ρ nx a v) (i : Nat) : VRs ρ nx (a.eraseIdx i) (v.eraseIdx i) := by
  induction h generalizing i with
  | nil => simpa using VRs.nil
  | cons h t ih =>
    cases i with
    | zero => simpa using t
    | succ i => simpa using VRs.cons h (ih i)
theorem SC.remove {l : Loc} {ns : List Int} {i : Int} (e : S.σ l = some (.list (IL ns))) (hi : i ∈ ns) (hz : ns.length ≤ 100000) (h : P .none (S.put l (.list (IL (ns.erase i))))) : SC C (.builtin "list.remove") [.ref l, .int i] S P := fun c ρ s Q E ws I r k => by
  cases r with
  | cons r1 r2 =>
    cases r2 with
    | cons r2 r3 =>
      cases r3; obtain ⟨hl, rfl⟩ := r1; obtain ⟨t, rfl⟩ := r2
      obtain ⟨us, n, L, rr⟩ := I.listO e
      have hw : us.size = ns.length := by rw [← Array.length_toList, rr.length, List.length_map]
      have hints := ints_are rr
      have at_ : ∀ j (hj : j < us.size), isInt i us[j] = (ns[j]'(by (first | lia | omega)) == i) := fun j hj => by
        have e1 : (IL ns)[j]? = some (.int (ns[j]'(by (first | lia | omega)))) := by simp [show j < ns.length by (first | lia | omega)]
        obtain ⟨y, hy, ty, ry⟩ := rr.get e1
        have : us[j]? = some y := by simpa using hy
        rw [Array.getElem?_eq_getElem hj] at this; cases this
        rw [ry]; rfl
      have hlt : ns.idxOf i < ns.length := List.idxOf_lt_length_of_mem hi
      refine call_meets PySem.F.slot_list_remove ⟨_, L, rfl⟩ PySem.F.entry_list_remove (PySem.F.args_list_remove_2 _ _)
        (MeetsSeq.list_remove (ρ l) us n (.int i t) (isInt i) (fun y hy => eq_isInt i t hints y (by simpa using hy)) (ns.idxOf i) (by (first | lia | omega)) ?_ ?_ (by rw [hw, sizeLine_eq]; (first | lia | omega))) ⟨L, ?_⟩
      · rw [at_ _ (by (first | lia | omega))]
        simpa using List.getElem_idxOf hlt
      · intro m hm hmi
        rw [at_ m hm]
        have := List.not_of_lt_findIdx (p := (· == i)) (xs := ns) (i := m) (by simpa [List.idxOf] using hmi)
        simpa using this
      · have e' := Heap.get?_update_self (Obj.mapSeq fun xs => xs.eraseIdxIfInBounds (ns.idxOf i)) L rfl
        refine k.putL (o := .list (IL (ns.erase i))) (tk := s.toks) I (by rw [e]; simp) (Heap.SameBut.update ..) e' ⟨⟨rfl, rfl, rfl⟩, _, _, rfl, ?_⟩ h rfl
        rw [Array.toList_eraseIdxIfInBounds]
        have : IL (ns.erase i) = (IL ns).eraseIdx (ns.idxOf i) := by
          rw [List.erase_eq_eraseIdx_of_idxOf (i := ns.idxOf i) rfl]
          have : ∀ (l : List Int) j, IL (l.eraseIdx j) = (IL l).eraseIdx j := fun l => by
            induction l with
            | nil => intro j; rfl
            | cons x l ih => intro j; cases j with
              | zero => rfl
              | succ j => simp [IL] at ih ⊢; exact ih j
          exact this _ _
        rw [this]
        exact rr.eraseIdx _
/-- list(range(n)) -/
theorem SE.listRange {p1 p2 q1 q2 : Pos} {e : Expr} (b1 : isB C "list" (.type "list")) (b2 : isB C "range" (.type "range")) (h : SE C fr e S (fun v S₁ => ∃ n : Nat, v = .int n ∧ n ≤ 100000 ∧ P (.ref S₁.nx) (S₁.add (.list (IL ((List.range n).map fun i : Nat => (i : Int)))))) X)
    (hst : ∀ env, starEach [e] env = [(false, eval e env)] := by intro _; rfl) : SE C fr (.Call (.Name "list" p1) [.Call (.Name "range" p2) [e] [] q1] [] q2) S P X := fun c ρ s Q E I F k kx => by
  refine wpAny_Call_NameR (name_blt c I.stays b1 ?_)
  refine PyProof.Rows.callWith_type1 (wpAny_items_cons ?_ rfl) rfl rfl
  refine wpAny_Call_NameR (name_blt c I.stays b2 ?_)
  refine PyProof.Rows.callWith_type1 (SAs.cons (PL := fun vs S₁ => ∃ n : Nat, vs = [.int n] ∧ n ≤ 100000 ∧ P (.ref S₁.nx) (S₁.add (.list (IL ((List.range n).map fun i : Nat => (i : Int)))))) (h.mono fun v S₁ z => ?_) (fun env => by rw [hst]; rfl) c ρ s _ E q1 I F (fun vs S₁ ρ₁ h₁ t₁ ws p G₁ I₁ r => ?_) kx) (by rw [hst]; rfl) rfl
  · obtain ⟨n, rfl, z⟩ := z; exact .nil ⟨n, rfl, z⟩
  · obtain ⟨n, rfl, z1, p⟩ := p
    cases r with
    | cons r1 r2 =>
      cases r2; obtain ⟨t, rfl⟩ := r1
      refine call_range_1 (s := { s with heap := h₁, toks := t₁ }) ?_
      refine wpAny_items_nil ?_
      obtain ⟨y1, y2⟩ := range_size 0 n (by (first | lia | omega)) (by (first | lia | omega)) (by (first | lia | omega))
      have kp1 := Kept.push h₁ { cls := .type "range", data := .fields #[.int 0 t₁, .int n t, .int 1 (t₁ + 1)] }
      refine call_list_range (s := { s with heap := h₁.push _, toks := _ }) (n := n) c.handled (IsRange.new ..) y1 (by rw [y2]; simp) (by (first | lia | omega)) fun h' tk acc' c' kp e' hit => ?_
      refine (k.step (t₁ := t₁) I G₁).made (s := { s with heap := h₁, toks := t₁ }) (o := .list (IL ((List.range n).map fun i : Nat => (i : Int)))) I₁ (kp1.trans kp) ?_ e' ⟨⟨rfl, rfl, rfl⟩, _, _, rfl, ?_⟩ p
      · rw [Heap.size_push]
        cases q : h₁.get? (h₁.objs.size + 1) with
        | none => rfl
        | some o => exact absurd (Heap.lt_size q) (Nat.not_lt.mpr (Nat.le_succ _))
      · refine .ofGet (by simpa using hit.1) fun j x y ex ey => ?_
        have ey' : acc'[j]? = some y := by simpa using ey
        obtain ⟨tt, rfl⟩ := hit.2 j y ey'
        have hj : j < n := by have := (Array.getElem?_eq_some_iff.mp ey').1; rw [hit.1] at this; exact this
        have : x = .int (j : Int) := by
          have z : (IL ((List.range n).map fun i : Nat => (i : Int)))[j]? = some (.int (j : Int)) := by simp [hj]
          rw [z] at ex; exact (Option.some.inj ex).symm
        subst this
        exact ⟨tt, by simp⟩
end
end Mine
end
section
open PySem PySem.W PyProof.Rows PySem.Calls
set_option Elab.async false
set_option maxRecDepth 100000
set_option linter.unusedVariables false
namespace Mine

theorem SS.while {C : Cx} {fr : Frm} {S : St} {PN : Frm → St → Prop} {PR : AV → St → Prop} {X : St → Prop} {test : Expr} {body : List Stmt} {pos : Pos} (J : Nat → Frm → St → Prop) {n₀ : Nat} (j : J n₀ fr S)
    (turn : ∀ n fr' S', J n fr' S' → SB C fr' test S' (fun b S₁ => if b = true then SL C fr' body S₁ (fun fr₃ S₃ => ∃ m fr₄ S₄, m < n ∧ Le fr₄ fr₃ ∧ Sub S₄ S₃ ∧ J m fr₄ S₄) PR noX else PN fr' S₁) noX) : SS C fr (.While test body [] pos) S PN PR X := fun c ρe Se he ρ s Q E hb ow G I F kn kr kx => by
  refine wpAny_While ?_
  refine codeAny_whileLoop (fun k s' => ∃ fr' S' ρ' h' tk, s' = { s with heap := h', toks := tk } ∧ J k fr' S' ∧ Gr ρ S ρ' S' ∧ Go (fs C.envs) ρe Se he ρ' S' h' ∧ Inv C.h₀ C.envs ρ' S' h' ∧ FrR C.h₀ C.env fr' ρ' S' h') ?_ n₀
    ⟨fr, S, ρ, s.heap, s.toks, rfl, j, .refl _ _, G, I, F⟩
  rintro k s' ⟨fr', S', ρ', h', tk, rfl, j', g', G', I', F'⟩
  refine turn k fr' S' j' c ρ' { s with heap := h', toks := tk } _ _ I' F' (fun b S₁ ρ₁ h₁ t₁ p G₁ I₁ => ?_) KX.no
  have GG := Go.trans hb G' G₁
  have FF := F'.go I' G₁
  cases b with
  | true =>
    rw [if_pos rfl] at p ⊢
    refine p c ρ₁ S₁ (hideOwn C.env h₁) ρ₁ { s with heap := h₁, toks := t₁ } _ _ I₁.bnd (own_hide _ _) (Go.hide _ I₁.bnd) I₁ FF (fun fr₃ S₃ ρ₃ h₃ tk₃ p₃ g₃ G₃ I₃ F₃ => ?_) (fun v S₃ ρ₃ h₃ tk₃ v₃ p₃ G₃ I₃ r₃ => ?_) KE.no
    · obtain ⟨m, fr₄, S₄, hm, le, sb, j₄⟩ := p₃
      have g03 := (g'.trans G₁.gr).trans g₃
      exact ⟨m, hm, fr₄, S₄, ρ₃, h₃, tk₃, rfl, j₄, ⟨by rw [sb.1]; exact g03.nx, g03.agree⟩, (Go.join hb ow GG G₃).sub sb, I₃.sub sb, (F₃.sub sb).le le⟩
    · exact kr v S₃ ρ₃ h₃ tk₃ v₃ p₃ (Go.join hb ow GG G₃) I₃ r₃
  | false =>
    rw [if_neg (by decide)] at p ⊢
    exact wpAny_execs_nil (kn fr' S₁ ρ₁ h₁ t₁ p (g'.trans G₁.gr) GG I₁ FF)

/-! ## An object of the text's own class -/
noncomputable def Cx.mk1 (C : Cx) (Cc : Addr) (vs : List Value) : Cx := { C with A := C.A.under (.builtin "type.__call__" ⟨.ref Cc :: vs, []⟩), n := C.n - 1 }
structure Made (C C₁ : Cx) : Prop where
  KF : C₁.KF = C.KF
  w : C₁.w = C.w
  prog : C₁.prog = C.prog
  h₀ : C₁.h₀ = C.h₀
  n : C₁.n + 1 = C.n
theorem COk.mk1 {C : Cx} (c : COk C) (hn : 1 ≤ C.n) (Cc : Addr) (vs : List Value) : COk (C.mk1 Cc vs) :=
  ⟨c.g, c.frames, c.handled, by
    have h : (C.mk1 Cc vs).A.depth = C.A.depth + 1 := depth_under_make _ _ _
    rw [h]
    show C.A.depth + 1 + (C.n - 1) < recursionLimit
    have := c.depth; (first | lia | omega), by
    have h : (C.mk1 Cc vs).A.units ≤ C.A.units + 8 := by
      show C.A.units + (Code.builtin "type.__call__" ⟨.ref Cc :: vs, []⟩).cUnits ≤ _
      have : (Code.builtin "type.__call__" ⟨.ref Cc :: vs, []⟩).cUnits = 1 := rfl
      (first | lia | omega)
    have e : (C.mk1 Cc vs).n = C.n - 1 := rfl
    rw [e]
    have := c.units; (first | lia | omega), c.kind, c.glob, c.blt⟩
theorem empty_dict {ρ : Loc → Addr} {nx : Nat} : OR ρ nx (.dict []) emptyDict := ⟨rfl, _, _, rfl, by intro e he; simp at he, Nat.le_refl _, fun x => rfl⟩
theorem make_inst {C : Cx} {S : St} {P : AV → St → Prop} {X : St → Prop} {Cc fI : Addr} (hn : 1 ≤ C.n) (hm : makesIn C.KF Cc = true) (hi : findIn C.KF (.ref Cc) "__init__" = some (some (.ref fI))) (hf : typeIn C.KF (.ref fI) = some (.type "function")) {args : List AV}
    (h : ∀ C₁, Made C C₁ → SFA C₁ fI (.ref (S.nx + 1) :: args) ((S.add (.dict [])).add (.inst Cc S.nx)) (fun v S₂ => v = .none ∧ P (.ref (S.nx + 1)) S₂) X) : SFA C Cc args S P X := fun c ρ s R vs I r k kx => by
  have XX := c.K I
  obtain ⟨hh, g, d, t, os⟩ := s
  dsimp only at I r k kx XX ⊢
  refine make_core (makes_of XX hm) (looks_findIn XX hi) (fun self => bind_fn XX self hf) (.inl rfl) ?_
  have kp1 := Kept.push hh emptyDict
  have I1 : Inv C.h₀ C.envs (setAt ρ S.nx hh.objs.size) (S.add (.dict [])) (hh.push emptyDict) := I.add kp1 fresh_size (Heap.get?_push_size _ rfl) empty_dict
  have G1 : Go (fs C.envs) ρ S hh (setAt ρ S.nx hh.objs.size) (S.add (.dict [])) (hh.push emptyDict) := Go.add I.bnd kp1 fresh_size
  have kp2 := Kept.push (hh.push emptyDict) (instObj Cc hh.objs.size)
  have hsz : (hh.push emptyDict).objs.size = hh.objs.size + 1 := Heap.size_push ..
  have I2 : Inv C.h₀ C.envs (setAt (setAt ρ S.nx hh.objs.size) (S.nx + 1) (hh.push emptyDict).objs.size) ((S.add (.dict [])).add (.inst Cc S.nx)) ((hh.push emptyDict).push (instObj Cc hh.objs.size)) :=
    I1.add (o := .inst Cc S.nx) kp2 fresh_size (Heap.get?_push_size _ rfl) ⟨Nat.lt_succ_of_lt (Nat.lt_succ_self _), rfl, by
      show some hh.objs.size = some (setAt (setAt ρ S.nx hh.objs.size) (S.nx + 1) (hh.push emptyDict).objs.size S.nx)
      rw [setAt_old (Nat.lt_succ_self _), setAt_new], rfl⟩
  have G2 : Go (fs C.envs) (setAt ρ S.nx hh.objs.size) (S.add (.dict [])) (hh.push emptyDict) (setAt (setAt ρ S.nx hh.objs.size) (S.nx + 1) (hh.push emptyDict).objs.size) ((S.add (.dict [])).add (.inst Cc S.nx)) ((hh.push emptyDict).push (instObj Cc hh.objs.size)) := Go.add I1.bnd kp2 fresh_size
  have GG := Go.trans I.bnd G1 G2
  refine h (C.mk1 Cc vs) ⟨rfl, rfl, rfl, rfl, by show C.n - 1 + 1 = C.n; (first | lia | omega)⟩ (c.mk1 hn _ _) (setAt (setAt ρ S.nx hh.objs.size) (S.nx + 1) (hh.push emptyDict).objs.size) ⟨(hh.push emptyDict).push (instObj Cc hh.objs.size), g, d, t, os⟩ _ _ I2 (.cons ⟨Nat.lt_succ_self _, ?_⟩ (r.mono GG.nx GG.agree)) (fun v S' ρ' h' tk v' p G' I' rv => ?_) (fun S' ρ' h' tk e p G' I' x => ?_)
  · show Value.ref (hh.objs.size + 1) = .ref (setAt (setAt ρ S.nx hh.objs.size) (S.nx + 1) (hh.push emptyDict).objs.size (S.nx + 1))
    rw [← hsz]
    exact congrArg Value.ref (setAt_new (f := setAt ρ S.nx hh.objs.size) (n := S.nx + 1)).symm
  · obtain ⟨rfl, p⟩ := p
    cases rv
    refine ⟨rfl, k (.ref (S.nx + 1)) S' ρ' h' tk _ p (Go.trans I.bnd GG G') I' ⟨Nat.lt_of_lt_of_le (Nat.lt_succ_self _) G'.nx, ?_⟩⟩
    rw [G'.agree (S.nx + 1) (Nat.lt_succ_self _)]
    show Value.ref (hh.objs.size + 1) = .ref (setAt (setAt ρ S.nx hh.objs.size) (S.nx + 1) (hh.push emptyDict).objs.size (S.nx + 1))
    rw [← hsz]
    exact congrArg Value.ref (setAt_new (f := setAt ρ S.nx hh.objs.size) (n := S.nx + 1)).symm
  · exact kx S' ρ' h' tk e p (Go.trans I.bnd GG G') I' (x.back GG)
theorem SE.new {C : Cx} {fr : Frm} {S : St} {P : AV → St → Prop} {X : St → Prop} {cn : Str} {np pos : Pos} {e : Expr} {es : List Expr} {Cc : Addr} (hk : C.env.kindOf cn = some .globalImplicit) (hv : nsIn C.KF mainGlobals cn = some (some (.ref Cc))) (hkeep : keepIn C.KF (.ref Cc) = true)
    (h : SAs C fr (e :: es) S (fun vs S₁ => SFA C Cc vs S₁ P X) X) (he : ∀ env, starEach (e :: es) env = (false, eval e env) :: starEach es env := by intro _; rfl) (hp : ∀ env pos, (backTo pos (starEach es env)).any (·.1) = false := by intro _ _; rfl) (hd : (cn == ("__debug__" : Str)) = false := by decide) : SE C fr (.Call (.Name cn np) (e :: es) [] pos) S P X := fun c ρ s Q E I F k kx => by
  refine wpAny_Call_NameR (Name_function_global c.kind hk (mg_glb (h := s.heap) c.g I.stays c.glob hv ?_) hd)
  refine callWith_K (h₀ := s.heap) (c.K I) hkeep (h c ρ s _ E pos I F (fun vs S₁ ρ₁ h₁ t₁ ws p G₁ I₁ r => ⟨c.K I₁, ?_⟩) kx) (he _) (hp _ _)
  exact wpAny_call (p c ρ₁ { s with heap := h₁, toks := t₁ } _ ws I₁ r (k.step I G₁) (kx.step I G₁))
end Mine
end
section
open PySem PySem.W PyProof.Rows PySem.Calls
set_option Elab.async false
set_option maxRecDepth 100000
set_option linter.unusedVariables false
namespace Mine
section
variable {prog : Program} {w : World} {M : Model} {A : Around} {E : Value → Shared → Prop} {h : Heap} {g : Array GenState} {d : PySem.Drawn} {t : Nat} {os : OsState}
variable {nm q : Str} {C N : Addr} {bs bm : List Value} {hdct : Bool} {sn : List Str} {sub : List Value} {ab : Bool} {col : Option Bool} {dd : Option Addr} {k0 k1 k2 k3 k5 : Option Value} {newId initId B : String}
theorem x_type : typeOf (.builtin "Exception.__init__") = pure (.type "wrapper_descriptor") := by kernel_rfl
theorem x_slot_get : Slot "wrapper_descriptor" "__get__" "wrapper_descriptor.__get__" := .of (owner := "wrapper_descriptor") (n := "__get__") (by rw [typeLookup_type, builtinLookup_eq_fast]; kernel_rfl) (by decide +kernel) (by decide +kernel) (by decide +kernel)
    (by first | exact .inl (by decide +kernel) | exact .inr (by decide +kernel)) (by rw [isSubtype_type]; kernel_rfl)
theorem x_entry_get : entryFor table "wrapper_descriptor.__get__" = some Builtin.«wrapper_descriptor.__get__» := entryFor_of_tree (by kernel_rfl)
theorem x_args_get (a b c : Value) : argsOk "wrapper_descriptor.__get__" ⟨[a, b, c], []⟩ := by unfold argsOk; kernel_rfl
theorem x_bound {e : Addr} {oe : Obj} {rest : List Value} {Q : Unit → Shared → Prop} (F : ExcBaseFacts B newId initId bm)
    (hC : h.get? C = some (excClassObj nm q C N bs bm hdct sn sub ab col dd k0 k1 k2 k3 k5 newId)) (he : h.get? e = some oe) (hcls : oe.cls = .ref C) (hq : Q () ⟨h, g, d, t, os⟩) :
    wpAny M A (checkBoundCall initId ⟨.ref e :: rest, []⟩) Q E ⟨h, g, d, t, os⟩ := by
  have hshort := F.noStar
  delta checkBoundCall
  rw [F.initKind, F.initRow]
  repeat (first | (with_reducible refine wpAny_loadPart_at he ?_; rw [hcls]) | with_reducible refine wpAny_loadPart_at hC ?_ | wp_step)
  refine wpAny_onRaise ?_
  rw [show ∀ (a b : String) (n : Nat), Bind.check ⟨.positional, "*", B, .self, [⟨"args", .varPos, false⟩]⟩ a b n (List.map (fun x => x.fst) ({ pos := Value.ref e :: rest } : Args).kw) = pure () from
    fun a b n => check_star_args _ _ _ _ _ _]
  exact wpAny_pure hq
theorem x_run_get {e : Addr} {oe : Obj} {Q : Fin → Shared → Prop}
    (hC : h.get? C = some (excClassObj nm q C N bs [.type "Exception", .type "BaseException", .type "object"] hdct sn sub ab col dd k0 k1 k2 k3 k5 newId)) (he : h.get? e = some oe) (hcls : oe.cls = .ref C)
    (hq : Q (.done (.ret (.ref h.objs.size))) ⟨h.push { cls := .type "method-wrapper", data := .fields #[.builtin "Exception.__init__", .ref e] }, g, d, t, os⟩) :
    wpAny M A (Builtin.«wrapper_descriptor.__get__» ⟨[.builtin "Exception.__init__", .ref e, .ref C], []⟩) Q E ⟨h, g, d, t, os⟩ := by
  unfold Builtin.«wrapper_descriptor.__get__»
  refine wpAny_bind (wpAny_of_eq (a := (.builtin "Exception.__init__", some (.ref e), some (.ref C))) (by first | rfl | kernel_rfl) ?_)
  refine wpAny_bind ?_
  refine wpAny_bind (wpAny_of_eq (a := (Str.ofString "__init__", .type "Exception")) (by first | rfl | kernel_rfl) ?_)
  unfold isInstance
  repeat (first | (with_reducible refine wpAny_loadPart_at he ?_; rw [hcls]) | (with_reducible refine wpAny_isSubtype_exc hC ?_; rw [show (Value.ref C :: [.type "Exception", .type "BaseException", .type "object"]).contains (.type "Exception") = true by simp]) | wp_step)
  exact hq
theorem x_super_ga {so x : Addr} {ox : Obj} {K : Frag} {name : Str} {tk : Tok} {Q : Fin → Shared → Prop}
    (hC : h.get? C = some (excClassObj nm q C N bs [.type "Exception", .type "BaseException", .type "object"] hdct sn sub ab col dd k0 k1 k2 k3 k5 newId)) (hx : h.get? x = some ox) (hcls : ox.cls = .ref C)
    (hso : h.get? so = some { cls := .type "super", dict := none, data := .fields #[.ref C, .ref x, .ref C], slots := #[] }) (X : K.In h) (hno : nsIn K cStatics "thirdparty.any" = some none)
    (hn : (name == ("__class__" : Str)) = false) (hf : alongIn K name [.type "Exception", .type "BaseException", .type "object"] = some (some (.builtin "Exception.__init__"))) (hxC : x ≠ C)
    (hq : Q (.done (.ret (.ref h.objs.size))) ⟨h.push { cls := .type "method-wrapper", data := .fields #[.builtin "Exception.__init__", .ref x] }, g, d, t, os⟩) :
    wpAny (model prog w) A (Builtin.«super.__getattribute__» ⟨[.ref so, .str name tk], []⟩) Q E ⟨h, g, d, t, os⟩ := by
  have hlk := x_slot_get.lookup
  have hne : (Value.ref x == Value.ref C) = false := by simp [hxC]
  have hTf := x_type
  have hdt : ({ cls := .type "super", dict := none, data := .fields #[.ref C, .ref x, .ref C], slots := #[] } : Obj).data = .fields #[.ref C, .ref x, .ref C] := rfl
  have f0 : (#[.ref C, .ref x, .ref C] : Array Value)[0]? = some (.ref C) := rfl
  have f1 : (#[.ref C, .ref x, .ref C] : Array Value)[1]? = some (.ref x) := rfl
  have f2 : (#[.ref C, .ref x, .ref C] : Array Value)[2]? = some (.ref C) := rfl
  have hl : ((Value.ref C :: [.type "Exception", .type "BaseException", .type "object"]).dropWhile (· != .ref C)).drop 1 = [.type "Exception", .type "BaseException", .type "object"] := by simp [List.dropWhile]
  have hlo : Looks (model prog w) h (opaqueClassAbove (.ref C)) none := looks_opaque X hno
  unfold Builtin.«super.__getattribute__»
  repeat (first
    | (with_reducible refine wpAny_field hso hdt f0 ?_) | (with_reducible refine wpAny_field hso hdt f1 ?_) | (with_reducible refine wpAny_field hso hdt f2 ?_)
    | (with_reducible refine ks_wpAny_notOpaque hlo ?_)
    | (with_reducible refine wpAny_mroOf_exc hC ?_; rw [hl])
    | (refine ks_forIn_along X (fun _ _ => rfl) rfl ?_ hf)
    | (with_reducible refine wpAny_of_eq hTf ?_)
    | (simp only [hn, hne, Bool.or_false, Bool.false_eq_true, if_false])
    | wp_step
    | dsimp only)
  refine codeAny_call_builtin x_slot_get.plain x_entry_get (x_slot_get.check _ _ _ _ _ _ _ _ x_type (x_args_get _ _ _) ?_)
  refine x_run_get hC hx hcls ?_
  exact wpAny_pure (wpAny_pure hq)
theorem x_getMethod {so x : Addr} {ox : Obj} {K : Frag} {name : Str} {pl : Sem Bool} {Q : Value × List Value → Shared → Prop}
    (hC : h.get? C = some (excClassObj nm q C N bs [.type "Exception", .type "BaseException", .type "object"] hdct sn sub ab col dd k0 k1 k2 k3 k5 newId)) (hx : h.get? x = some ox) (hcls : ox.cls = .ref C)
    (hso : h.get? so = some { cls := .type "super", dict := none, data := .fields #[.ref C, .ref x, .ref C], slots := #[] }) (X : K.In h) (hno : nsIn K cStatics "thirdparty.any" = some none)
    (hn : (name == ("__class__" : Str)) = false) (hf : alongIn K name [.type "Exception", .type "BaseException", .type "object"] = some (some (.builtin "Exception.__init__"))) (hxC : x ≠ C)
    (hq : Q (.ref h.objs.size, []) ⟨h.push { cls := .type "method-wrapper", data := .fields #[.builtin "Exception.__init__", .ref x] }, g, d, t + 1, os⟩) :
    wpAny (model prog w) A (getMethod (.ref so) name pl) Q E ⟨h, g, d, t, os⟩ := by
  have hlk := F.ks_slot_super_ga.lookup
  have hcan := F.ks_canon_super_ga
  have hT : ∀ t', (⟨h, g, d, t', os⟩ : Shared).TypeIs (.ref so) "super" := fun _ => ⟨_, hso, rfl⟩
  unfold getMethod
  refine wpAny_bind (wpAny_specialOf (hT _) hlk ?_)
  show wpAny _ _ (if (Manifest.canonical "super.__getattribute__" != "object.__getattribute__") = true then _ else _) _ _ _
  rw [if_pos hcan]
  unfold getAttr getAttrBy
  refine wpAny_bind (wpAny_bind (wpAny_mkText (wpAny_holding (wpAny_bind (wpAny_typeOf (hT _) (wpAny_bind (wpAny_of_eq hlk ?_)))))))
  show wpAny _ _ (getAttrByItsOwn (.ref so) (.str name t) (.type "super") (.builtin "super.__getattribute__") true false) _ _ _
  unfold getAttrByItsOwn hookBefore callGetattribute boundAndCalled
  refine wpAny_bind (wpAny_of_eq (show (if onTheHeap (.type "super") then typeLookup (.type "super") "__getattr__" else pure none) = pure none from rfl) ?_)
  refine wpAny_bind (wpAny_attempt (wpAny_holding ?_))
  show wpAny _ _ (bindSpecial (.builtin "super.__getattribute__") (.ref so) >>= _) _ _ _
  refine wpAny_bind (wpAny_of_eq (F.ks_slot_super_ga.bind _) ?_)
  refine wpAny_mono (Q := fun v s' => v = .ref h.objs.size ∧ s' = ⟨h.push { cls := .type "method-wrapper", data := .fields #[.builtin "Exception.__init__", .ref x] }, g, d, t + 1, os⟩) (E := fun _ _ => False)
    (wpAny_call_entry F.ks_slot_super_ga (hT _) F.ks_entry_super_ga (x_super_ga hC hx hcls hso X hno hn hf hxC ⟨_, rfl, rfl, rfl⟩) (F.ks_gaArgs_super _ _)) (fun v s' hv => ?_) fun _ _ z => z.elim
  obtain ⟨rfl, rfl⟩ := hv
  exact wpAny_pure (wpAny_pure hq)
theorem x_so {α : Type} {c : Prop} {i : Decidable c} {a b : Sem α} {Q : α → Shared → Prop} {s : Shared} (hc : c) (hq : wpAny M A a Q E s) : wpAny M A (@ite _ c i a b) Q E s := by rw [if_pos hc]; exact hq
noncomputable def mwObj (x : Addr) : Obj := { cls := .type "method-wrapper", data := .fields #[.builtin "Exception.__init__", .ref x] }
theorem x_callWith {pos : Pos} {u x : Addr} {args : List (Bool × Sem Value)} {s : Shared} {Q : Value → Shared → Prop} (hplain : args.any (·.1) = false)
    (hh : wpAny M A (evalArgs (.ref u) true args []) (fun y s₁ => s₁.heap.get? u = some (mwObj x) ∧ wpAny M A (call (.ref u) y.pos y.kw) Q E s₁) E s) : wpAny M A (callWith pos (.ref u) [] args []) Q E s := by
  unfold callWith
  refine wpAny_bind (wpAny_holding (wpAny_mono hh (fun y s₁ h₁ => wpAny_bind (wpAny_standAt ?_)) fun _ _ x => x))
  obtain ⟨ho, hcall⟩ := h₁
  simp only [hplain, List.any_nil, Bool.or_false]
  refine wpAny_bind (m := keeperOf (.ref u)) ?_
  unfold keeperOf
  refine wpAny_bind (wpAny_load ho ?_)
  simp only [mwObj, show (Value.type "method-wrapper" != Value.type "method") = true by decide, show (Value.type "method-wrapper" == Value.type "builtin_function_or_method" || Value.type "method-wrapper" == Value.type "method-wrapper") = true by decide, if_true]
  refine wpAny_pure ?_
  exact wpAny_bind (wpAny_mono hcall (fun r s₂ hr => wpAny_bind (wpAny_holding (wpAny_point (wpAny_pure hr)))) fun _ _ x => x)
end
end Mine
end
section
open PySem PySem.W PyProof.Rows PySem.Calls
set_option Elab.async false
set_option maxRecDepth 100000
set_option linter.unusedVariables false
namespace Mine
section
variable {prog : Program} {w : World} {M : Model} {A : Around} {E : Value → Shared → Prop} {h : Heap} {g : Array GenState} {d : PySem.Drawn} {t : Nat} {os : OsState}
variable {nm q : Str} {C N : Addr} {bs bm : List Value} {hdct : Bool} {sn : List Str} {sub : List Value} {ab : Bool} {col : Option Bool} {dd : Option Addr} {k0 k1 k2 k3 k5 : Option Value} {newId initId B : String}
theorem x_bound1 {e a0 : Addr} {v : Value} {dd' : Option Addr} {sl : Array (Option Value)} {Q : Unit → Shared → Prop}
    (hC : h.get? C = some (excClassObj nm q C N bs [.type "Exception", .type "BaseException", .type "object"] hdct sn sub ab col dd k0 k1 k2 k3 k5 "Exception.__new__"))
    (he : h.get? e = some { cls := .ref C, dict := dd', data := .fields #[.ref a0, .none, .none, .none, .bool false, .none], slots := sl }) (hq : Q () ⟨h, g, d, t, os⟩) :
    wpAny M A (checkBoundCall "Exception.__init__" ⟨.ref e :: [v], []⟩) Q E ⟨h, g, d, t, os⟩ := by
  have FB := PySem.F.excBase_Exception
  have q1 := @x_bound M A E h g d t os
  have q2 := fun e oe rest Q => @q1 nm q C N bs [.type "Exception", .type "BaseException", .type "object"] hdct sn sub ab col dd k0 k1 k2 k3 k5 "Exception.__new__" "Exception.__init__" "Exception" e oe rest Q FB
  exact q2 e _ [v] Q hC he rfl hq
theorem x_call_mw {u e a0 : Addr} {v : Value} {dd' : Option Addr} {sl : Array (Option Value)} {Q : Value → Shared → Prop}
    (hC : h.get? C = some (excClassObj nm q C N bs [.type "Exception", .type "BaseException", .type "object"] hdct sn sub ab col dd k0 k1 k2 k3 k5 "Exception.__new__"))
    (hu : h.get? u = some (mwObj e)) (he : h.get? e = some { cls := .ref C, dict := dd', data := .fields #[.ref a0, .none, .none, .none, .bool false, .none], slots := sl })
    (hq : ∀ h', (∀ b o, b ≠ e → h.get? b = some o → h'.get? b = some o) → h'.get? e = some { cls := .ref C, dict := dd', data := .fields #[.ref h.objs.size, .none, .none, .none, .bool false, .none], slots := sl } → Q .none ⟨h', g, d, t, os⟩) :
    wpAny (model prog w) A (call (.ref u) [v]) Q E ⟨h, g, d, t, os⟩ := by
  have FB := PySem.F.excBase_Exception
  refine wpAny_call (codeAny_of_tree ?_)
  show wpAny _ A.in1 (callAny (.ref u) ⟨[v], []⟩) _ _ _
  simp only [callAny]
  refine wpAny_bind (wpAny_load hu ?_)
  simp only [mwObj, show (Value.type "method-wrapper" == Value.type "method" || Value.type "method-wrapper" == Value.type "builtin_function_or_method" || Value.type "method-wrapper" == Value.type "method-wrapper") = true by decide, if_true]
  refine x_so (by decide) ?_
  show wpAny (model prog w) A.in1 (checkBoundCall "Exception.__init__" ⟨.ref e :: [v], []⟩ >>= fun _ => again (.builtin "Exception.__init__" ⟨[.ref e, v], []⟩)) _ _ _
  refine wpAny_bind (x_bound1 hC he ?_)
  refine wpAny_bind (wpAny_pure (wpAny_pure ?_))
  refine ⟨Code.quiet_builtin _ (by decide +kernel), codeAny_builtin FB.initEntry ?_⟩
  wp_walk
  have hne : e ≠ h.objs.size := Nat.ne_of_lt (Heap.lt_size he)
  refine hq _ (fun b o hb e1 => ?_) ?_
  · rw [Heap.get?_update_other _ _ (Ne.symm hb)]
    exact Heap.get?_push_of_some _ e1
  · rw [Heap.get?_update_self _ (Heap.get?_push_of_some _ he) rfl]
    rfl
end
end Mine
end
section
open PySem PySem.W PyProof.Rows PySem.Calls
set_option Elab.async false
set_option maxRecDepth 100000
set_option linter.unusedVariables false
namespace Mine
noncomputable def stOf (i : Nat) : Stmt := match PySem.Challenge.pw_rh0272_01.main.body[i]? with | some s => s | none => .Pass ⟨0, 0, 0, 0⟩
noncomputable def bdOf : Stmt → List Stmt | .FunctionDef _ _ b _ _ _ _ _ _ _ => b | .ClassDef _ _ _ b _ _ _ _ _ _ _ => b | _ => []
noncomputable def scOf : Stmt → Scope | .FunctionDef _ _ _ _ _ _ s _ _ _ => s | _ => ⟨.module, [], false, false, []⟩
noncomputable def h1 : List Stmt → Stmt | s :: _ => s | [] => .Pass ⟨0, 0, 0, 0⟩
noncomputable def bd_err : List Stmt := bdOf (h1 (bdOf (stOf 7)))
noncomputable def sc_err : Scope := scOf (h1 (bdOf (stOf 7)))
noncomputable def codeFile (K : Frag) (c : Addr) : Option Str := match K.lookup c with | some ⟨_, _, .fields vs, _⟩ => (match vs.toList with | _ :: _ :: .str f _ :: _ => some f | _ => none) | _ => none
noncomputable def cellIn (K : Frag) (c : Addr) : Option Value := match K.lookup c with | some ⟨_, _, .cell v, _⟩ => v | _ => none
/-- DiskError's own `__init__` -/
structure InitF (K : Frag) (C fI : Addr) : Prop where
  is : isFd K fI = true
  fn : typeIn K (.ref fI) = some (.type "function")
  body : (fdAt K fI).body = .stmts bd_err
  scope : (fdAt K fI).scope = sc_err
  code : codeIn K (fdAt K fI).code (fdAt K fI).qualname = true
  ground : (fdAt K fI).globals = mainGlobals ∧ (fdAt K fI).builtins = builtinsNs
  bind : ∀ a b, bindArgs (fdAt K fI) ⟨[a, b], []⟩ = pure ([("self", a), ("word", b)] : List (Str × Value))
  first : ∃ ar, ((fdAt K fI).params.posonlyargs ++ (fdAt K fI).params.args).head? = some ar ∧ ar.arg = "self"
  file : ∃ cc f, (fdAt K fI).code = .ref cc ∧ codeFile K cc = some f ∧ (PySem.Challenge.pw_rh0272_01.main.file == f) = true
  cell : ∃ cl, (fdAt K fI).closure = ([("__class__", cl)] : List (Str × Addr)) ∧ cellIn K cl = some (.ref C)
abbrev exM : List Value := [.type "Exception", .type "BaseException", .type "object"]
/-- what is told of DiskError -/
structure DErr (K : Frag) : Prop where
  glob : nsIn K mainGlobals "DiskError" = some (some (.ref (adr K "DiskError")))
  any : nsIn K cStatics "thirdparty.any" = some none
  sup : nsIn K mainGlobals "super" = some none
  own : alongIn K "__init__" exM = some (some (.builtin "Exception.__init__"))
  cls : ∃ nm q N bs sn sub ab col dd k0 k1 k2 k3 k5 fI, K.lookup (adr K "DiskError") = some (excClassObj nm q (adr K "DiskError") N bs exM true sn sub ab col dd k0 k1 k2 k3 k5 "Exception.__new__") ∧
    nsOkIn K N = true ∧ nsIn K N "__init__" = some (some (.ref fI)) ∧ nsIn K N "__setattr__" = some none ∧ nsIn K N "word" = some none ∧ InitF K (adr K "DiskError") fI
section
variable {C : Cx} {E : Value → Shared → Prop} {s : Shared} {nm q : Str} {Cc N : Addr} {bs : List Value} {sn : List Str} {sub : List Value} {ab : Bool} {col : Option Bool} {dd : Option Addr} {k0 k1 k2 k3 k5 : Option Value}
noncomputable def exObj (Cc a0 : Addr) (dct : Option Addr) : Obj := { cls := .ref Cc, dict := dct, data := .fields #[.ref a0, .none, .none, .none, .bool false, .none], slots := #[] }
theorem x_init {fI e a0 : Addr} {v : Value} {Q : Value → Shared → Prop} (c : COk C) (hn : 1 ≤ C.n) (st : C.h₀.StaysIn s.heap) (hany : nsIn C.KF cStatics "thirdparty.any" = some none) (hsup : nsIn C.KF mainGlobals "super" = some none) (hown : alongIn C.KF "__init__" exM = some (some (.builtin "Exception.__init__")))
    (hC : C.KF.lookup Cc = some (excClassObj nm q Cc N bs exM true sn sub ab col dd k0 k1 k2 k3 k5 "Exception.__new__")) (hN : nsOkIn C.KF N = true) (hsa : nsIn C.KF N "__setattr__" = some none) (hw : nsIn C.KF N "word" = some none) (I : InitF C.KF Cc fI)
    (he : s.heap.get? e = some (exObj Cc a0 none)) (he0 : C.h₀.get? e = none)
    (hq : ∀ h' tk a1 od, (∀ b o, b ≠ e → s.heap.get? b = some o → h'.get? b = some o) → h'.get? e = some (exObj Cc a1 od) → Q .none { s with heap := h', toks := tk }) :
    wpAny (model C.prog C.w) C.A (call (.ref fI) [.ref e, v]) Q E s := by
  have X : C.KF.In s.heap := c.g.K.keeps st
  obtain ⟨o, ho, hd⟩ := fd_of X I.is
  obtain ⟨fis, ffn, fbody, fscope, fcode, fground, fbind, ffirst, ffile, fcell⟩ := I
  generalize fdAt C.KF fI = fd at *
  obtain ⟨p, loose, mg, mb, T⟩ := c.g.T
  obtain ⟨ar, far, harg⟩ := ffirst
  obtain ⟨cc, ff, hco, hcf, hfile⟩ := ffile
  obtain ⟨cl, hcl, hcv⟩ := fcell
  have ksc : fd.scope.kind = .function := by rw [fscope]; rfl
  have hCh := X _ _ hC
  have hec : e ≠ Cc := fun z => by rw [z, c.g.K _ _ hC] at he0; cases he0
  refine wpAny_call (ks_codeAny_call_defAt (o := o) (fd := fd) (by have := c.depth; (first | lia | omega)) ho hd (T.nolimit.keeps st) (codeRec_of X fcode) fbody (BindsTo.of_eq (fbind (.ref e) v)) ?_ ?_ (fun h₁ hns hk => ?_) (by rw [fscope]; rfl) (by rw [fscope]; rfl) ksc)
  · rw [fscope]; decide +kernel
  · rw [fscope]
    intro x hx
    rcases List.mem_cons.mp hx with rfl | hx
    · kernel_rfl
    · rcases List.mem_cons.mp hx with rfl | hx
      · kernel_rfl
      · cases hx
  have X1 : C.KF.In h₁ := fun a o' e' => hk a o' (X a o' e')
  have st1 : C.h₀.StaysIn h₁ := fun a o' e' => hk a o' (st a o' e')
  have he1 := hk _ _ he
  have hLe : s.heap.objs.size ≠ e := fun z => by rw [← z, fresh_size] at he; cases he
  generalize s.heap.objs.size = L at hns hLe ⊢
  generalize hgoal : s.toks + List.length ([("self", Value.ref e), ("word", v)] : List (Str × Value)) = tk1
  have ksym : ∀ y, (callEnv fd L fI).kindOf y = sc_err.names.lookup y := fun y => by show fd.scope.names.lookup _ = _; rw [fscope]
  have hks : (callEnv fd L fI).kindOf "super" = some .globalImplicit := (ksym _).trans (by kernel_rfl)
  have hkc : (callEnv fd L fI).kindOf "__class__" = some .free := (ksym _).trans (by kernel_rfl)
  have hkself : (callEnv fd L fI).kindOf "self" = some .local := (ksym _).trans (by kernel_rfl)
  have hkword : (callEnv fd L fI).kindOf "word" = some .local := (ksym _).trans (by kernel_rfl)
  have hint : interactive (callEnv fd L fI) = false := by
    unfold interactive
    rw [show (callEnv fd L fI).scope.kind = .function from ksc]; rfl
  have hcells : (callEnv fd L fI).cells.lookup ("__class__" : Str) = some cl := by
    show fd.closure.lookup _ = _
    rw [hcl]; rfl
  have keyL : (fun x => ([("self", Value.ref e), ("word", v)] : List (Str × Value)).reverse.lookup x) "self" = some (.ref e) ∧ (fun x => ([("self", Value.ref e), ("word", v)] : List (Str × Value)).reverse.lookup x) "word" = some v := ⟨by kernel_rfl, by kernel_rfl⟩
  generalize (fun x => ([("self", Value.ref e), ("word", v)] : List (Str × Value)).reverse.lookup x) = mL at hns keyL
  obtain ⟨kself, kword⟩ := keyL
  have hcellv : ∀ h, C.KF.In h → h.IsCell cl (some (.ref Cc)) := fun h Xh => by
    unfold cellIn at hcv
    split at hcv
    · rename_i v' sl ho'
      exact ⟨_, Xh _ _ ho', by rw [hcv]⟩
    · cases hcv
  obtain ⟨oc, vs2, tf, hoc1, hoc2, hoc3⟩ : ∃ oc vs tf, C.KF.lookup cc = some oc ∧ oc.data = .fields vs ∧ vs[2]? = some (.str ff tf) := by
    unfold codeFile at hcf
    split at hcf
    · rename_i vs sl ho'
      split at hcf
      · rename_i a b f t r hvs
        cases hcf
        refine ⟨_, vs, t, ho', rfl, ?_⟩
        rw [← Array.getElem?_toList, hvs]; rfl
      · cases hcf
    · cases hcf
  have hfile' : ((C.prog.main.file : Str) == ff) = true := by rw [c.g.file]; exact hfile
  refine ks_wpAt_execs_cons (ks_wpAt_Expr_any (ks_wpAt_MethodCall (ks_wpAt_super_base (ar := ar) (f := fI) (of := o) (fd := fd) (cc := cc) (oc := oc) (vs := vs2) (file := ff) (tf := tf) hks hkc (by kernel_rfl) rfl (hk _ _ ho) hd far hco (X1 _ _ hoc1) hoc2 hoc3 hfile' c.g.top ?_)) hint)
  have glb : ∀ {x : Str} {s' : Shared} {Q' : Value → Shared → Prop} {E' : Value → Shared → Prop}, (callEnv fd L fI).kindOf x = some .globalImplicit → wpAny (model C.prog C.w) (C.A.deeper (callEnv fd L fI)) (loadGlobal (callEnv fd L fI) x) Q' E' s' → wpAny (model C.prog C.w) (C.A.deeper (callEnv fd L fI)) (loadName (callEnv fd L fI) x) Q' E' s' := fun hx h => by
    unfold loadName
    simp only [Env.blockKind, show (callEnv fd L fI).scope.kind = .function from ksc, hx, ScopeKind.isAnnotationScope, Bool.false_and, Bool.false_eq_true, if_false]
    exact h
  refine glb hks (mg_blt c.g st1 fground.1 fground.2 hsup (v := .type "super") (by kernel_rfl) (by decide +kernel) ?_)
  refine ⟨rfl, wpAny_loadName_free ksc hkc hcells (hcellv _ X1) ?_⟩
  rw [harg]
  refine wpAny_loadName_local ksc hkself hns kself ?_
  refine ks_wpAny_isType_cls (X1 _ _ hC) rfl ?_
  refine ⟨rfl, ks_wpAny_call_super (C := Cc) (X1 _ _ hC) rfl he1 rfl (fun c => by simp [exObj]) ?_ fun h2 hso hk2 => ?_⟩
  · exact looks_mroIn X1 (by unfold mroIn clsIn; rw [hC]; simp)
  have X2 : C.KF.In h2 := fun a o' e' => hk2 a o' (X1 a o' e')
  have he2 := hk2 _ _ he1
  have ns2 : h2.Ns L mL := by
    obtain ⟨oL, es, ep, e1, r⟩ := hns
    exact ⟨oL, es, ep, hk2 _ _ e1, r⟩
  refine x_getMethod (K := C.KF) (X2 _ _ hC) he2 rfl hso X2 hany (by kernel_rfl) hown hec ?_
  refine x_callWith (x := e) (by rfl) ?_
  refine evalArgs_plain ?_
  have hsp : ∀ (p1 pos : Pos) (s' : Shared) (Q' : List Value → Shared → Prop) (E' : Value → Shared → Prop), s'.heap.Ns L mL → Q' [v] s' → wpAny (model C.prog C.w) (C.A.deeper (callEnv fd L fI)) (spliced (backTo pos (starEach [.Name "word" p1] (callEnv fd L fI)))) Q' E' s' := fun p1 pos s' Q' E' hns' hq' =>
    wpAny_items_cons (wpAny_Name (wpAny_loadName_local ksc hkword hns' kword (wpAny_items_nil hq')) (by decide +kernel)) rfl
  have ns3 : (h2.push { cls := .type "method-wrapper", data := .fields #[.builtin "Exception.__init__", .ref e] }).Ns L mL := by
    obtain ⟨oL, es, ep, e1, r⟩ := ns2
    exact ⟨oL, es, ep, Heap.get?_push_of_some _ e1, r⟩
  refine hsp _ _ _ _ _ ns3 ⟨Heap.get?_push_at rfl rfl, ?_⟩
  have he3 := Heap.get?_push_of_some { cls := .type "method-wrapper", data := .fields #[.builtin "Exception.__init__", .ref e] } he2
  have X3 : C.KF.In (h2.push { cls := .type "method-wrapper", data := .fields #[.builtin "Exception.__init__", .ref e] }) := fun a o' e' => Heap.get?_push_of_some _ (X2 a o' e')
  have hmw : (h2.push { cls := .type "method-wrapper", data := .fields #[.builtin "Exception.__init__", .ref e] }).get? h2.objs.size = some (mwObj e) := Heap.get?_push_at rfl rfl
  have up3 : ∀ b o, s.heap.get? b = some o → (h2.push { cls := .type "method-wrapper", data := .fields #[.builtin "Exception.__init__", .ref e] }).get? b = some o := fun b o e' => Heap.get?_push_of_some _ (hk2 _ _ (hk _ _ e'))
  generalize h2.push { cls := .type "method-wrapper", data := .fields #[.builtin "Exception.__init__", .ref e] } = h3 at ns3 he3 X3 hmw up3 ⊢
  refine x_call_mw (X3 _ _ hC) hmw he3 fun h4 hk4 he4 => ?_
  have ns4 : h4.Ns L mL := by
    obtain ⟨oL, es, ep, e1, r⟩ := ns3
    exact ⟨oL, es, ep, hk4 _ _ hLe e1, r⟩
  have X4 : C.KF.In h4 := fun a o' e' => hk4 _ _ (fun z => by rw [z] at e'; have := c.g.K _ _ e'; rw [this] at he0; cases he0) (X3 a o' e')
  refine ks_wpAt_execs_cons (ks_wpAt_Assign_Attr ?_)
  refine wpAt_of_wpAny (wpAny_Name (wpAny_loadName_local ksc hkword ns4 kword ?_) (by decide +kernel))
  refine wpAny_Name (wpAny_loadName_local ksc hkself ns4 kself ?_) (by decide +kernel)
  refine store_attr (ns := []) (mA := fun _ => none) PySem.F.store_Exception (X4 _ _ hC) (.of_isNs (isNs_of_in X4 hN)) (nsMap_none_of_in X4 hN hsa) (nsMap_none_of_in X4 hN hw) (by rw [typeLookup_type, builtinLookup_eq_fast]; kernel_rfl) hec ⟨_, he4, rfl, fun c => by simp, .inl ⟨rfl, fun _ => rfl⟩⟩ (fun h5 tk5 _ hk5 hsame => ?_) Within.nil
  obtain ⟨o1, q1, q2, q3, q4, _⟩ := hsame _ he4
  refine wpAt_of_wpAny (wpAny_execs_nil ?_)
  refine hq h5 tk5 h3.objs.size o1.dict (fun b ob hb e' => hk5 b ob hb (fun o₀ dx e1 e2 => ?_) (hk4 _ _ hb (up3 _ _ e'))) ?_
  · rw [he4] at e1; cases e1; cases e2
  · rw [q1]
    obtain ⟨c1, d1, dt1, s1⟩ := o1
    dsimp only at q2 q3 q4
    rw [q2, q3, q4]
    rfl
end
end Mine
end
section
open PySem PySem.W PyProof.Rows PySem.Calls
set_option Elab.async false
set_option maxRecDepth 100000
set_option linter.unusedVariables false
namespace Mine
section
variable {KF : Frag} {h₀ he h h' : Heap} {env : Env} {envs : List Env} {ρe ρ : Loc → Addr} {Se S : St} {e : Addr}
theorem land_sound {M : Model} {A : Around} {s : Shared} {Q : Unit → Shared → Prop} {E : Value → Shared → Prop} {L : Addr} (hfr : A.frames = some (env :: envs)) (hf : env.frame = some L) (hb : Bnd Se) (I : Inv h₀ (env :: envs) ρ S s.heap) (G : Go (fs (env :: envs)) ρe Se he ρ S s.heap)
    (x : ExcAt KF h₀ he e s.heap) (k : ∀ h', Go (fs (env :: envs)) ρe Se he ρ S h' → Inv h₀ (env :: envs) ρ S h' → ExcAt KF h₀ he e h' → Q () { s with heap := h' }) :
    wpAny M A (noteFrame (.ref e) env) (fun _ s₂ => wpAny M A (setFlight (.ref e) none) Q E s₂) E s := by
  obtain ⟨x1, x2, oe, vs, a0, C, x3, x4, x5, x6, x7, x8⟩ := x
  have ffh := ffh_of I
  have fin := fun hid hh h' w => let z := left_fin (a0 := a0) hb I G x1 x2 x3 x4 x5 x6 hid hh h' w; k h' z.1 z.2.1 z.2.2
  -- the frame is noted, then let go
  have two : ∀ hid : List Addr, e ∈ hid → (∀ b ∈ fs (env :: envs), b ∈ hid) → (∀ b ∈ hid, (b = e ∨ (he.get? b = none ∧ h₀.get? b = none ∧ ∃ o vs, s.heap.get? b = some o ∧ o.data = .fields vs)) ∨ b ∈ fs (env :: envs)) →
      ∀ h', Heap.NotedW (hideAll s.heap hid) (env :: envs) e oe.cls a0 (rawInt L) s.heap h' → wpAny M A (setFlight (.ref e) none) Q E { s with heap := h' } := fun hid h1 h2 h3 h' ⟨k1, k2, k3, k4⟩ => by
    refine wpAny_landsW (s := { s with heap := h' }) (base := hideAll s.heap hid) (l := env :: envs) (cls := oe.cls) (a0 := a0) (L := L) ⟨k1, hideAll_none _ h1, k2, k3⟩ fun h'' ⟨m1, m2, m3, m4⟩ up => ?_
    refine fin hid h3 h'' ⟨m1, m3, m4, fun b o e1 e2 => ?_⟩
    obtain ⟨sl, e3⟩ := k4 b o e1 e2
    obtain ⟨sl', e4⟩ := up b _ e3 e2
    exact ⟨sl', e4⟩
  rcases x8 with x8 | ⟨T, oT, ts, w1, w2, w3, w4, w5, w6, w7⟩
  · unfold noteFrame
    simp only [hf]
    refine wpAny_bind (wpAny_field x3 x6 x8 ?_)
    rw [if_neg (by simp)]
    refine wpAny_entryW (base := hideAll s.heap (e :: fs (env :: envs))) hfr (ffh _ fun b hb => .tail _ hb) hf x3 (fun b o q => of_hideAll _ q) (hideAll_none _ (.head _)) x6 (Array.getElem?_eq_some_iff.mp x8).1 x7 (two _ (.head _) (fun b hb => .tail _ hb) fun b hb => ?_)
    rcases List.mem_cons.mp hb with rfl | hb
    · exact .inl (.inl rfl)
    · exact .inr hb
  · refine wpAny_noteFrame_onW (base := hideAll s.heap (e :: T :: fs (env :: envs))) (cls := oe.cls) (a0 := a0) hfr (ffh _ fun b hb => .tail _ (.tail _ hb)) hf ⟨oe, vs, T, oT, ts, x3, ⟨rfl, x7⟩, x6, w1, hideAll_none _ (.tail _ (.head _)), w4, w5, w6, w7⟩ (fun b o q => of_hideAll _ q) (hideAll_none _ (.head _)) (two _ (.head _) (fun b hb => .tail _ (.tail _ hb)) fun b hb => ?_)
    rcases List.mem_cons.mp hb with rfl | hb
    · exact .inl (.inl rfl)
    · rcases List.mem_cons.mp hb with rfl | hb
      · exact .inl (.inr ⟨w2, w3, oT, ts, w5, w6⟩)
      · exact .inr hb
theorem flight_sound {M : Model} {A : Around} {s : Shared} {Q : Unit → Shared → Prop} {E : Value → Shared → Prop} (hb : Bnd Se) (I : Inv h₀ (env :: envs) ρ S s.heap) (G : Go (fs (env :: envs)) ρe Se he ρ S s.heap)
    (x : ExcAt KF h₀ he e s.heap) (k : ∀ h', Go (fs (env :: envs)) ρe Se he ρ S h' → Inv h₀ (env :: envs) ρ S h' → ExcAt KF h₀ he e h' → Q () { s with heap := h' }) :
    wpAny M A (setFlight (.ref e) none) Q E s := by
  have x0 := x
  obtain ⟨x1, x2, oe, vs, a0, C, x3, x4, x5, x6, x7, x8⟩ := x
  have ffh := ffh_of I
  have fin := fun hid hh h' w => let z := left_fin (a0 := a0) hb I G x1 x2 x3 x4 x5 x6 hid hh h' w; k h' z.1 z.2.1 z.2.2
  rcases x8 with x8 | ⟨T, oT, ts, w1, w2, w3, w4, w5, w6, w7⟩
  · unfold setFlight
    refine wpAny_bind (wpAny_field x3 x6 x8 ?_)
    rw [if_neg (by simp)]
    exact wpAny_pure (k s.heap G I x0)
  · refine wpAny_setFlight_noneW (base := hideAll s.heap (e :: T :: fs (env :: envs))) (l := env :: envs) (cls := oe.cls) (a0 := a0) (fl := .none) (fun b o q => of_hideAll _ q) (ffh _ fun b hb => .tail _ (.tail _ hb)) ⟨oe, vs, T, oT, ts, x3, ⟨rfl, x7⟩, x6, w1, hideAll_none _ (.tail _ (.head _)), w4, w5, w6, w7⟩ fun h' k1 k2 k3 k4 => fin _ (fun b hb => ?_) h' ⟨k1, k2, k3, fun b o hb hn => ⟨o.slots, k4 b o hb hn⟩⟩
    rcases List.mem_cons.mp hb with rfl | hb
    · exact .inl (.inl rfl)
    · rcases List.mem_cons.mp hb with rfl | hb
      · exact .inl (.inr ⟨w2, w3, oT, ts, w5, w6⟩)
      · exact .inr hb
end
end Mine
end
section
open PySem PySem.W PyProof.Rows PySem.Calls
set_option Elab.async false
set_option maxRecDepth 100000
set_option linter.unusedVariables false
namespace Mine
section
variable {M : Model} {A : Around} {E : Value → Shared → Prop} {env : Env} {nm q : Str} {Cc N : Addr} {bs : List Value} {sn : List Str} {sub : List Value} {ab : Bool} {col : Option Bool} {dd : Option Addr} {k0 k1 k2 k3 k5 : Option Value}
theorem x_raise {s : Shared} {x : Sem Value} {Q : Flow → Shared → Prop} (hh : A.handled = none)
    (h : wpAny M A x (fun v s₁ => ∃ e t dct, v = .ref e ∧ s₁.heap.get? Cc = some (excClassObj nm q Cc N bs exM true sn sub ab col dd k0 k1 k2 k3 k5 "Exception.__new__") ∧ s₁.heap.get? e = some (exObj Cc t dct) ∧ E (.ref e) s₁) E s) :
    wpAny M A (raiseStmt env (some x) none) Q E s := by
  have hcB : (Value.ref Cc :: exM).contains (.type "BaseException") = true := by rw [List.contains_cons, show exM.contains (.type "BaseException") = true by decide +kernel, Bool.or_true]
  unfold raiseStmt
  refine wpAny_bind (wpAny_mono h (fun v s₁ h₁ => ?_) fun _ _ x => x)
  obtain ⟨e, t, dct, rfl, hC, he, hE⟩ := h₁
  obtain ⟨hp, g, d, tk, os⟩ := s₁
  unfold exObj at he
  repeat (first | with_reducible refine wpAny_loadPart_at he ?_ | with_reducible refine wpAny_loadPart_at hC ?_ | (with_reducible refine wpAny_isSubtype_exc hC ?_; rw [hcB]) | wp_step)
  exact wpAny_raiseNew_none hh hE
end
theorem ns_some_of {K : Frag} {h : Heap} {N : Addr} {mg : Str → Option Value} {n : Str} {v : Value} (X : K.In h) (G : h.Ns N mg) (e : nsIn K N n = some (some v)) : mg n = some v := by
  obtain ⟨o, es, ep, ho, hd, _, hf⟩ := G
  unfold nsIn at e
  split at e
  · rename_i c d es' n' sl q
    have := X _ _ q
    rw [ho] at this
    cases this
    cases hd
    split at e
    · rename_i en he
      cases e
      rw [← hf]
      unfold nsFind findBy
      rw [← Array.find?_toList, he]
      rfl
    · split at e <;> cases e
  · cases e
theorem SS.raiseFull {C : Cx} {fr : Frm} {S : St} {PN : Frm → St → Prop} {PR : AV → St → Prop} {X : St → Prop} {np cp cpos pos : Pos} {k : Nat} (D : DErr C.KF) (hk : C.env.kindOf "DiskError" = some .globalImplicit) (hn : 2 ≤ C.n) (h : X S) :
    SS C fr (.Raise (some (.Call (.Name "DiskError" np) [.Constant (.str "full") k cp] [] cpos)) none pos) S PN PR X := fun c ρe Se he ρ s Q E hb ow G I F kn kr kx => by
  obtain ⟨Dg, Dany, Dsup, Down, nm, q, N, bs, sn, sub, ab, col, dd, k0, k1, k2, k3, k5, fI, hC, hN, hi, hsa, hw, hI⟩ := D
  generalize adr C.KF "DiskError" = Cc at *
  rw [arm_exec_Raise]
  refine wpAny_bind (wpAny_standAt (x_raise (Cc := Cc) (nm := nm) (q := q) (N := N) (bs := bs) (sn := sn) (sub := sub) (ab := ab) (col := col) (dd := dd) (k0 := k0) (k1 := k1) (k2 := k2) (k3 := k3) (k5 := k5) c.handled ?_))
  refine wpAny_bind (wpAny_mono (wpAny_Call_ofName (wpAny_mono (Q := fun f s₁ => f = .ref Cc ∧ s₁ = s) (Name_function_global c.kind hk (mg_glb (h := s.heap) c.g I.stays c.glob Dg ⟨rfl, rfl⟩) (by decide +kernel)) (fun f s₁ h₁ => ?_) fun _ _ x => x)) (fun v s₃ h₃ => wpAny_bind (wpAny_standAt (wpAny_pure h₃))) fun _ _ x => x)
  obtain ⟨rfl, rfl⟩ := h₁
  have XX := c.K I
  have hCh := XX _ _ hC
  have hNs : s₁.heap.Ns N (s₁.heap.nsMap N) := .of_isNs (isNs_of_in XX hN)
  have hmi : s₁.heap.nsMap N "__init__" = some (.ref fI) := ns_some_of XX hNs hi
  obtain ⟨of, hfo, hfd⟩ := fd_of XX hI.is
  have hfc : of.cls = .type "function" := by
    have := hI.fn
    unfold typeIn at this
    obtain ⟨o', e1, e2⟩ := Option.map_eq_some_iff.mp this
    rw [XX _ _ e1] at hfo
    cases hfo
    exact e2
  have hsp : ∀ (p1 pos : Pos) (k : Nat) (s' : Shared) (Q' : List Value → Shared → Prop) (E' : Value → Shared → Prop), Q' [.str "full" s'.toks] { s' with toks := s'.toks + 1 } → wpAny (model C.prog C.w) C.A (spliced (backTo pos (starEach [.Constant (.str "full") k p1] C.env))) Q' E' s' := fun p1 pos k s' Q' E' hq' =>
    wpAny_items_cons (Constant_str (wpAny_items_nil hq')) rfl
  unfold callWith
  refine wpAny_bind (wpAny_holding (wpAny_mono (Q := fun a s₂ => a = ⟨[.str "full" s₁.toks], []⟩ ∧ s₂ = { s₁ with toks := s₁.toks + 1 }) (evalArgs_plain (hsp _ _ _ _ _ _ ⟨rfl, rfl⟩)) (fun a s₂ h₂ => wpAny_bind (wpAny_standAt ?_)) fun _ _ x => x))
  obtain ⟨rfl, rfl⟩ := h₂
  obtain ⟨hp, g, d, tk, os⟩ := s₁
  dsimp only at *
  refine wpAny_bind (wpAny_keeperOf_exc hCh ?_)
  refine wpAny_bind (wpAny_call_exc_init PySem.F.excBase_Exception hCh hNs hmi hfo hfc (fun h' e hm => ?_))
  obtain ⟨t, ht, htn, _⟩ := hm.there
  have he0 : C.h₀.get? e = none := by
    cases z : C.h₀.get? e with
    | none => rfl
    | some o => have := I.stays _ _ z; rw [hm.new] at this; cases this
  have st' : C.h₀.StaysIn h' := fun b o e1 => hm.keeps _ _ (I.stays b o e1)
  refine x_init (C := C.mk1 Cc [.str "full" tk]) (s := ⟨h', g, d, tk + 1, os⟩) (c.mk1 (by (first | lia | omega)) _ _) (by show 1 ≤ C.n - 1; (first | lia | omega)) st' Dany Dsup Down hC hN hsa hw hI ht he0 fun h2 tk2 a1 od hk2 he2 => ⟨rfl, ?_⟩
  have kp : Kept hp h2 := fun b o e1 => hk2 b o (fun z => by rw [z, hm.new] at e1; cases e1) (hm.keeps _ _ e1)
  refine wpAny_bind (wpAny_holding (wpAny_point (wpAny_pure ⟨e, a1, od, rfl, kp _ _ hCh, he2, ?_⟩)))
  refine kx S ρ h2 tk2 e h (Go.trans hb G (Go.kept I.bnd kp)) (I.kept kp) ⟨none_back G hm.new, he0, _, _, _, Cc, he2, rfl, Dg, rfl, rfl, .inl rfl⟩
/-- a try of one assignment whose handler returns a number of the text's -/
theorem SS.tryAssign {C : Cx} {fr : Frm} {S : St} {PN : Frm → St → Prop} {PR : AV → St → Prop} {X Xv : St → Prop} {x y : Str} {i : Int} {np dp hp apos pos yp rp : Pos} {value : Expr} (D : DErr C.KF) (hk : C.env.kindOf "DiskError" = some .globalImplicit) (hx : IsV C x)
    (hy : ∃ t, nsIn C.KF mainGlobals y = some (some (.int i t))) (hky : C.env.kindOf y = some .globalImplicit) (top : ∃ L o, C.envs = C.env :: o ∧ C.env.frame = some L)
    (h : SE C fr value S (fun v S' => PN ((x, v) :: fr) S') Xv) (hh : ∀ S', Xv S' → PR (.int i) S') (hd : (y == ("__debug__" : Str)) = false := by decide +kernel) (hs : ∀ env, swapsWithSole [.Name x np] value apos.line env = pure false := by intro _; rfl)
    (hw : ∀ env, env.scope.kind = .function → swappedStores [.Name x np] value env = pure none := by intro _ _; rfl) :
    SS C fr (.Try [.Assign [.Name x np] value apos] [.ExceptHandler (some (.Name "DiskError" dp)) none [.Return (some (.Name y yp)) rp] hp] [] [] pos) S PN PR X := fun c ρe Se he ρ s Q E hb ow G I F kn kr kx => by
  obtain ⟨L, outer, htop, hfrm⟩ := top
  obtain ⟨ty, hy⟩ := hy
  obtain ⟨Dg, Dany, Dsup, Down, nm, q, N, bs, sn, sub, ab, col, dd, k0, k1, k2, k3, k5, fI, hC, hN, hi, hsa, hwd, hI⟩ := D
  have body : SL C fr [.Assign [.Name x np] value apos] S PN PR Xv := SL.cons (SS.assign (SE.mono h fun v S' p => ST.name hx (SL.nil p)) hs hw)
  refine wpAny_Try_except (body c ρe Se he ρ s _ _ hb ow G I F (fun fr' S' ρ' h' tk p g G' I' F' => wpAny_execs_nil (kn fr' S' ρ' h' tk p g G' I' F')) (fun v S' ρ' h' tk v' p G' I' r => kr v S' ρ' h' tk v' p G' I' r) (fun S' ρ' h' tk e p G' I' xx => ?_))
  have hfrs : C.A.frames = some (C.env :: outer) := c.frames.trans (congrArg some htop)
  rw [htop] at G' I'
  refine land_sound (s := { s with heap := h', toks := tk }) hfrs hfrm hb I' G' xx fun h2 G2 I2 x2 => ?_
  have X2 : C.KF.In h2 := c.g.K.keeps I2.stays
  have hCh := X2 _ _ hC
  obtain ⟨_, _, oe, vs, a0, C2, z3, z4, z5, z6, z7, _⟩ := id x2
  have hCC : C2 = adr C.KF "DiskError" := by rw [Dg] at z5; cases z5; rfl
  subst hCC
  refine wpAny_handleBy_cons (codeAny_handlers_test (Name_function_global c.kind hk (mg_glb (h := h2) c.g I2.stays c.glob Dg ?_) (by decide +kernel))) (by delta byPass; nofun)
  refine wpAny_excMatches_sub_self hCh z3 z4 (by decide +kernel) ?_
  show codeAny _ _ _ _ _
  refine codeAny_handlers_suite ?_
  refine flight_sound (s := { s with heap := h2, toks := tk }) hb I2 G2 x2 fun h3 G3 I3 x3 => ?_
  refine wpAny_execs_cons (wpAny_Return_some (Name_function_global c.kind hky (mg_glb (h := h3) c.g I3.stays c.glob hy ?_) hd))
  rw [← htop] at G3 I3
  exact kr (.int i) S' ρ' h3 tk (.int i ty) (hh _ p) G3 I3 ⟨ty, rfl⟩
end Mine
end
section
open PySem PySem.W PyProof.Rows PySem.Calls
set_option Elab.async false
set_option maxRecDepth 100000
set_option linter.unusedVariables false
namespace Mine

/-! ## The program's defs, by their places in its text -/
noncomputable def iadr (K : Frag) (c : Str) : Addr := match findIn K (.ref (adr K c)) "__init__" with | some (some (.ref a)) => a | _ => 0
noncomputable def intAt (K : Frag) (x : Str) : Option Int := match nsIn K mainGlobals x with | some (some (.int i _)) => some i | _ => none
theorem int_of {K : Frag} {x : Str} {i : Int} (h : intAt K x = some i) : ∃ t, nsIn K mainGlobals x = some (some (.int i t)) := by
  unfold intAt at h
  split at h
  · rename_i j t e; cases h; exact ⟨t, e⟩
  · cases h
structure ClsF (K : Frag) (c : Str) (params : List Str) (bd : List Stmt) (sc : Scope) : Prop where
  glob : nsIn K mainGlobals c = some (some (.ref (adr K c)))
  makes : makesIn K (adr K c) = true
  keep : keepIn K (.ref (adr K c)) = true
  init : findIn K (.ref (adr K c)) "__init__" = some (some (.ref (iadr K c)))
  fn : typeIn K (.ref (iadr K c)) = some (.type "function")
  def_ : FnA K (iadr K c) params bd sc
noncomputable def bd_map_slots : List Stmt := bdOf (stOf 10)
noncomputable def sc_map_slots : Scope := scOf (stOf 10)
noncomputable def bd_records_of_block : List Stmt := bdOf (stOf 11)
noncomputable def sc_records_of_block : Scope := scOf (stOf 11)
noncomputable def bd_records_of_extent : List Stmt := bdOf (stOf 12)
noncomputable def sc_records_of_extent : Scope := scOf (stOf 12)
noncomputable def bd_directory_blocks : List Stmt := bdOf (stOf 13)
noncomputable def sc_directory_blocks : Scope := scOf (stOf 13)
noncomputable def bd_need_writable : List Stmt := bdOf (stOf 14)
noncomputable def sc_need_writable : Scope := scOf (stOf 14)
noncomputable def bd_new_entry : List Stmt := bdOf (stOf 15)
noncomputable def sc_new_entry : Scope := scOf (stOf 15)
noncomputable def bd_entry_octets : List Stmt := bdOf (stOf 16)
noncomputable def sc_entry_octets : Scope := scOf (stOf 16)
noncomputable def bd_entry_from : List Stmt := bdOf (stOf 17)
noncomputable def sc_entry_from : Scope := scOf (stOf 17)
noncomputable def bd_raw_entry : List Stmt := bdOf (stOf 18)
noncomputable def sc_raw_entry : Scope := scOf (stOf 18)
noncomputable def bd_read_entry : List Stmt := bdOf (stOf 19)
noncomputable def sc_read_entry : Scope := scOf (stOf 19)
noncomputable def bd_put_entry : List Stmt := bdOf (stOf 20)
noncomputable def sc_put_entry : Scope := scOf (stOf 20)
noncomputable def bd_erase_entry : List Stmt := bdOf (stOf 21)
noncomputable def sc_erase_entry : Scope := scOf (stOf 21)
noncomputable def bd_free_entry : List Stmt := bdOf (stOf 22)
noncomputable def sc_free_entry : Scope := scOf (stOf 22)
noncomputable def bd_live_entries : List Stmt := bdOf (stOf 23)
noncomputable def sc_live_entries : Scope := scOf (stOf 23)
noncomputable def bd_used_blocks : List Stmt := bdOf (stOf 24)
noncomputable def sc_used_blocks : Scope := scOf (stOf 24)
noncomputable def bd_forget_given : List Stmt := bdOf (stOf 25)
noncomputable def sc_forget_given : Scope := scOf (stOf 25)
noncomputable def bd_map_of : List Stmt := bdOf (stOf 26)
noncomputable def sc_map_of : Scope := scOf (stOf 26)
noncomputable def bd_map_octets : List Stmt := bdOf (stOf 27)
noncomputable def sc_map_octets : Scope := scOf (stOf 27)
noncomputable def bd_nearest_free : List Stmt := bdOf (stOf 28)
noncomputable def sc_nearest_free : Scope := scOf (stOf 28)
noncomputable def bd_allocate : List Stmt := bdOf (stOf 29)
noncomputable def sc_allocate : Scope := scOf (stOf 29)
noncomputable def bd_record_place : List Stmt := bdOf (stOf 30)
noncomputable def sc_record_place : Scope := scOf (stOf 30)
noncomputable def bd_write_record : List Stmt := bdOf (stOf 31)
noncomputable def sc_write_record : Scope := scOf (stOf 31)
noncomputable def bd_peek : List Stmt := bdOf (stOf 33)
noncomputable def sc_peek : Scope := scOf (stOf 33)
noncomputable def bd_poke : List Stmt := bdOf (stOf 34)
noncomputable def sc_poke : Scope := scOf (stOf 34)
noncomputable def bd_octets_at : List Stmt := bdOf (stOf 42)
noncomputable def sc_octets_at : Scope := scOf (stOf 42)
noncomputable def bd_put_octets : List Stmt := bdOf (stOf 43)
noncomputable def sc_put_octets : Scope := scOf (stOf 43)
noncomputable def bd_name_at : List Stmt := bdOf (stOf 44)
noncomputable def sc_name_at : Scope := scOf (stOf 44)
noncomputable def bd_extent_at : List Stmt := bdOf (stOf 45)
noncomputable def sc_extent_at : Scope := scOf (stOf 45)
noncomputable def bd_set_extent : List Stmt := bdOf (stOf 46)
noncomputable def sc_set_extent : Scope := scOf (stOf 46)
noncomputable def bd_is_changed : List Stmt := bdOf (stOf 47)
noncomputable def sc_is_changed : Scope := scOf (stOf 47)
noncomputable def bd_mark_changed : List Stmt := bdOf (stOf 48)
noncomputable def sc_mark_changed : Scope := scOf (stOf 48)
noncomputable def bd_count_at : List Stmt := bdOf (stOf 49)
noncomputable def sc_count_at : Scope := scOf (stOf 49)
noncomputable def bd_set_count : List Stmt := bdOf (stOf 50)
noncomputable def sc_set_count : Scope := scOf (stOf 50)
noncomputable def bd_current_at : List Stmt := bdOf (stOf 51)
noncomputable def sc_current_at : Scope := scOf (stOf 51)
noncomputable def bd_set_current : List Stmt := bdOf (stOf 52)
noncomputable def sc_set_current : Scope := scOf (stOf 52)
noncomputable def bd_blocks_at : List Stmt := bdOf (stOf 53)
noncomputable def sc_blocks_at : Scope := scOf (stOf 53)
noncomputable def bd_set_block : List Stmt := bdOf (stOf 54)
noncomputable def sc_set_block : Scope := scOf (stOf 54)
noncomputable def bd_begin_extent : List Stmt := bdOf (stOf 56)
noncomputable def sc_begin_extent : Scope := scOf (stOf 56)
noncomputable def bd_new_fcb : List Stmt := bdOf (stOf 57)
noncomputable def sc_new_fcb : Scope := scOf (stOf 57)
noncomputable def bd_matches : List Stmt := bdOf (stOf 61)
noncomputable def sc_matches : Scope := scOf (stOf 61)
noncomputable def bd_has_flag : List Stmt := bdOf (stOf 62)
noncomputable def sc_has_flag : Scope := scOf (stOf 62)
noncomputable def bd_find : List Stmt := bdOf (stOf 63)
noncomputable def sc_find : Scope := scOf (stOf 63)
noncomputable def bd_find_extent : List Stmt := bdOf (stOf 64)
noncomputable def sc_find_extent : Scope := scOf (stOf 64)
noncomputable def bd_need_changeable : List Stmt := bdOf (stOf 65)
noncomputable def sc_need_changeable : Scope := scOf (stOf 65)
noncomputable def bd_delete : List Stmt := bdOf (stOf 66)
noncomputable def sc_delete : Scope := scOf (stOf 66)
noncomputable def bd_code_of : List Stmt := bdOf (stOf 77)
noncomputable def sc_code_of : Scope := scOf (stOf 77)
noncomputable def bd_need_writable_file : List Stmt := bdOf (stOf 78)
noncomputable def sc_need_writable_file : Scope := scOf (stOf 78)
noncomputable def bd_need_writable_disk : List Stmt := bdOf (stOf 79)
noncomputable def sc_need_writable_disk : Scope := scOf (stOf 79)
noncomputable def bd_merged : List Stmt := bdOf (stOf 80)
noncomputable def sc_merged : Scope := scOf (stOf 80)
noncomputable def bd_close_file : List Stmt := bdOf (stOf 81)
noncomputable def sc_close_file : Scope := scOf (stOf 81)
noncomputable def bd_make_file : List Stmt := bdOf (stOf 82)
noncomputable def sc_make_file : Scope := scOf (stOf 82)
noncomputable def bd_code_for : List Stmt := bdOf (stOf 83)
noncomputable def sc_code_for : Scope := scOf (stOf 83)
noncomputable def bd_delete_file : List Stmt := bdOf (stOf 84)
noncomputable def sc_delete_file : Scope := scOf (stOf 84)
noncomputable def bd_block_for : List Stmt := bdOf (stOf 87)
noncomputable def sc_block_for : Scope := scOf (stOf 87)
noncomputable def bd_write_here : List Stmt := bdOf (stOf 88)
noncomputable def sc_write_here : Scope := scOf (stOf 88)
noncomputable def bd_go_on : List Stmt := bdOf (stOf 89)
noncomputable def sc_go_on : Scope := scOf (stOf 89)
noncomputable def bd_write_next : List Stmt := bdOf (stOf 90)
noncomputable def sc_write_next : Scope := scOf (stOf 90)
noncomputable def bd_law_scooped : List Stmt := bdOf (stOf 92)
noncomputable def sc_law_scooped : Scope := scOf (stOf 92)
noncomputable def bd_law_taken : List Stmt := bdOf (stOf 93)
noncomputable def sc_law_taken : Scope := scOf (stOf 93)
noncomputable def bd_law_write_right : List Stmt := bdOf (stOf 94)
noncomputable def sc_law_write_right : Scope := scOf (stOf 94)
noncomputable def bd_law_close_right : List Stmt := bdOf (stOf 95)
noncomputable def sc_law_close_right : Scope := scOf (stOf 95)
noncomputable def bd_Disk : List Stmt := bdOf (h1 (bdOf (stOf 8)))
noncomputable def sc_Disk : Scope := scOf (h1 (bdOf (stOf 8)))
noncomputable def bd_Entry : List Stmt := bdOf (h1 (bdOf (stOf 9)))
noncomputable def sc_Entry : Scope := scOf (h1 (bdOf (stOf 9)))
abbrev Facts (K : Frag) : Prop := FnF K "map_slots" ["disk"] bd_map_slots sc_map_slots ∧
  FnF K "records_of_block" ["disk"] bd_records_of_block sc_records_of_block ∧
  FnF K "records_of_extent" ["disk"] bd_records_of_extent sc_records_of_extent ∧
  FnF K "directory_blocks" ["disk"] bd_directory_blocks sc_directory_blocks ∧
  FnF K "need_writable" ["disk"] bd_need_writable sc_need_writable ∧
  FnF K "new_entry" ["disk", "user", "raw", "extent"] bd_new_entry sc_new_entry ∧
  FnF K "entry_octets" ["disk", "entry"] bd_entry_octets sc_entry_octets ∧
  FnF K "entry_from" ["disk", "octets"] bd_entry_from sc_entry_from ∧
  FnF K "raw_entry" ["disk", "number"] bd_raw_entry sc_raw_entry ∧
  FnF K "read_entry" ["disk", "number"] bd_read_entry sc_read_entry ∧
  FnF K "put_entry" ["disk", "number", "octets"] bd_put_entry sc_put_entry ∧
  FnF K "erase_entry" ["disk", "number"] bd_erase_entry sc_erase_entry ∧
  FnF K "free_entry" ["disk"] bd_free_entry sc_free_entry ∧
  FnF K "live_entries" ["disk"] bd_live_entries sc_live_entries ∧
  FnF K "used_blocks" ["disk"] bd_used_blocks sc_used_blocks ∧
  FnF K "forget_given" ["disk"] bd_forget_given sc_forget_given ∧
  FnF K "map_of" ["disk", "octets"] bd_map_of sc_map_of ∧
  FnF K "map_octets" ["disk", "blocks"] bd_map_octets sc_map_octets ∧
  FnF K "nearest_free" ["is_used", "near"] bd_nearest_free sc_nearest_free ∧
  FnF K "allocate" ["disk", "near"] bd_allocate sc_allocate ∧
  FnF K "record_place" ["disk", "block", "index"] bd_record_place sc_record_place ∧
  FnF K "write_record" ["disk", "block", "index", "octets"] bd_write_record sc_write_record ∧
  FnF K "peek" ["memory", "at"] bd_peek sc_peek ∧
  FnF K "poke" ["memory", "at", "octet"] bd_poke sc_poke ∧
  FnF K "octets_at" ["memory", "at", "many"] bd_octets_at sc_octets_at ∧
  FnF K "put_octets" ["memory", "at", "octets"] bd_put_octets sc_put_octets ∧
  FnF K "name_at" ["memory", "at"] bd_name_at sc_name_at ∧
  FnF K "extent_at" ["memory", "at"] bd_extent_at sc_extent_at ∧
  FnF K "set_extent" ["memory", "at", "extent"] bd_set_extent sc_set_extent ∧
  FnF K "is_changed" ["memory", "at"] bd_is_changed sc_is_changed ∧
  FnF K "mark_changed" ["memory", "at", "is_now"] bd_mark_changed sc_mark_changed ∧
  FnF K "count_at" ["memory", "at"] bd_count_at sc_count_at ∧
  FnF K "set_count" ["memory", "at", "count"] bd_set_count sc_set_count ∧
  FnF K "current_at" ["memory", "at"] bd_current_at sc_current_at ∧
  FnF K "set_current" ["memory", "at", "record"] bd_set_current sc_set_current ∧
  FnF K "blocks_at" ["disk", "memory", "at"] bd_blocks_at sc_blocks_at ∧
  FnF K "set_block" ["disk", "memory", "at", "slot", "block"] bd_set_block sc_set_block ∧
  FnF K "begin_extent" ["memory", "at", "extent"] bd_begin_extent sc_begin_extent ∧
  FnF K "new_fcb" ["drive", "name"] bd_new_fcb sc_new_fcb ∧
  FnF K "matches" ["pattern", "raw"] bd_matches sc_matches ∧
  FnF K "has_flag" ["raw", "at"] bd_has_flag sc_has_flag ∧
  FnF K "find" ["disk", "user", "pattern"] bd_find sc_find ∧
  FnF K "find_extent" ["disk", "user", "raw", "extent"] bd_find_extent sc_find_extent ∧
  FnF K "need_changeable" ["pairs"] bd_need_changeable sc_need_changeable ∧
  FnF K "delete" ["disk", "user", "pattern"] bd_delete sc_delete ∧
  FnF K "code_of" ["disk", "number"] bd_code_of sc_code_of ∧
  FnF K "need_writable_file" ["raw"] bd_need_writable_file sc_need_writable_file ∧
  FnF K "need_writable_disk" ["disk"] bd_need_writable_disk sc_need_writable_disk ∧
  FnF K "merged" ["ours", "theirs"] bd_merged sc_merged ∧
  FnF K "close_file" ["disk", "user", "memory", "at"] bd_close_file sc_close_file ∧
  FnF K "make_file" ["disk", "user", "memory", "at"] bd_make_file sc_make_file ∧
  FnF K "code_for" ["many"] bd_code_for sc_code_for ∧
  FnF K "delete_file" ["disk", "user", "memory", "at"] bd_delete_file sc_delete_file ∧
  FnF K "block_for" ["disk", "user", "memory", "at", "slot", "is_blanked"] bd_block_for sc_block_for ∧
  FnF K "write_here" ["disk", "user", "memory", "at", "dma", "is_blanked"] bd_write_here sc_write_here ∧
  FnF K "go_on" ["disk", "user", "memory", "at", "is_writing"] bd_go_on sc_go_on ∧
  FnF K "write_next" ["disk", "user", "memory", "at", "dma"] bd_write_next sc_write_next ∧
  FnF K "_law_scooped" ["pail", "many"] bd_law_scooped sc_law_scooped ∧
  FnF K "_law_taken" ["disk", "given"] bd_law_taken sc_law_taken ∧
  FnF K "_law_write_right" ["pail", "disk", "memory", "at", "user", "given"] bd_law_write_right sc_law_write_right ∧
  FnF K "_law_close_right" ["disk", "memory", "at", "user", "given"] bd_law_close_right sc_law_close_right ∧
  ClsF K "Disk" ["self", "blocks", "block", "record", "entries"] bd_Disk sc_Disk ∧
  getOk K (adr K "Disk") "blocks" = true ∧
  setOk K (adr K "Disk") "blocks" = true ∧
  getOk K (adr K "Disk") "block" = true ∧
  setOk K (adr K "Disk") "block" = true ∧
  getOk K (adr K "Disk") "record" = true ∧
  setOk K (adr K "Disk") "record" = true ∧
  getOk K (adr K "Disk") "entries" = true ∧
  setOk K (adr K "Disk") "entries" = true ∧
  getOk K (adr K "Disk") "is_read_only" = true ∧
  setOk K (adr K "Disk") "is_read_only" = true ∧
  getOk K (adr K "Disk") "given" = true ∧
  setOk K (adr K "Disk") "given" = true ∧
  getOk K (adr K "Disk") "data" = true ∧
  setOk K (adr K "Disk") "data" = true ∧
  ClsF K "Entry" ["self", "user", "raw", "extent"] bd_Entry sc_Entry ∧
  getOk K (adr K "Entry") "user" = true ∧
  setOk K (adr K "Entry") "user" = true ∧
  getOk K (adr K "Entry") "raw" = true ∧
  setOk K (adr K "Entry") "raw" = true ∧
  getOk K (adr K "Entry") "extent" = true ∧
  setOk K (adr K "Entry") "extent" = true ∧
  getOk K (adr K "Entry") "spare" = true ∧
  setOk K (adr K "Entry") "spare" = true ∧
  getOk K (adr K "Entry") "count" = true ∧
  setOk K (adr K "Entry") "count" = true ∧
  getOk K (adr K "Entry") "map" = true ∧
  setOk K (adr K "Entry") "map" = true ∧
  intAt K "FREE" = some 229 ∧
  intAt K "ENTRY_SIZE" = some 32 ∧
  intAt K "NAME_SIZE" = some 11 ∧
  intAt K "MAP_AT" = some 16 ∧
  intAt K "MOST_RECORDS" = some 128 ∧
  intAt K "EXTENTS_LOW" = some 32 ∧
  intAt K "EX_AT" = some 12 ∧
  intAt K "S2_AT" = some 14 ∧
  intAt K "RC_AT" = some 15 ∧
  intAt K "CR_AT" = some 32 ∧
  intAt K "FCB_SIZE" = some 36 ∧
  intAt K "UNCHANGED" = some 128 ∧
  intAt K "ANY" = some 63 ∧
  intAt K "READ_ONLY_AT" = some 8 ∧
  intAt K "DONE" = some 0 ∧
  intAt K "NOT_FOUND" = some 255 ∧
  intAt K "NO_ROOM" = some 2 ∧
  nsIn K mainGlobals "len" = some none ∧
  nsIn K mainGlobals "min" = some none ∧
  nsIn K mainGlobals "max" = some none ∧
  nsIn K mainGlobals "range" = some none ∧
  nsIn K mainGlobals "enumerate" = some none ∧
  nsIn K mainGlobals "list" = some none ∧
  nsIn K mainGlobals "all" = some none ∧
  nsIn K mainGlobals "any" = some none ∧
  nsIn K mainGlobals "zip" = some none ∧
  nsIn K mainGlobals "abs" = some none ∧
  nsIn K mainGlobals "int" = some none ∧
  nsIn K mainGlobals "sorted" = some none ∧
  DErr K
theorem Facts.f_map_slots {K : Frag} (h : Facts K) : FnF K "map_slots" ["disk"] bd_map_slots sc_map_slots := h.1
theorem Facts.f_records_of_block {K : Frag} (h : Facts K) : FnF K "records_of_block" ["disk"] bd_records_of_block sc_records_of_block := h.2.1
theorem Facts.f_records_of_extent {K : Frag} (h : Facts K) : FnF K "records_of_extent" ["disk"] bd_records_of_extent sc_records_of_extent := h.2.2.1
theorem Facts.f_directory_blocks {K : Frag} (h : Facts K) : FnF K "directory_blocks" ["disk"] bd_directory_blocks sc_directory_blocks := h.2.2.2.1
theorem Facts.f_need_writable {K : Frag} (h : Facts K) : FnF K "need_writable" ["disk"] bd_need_writable sc_need_writable := h.2.2.2.2.1
theorem Facts.f_new_entry {K : Frag} (h : Facts K) : FnF K "new_entry" ["disk", "user", "raw", "extent"] bd_new_entry sc_new_entry := h.2.2.2.2.2.1
theorem Facts.f_entry_octets {K : Frag} (h : Facts K) : FnF K "entry_octets" ["disk", "entry"] bd_entry_octets sc_entry_octets := h.2.2.2.2.2.2.1
theorem Facts.f_entry_from {K : Frag} (h : Facts K) : FnF K "entry_from" ["disk", "octets"] bd_entry_from sc_entry_from := h.2.2.2.2.2.2.2.1
theorem Facts.f_raw_entry {K : Frag} (h : Facts K) : FnF K "raw_entry" ["disk", "number"] bd_raw_entry sc_raw_entry := h.2.2.2.2.2.2.2.2.1
theorem Facts.f_read_entry {K : Frag} (h : Facts K) : FnF K "read_entry" ["disk", "number"] bd_read_entry sc_read_entry := h.2.2.2.2.2.2.2.2.2.1
theorem Facts.f_put_entry {K : Frag} (h : Facts K) : FnF K "put_entry" ["disk", "number", "octets"] bd_put_entry sc_put_entry := h.2.2.2.2.2.2.2.2.2.2.1
theorem Facts.f_erase_entry {K : Frag} (h : Facts K) : FnF K "erase_entry" ["disk", "number"] bd_erase_entry sc_erase_entry := h.2.2.2.2.2.2.2.2.2.2.2.1
theorem Facts.f_free_entry {K : Frag} (h : Facts K) : FnF K "free_entry" ["disk"] bd_free_entry sc_free_entry := h.2.2.2.2.2.2.2.2.2.2.2.2.1
theorem Facts.f_live_entries {K : Frag} (h : Facts K) : FnF K "live_entries" ["disk"] bd_live_entries sc_live_entries := h.2.2.2.2.2.2.2.2.2.2.2.2.2.1
theorem Facts.f_used_blocks {K : Frag} (h : Facts K) : FnF K "used_blocks" ["disk"] bd_used_blocks sc_used_blocks := h.2.2.2.2.2.2.2.2.2.2.2.2.2.2.1
theorem Facts.f_forget_given {K : Frag} (h : Facts K) : FnF K "forget_given" ["disk"] bd_forget_given sc_forget_given := h.2.2.2.2.2.2.2.2.2.2.2.2.2.2.2.1
theorem Facts.f_map_of {K : Frag} (h : Facts K) : FnF K "map_of" ["disk", "octets"] bd_map_of sc_map_of := h.2.2.2.2.2.2.2.2.2.2.2.2.2.2.2.2.1
theorem Facts.f_map_octets {K : Frag} (h : Facts K) : FnF K "map_octets" ["disk", "blocks"] bd_map_octets sc_map_octets := h.2.2.2.2.2.2.2.2.2.2.2.2.2.2.2.2.2.1
theorem Facts.f_nearest_free {K : Frag} (h : Facts K) : FnF K "nearest_free" ["is_used", "near"] bd_nearest_free sc_nearest_free := h.2.2.2.2.2.2.2.2.2.2.2.2.2.2.2.2.2.2.1
theorem Facts.f_allocate {K : Frag} (h : Facts K) : FnF K "allocate" ["disk", "near"] bd_allocate sc_allocate := h.2.2.2.2.2.2.2.2.2.2.2.2.2.2.2.2.2.2.2.1
theorem Facts.f_record_place {K : Frag} (h : Facts K) : FnF K "record_place" ["disk", "block", "index"] bd_record_place sc_record_place := h.2.2.2.2.2.2.2.2.2.2.2.2.2.2.2.2.2.2.2.2.1
theorem Facts.f_write_record {K : Frag} (h : Facts K) : FnF K "write_record" ["disk", "block", "index", "octets"] bd_write_record sc_write_record := h.2.2.2.2.2.2.2.2.2.2.2.2.2.2.2.2.2.2.2.2.2.1
theorem Facts.f_peek {K : Frag} (h : Facts K) : FnF K "peek" ["memory", "at"] bd_peek sc_peek := h.2.2.2.2.2.2.2.2.2.2.2.2.2.2.2.2.2.2.2.2.2.2.1
theorem Facts.f_poke {K : Frag} (h : Facts K) : FnF K "poke" ["memory", "at", "octet"] bd_poke sc_poke := h.2.2.2.2.2.2.2.2.2.2.2.2.2.2.2.2.2.2.2.2.2.2.2.1
theorem Facts.f_octets_at {K : Frag} (h : Facts K) : FnF K "octets_at" ["memory", "at", "many"] bd_octets_at sc_octets_at := h.2.2.2.2.2.2.2.2.2.2.2.2.2.2.2.2.2.2.2.2.2.2.2.2.1
theorem Facts.f_put_octets {K : Frag} (h : Facts K) : FnF K "put_octets" ["memory", "at", "octets"] bd_put_octets sc_put_octets := h.2.2.2.2.2.2.2.2.2.2.2.2.2.2.2.2.2.2.2.2.2.2.2.2.2.1
theorem Facts.f_name_at {K : Frag} (h : Facts K) : FnF K "name_at" ["memory", "at"] bd_name_at sc_name_at := h.2.2.2.2.2.2.2.2.2.2.2.2.2.2.2.2.2.2.2.2.2.2.2.2.2.2.1
theorem Facts.f_extent_at {K : Frag} (h : Facts K) : FnF K "extent_at" ["memory", "at"] bd_extent_at sc_extent_at := h.2.2.2.2.2.2.2.2.2.2.2.2.2.2.2.2.2.2.2.2.2.2.2.2.2.2.2.1
theorem Facts.f_set_extent {K : Frag} (h : Facts K) : FnF K "set_extent" ["memory", "at", "extent"] bd_set_extent sc_set_extent := h.2.2.2.2.2.2.2.2.2.2.2.2.2.2.2.2.2.2.2.2.2.2.2.2.2.2.2.2.1
theorem Facts.f_is_changed {K : Frag} (h : Facts K) : FnF K "is_changed" ["memory", "at"] bd_is_changed sc_is_changed := h.2.2.2.2.2.2.2.2.2.2.2.2.2.2.2.2.2.2.2.2.2.2.2.2.2.2.2.2.2.1
theorem Facts.f_mark_changed {K : Frag} (h : Facts K) : FnF K "mark_changed" ["memory", "at", "is_now"] bd_mark_changed sc_mark_changed := h.2.2.2.2.2.2.2.2.2.2.2.2.2.2.2.2.2.2.2.2.2.2.2.2.2.2.2.2.2.2.1
theorem Facts.f_count_at {K : Frag} (h : Facts K) : FnF K "count_at" ["memory", "at"] bd_count_at sc_count_at := h.2.2.2.2.2.2.2.2.2.2.2.2.2.2.2.2.2.2.2.2.2.2.2.2.2.2.2.2.2.2.2.1
theorem Facts.f_set_count {K : Frag} (h : Facts K) : FnF K "set_count" ["memory", "at", "count"] bd_set_count sc_set_count := h.2.2.2.2.2.2.2.2.2.2.2.2.2.2.2.2.2.2.2.2.2.2.2.2.2.2.2.2.2.2.2.2.1
theorem Facts.f_current_at {K : Frag} (h : Facts K) : FnF K "current_at" ["memory", "at"] bd_current_at sc_current_at := h.2.2.2.2.2.2.2.2.2.2.2.2.2.2.2.2.2.2.2.2.2.2.2.2.2.2.2.2.2.2.2.2.2.1
theorem Facts.f_set_current {K : Frag} (h : Facts K) : FnF K "set_current" ["memory", "at", "record"] bd_set_current sc_set_current := h.2.2.2.2.2.2.2.2.2.2.2.2.2.2.2.2.2.2.2.2.2.2.2.2.2.2.2.2.2.2.2.2.2.2.1
theorem Facts.f_blocks_at {K : Frag} (h : Facts K) : FnF K "blocks_at" ["disk", "memory", "at"] bd_blocks_at sc_blocks_at := h.2.2.2.2.2.2.2.2.2.2.2.2.2.2.2.2.2.2.2.2.2.2.2.2.2.2.2.2.2.2.2.2.2.2.2.1
theorem Facts.f_set_block {K : Frag} (h : Facts K) : FnF K "set_block" ["disk", "memory", "at", "slot", "block"] bd_set_block sc_set_block := h.2.2.2.2.2.2.2.2.2.2.2.2.2.2.2.2.2.2.2.2.2.2.2.2.2.2.2.2.2.2.2.2.2.2.2.2.1
theorem Facts.f_begin_extent {K : Frag} (h : Facts K) : FnF K "begin_extent" ["memory", "at", "extent"] bd_begin_extent sc_begin_extent := h.2.2.2.2.2.2.2.2.2.2.2.2.2.2.2.2.2.2.2.2.2.2.2.2.2.2.2.2.2.2.2.2.2.2.2.2.2.1
theorem Facts.f_new_fcb {K : Frag} (h : Facts K) : FnF K "new_fcb" ["drive", "name"] bd_new_fcb sc_new_fcb := h.2.2.2.2.2.2.2.2.2.2.2.2.2.2.2.2.2.2.2.2.2.2.2.2.2.2.2.2.2.2.2.2.2.2.2.2.2.2.1
theorem Facts.f_matches {K : Frag} (h : Facts K) : FnF K "matches" ["pattern", "raw"] bd_matches sc_matches := h.2.2.2.2.2.2.2.2.2.2.2.2.2.2.2.2.2.2.2.2.2.2.2.2.2.2.2.2.2.2.2.2.2.2.2.2.2.2.2.1
theorem Facts.f_has_flag {K : Frag} (h : Facts K) : FnF K "has_flag" ["raw", "at"] bd_has_flag sc_has_flag := h.2.2.2.2.2.2.2.2.2.2.2.2.2.2.2.2.2.2.2.2.2.2.2.2.2.2.2.2.2.2.2.2.2.2.2.2.2.2.2.2.1
theorem Facts.f_find {K : Frag} (h : Facts K) : FnF K "find" ["disk", "user", "pattern"] bd_find sc_find := h.2.2.2.2.2.2.2.2.2.2.2.2.2.2.2.2.2.2.2.2.2.2.2.2.2.2.2.2.2.2.2.2.2.2.2.2.2.2.2.2.2.1
theorem Facts.f_find_extent {K : Frag} (h : Facts K) : FnF K "find_extent" ["disk", "user", "raw", "extent"] bd_find_extent sc_find_extent := h.2.2.2.2.2.2.2.2.2.2.2.2.2.2.2.2.2.2.2.2.2.2.2.2.2.2.2.2.2.2.2.2.2.2.2.2.2.2.2.2.2.2.1
theorem Facts.f_need_changeable {K : Frag} (h : Facts K) : FnF K "need_changeable" ["pairs"] bd_need_changeable sc_need_changeable := h.2.2.2.2.2.2.2.2.2.2.2.2.2.2.2.2.2.2.2.2.2.2.2.2.2.2.2.2.2.2.2.2.2.2.2.2.2.2.2.2.2.2.2.1
theorem Facts.f_delete {K : Frag} (h : Facts K) : FnF K "delete" ["disk", "user", "pattern"] bd_delete sc_delete := h.2.2.2.2.2.2.2.2.2.2.2.2.2.2.2.2.2.2.2.2.2.2.2.2.2.2.2.2.2.2.2.2.2.2.2.2.2.2.2.2.2.2.2.2.1
theorem Facts.f_code_of {K : Frag} (h : Facts K) : FnF K "code_of" ["disk", "number"] bd_code_of sc_code_of := h.2.2.2.2.2.2.2.2.2.2.2.2.2.2.2.2.2.2.2.2.2.2.2.2.2.2.2.2.2.2.2.2.2.2.2.2.2.2.2.2.2.2.2.2.2.1
theorem Facts.f_need_writable_file {K : Frag} (h : Facts K) : FnF K "need_writable_file" ["raw"] bd_need_writable_file sc_need_writable_file := h.2.2.2.2.2.2.2.2.2.2.2.2.2.2.2.2.2.2.2.2.2.2.2.2.2.2.2.2.2.2.2.2.2.2.2.2.2.2.2.2.2.2.2.2.2.2.1
theorem Facts.f_need_writable_disk {K : Frag} (h : Facts K) : FnF K "need_writable_disk" ["disk"] bd_need_writable_disk sc_need_writable_disk := h.2.2.2.2.2.2.2.2.2.2.2.2.2.2.2.2.2.2.2.2.2.2.2.2.2.2.2.2.2.2.2.2.2.2.2.2.2.2.2.2.2.2.2.2.2.2.2.1
theorem Facts.f_merged {K : Frag} (h : Facts K) : FnF K "merged" ["ours", "theirs"] bd_merged sc_merged := h.2.2.2.2.2.2.2.2.2.2.2.2.2.2.2.2.2.2.2.2.2.2.2.2.2.2.2.2.2.2.2.2.2.2.2.2.2.2.2.2.2.2.2.2.2.2.2.2.1
theorem Facts.f_close_file {K : Frag} (h : Facts K) : FnF K "close_file" ["disk", "user", "memory", "at"] bd_close_file sc_close_file := h.2.2.2.2.2.2.2.2.2.2.2.2.2.2.2.2.2.2.2.2.2.2.2.2.2.2.2.2.2.2.2.2.2.2.2.2.2.2.2.2.2.2.2.2.2.2.2.2.2.1
theorem Facts.f_make_file {K : Frag} (h : Facts K) : FnF K "make_file" ["disk", "user", "memory", "at"] bd_make_file sc_make_file := h.2.2.2.2.2.2.2.2.2.2.2.2.2.2.2.2.2.2.2.2.2.2.2.2.2.2.2.2.2.2.2.2.2.2.2.2.2.2.2.2.2.2.2.2.2.2.2.2.2.2.1
theorem Facts.f_code_for {K : Frag} (h : Facts K) : FnF K "code_for" ["many"] bd_code_for sc_code_for := h.2.2.2.2.2.2.2.2.2.2.2.2.2.2.2.2.2.2.2.2.2.2.2.2.2.2.2.2.2.2.2.2.2.2.2.2.2.2.2.2.2.2.2.2.2.2.2.2.2.2.2.1
theorem Facts.f_delete_file {K : Frag} (h : Facts K) : FnF K "delete_file" ["disk", "user", "memory", "at"] bd_delete_file sc_delete_file := h.2.2.2.2.2.2.2.2.2.2.2.2.2.2.2.2.2.2.2.2.2.2.2.2.2.2.2.2.2.2.2.2.2.2.2.2.2.2.2.2.2.2.2.2.2.2.2.2.2.2.2.2.1
theorem Facts.f_block_for {K : Frag} (h : Facts K) : FnF K "block_for" ["disk", "user", "memory", "at", "slot", "is_blanked"] bd_block_for sc_block_for := h.2.2.2.2.2.2.2.2.2.2.2.2.2.2.2.2.2.2.2.2.2.2.2.2.2.2.2.2.2.2.2.2.2.2.2.2.2.2.2.2.2.2.2.2.2.2.2.2.2.2.2.2.2.1
theorem Facts.f_write_here {K : Frag} (h : Facts K) : FnF K "write_here" ["disk", "user", "memory", "at", "dma", "is_blanked"] bd_write_here sc_write_here := h.2.2.2.2.2.2.2.2.2.2.2.2.2.2.2.2.2.2.2.2.2.2.2.2.2.2.2.2.2.2.2.2.2.2.2.2.2.2.2.2.2.2.2.2.2.2.2.2.2.2.2.2.2.2.1
theorem Facts.f_go_on {K : Frag} (h : Facts K) : FnF K "go_on" ["disk", "user", "memory", "at", "is_writing"] bd_go_on sc_go_on := h.2.2.2.2.2.2.2.2.2.2.2.2.2.2.2.2.2.2.2.2.2.2.2.2.2.2.2.2.2.2.2.2.2.2.2.2.2.2.2.2.2.2.2.2.2.2.2.2.2.2.2.2.2.2.2.1
theorem Facts.f_write_next {K : Frag} (h : Facts K) : FnF K "write_next" ["disk", "user", "memory", "at", "dma"] bd_write_next sc_write_next := h.2.2.2.2.2.2.2.2.2.2.2.2.2.2.2.2.2.2.2.2.2.2.2.2.2.2.2.2.2.2.2.2.2.2.2.2.2.2.2.2.2.2.2.2.2.2.2.2.2.2.2.2.2.2.2.2.1
theorem Facts.f_law_scooped {K : Frag} (h : Facts K) : FnF K "_law_scooped" ["pail", "many"] bd_law_scooped sc_law_scooped := h.2.2.2.2.2.2.2.2.2.2.2.2.2.2.2.2.2.2.2.2.2.2.2.2.2.2.2.2.2.2.2.2.2.2.2.2.2.2.2.2.2.2.2.2.2.2.2.2.2.2.2.2.2.2.2.2.2.1
theorem Facts.f_law_taken {K : Frag} (h : Facts K) : FnF K "_law_taken" ["disk", "given"] bd_law_taken sc_law_taken := h.2.2.2.2.2.2.2.2.2.2.2.2.2.2.2.2.2.2.2.2.2.2.2.2.2.2.2.2.2.2.2.2.2.2.2.2.2.2.2.2.2.2.2.2.2.2.2.2.2.2.2.2.2.2.2.2.2.2.1
theorem Facts.f_law_write_right {K : Frag} (h : Facts K) : FnF K "_law_write_right" ["pail", "disk", "memory", "at", "user", "given"] bd_law_write_right sc_law_write_right := h.2.2.2.2.2.2.2.2.2.2.2.2.2.2.2.2.2.2.2.2.2.2.2.2.2.2.2.2.2.2.2.2.2.2.2.2.2.2.2.2.2.2.2.2.2.2.2.2.2.2.2.2.2.2.2.2.2.2.2.1
theorem Facts.f_law_close_right {K : Frag} (h : Facts K) : FnF K "_law_close_right" ["disk", "memory", "at", "user", "given"] bd_law_close_right sc_law_close_right := h.2.2.2.2.2.2.2.2.2.2.2.2.2.2.2.2.2.2.2.2.2.2.2.2.2.2.2.2.2.2.2.2.2.2.2.2.2.2.2.2.2.2.2.2.2.2.2.2.2.2.2.2.2.2.2.2.2.2.2.2.1
theorem Facts.c_Disk {K : Frag} (h : Facts K) : ClsF K "Disk" ["self", "blocks", "block", "record", "entries"] bd_Disk sc_Disk := h.2.2.2.2.2.2.2.2.2.2.2.2.2.2.2.2.2.2.2.2.2.2.2.2.2.2.2.2.2.2.2.2.2.2.2.2.2.2.2.2.2.2.2.2.2.2.2.2.2.2.2.2.2.2.2.2.2.2.2.2.2.1
theorem Facts.g_Disk_blocks {K : Frag} (h : Facts K) : getOk K (adr K "Disk") "blocks" = true := h.2.2.2.2.2.2.2.2.2.2.2.2.2.2.2.2.2.2.2.2.2.2.2.2.2.2.2.2.2.2.2.2.2.2.2.2.2.2.2.2.2.2.2.2.2.2.2.2.2.2.2.2.2.2.2.2.2.2.2.2.2.2.1
theorem Facts.s_Disk_blocks {K : Frag} (h : Facts K) : setOk K (adr K "Disk") "blocks" = true := h.2.2.2.2.2.2.2.2.2.2.2.2.2.2.2.2.2.2.2.2.2.2.2.2.2.2.2.2.2.2.2.2.2.2.2.2.2.2.2.2.2.2.2.2.2.2.2.2.2.2.2.2.2.2.2.2.2.2.2.2.2.2.2.1
theorem Facts.g_Disk_block {K : Frag} (h : Facts K) : getOk K (adr K "Disk") "block" = true := h.2.2.2.2.2.2.2.2.2.2.2.2.2.2.2.2.2.2.2.2.2.2.2.2.2.2.2.2.2.2.2.2.2.2.2.2.2.2.2.2.2.2.2.2.2.2.2.2.2.2.2.2.2.2.2.2.2.2.2.2.2.2.2.2.1
theorem Facts.s_Disk_block {K : Frag} (h : Facts K) : setOk K (adr K "Disk") "block" = true := h.2.2.2.2.2.2.2.2.2.2.2.2.2.2.2.2.2.2.2.2.2.2.2.2.2.2.2.2.2.2.2.2.2.2.2.2.2.2.2.2.2.2.2.2.2.2.2.2.2.2.2.2.2.2.2.2.2.2.2.2.2.2.2.2.2.1
theorem Facts.g_Disk_record {K : Frag} (h : Facts K) : getOk K (adr K "Disk") "record" = true := h.2.2.2.2.2.2.2.2.2.2.2.2.2.2.2.2.2.2.2.2.2.2.2.2.2.2.2.2.2.2.2.2.2.2.2.2.2.2.2.2.2.2.2.2.2.2.2.2.2.2.2.2.2.2.2.2.2.2.2.2.2.2.2.2.2.2.1
theorem Facts.s_Disk_record {K : Frag} (h : Facts K) : setOk K (adr K "Disk") "record" = true := h.2.2.2.2.2.2.2.2.2.2.2.2.2.2.2.2.2.2.2.2.2.2.2.2.2.2.2.2.2.2.2.2.2.2.2.2.2.2.2.2.2.2.2.2.2.2.2.2.2.2.2.2.2.2.2.2.2.2.2.2.2.2.2.2.2.2.2.1
theorem Facts.g_Disk_entries {K : Frag} (h : Facts K) : getOk K (adr K "Disk") "entries" = true := h.2.2.2.2.2.2.2.2.2.2.2.2.2.2.2.2.2.2.2.2.2.2.2.2.2.2.2.2.2.2.2.2.2.2.2.2.2.2.2.2.2.2.2.2.2.2.2.2.2.2.2.2.2.2.2.2.2.2.2.2.2.2.2.2.2.2.2.2.1
theorem Facts.s_Disk_entries {K : Frag} (h : Facts K) : setOk K (adr K "Disk") "entries" = true := h.2.2.2.2.2.2.2.2.2.2.2.2.2.2.2.2.2.2.2.2.2.2.2.2.2.2.2.2.2.2.2.2.2.2.2.2.2.2.2.2.2.2.2.2.2.2.2.2.2.2.2.2.2.2.2.2.2.2.2.2.2.2.2.2.2.2.2.2.2.1
theorem Facts.g_Disk_is_read_only {K : Frag} (h : Facts K) : getOk K (adr K "Disk") "is_read_only" = true := h.2.2.2.2.2.2.2.2.2.2.2.2.2.2.2.2.2.2.2.2.2.2.2.2.2.2.2.2.2.2.2.2.2.2.2.2.2.2.2.2.2.2.2.2.2.2.2.2.2.2.2.2.2.2.2.2.2.2.2.2.2.2.2.2.2.2.2.2.2.2.1
theorem Facts.s_Disk_is_read_only {K : Frag} (h : Facts K) : setOk K (adr K "Disk") "is_read_only" = true := h.2.2.2.2.2.2.2.2.2.2.2.2.2.2.2.2.2.2.2.2.2.2.2.2.2.2.2.2.2.2.2.2.2.2.2.2.2.2.2.2.2.2.2.2.2.2.2.2.2.2.2.2.2.2.2.2.2.2.2.2.2.2.2.2.2.2.2.2.2.2.2.1
theorem Facts.g_Disk_given {K : Frag} (h : Facts K) : getOk K (adr K "Disk") "given" = true := h.2.2.2.2.2.2.2.2.2.2.2.2.2.2.2.2.2.2.2.2.2.2.2.2.2.2.2.2.2.2.2.2.2.2.2.2.2.2.2.2.2.2.2.2.2.2.2.2.2.2.2.2.2.2.2.2.2.2.2.2.2.2.2.2.2.2.2.2.2.2.2.2.1
theorem Facts.s_Disk_given {K : Frag} (h : Facts K) : setOk K (adr K "Disk") "given" = true := h.2.2.2.2.2.2.2.2.2.2.2.2.2.2.2.2.2.2.2.2.2.2.2.2.2.2.2.2.2.2.2.2.2.2.2.2.2.2.2.2.2.2.2.2.2.2.2.2.2.2.2.2.2.2.2.2.2.2.2.2.2.2.2.2.2.2.2.2.2.2.2.2.2.1
theorem Facts.g_Disk_data {K : Frag} (h : Facts K) : getOk K (adr K "Disk") "data" = true := h.2.2.2.2.2.2.2.2.2.2.2.2.2.2.2.2.2.2.2.2.2.2.2.2.2.2.2.2.2.2.2.2.2.2.2.2.2.2.2.2.2.2.2.2.2.2.2.2.2.2.2.2.2.2.2.2.2.2.2.2.2.2.2.2.2.2.2.2.2.2.2.2.2.2.1
theorem Facts.s_Disk_data {K : Frag} (h : Facts K) : setOk K (adr K "Disk") "data" = true := h.2.2.2.2.2.2.2.2.2.2.2.2.2.2.2.2.2.2.2.2.2.2.2.2.2.2.2.2.2.2.2.2.2.2.2.2.2.2.2.2.2.2.2.2.2.2.2.2.2.2.2.2.2.2.2.2.2.2.2.2.2.2.2.2.2.2.2.2.2.2.2.2.2.2.2.1
theorem Facts.c_Entry {K : Frag} (h : Facts K) : ClsF K "Entry" ["self", "user", "raw", "extent"] bd_Entry sc_Entry := h.2.2.2.2.2.2.2.2.2.2.2.2.2.2.2.2.2.2.2.2.2.2.2.2.2.2.2.2.2.2.2.2.2.2.2.2.2.2.2.2.2.2.2.2.2.2.2.2.2.2.2.2.2.2.2.2.2.2.2.2.2.2.2.2.2.2.2.2.2.2.2.2.2.2.2.2.1
theorem Facts.g_Entry_user {K : Frag} (h : Facts K) : getOk K (adr K "Entry") "user" = true := h.2.2.2.2.2.2.2.2.2.2.2.2.2.2.2.2.2.2.2.2.2.2.2.2.2.2.2.2.2.2.2.2.2.2.2.2.2.2.2.2.2.2.2.2.2.2.2.2.2.2.2.2.2.2.2.2.2.2.2.2.2.2.2.2.2.2.2.2.2.2.2.2.2.2.2.2.2.1
theorem Facts.s_Entry_user {K : Frag} (h : Facts K) : setOk K (adr K "Entry") "user" = true := h.2.2.2.2.2.2.2.2.2.2.2.2.2.2.2.2.2.2.2.2.2.2.2.2.2.2.2.2.2.2.2.2.2.2.2.2.2.2.2.2.2.2.2.2.2.2.2.2.2.2.2.2.2.2.2.2.2.2.2.2.2.2.2.2.2.2.2.2.2.2.2.2.2.2.2.2.2.2.1
theorem Facts.g_Entry_raw {K : Frag} (h : Facts K) : getOk K (adr K "Entry") "raw" = true := h.2.2.2.2.2.2.2.2.2.2.2.2.2.2.2.2.2.2.2.2.2.2.2.2.2.2.2.2.2.2.2.2.2.2.2.2.2.2.2.2.2.2.2.2.2.2.2.2.2.2.2.2.2.2.2.2.2.2.2.2.2.2.2.2.2.2.2.2.2.2.2.2.2.2.2.2.2.2.2.1
theorem Facts.s_Entry_raw {K : Frag} (h : Facts K) : setOk K (adr K "Entry") "raw" = true := h.2.2.2.2.2.2.2.2.2.2.2.2.2.2.2.2.2.2.2.2.2.2.2.2.2.2.2.2.2.2.2.2.2.2.2.2.2.2.2.2.2.2.2.2.2.2.2.2.2.2.2.2.2.2.2.2.2.2.2.2.2.2.2.2.2.2.2.2.2.2.2.2.2.2.2.2.2.2.2.2.1
theorem Facts.g_Entry_extent {K : Frag} (h : Facts K) : getOk K (adr K "Entry") "extent" = true := h.2.2.2.2.2.2.2.2.2.2.2.2.2.2.2.2.2.2.2.2.2.2.2.2.2.2.2.2.2.2.2.2.2.2.2.2.2.2.2.2.2.2.2.2.2.2.2.2.2.2.2.2.2.2.2.2.2.2.2.2.2.2.2.2.2.2.2.2.2.2.2.2.2.2.2.2.2.2.2.2.2.1
theorem Facts.s_Entry_extent {K : Frag} (h : Facts K) : setOk K (adr K "Entry") "extent" = true := h.2.2.2.2.2.2.2.2.2.2.2.2.2.2.2.2.2.2.2.2.2.2.2.2.2.2.2.2.2.2.2.2.2.2.2.2.2.2.2.2.2.2.2.2.2.2.2.2.2.2.2.2.2.2.2.2.2.2.2.2.2.2.2.2.2.2.2.2.2.2.2.2.2.2.2.2.2.2.2.2.2.2.1
theorem Facts.g_Entry_spare {K : Frag} (h : Facts K) : getOk K (adr K "Entry") "spare" = true := h.2.2.2.2.2.2.2.2.2.2.2.2.2.2.2.2.2.2.2.2.2.2.2.2.2.2.2.2.2.2.2.2.2.2.2.2.2.2.2.2.2.2.2.2.2.2.2.2.2.2.2.2.2.2.2.2.2.2.2.2.2.2.2.2.2.2.2.2.2.2.2.2.2.2.2.2.2.2.2.2.2.2.2.1
theorem Facts.s_Entry_spare {K : Frag} (h : Facts K) : setOk K (adr K "Entry") "spare" = true := h.2.2.2.2.2.2.2.2.2.2.2.2.2.2.2.2.2.2.2.2.2.2.2.2.2.2.2.2.2.2.2.2.2.2.2.2.2.2.2.2.2.2.2.2.2.2.2.2.2.2.2.2.2.2.2.2.2.2.2.2.2.2.2.2.2.2.2.2.2.2.2.2.2.2.2.2.2.2.2.2.2.2.2.2.1
theorem Facts.g_Entry_count {K : Frag} (h : Facts K) : getOk K (adr K "Entry") "count" = true := h.2.2.2.2.2.2.2.2.2.2.2.2.2.2.2.2.2.2.2.2.2.2.2.2.2.2.2.2.2.2.2.2.2.2.2.2.2.2.2.2.2.2.2.2.2.2.2.2.2.2.2.2.2.2.2.2.2.2.2.2.2.2.2.2.2.2.2.2.2.2.2.2.2.2.2.2.2.2.2.2.2.2.2.2.2.1
theorem Facts.s_Entry_count {K : Frag} (h : Facts K) : setOk K (adr K "Entry") "count" = true := h.2.2.2.2.2.2.2.2.2.2.2.2.2.2.2.2.2.2.2.2.2.2.2.2.2.2.2.2.2.2.2.2.2.2.2.2.2.2.2.2.2.2.2.2.2.2.2.2.2.2.2.2.2.2.2.2.2.2.2.2.2.2.2.2.2.2.2.2.2.2.2.2.2.2.2.2.2.2.2.2.2.2.2.2.2.2.1
theorem Facts.g_Entry_map {K : Frag} (h : Facts K) : getOk K (adr K "Entry") "map" = true := h.2.2.2.2.2.2.2.2.2.2.2.2.2.2.2.2.2.2.2.2.2.2.2.2.2.2.2.2.2.2.2.2.2.2.2.2.2.2.2.2.2.2.2.2.2.2.2.2.2.2.2.2.2.2.2.2.2.2.2.2.2.2.2.2.2.2.2.2.2.2.2.2.2.2.2.2.2.2.2.2.2.2.2.2.2.2.2.1
theorem Facts.s_Entry_map {K : Frag} (h : Facts K) : setOk K (adr K "Entry") "map" = true := h.2.2.2.2.2.2.2.2.2.2.2.2.2.2.2.2.2.2.2.2.2.2.2.2.2.2.2.2.2.2.2.2.2.2.2.2.2.2.2.2.2.2.2.2.2.2.2.2.2.2.2.2.2.2.2.2.2.2.2.2.2.2.2.2.2.2.2.2.2.2.2.2.2.2.2.2.2.2.2.2.2.2.2.2.2.2.2.2.1
theorem Facts.i_FREE {K : Frag} (h : Facts K) : intAt K "FREE" = some 229 := h.2.2.2.2.2.2.2.2.2.2.2.2.2.2.2.2.2.2.2.2.2.2.2.2.2.2.2.2.2.2.2.2.2.2.2.2.2.2.2.2.2.2.2.2.2.2.2.2.2.2.2.2.2.2.2.2.2.2.2.2.2.2.2.2.2.2.2.2.2.2.2.2.2.2.2.2.2.2.2.2.2.2.2.2.2.2.2.2.2.1
theorem Facts.i_ENTRY_SIZE {K : Frag} (h : Facts K) : intAt K "ENTRY_SIZE" = some 32 := h.2.2.2.2.2.2.2.2.2.2.2.2.2.2.2.2.2.2.2.2.2.2.2.2.2.2.2.2.2.2.2.2.2.2.2.2.2.2.2.2.2.2.2.2.2.2.2.2.2.2.2.2.2.2.2.2.2.2.2.2.2.2.2.2.2.2.2.2.2.2.2.2.2.2.2.2.2.2.2.2.2.2.2.2.2.2.2.2.2.2.1
theorem Facts.i_NAME_SIZE {K : Frag} (h : Facts K) : intAt K "NAME_SIZE" = some 11 := h.2.2.2.2.2.2.2.2.2.2.2.2.2.2.2.2.2.2.2.2.2.2.2.2.2.2.2.2.2.2.2.2.2.2.2.2.2.2.2.2.2.2.2.2.2.2.2.2.2.2.2.2.2.2.2.2.2.2.2.2.2.2.2.2.2.2.2.2.2.2.2.2.2.2.2.2.2.2.2.2.2.2.2.2.2.2.2.2.2.2.2.1
theorem Facts.i_MAP_AT {K : Frag} (h : Facts K) : intAt K "MAP_AT" = some 16 := h.2.2.2.2.2.2.2.2.2.2.2.2.2.2.2.2.2.2.2.2.2.2.2.2.2.2.2.2.2.2.2.2.2.2.2.2.2.2.2.2.2.2.2.2.2.2.2.2.2.2.2.2.2.2.2.2.2.2.2.2.2.2.2.2.2.2.2.2.2.2.2.2.2.2.2.2.2.2.2.2.2.2.2.2.2.2.2.2.2.2.2.2.1
theorem Facts.i_MOST_RECORDS {K : Frag} (h : Facts K) : intAt K "MOST_RECORDS" = some 128 := h.2.2.2.2.2.2.2.2.2.2.2.2.2.2.2.2.2.2.2.2.2.2.2.2.2.2.2.2.2.2.2.2.2.2.2.2.2.2.2.2.2.2.2.2.2.2.2.2.2.2.2.2.2.2.2.2.2.2.2.2.2.2.2.2.2.2.2.2.2.2.2.2.2.2.2.2.2.2.2.2.2.2.2.2.2.2.2.2.2.2.2.2.2.1
theorem Facts.i_EXTENTS_LOW {K : Frag} (h : Facts K) : intAt K "EXTENTS_LOW" = some 32 := h.2.2.2.2.2.2.2.2.2.2.2.2.2.2.2.2.2.2.2.2.2.2.2.2.2.2.2.2.2.2.2.2.2.2.2.2.2.2.2.2.2.2.2.2.2.2.2.2.2.2.2.2.2.2.2.2.2.2.2.2.2.2.2.2.2.2.2.2.2.2.2.2.2.2.2.2.2.2.2.2.2.2.2.2.2.2.2.2.2.2.2.2.2.2.1
theorem Facts.i_EX_AT {K : Frag} (h : Facts K) : intAt K "EX_AT" = some 12 := h.2.2.2.2.2.2.2.2.2.2.2.2.2.2.2.2.2.2.2.2.2.2.2.2.2.2.2.2.2.2.2.2.2.2.2.2.2.2.2.2.2.2.2.2.2.2.2.2.2.2.2.2.2.2.2.2.2.2.2.2.2.2.2.2.2.2.2.2.2.2.2.2.2.2.2.2.2.2.2.2.2.2.2.2.2.2.2.2.2.2.2.2.2.2.2.1
theorem Facts.i_S2_AT {K : Frag} (h : Facts K) : intAt K "S2_AT" = some 14 := h.2.2.2.2.2.2.2.2.2.2.2.2.2.2.2.2.2.2.2.2.2.2.2.2.2.2.2.2.2.2.2.2.2.2.2.2.2.2.2.2.2.2.2.2.2.2.2.2.2.2.2.2.2.2.2.2.2.2.2.2.2.2.2.2.2.2.2.2.2.2.2.2.2.2.2.2.2.2.2.2.2.2.2.2.2.2.2.2.2.2.2.2.2.2.2.2.1
theorem Facts.i_RC_AT {K : Frag} (h : Facts K) : intAt K "RC_AT" = some 15 := h.2.2.2.2.2.2.2.2.2.2.2.2.2.2.2.2.2.2.2.2.2.2.2.2.2.2.2.2.2.2.2.2.2.2.2.2.2.2.2.2.2.2.2.2.2.2.2.2.2.2.2.2.2.2.2.2.2.2.2.2.2.2.2.2.2.2.2.2.2.2.2.2.2.2.2.2.2.2.2.2.2.2.2.2.2.2.2.2.2.2.2.2.2.2.2.2.2.1
theorem Facts.i_CR_AT {K : Frag} (h : Facts K) : intAt K "CR_AT" = some 32 := h.2.2.2.2.2.2.2.2.2.2.2.2.2.2.2.2.2.2.2.2.2.2.2.2.2.2.2.2.2.2.2.2.2.2.2.2.2.2.2.2.2.2.2.2.2.2.2.2.2.2.2.2.2.2.2.2.2.2.2.2.2.2.2.2.2.2.2.2.2.2.2.2.2.2.2.2.2.2.2.2.2.2.2.2.2.2.2.2.2.2.2.2.2.2.2.2.2.2.1
theorem Facts.i_FCB_SIZE {K : Frag} (h : Facts K) : intAt K "FCB_SIZE" = some 36 := h.2.2.2.2.2.2.2.2.2.2.2.2.2.2.2.2.2.2.2.2.2.2.2.2.2.2.2.2.2.2.2.2.2.2.2.2.2.2.2.2.2.2.2.2.2.2.2.2.2.2.2.2.2.2.2.2.2.2.2.2.2.2.2.2.2.2.2.2.2.2.2.2.2.2.2.2.2.2.2.2.2.2.2.2.2.2.2.2.2.2.2.2.2.2.2.2.2.2.2.1
theorem Facts.i_UNCHANGED {K : Frag} (h : Facts K) : intAt K "UNCHANGED" = some 128 := h.2.2.2.2.2.2.2.2.2.2.2.2.2.2.2.2.2.2.2.2.2.2.2.2.2.2.2.2.2.2.2.2.2.2.2.2.2.2.2.2.2.2.2.2.2.2.2.2.2.2.2.2.2.2.2.2.2.2.2.2.2.2.2.2.2.2.2.2.2.2.2.2.2.2.2.2.2.2.2.2.2.2.2.2.2.2.2.2.2.2.2.2.2.2.2.2.2.2.2.2.1
theorem Facts.i_ANY {K : Frag} (h : Facts K) : intAt K "ANY" = some 63 := h.2.2.2.2.2.2.2.2.2.2.2.2.2.2.2.2.2.2.2.2.2.2.2.2.2.2.2.2.2.2.2.2.2.2.2.2.2.2.2.2.2.2.2.2.2.2.2.2.2.2.2.2.2.2.2.2.2.2.2.2.2.2.2.2.2.2.2.2.2.2.2.2.2.2.2.2.2.2.2.2.2.2.2.2.2.2.2.2.2.2.2.2.2.2.2.2.2.2.2.2.2.1
theorem Facts.i_READ_ONLY_AT {K : Frag} (h : Facts K) : intAt K "READ_ONLY_AT" = some 8 := h.2.2.2.2.2.2.2.2.2.2.2.2.2.2.2.2.2.2.2.2.2.2.2.2.2.2.2.2.2.2.2.2.2.2.2.2.2.2.2.2.2.2.2.2.2.2.2.2.2.2.2.2.2.2.2.2.2.2.2.2.2.2.2.2.2.2.2.2.2.2.2.2.2.2.2.2.2.2.2.2.2.2.2.2.2.2.2.2.2.2.2.2.2.2.2.2.2.2.2.2.2.2.1
theorem Facts.i_DONE {K : Frag} (h : Facts K) : intAt K "DONE" = some 0 := h.2.2.2.2.2.2.2.2.2.2.2.2.2.2.2.2.2.2.2.2.2.2.2.2.2.2.2.2.2.2.2.2.2.2.2.2.2.2.2.2.2.2.2.2.2.2.2.2.2.2.2.2.2.2.2.2.2.2.2.2.2.2.2.2.2.2.2.2.2.2.2.2.2.2.2.2.2.2.2.2.2.2.2.2.2.2.2.2.2.2.2.2.2.2.2.2.2.2.2.2.2.2.2.1
theorem Facts.i_NOT_FOUND {K : Frag} (h : Facts K) : intAt K "NOT_FOUND" = some 255 := h.2.2.2.2.2.2.2.2.2.2.2.2.2.2.2.2.2.2.2.2.2.2.2.2.2.2.2.2.2.2.2.2.2.2.2.2.2.2.2.2.2.2.2.2.2.2.2.2.2.2.2.2.2.2.2.2.2.2.2.2.2.2.2.2.2.2.2.2.2.2.2.2.2.2.2.2.2.2.2.2.2.2.2.2.2.2.2.2.2.2.2.2.2.2.2.2.2.2.2.2.2.2.2.2.1
theorem Facts.i_NO_ROOM {K : Frag} (h : Facts K) : intAt K "NO_ROOM" = some 2 := h.2.2.2.2.2.2.2.2.2.2.2.2.2.2.2.2.2.2.2.2.2.2.2.2.2.2.2.2.2.2.2.2.2.2.2.2.2.2.2.2.2.2.2.2.2.2.2.2.2.2.2.2.2.2.2.2.2.2.2.2.2.2.2.2.2.2.2.2.2.2.2.2.2.2.2.2.2.2.2.2.2.2.2.2.2.2.2.2.2.2.2.2.2.2.2.2.2.2.2.2.2.2.2.2.2.1
theorem Facts.b_len {K : Frag} (h : Facts K) : nsIn K mainGlobals "len" = some none := h.2.2.2.2.2.2.2.2.2.2.2.2.2.2.2.2.2.2.2.2.2.2.2.2.2.2.2.2.2.2.2.2.2.2.2.2.2.2.2.2.2.2.2.2.2.2.2.2.2.2.2.2.2.2.2.2.2.2.2.2.2.2.2.2.2.2.2.2.2.2.2.2.2.2.2.2.2.2.2.2.2.2.2.2.2.2.2.2.2.2.2.2.2.2.2.2.2.2.2.2.2.2.2.2.2.2.1
theorem Facts.b_min {K : Frag} (h : Facts K) : nsIn K mainGlobals "min" = some none := h.2.2.2.2.2.2.2.2.2.2.2.2.2.2.2.2.2.2.2.2.2.2.2.2.2.2.2.2.2.2.2.2.2.2.2.2.2.2.2.2.2.2.2.2.2.2.2.2.2.2.2.2.2.2.2.2.2.2.2.2.2.2.2.2.2.2.2.2.2.2.2.2.2.2.2.2.2.2.2.2.2.2.2.2.2.2.2.2.2.2.2.2.2.2.2.2.2.2.2.2.2.2.2.2.2.2.2.1
theorem Facts.b_max {K : Frag} (h : Facts K) : nsIn K mainGlobals "max" = some none := h.2.2.2.2.2.2.2.2.2.2.2.2.2.2.2.2.2.2.2.2.2.2.2.2.2.2.2.2.2.2.2.2.2.2.2.2.2.2.2.2.2.2.2.2.2.2.2.2.2.2.2.2.2.2.2.2.2.2.2.2.2.2.2.2.2.2.2.2.2.2.2.2.2.2.2.2.2.2.2.2.2.2.2.2.2.2.2.2.2.2.2.2.2.2.2.2.2.2.2.2.2.2.2.2.2.2.2.2.1
theorem Facts.b_range {K : Frag} (h : Facts K) : nsIn K mainGlobals "range" = some none := h.2.2.2.2.2.2.2.2.2.2.2.2.2.2.2.2.2.2.2.2.2.2.2.2.2.2.2.2.2.2.2.2.2.2.2.2.2.2.2.2.2.2.2.2.2.2.2.2.2.2.2.2.2.2.2.2.2.2.2.2.2.2.2.2.2.2.2.2.2.2.2.2.2.2.2.2.2.2.2.2.2.2.2.2.2.2.2.2.2.2.2.2.2.2.2.2.2.2.2.2.2.2.2.2.2.2.2.2.2.1
theorem Facts.b_enumerate {K : Frag} (h : Facts K) : nsIn K mainGlobals "enumerate" = some none := h.2.2.2.2.2.2.2.2.2.2.2.2.2.2.2.2.2.2.2.2.2.2.2.2.2.2.2.2.2.2.2.2.2.2.2.2.2.2.2.2.2.2.2.2.2.2.2.2.2.2.2.2.2.2.2.2.2.2.2.2.2.2.2.2.2.2.2.2.2.2.2.2.2.2.2.2.2.2.2.2.2.2.2.2.2.2.2.2.2.2.2.2.2.2.2.2.2.2.2.2.2.2.2.2.2.2.2.2.2.2.1
theorem Facts.b_list {K : Frag} (h : Facts K) : nsIn K mainGlobals "list" = some none := h.2.2.2.2.2.2.2.2.2.2.2.2.2.2.2.2.2.2.2.2.2.2.2.2.2.2.2.2.2.2.2.2.2.2.2.2.2.2.2.2.2.2.2.2.2.2.2.2.2.2.2.2.2.2.2.2.2.2.2.2.2.2.2.2.2.2.2.2.2.2.2.2.2.2.2.2.2.2.2.2.2.2.2.2.2.2.2.2.2.2.2.2.2.2.2.2.2.2.2.2.2.2.2.2.2.2.2.2.2.2.2.1
theorem Facts.b_all {K : Frag} (h : Facts K) : nsIn K mainGlobals "all" = some none := h.2.2.2.2.2.2.2.2.2.2.2.2.2.2.2.2.2.2.2.2.2.2.2.2.2.2.2.2.2.2.2.2.2.2.2.2.2.2.2.2.2.2.2.2.2.2.2.2.2.2.2.2.2.2.2.2.2.2.2.2.2.2.2.2.2.2.2.2.2.2.2.2.2.2.2.2.2.2.2.2.2.2.2.2.2.2.2.2.2.2.2.2.2.2.2.2.2.2.2.2.2.2.2.2.2.2.2.2.2.2.2.2.1
theorem Facts.b_any {K : Frag} (h : Facts K) : nsIn K mainGlobals "any" = some none := h.2.2.2.2.2.2.2.2.2.2.2.2.2.2.2.2.2.2.2.2.2.2.2.2.2.2.2.2.2.2.2.2.2.2.2.2.2.2.2.2.2.2.2.2.2.2.2.2.2.2.2.2.2.2.2.2.2.2.2.2.2.2.2.2.2.2.2.2.2.2.2.2.2.2.2.2.2.2.2.2.2.2.2.2.2.2.2.2.2.2.2.2.2.2.2.2.2.2.2.2.2.2.2.2.2.2.2.2.2.2.2.2.2.1
theorem Facts.b_zip {K : Frag} (h : Facts K) : nsIn K mainGlobals "zip" = some none := h.2.2.2.2.2.2.2.2.2.2.2.2.2.2.2.2.2.2.2.2.2.2.2.2.2.2.2.2.2.2.2.2.2.2.2.2.2.2.2.2.2.2.2.2.2.2.2.2.2.2.2.2.2.2.2.2.2.2.2.2.2.2.2.2.2.2.2.2.2.2.2.2.2.2.2.2.2.2.2.2.2.2.2.2.2.2.2.2.2.2.2.2.2.2.2.2.2.2.2.2.2.2.2.2.2.2.2.2.2.2.2.2.2.2.1
theorem Facts.b_abs {K : Frag} (h : Facts K) : nsIn K mainGlobals "abs" = some none := h.2.2.2.2.2.2.2.2.2.2.2.2.2.2.2.2.2.2.2.2.2.2.2.2.2.2.2.2.2.2.2.2.2.2.2.2.2.2.2.2.2.2.2.2.2.2.2.2.2.2.2.2.2.2.2.2.2.2.2.2.2.2.2.2.2.2.2.2.2.2.2.2.2.2.2.2.2.2.2.2.2.2.2.2.2.2.2.2.2.2.2.2.2.2.2.2.2.2.2.2.2.2.2.2.2.2.2.2.2.2.2.2.2.2.2.1
theorem Facts.b_int {K : Frag} (h : Facts K) : nsIn K mainGlobals "int" = some none := h.2.2.2.2.2.2.2.2.2.2.2.2.2.2.2.2.2.2.2.2.2.2.2.2.2.2.2.2.2.2.2.2.2.2.2.2.2.2.2.2.2.2.2.2.2.2.2.2.2.2.2.2.2.2.2.2.2.2.2.2.2.2.2.2.2.2.2.2.2.2.2.2.2.2.2.2.2.2.2.2.2.2.2.2.2.2.2.2.2.2.2.2.2.2.2.2.2.2.2.2.2.2.2.2.2.2.2.2.2.2.2.2.2.2.2.2.1
theorem Facts.b_sorted {K : Frag} (h : Facts K) : nsIn K mainGlobals "sorted" = some none := h.2.2.2.2.2.2.2.2.2.2.2.2.2.2.2.2.2.2.2.2.2.2.2.2.2.2.2.2.2.2.2.2.2.2.2.2.2.2.2.2.2.2.2.2.2.2.2.2.2.2.2.2.2.2.2.2.2.2.2.2.2.2.2.2.2.2.2.2.2.2.2.2.2.2.2.2.2.2.2.2.2.2.2.2.2.2.2.2.2.2.2.2.2.2.2.2.2.2.2.2.2.2.2.2.2.2.2.2.2.2.2.2.2.2.2.2.2.1
theorem Facts.disk_error {K : Frag} (h : Facts K) : DErr K := h.2.2.2.2.2.2.2.2.2.2.2.2.2.2.2.2.2.2.2.2.2.2.2.2.2.2.2.2.2.2.2.2.2.2.2.2.2.2.2.2.2.2.2.2.2.2.2.2.2.2.2.2.2.2.2.2.2.2.2.2.2.2.2.2.2.2.2.2.2.2.2.2.2.2.2.2.2.2.2.2.2.2.2.2.2.2.2.2.2.2.2.2.2.2.2.2.2.2.2.2.2.2.2.2.2.2.2.2.2.2.2.2.2.2.2.2.2.2
end Mine
end
section
open PySem PySem.W PyProof.Rows PySem.Calls
set_option Elab.async false
set_option maxRecDepth 100000
set_option linter.unusedVariables false
namespace Mine

/-! ## What is known inside a def of this program -/
structure Kx (C : Cx) (names : List (Str × NameKind)) (m : Nat) : Prop where
  F : Facts C.KF
  kind : ∀ x, C.env.kindOf x = names.lookup x
  n : m ≤ C.n
theorem Kx.le {C : Cx} {names : List (Str × NameKind)} {m : Nat} (k : Kx C names m) {j : Nat} (h : j ≤ m) : j ≤ C.n := Nat.le_trans h k.n
theorem Kx.g {C : Cx} {names : List (Str × NameKind)} {m : Nat} (k : Kx C names m) {x : Str} {d : NameKind} (h : names.lookup x = some d) : C.env.kindOf x = some d := (k.kind x).trans h
theorem Kx.isV {C : Cx} {names : List (Str × NameKind)} {m : Nat} (k : Kx C names m) {x : Str} (h : names.lookup x = some .local) : IsV C x := .inl (k.g h)
theorem Kx.comp {C C' : Cx} {names sc : Scope} {m : Nat} (k : Kx C names.names m) (hs : C.env.scope = names) (ic : InComp C C' sc) : Kx C' (relS sc names) m :=
  ⟨by rw [ic.KF]; exact k.F, fun x => by rw [ic.kind, hs], by rw [ic.n]; exact k.n⟩
theorem letPost {C : Cx} {fr : Frm} {sts : List Stmt} {S : St} {PN : Frm → St → Prop} {P : AV → St → Prop} {X : St → Prop} (h : let PR := P; SL C fr sts S (fun _ S' => PR .none S') PR X) (e : PN = fun _ S' => P .none S' := by rfl) : SL C fr sts S PN P X := by subst e; exact h
theorem letPN {C : Cx} {f : Frm} {sts : List Stmt} {S : St} {PN : Frm → St → Prop} {PR : AV → St → Prop} {X : St → Prop} (h : let Q := PN; SL C f sts S Q PR X) : SL C f sts S PN PR X := h
section
variable {l lt : Loc} {i : Nat} {us : List AV} {v a b : AV} {S' : St} {fr : Frm} {x y : Str}
theorem itLN {G : Frm → St → Prop} (e : S'.σ l = some (.list us)) (hv : us[i]? = some v) (h : G ((x, v) :: fr) S') : ∀ fr₁ S₂, itL l (bN x) i fr S' fr₁ S₂ → G fr₁ S₂ := by
  rintro _ _ ⟨rfl, us', v', a1, a2, rfl⟩
  rw [e] at a1; cases a1
  rw [hv] at a2; cases a2
  exact h
theorem itLNc {G : Frm → Prop} (e : S'.σ l = some (.list us)) (hv : us[i]? = some v) (h : G ((x, v) :: fr)) : ∀ fr₁, itL l (bN x) i fr S' fr₁ S' → G fr₁ := fun f => itLN (G := fun f _ => G f) e hv h f S'
theorem itLT {G : Frm → St → Prop} (e : S'.σ l = some (.list us)) (hv : us[i]? = some (.ref lt)) (et : S'.σ lt = some (.tuple [a, b])) (h : G ((y, b) :: (x, a) :: fr) S') : ∀ fr₁ S₂, itL l (bT x y) i fr S' fr₁ S₂ → G fr₁ S₂ := by
  rintro _ _ ⟨rfl, us', v', a1, a2, lt', u1, u2, rfl, et', rfl⟩
  rw [e] at a1; cases a1
  rw [hv] at a2; cases a2
  rw [et] at et'; cases et'
  exact h
theorem itLTc {G : Frm → Prop} (e : S'.σ l = some (.list us)) (hv : us[i]? = some (.ref lt)) (et : S'.σ lt = some (.tuple [a, b])) (h : G ((y, b) :: (x, a) :: fr)) : ∀ fr₁, itL l (bT x y) i fr S' fr₁ S' → G fr₁ := fun f => itLT (G := fun f _ => G f) e hv et h f S'
end
section
variable {l lt : Loc} {i n : Nat} {us : List AV} {v a b : AV} {S' : St} {fr : Frm} {x y : Str}
theorem turnLN {G : Frm → St → Prop} (e : S'.σ l = some (.list us)) (hn : us.length = n) (hv : us[i]? = some v) (h : G ((x, v) :: fr) S') : avL l n (bN x) i S' ∧ ∀ fr₁ S₂, itL l (bN x) i fr S' fr₁ S₂ → G fr₁ S₂ := ⟨⟨us, e, hn, fun _ => ⟨v, hv, fun fr => ⟨_, rfl⟩⟩⟩, itLN e hv h⟩
theorem turnLNc {G : Frm → Prop} (e : S'.σ l = some (.list us)) (hn : us.length = n) (hv : us[i]? = some v) (h : G ((x, v) :: fr)) : avL l n (bN x) i S' ∧ ∀ fr₁, itL l (bN x) i fr S' fr₁ S' → G fr₁ := ⟨⟨us, e, hn, fun _ => ⟨v, hv, fun fr => ⟨_, rfl⟩⟩⟩, itLNc e hv h⟩
theorem turnLT {G : Frm → St → Prop} (e : S'.σ l = some (.list us)) (hn : us.length = n) (hv : us[i]? = some (.ref lt)) (et : S'.σ lt = some (.tuple [a, b])) (h : G ((y, b) :: (x, a) :: fr) S') : avL l n (bT x y) i S' ∧ ∀ fr₁ S₂, itL l (bT x y) i fr S' fr₁ S₂ → G fr₁ S₂ := ⟨⟨us, e, hn, fun _ => ⟨_, hv, fun fr => ⟨_, lt, _, _, rfl, et, rfl⟩⟩⟩, itLT e hv et h⟩
theorem turnLTc {G : Frm → Prop} (e : S'.σ l = some (.list us)) (hn : us.length = n) (hv : us[i]? = some (.ref lt)) (et : S'.σ lt = some (.tuple [a, b])) (h : G ((y, b) :: (x, a) :: fr)) : avL l n (bT x y) i S' ∧ ∀ fr₁, itL l (bT x y) i fr S' fr₁ S' → G fr₁ := ⟨⟨us, e, hn, fun _ => ⟨_, hv, fun fr => ⟨_, lt, _, _, rfl, et, rfl⟩⟩⟩, itLTc e hv et h⟩
end
theorem jT2 {f : Frm} {A B : Nat → St → Prop} {n : Nat} {G : Nat → Frm → St → Prop} (h : ∀ i S', A i S' → B i S' → i < n → G i f S') : ∀ i fr' S', (fr' = f ∧ A i S' ∧ B i S') → i < n → G i fr' S' := by
  rintro i _ S' ⟨rfl, a, b⟩ hi
  exact h i S' a b hi
theorem jT1 {f : Frm} {A : Nat → St → Prop} {n : Nat} {G : Nat → Frm → St → Prop} (h : ∀ i S', A i S' → i < n → G i f S') : ∀ i fr' S', (fr' = f ∧ A i S') → i < n → G i fr' S' := by
  rintro i _ S' ⟨rfl, a⟩ hi
  exact h i S' a hi
theorem jE2 {f : Frm} {A B : St → Prop} {G : Frm → St → Prop} (h : ∀ S', A S' → B S' → G f S') : ∀ fr' S', (fr' = f ∧ A S' ∧ B S') → G fr' S' := by
  rintro _ S' ⟨rfl, a, b⟩
  exact h S' a b
theorem jE1 {f : Frm} {A : St → Prop} {G : Frm → St → Prop} (h : ∀ S', A S' → G f S') : ∀ fr' S', (fr' = f ∧ A S') → G fr' S' := by
  rintro _ S' ⟨rfl, a⟩
  exact h S' a
noncomputable def sndAt : Nat → Frm → Option AV | 0, (_, v) :: _ => some v | n + 1, _ :: t => sndAt n t | _, [] => none
abbrev LkAt (n : Nat) (x : Str) (fr : Frm) : Prop := fr.lookup x = sndAt n fr
noncomputable def asgT : List Stmt → List Expr | .Assign ts _ _ :: _ => ts | _ => []
noncomputable def asgV : List Stmt → Expr | .Assign _ v _ :: _ => v | _ => .Name "" ⟨0, 0, 0, 0⟩
section
variable {xs zs : List AV} {ys : List (Str × AV)} {c : Addr} {d : Loc}
theorem ao_ld : AO.list xs ≠ AO.dict ys := nofun
theorem ao_dl : AO.dict ys ≠ AO.list xs := ao_ld.symm
theorem ao_li : AO.list xs ≠ AO.inst c d := nofun
theorem ao_il : AO.inst c d ≠ AO.list xs := ao_li.symm
theorem ao_di : AO.dict ys ≠ AO.inst c d := nofun
theorem ao_id : AO.inst c d ≠ AO.dict ys := ao_di.symm
theorem ao_tl : AO.tuple zs ≠ AO.list xs := nofun
theorem ao_lt : AO.list xs ≠ AO.tuple zs := ao_tl.symm
end
theorem letFr {C : Cx} {f : Frm} {sts : List Stmt} {S : St} {PN : Frm → St → Prop} {PR : AV → St → Prop} {X : St → Prop} (h : let fr := f; SL C fr sts S PN PR X) : SL C f sts S PN PR X := h
theorem SFA.run {C : Cx} {S : St} {P : AV → St → Prop} {X : St → Prop} {a : Addr} {params : List Str} {body : List Stmt} {scope : Scope} {args : List AV} (F : Facts C.KF) (H : FnA C.KF a params body scope) {m : Nat} (hn : m + 1 ≤ C.n) (fr : Frm) (hfr : fr = params.zip args) (hlen : args.length = params.length)
    (h : ∀ C', C'.KF = C.KF → Kx C' scope.names m → C'.env.scope = scope → C'.env.func.isSome = true → Bnd S → SL C' fr body S (fun _ S' => P .none S') P X) : SFA C a args S P X := SFA.bnd fun hb => SFA.body H (by (first | lia | omega)) hlen fun C' e => by
  rw [← hfr]
  exact h C' e.KF ⟨by rw [e.KF]; exact F, e.kind, by have := e.n; (first | lia | omega)⟩ e.scope e.fn hb
section
variable {C : Cx} {fr : Frm} {S : St} {P : AV → St → Prop} {X : St → Prop} {names : List (Str × NameKind)} {m : Nat}
theorem SE.gint {x : Str} {i : Int} {pos : Pos} (k : Kx C names m) (e : intAt C.KF x = some i) (hk : names.lookup x = some .globalImplicit) (h : P (.int i) S) (hd : (x == ("__debug__" : Str)) = false := by decide +kernel) : SE C fr (.Name x pos) S P X := by
  obtain ⟨t, e⟩ := int_of e
  exact .glob (v := .int i) (k.g hk) e (fun _ _ => ⟨t, rfl⟩) h hd
theorem SE.fn {f : Str} {ps : List Str} {bd : List Stmt} {sc : Scope} {np pos : Pos} {e : Expr} {es : List Expr} (k : Kx C names m) (H : FnF C.KF f ps bd sc) (hk : names.lookup f = some .globalImplicit) (h : SAs C fr (e :: es) S (fun vs S' => SF C f vs S' P X) X)
    (he : ∀ env, starEach (e :: es) env = (false, eval e env) :: starEach es env := by intro _; rfl) (hd : (f == ("__debug__" : Str)) = false := by decide +kernel) : SE C fr (.Call (.Name f np) (e :: es) [] pos) S P X := .call (k.g hk) H.glob H.fn.is h he hd
theorem Kx.isB {x : Str} {v : Value} (k : Kx C names m) (hb : nsIn C.KF mainGlobals x = some none) (hk : names.lookup x = some .globalImplicit) (hv : bootBuiltins x = some v) (hn : x ≠ "__name__" := by decide +kernel) (hd : (x == ("__debug__" : Str)) = false := by decide +kernel) : isB C x v := ⟨k.g hk, hb, hv, hn, hd⟩
end

/-! ## Lists of ints -/
noncomputable def gI (l : List Int) (i : Nat) : Int := l.getD i 0
theorem gI_get {l : List Int} {i : Nat} (h : i < l.length) : l[i]? = some (gI l i) := by
  simp [gI, List.getD_eq_getElem?_getD, List.getElem?_eq_getElem h]
theorem IL_get {l : List Int} {i : Nat} (h : i < l.length) : (IL l)[i]? = some (.int (gI l i)) := by
  rw [List.getElem?_map, gI_get h]; rfl
theorem IL_len {l : List Int} : (IL l).length = l.length := List.length_map _
theorem IL_set {l : List Int} {i : Nat} {v : Int} : (IL l).set i (.int v) = IL (l.set i v) := by
  simp [IL, List.map_set]

/-! ## The disk, the entries -/
noncomputable def dkD (N : Int) (lg ld : Loc) : List (Str × AV) := [("blocks", .int N), ("block", .int 64), ("record", .int 32), ("entries", .int 4), ("is_read_only", .bool false), ("given", .ref lg), ("data", .ref ld)]
structure Dk (K : Frag) (S : St) (dk dd ld lg : Loc) (N : Int) (data given : List Int) : Prop where
  ne : lg ≠ ld
  dk : S.σ dk = some (.inst (adr K "Disk") dd)
  dd : S.σ dd = some (.dict (dkD N lg ld))
  ld : S.σ ld = some (.list (IL data))
  lg : S.σ lg = some (.list (IL given))
theorem Dk.ext {K : Frag} {S S' : St} {dk dd ld lg : Loc} {N : Int} {data given : List Int} (D : Dk K S dk dd ld lg N data given) (x : Ext S S') : Dk K S' dk dd ld lg N data given := ⟨D.ne, x.2 _ _ D.dk, x.2 _ _ D.dd, x.2 _ _ D.ld, x.2 _ _ D.lg⟩
noncomputable def enD (user extent spare count : Int) (lr lp : Loc) : List (Str × AV) := [("user", .int user), ("raw", .ref lr), ("extent", .int extent), ("spare", .int spare), ("count", .int count), ("map", .ref lp)]
structure En (K : Frag) (S : St) (b le de lr lp : Loc) (user : Int) (raw : List Int) (extent spare count : Int) (map : List Int) : Prop where
  hle : S.σ le = some (.inst (adr K "Entry") de)
  hde : S.σ de = some (.dict (enD user extent spare count lr lp))
  hlr : S.σ lr = some (.list (IL raw))
  hlp : S.σ lp = some (.list (IL map))
  b1 : b ≤ de
  b2 : b ≤ lp
  b3 : b ≤ lr
  b4 : b ≤ le
theorem En.ext {K : Frag} {S S' : St} {b le de lr lp : Loc} {user : Int} {raw : List Int} {extent spare count : Int} {map : List Int} (D : En K S b le de lr lp user raw extent spare count map) (x : Ext S S') : En K S' b le de lr lp user raw extent spare count map :=
  ⟨x.2 _ _ D.hle, x.2 _ _ D.hde, x.2 _ _ D.hlr, x.2 _ _ D.hlp, D.b1, D.b2, D.b3, D.b4⟩
section
variable {C : Cx} {fr : Frm} {S : St} {P : AV → St → Prop} {X : St → Prop} {names : List (Str × NameKind)} {m : Nat} {dk dd ld lg : Loc} {N : Int} {data given : List Int} {x : Str} {np pos : Pos}
theorem SE.dAttr {a : Str} {v : AV} (hx : fr.lookup x = some (.ref dk)) (D : Dk C.KF S dk dd ld lg N data given) (hg : getOk C.KF (adr C.KF "Disk") a = true) (hv : (dkD N lg ld).lookup a = some v) (h : P v S) (hd : (x == ("__debug__" : Str)) = false := by decide +kernel) : SE C fr (.Attribute (.Name x np) a pos) S P X :=
  .attr (.name hx ⟨dk, _, dd, _, v, rfl, D.dk, D.dd, hg, hv, h⟩ hd)
theorem SE.dBlocks (k : Kx C names m) (hx : fr.lookup x = some (.ref dk)) (D : Dk C.KF S dk dd ld lg N data given) (h : P (.int N) S) (hd : (x == ("__debug__" : Str)) = false := by decide +kernel) : SE C fr (.Attribute (.Name x np) "blocks" pos) S P X := .dAttr hx D k.F.g_Disk_blocks (by kernel_rfl) h hd
theorem SE.dBlock (k : Kx C names m) (hx : fr.lookup x = some (.ref dk)) (D : Dk C.KF S dk dd ld lg N data given) (h : P (.int 64) S) (hd : (x == ("__debug__" : Str)) = false := by decide +kernel) : SE C fr (.Attribute (.Name x np) "block" pos) S P X := .dAttr hx D k.F.g_Disk_block (by kernel_rfl) h hd
theorem SE.dRecord (k : Kx C names m) (hx : fr.lookup x = some (.ref dk)) (D : Dk C.KF S dk dd ld lg N data given) (h : P (.int 32) S) (hd : (x == ("__debug__" : Str)) = false := by decide +kernel) : SE C fr (.Attribute (.Name x np) "record" pos) S P X := .dAttr hx D k.F.g_Disk_record (by kernel_rfl) h hd
theorem SE.dEntries (k : Kx C names m) (hx : fr.lookup x = some (.ref dk)) (D : Dk C.KF S dk dd ld lg N data given) (h : P (.int 4) S) (hd : (x == ("__debug__" : Str)) = false := by decide +kernel) : SE C fr (.Attribute (.Name x np) "entries" pos) S P X := .dAttr hx D k.F.g_Disk_entries (by kernel_rfl) h hd
theorem SE.dRo (k : Kx C names m) (hx : fr.lookup x = some (.ref dk)) (D : Dk C.KF S dk dd ld lg N data given) (h : P (.bool false) S) (hd : (x == ("__debug__" : Str)) = false := by decide +kernel) : SE C fr (.Attribute (.Name x np) "is_read_only" pos) S P X := .dAttr hx D k.F.g_Disk_is_read_only (by kernel_rfl) h hd
theorem SE.dGiven (k : Kx C names m) (hx : fr.lookup x = some (.ref dk)) (D : Dk C.KF S dk dd ld lg N data given) (h : P (.ref lg) S) (hd : (x == ("__debug__" : Str)) = false := by decide +kernel) : SE C fr (.Attribute (.Name x np) "given" pos) S P X := .dAttr hx D k.F.g_Disk_given (by kernel_rfl) h hd
theorem SE.dData (k : Kx C names m) (hx : fr.lookup x = some (.ref dk)) (D : Dk C.KF S dk dd ld lg N data given) (h : P (.ref ld) S) (hd : (x == ("__debug__" : Str)) = false := by decide +kernel) : SE C fr (.Attribute (.Name x np) "data" pos) S P X := .dAttr hx D k.F.g_Disk_data (by kernel_rfl) h hd
end
theorem SC.lenI {C : Cx} {S : St} {P : AV → St → Prop} {l : Loc} {ns : List Int} {n : Nat} (e : S.σ l = some (.list (IL ns))) (hn : ns.length = n) (hz : n ≤ 1000000) (h : P (.int n) S) : SC C (.builtin "len") [.ref l] S P := .len e (by rw [IL_len, hn]; exact hz) (by rw [IL_len, hn]; exact h)
section
variable {S : St} {P : AV → St → Prop} {i j : Int}
theorem Bop.add (h : P (.int (i + j)) S) : Bop .Add (.int i) (.int j) S P := ⟨_, rfl, h⟩
theorem Bop.sub (h : P (.int (i - j)) S) : Bop .Sub (.int i) (.int j) S P := ⟨_, rfl, h⟩
theorem Bop.mul (h : P (.int (i * j)) S) (h1 : -1000000000 ≤ i) (h2 : i ≤ 1000000000) : Bop .Mult (.int i) (.int j) S P := ⟨_, if_pos ⟨h1, h2⟩, h⟩
theorem Bop.mod (h1 : 0 < j) (h : P (.int (i % j)) S) : Bop .Mod (.int i) (.int j) S P := ⟨_, if_pos h1, h⟩
theorem Bop.div (h1 : 0 < j ∧ j < 1000000) (h : P (.int (i / j)) S) : Bop .FloorDiv (.int i) (.int j) S P := ⟨_, if_pos h1, h⟩
theorem Bop.band (h : P (.int (Builtin.bitAnd i j)) S) : Bop .BitAnd (.int i) (.int j) S P := ⟨_, rfl, h⟩
theorem Bop.bor (h : P (.int (Builtin.bitOr i j)) S) : Bop .BitOr (.int i) (.int j) S P := ⟨_, rfl, h⟩
theorem Bop.cat {l m : Loc} {xs ys : List AV} (e1 : S.σ l = some (.list xs)) (e2 : S.σ m = some (.list ys)) (hz : xs.length + ys.length ≤ 100000) (h : P (.ref S.nx) (S.add (.list (xs ++ ys)))) : Bop .Add (.ref l) (.ref m) S P := ⟨rfl, xs, ys, e1, e2, hz, h⟩
theorem Bop.rep {l : Loc} {x k : Int} (e1 : S.σ l = some (.list [.int x])) (h0 : 0 ≤ k) (h1 : k ≤ 100000) (h : P (.ref S.nx) (S.add (.list (IL (List.replicate k.toNat x))))) : Bop .Mult (.ref l) (.int k) S P := ⟨rfl, x, e1, h0, h1, h⟩
end
/-! the words of the walk -/
local macro_rules | `(tactic| walk_at "k") => `(tactic| (refine (?_ : _ = _); kernel_rfl!))
local macro_rules | `(tactic| walk_at "lk") => `(tactic| first | with_reducible exact lookup_here | (refine (?_ : LkAt 1 _ _); walk_at "k") | (refine (?_ : LkAt 2 _ _); walk_at "k") | (refine (?_ : LkAt 3 _ _); walk_at "k") | (refine (?_ : LkAt 4 _ _); walk_at "k") | (refine (?_ : LkAt 5 _ _); walk_at "k") | (refine (?_ : LkAt 6 _ _); walk_at "k") | (refine (?_ : LkAt 7 _ _); walk_at "k") | (refine (?_ : LkAt 8 _ _); walk_at "k") | (refine (?_ : LkAt 9 _ _); walk_at "k") | (refine (?_ : LkAt 10 _ _); walk_at "k") | (refine (?_ : LkAt 11 _ _); walk_at "k") | (refine (?_ : LkAt 12 _ _); walk_at "k") | (refine (?_ : LkAt 13 _ _); walk_at "k") | (refine (?_ : LkAt 14 _ _); walk_at "k") | (refine (?_ : LkAt 15 _ _); walk_at "k") | (refine (?_ : LkAt 16 _ _); walk_at "k"))
local macro_rules | `(tactic| walk_at "nm") => `(tactic| refine SE.name (by walk_at "lk") ?_ (by decide +kernel))
local macro_rules | `(tactic| walk_at "len") => `(tactic| refine SE.blt (id := "len") ((‹Kx _ _ _›).isB (‹Kx _ _ _›).F.b_len (by kernel_rfl) (by kernel_rfl)) ?_)
local macro_rules | `(tactic| walk_at "s") => `(tactic| first
  | ((with_reducible show SE _ _ (Expr.Name _ _) _ _ _); walk_at "nm")
  | with_reducible (first | refine SE.cInt ?_ | refine SE.cNone ?_ | refine SE.cBool ?_ | refine SE.binop ?_ | refine SE.cmp ?_ | refine SE.ifexp ?_ | refine SE.list ?_ | refine SE.tuple ?_ | refine SE.sub ?_ | refine SAs.nil ?_ | refine SAs.cons ?_ | refine SB.cmp ?_ | refine SB.not ?_ | refine SB.boolop ?_ | refine SAll.and ?_ | refine SAll.or ?_ | refine SAll.and_nil ?_ | refine SAll.or_nil ?_ | refine SS.ret ?_ | refine SS.ifs ?_ | refine SL.cons ?_)
  | ((with_reducible show SE _ _ (Expr.Call (Expr.Name (Str.ofString "len") _) _ _ _) _ _ _); walk_at "len"))
local macro_rules | `(tactic| walk_at "w") => `(tactic| ((try ((with_reducible show SL _ _ _ _ _ _ _); refine SL.cons ?_)); repeat walk_at "s"))

theorem peek_sf {C : Cx} (hF : Facts C.KF) (hn : 1 ≤ C.n) {S : St} {lm : Loc} {mem : List Int} {a : Int} (hm : S.σ lm = some (.list (IL mem))) (h0 : 0 ≤ a) (h1 : a < 256) (hl : mem.length = 256) : SF C "peek" [.ref lm, .int a] S (fun v S' => v = .int (gI mem a.toNat) ∧ Ext S S') noX := by
  refine SFA.run hF hF.f_peek.fn hn [("memory", .ref lm), ("at", .int a)] rfl rfl fun C' e1 kx e2 e3 hb => ?_
  walk_at "w"
  refine SC.lenI hm hl (by (first | lia | omega)) ?_
  refine .mod (by (first | lia | omega)) ?_
  have e : a % ((256 : Nat) : Int) = a := by (first | lia | omega)
  rw [e]
  exact ⟨_, .int (gI mem a.toNat), .inl hm, by (first | lia | omega), by (first | lia | omega), IL_get (by (first | lia | omega)), rfl, .refl _⟩
end Mine
end
section
open PySem PySem.W PyProof.Rows PySem.Calls
set_option Elab.async false
set_option maxRecDepth 100000
set_option linter.unusedVariables false
namespace Mine
local macro_rules | `(tactic| walk_at "k") => `(tactic| (refine (?_ : _ = _); kernel_rfl!))
local macro_rules | `(tactic| walk_at "lk") => `(tactic| first | with_reducible exact lookup_here | (refine (?_ : LkAt 1 _ _); walk_at "k") | (refine (?_ : LkAt 2 _ _); walk_at "k") | (refine (?_ : LkAt 3 _ _); walk_at "k") | (refine (?_ : LkAt 4 _ _); walk_at "k") | (refine (?_ : LkAt 5 _ _); walk_at "k") | (refine (?_ : LkAt 6 _ _); walk_at "k") | (refine (?_ : LkAt 7 _ _); walk_at "k") | (refine (?_ : LkAt 8 _ _); walk_at "k") | (refine (?_ : LkAt 9 _ _); walk_at "k") | (refine (?_ : LkAt 10 _ _); walk_at "k") | (refine (?_ : LkAt 11 _ _); walk_at "k") | (refine (?_ : LkAt 12 _ _); walk_at "k") | (refine (?_ : LkAt 13 _ _); walk_at "k") | (refine (?_ : LkAt 14 _ _); walk_at "k") | (refine (?_ : LkAt 15 _ _); walk_at "k") | (refine (?_ : LkAt 16 _ _); walk_at "k"))
local macro_rules | `(tactic| walk_at "nm") => `(tactic| refine SE.name (by walk_at "lk") ?_ (by decide +kernel))
local macro_rules | `(tactic| walk_at "len") => `(tactic| refine SE.blt (id := "len") ((‹Kx _ _ _›).isB (‹Kx _ _ _›).F.b_len (by kernel_rfl) (by kernel_rfl)) ?_)
local macro_rules | `(tactic| walk_at "s") => `(tactic| first
  | ((with_reducible show SE _ _ (Expr.Name _ _) _ _ _); walk_at "nm")
  | with_reducible (first | refine SE.cInt ?_ | refine SE.cNone ?_ | refine SE.cBool ?_ | refine SE.binop ?_ | refine SE.cmp ?_ | refine SE.ifexp ?_ | refine SE.list ?_ | refine SE.tuple ?_ | refine SE.sub ?_ | refine SAs.nil ?_ | refine SAs.cons ?_ | refine SB.cmp ?_ | refine SB.not ?_ | refine SB.boolop ?_ | refine SAll.and ?_ | refine SAll.or ?_ | refine SAll.and_nil ?_ | refine SAll.or_nil ?_ | refine SS.ret ?_ | refine SS.ifs ?_ | refine SL.cons ?_)
  | ((with_reducible show SE _ _ (Expr.Call (Expr.Name (Str.ofString "len") _) _ _ _) _ _ _); walk_at "len"))
local macro_rules | `(tactic| walk_at "w") => `(tactic| ((try ((with_reducible show SL _ _ _ _ _ _ _); refine SL.cons ?_)); repeat walk_at "s"))

/-- all that stood in the store stands, but for the places L -/
noncomputable def Chg (L : List Loc) (S S' : St) : Prop := S.nx ≤ S'.nx ∧ ∀ l o, l ∉ L → S.σ l = some o → S'.σ l = some o
theorem Ext.chg {S S' : St} (x : Ext S S') (L : List Loc) : Chg L S S' := ⟨x.1, fun l o _ e => x.2 l o e⟩
theorem Chg.refl (L : List Loc) (S : St) : Chg L S S := ⟨Nat.le_refl _, fun _ _ _ e => e⟩
theorem Chg.trans {L : List Loc} {S S₁ S₂ : St} (a : Chg L S S₁) (b : Chg L S₁ S₂) : Chg L S S₂ := ⟨Nat.le_trans a.1 b.1, fun l o h e => b.2 l o h (a.2 l o h e)⟩
theorem Chg.mono {L L' : List Loc} {S S' : St} (a : Chg L S S') (h : ∀ l ∈ L, l ∈ L') : Chg L' S S' := ⟨a.1, fun l o q e => a.2 l o (fun z => q (h l z)) e⟩
theorem Chg.put {L : List Loc} {S S' : St} {l : Loc} {o : AO} (a : Chg L S S') (h : l ∈ L) : Chg L S (S'.put l o) := ⟨a.1, fun k o' q e => (upd_ne (fun z => q (by rw [z]; exact h))).trans (a.2 k o' q e)⟩
theorem Chg.add {L : List Loc} {S S' : St} {o : AO} (a : Chg L S S') (hb : Bnd S') : Chg L S (S'.add o) := a.trans (((Ext.refl S').add hb).chg L)
theorem put_at {S : St} {l : Loc} {o : AO} : (S.put l o).σ l = some o := upd_same
theorem put_off {S : St} {l k : Loc} {o : AO} (h : k ≠ l) : (S.put l o).σ k = S.σ k := upd_ne h
theorem add_at {S : St} {o : AO} : (S.add o).σ S.nx = some o := upd_same
theorem add_off {S : St} {o o' : AO} {l : Loc} (hb : Bnd S) (e : S.σ l = some o') : (S.add o).σ l = some o' := ((Ext.refl S).add hb).2 l o' e
theorem Sub.refl (S : St) : Sub S S := ⟨rfl, fun _ _ e => e⟩
theorem SFA.thn {C : Cx} {a : Addr} {args : List AV} {S : St} {P P' : AV → St → Prop} {X' : St → Prop} (H : SFA C a args S P noX) (h : ∀ v S', P v S' → P' v S') : SFA C a args S P' X' := H.mono h fun _ q => q.elim
theorem SFA.thnE {C : Cx} {a : Addr} {args : List AV} {S : St} {w : AV} {Q : St → Prop} {P' : AV → St → Prop} {X' : St → Prop} (H : SFA C a args S (fun v S' => v = w ∧ Q S') noX) (h : ∀ S', Q S' → P' w S') : SFA C a args S P' X' := H.thn fun _ S' q => q.1 ▸ h S' q.2
theorem SFA.thnE2 {C : Cx} {a : Addr} {args : List AV} {S : St} {w : AV} {Q R : St → Prop} {P' : AV → St → Prop} {X' : St → Prop} (H : SFA C a args S (fun v S' => v = w ∧ Q S' ∧ R S') noX) (h : ∀ S', Q S' → R S' → P' w S') : SFA C a args S P' X' := H.thnE fun S' q => h S' q.1 q.2
theorem SFA.thnR {C : Cx} {a : Addr} {args : List AV} {S : St} {Q R T : Loc → St → Prop} {P' : AV → St → Prop} {X' : St → Prop} (H : SFA C a args S (fun v S' => ∃ l, v = .ref l ∧ Q l S' ∧ R l S' ∧ T l S') noX) (h : ∀ l S', Q l S' → R l S' → T l S' → P' (.ref l) S') : SFA C a args S P' X' := H.thn fun _ S' ⟨l, e, q, r, t⟩ => e ▸ h l S' q r t
theorem SFA.thnA {C : Cx} {a : Addr} {args : List AV} {S : St} {Q R : AV → St → Prop} {P' : AV → St → Prop} {X' : St → Prop} (H : SFA C a args S (fun v S' => Q v S' ∧ R v S') noX) (h : ∀ v S', Q v S' → R v S' → P' v S') : SFA C a args S P' X' := H.thn fun v S' q => h v S' q.1 q.2
section
variable {S : St} {P : AV → St → Prop} {i j : Int}
theorem Bop.m16 (h : P (.int (i % 65536)) S) : Bop .BitAnd (.int i) (.int 65535) S P := .band (by rw [bitAnd_m16]; exact h)
theorem Bop.m8 (h : P (.int (i % 256)) S) : Bop .BitAnd (.int i) (.int 255) S P := .band (by rw [bitAnd_m8]; exact h)
theorem Bop.m7 (h : P (.int (i % 128)) S) : Bop .BitAnd (.int i) (.int 127) S P := .band (by rw [bitAnd_m7]; exact h)
theorem Bop.m6 (h : P (.int (i % 64)) S) : Bop .BitAnd (.int i) (.int 63) S P := .band (by rw [bitAnd_m6]; exact h)
theorem Bop.m5 (h : P (.int (i % 32)) S) : Bop .BitAnd (.int i) (.int 31) S P := .band (by rw [bitAnd_m5]; exact h)
end
/-- octets laid into a list, one after the other -/
noncomputable def putM : List Int → Nat → List Int → List Int
  | l, _, [] => l
  | l, a, x :: xs => putM (l.set a (x % 256)) (a + 1) xs
theorem putM_len : ∀ (xs l : List Int) (a : Nat), (putM l a xs).length = l.length
  | [], _, _ => rfl
  | x :: xs, l, a => by unfold putM; rw [putM_len xs]; simp
theorem putM_snoc (x : Int) : ∀ (xs l : List Int) (a : Nat), putM l a (xs ++ [x]) = (putM l a xs).set (a + xs.length) (x % 256)
  | [], l, a => rfl
  | y :: ys, l, a => by
    show putM (l.set a (y % 256)) (a + 1) (ys ++ [x]) = _
    rw [putM_snoc x ys]
    show (putM (l.set a (y % 256)) (a + 1) ys).set (a + 1 + ys.length) (x % 256) = (putM (l.set a (y % 256)) (a + 1) ys).set (a + (ys.length + 1)) (x % 256)
    rw [show a + 1 + ys.length = a + (ys.length + 1) by (first | lia | omega)]
theorem take_snoc {xs : List Int} {i : Nat} {x : Int} (h : xs[i]? = some x) : xs.take (i + 1) = xs.take i ++ [x] := by
  rw [List.take_add_one, h]; rfl
noncomputable def MemTo (S S' : St) (lm : Loc) (mem : List Int) : Prop := Chg [lm] S S' ∧ S'.σ lm = some (.list (IL mem))

theorem poke_sf {C : Cx} (hF : Facts C.KF) (hn : 1 ≤ C.n) {S : St} {lm : Loc} {mem : List Int} {a o : Int} (hm : S.σ lm = some (.list (IL mem))) (h0 : 0 ≤ a) (h1 : a < 256) (hl : mem.length = 256) : SF C "poke" [.ref lm, .int a, .int o] S (fun v S' => v = .none ∧ MemTo S S' lm (mem.set a.toNat (o % 256))) noX := by
  refine SFA.run hF hF.f_poke.fn hn [("memory", .ref lm), ("at", .int a), ("octet", .int o)] rfl rfl fun C' e1 kx e2 e3 hb => ?_
  refine SL.cons (SS.assign ?_)
  walk_at "w"
  refine .m8 ?_
  refine ST.sub ?_
  walk_at "w"
  refine SC.lenI hm hl (by (first | lia | omega)) ?_
  refine .mod (by (first | lia | omega)) ?_
  have e : a % ((256 : Nat) : Int) = a := by (first | lia | omega)
  rw [e]
  refine ⟨lm, a, _, rfl, rfl, hm, h0, by (first | lia | omega), by rw [IL_len]; (first | lia | omega), ?_⟩
  refine SL.nil ⟨rfl, (Chg.refl _ _).put (by simp), ?_⟩
  rw [put_at, IL_set]
theorem put_octets_sf {C : Cx} (hF : Facts C.KF) (hn : 2 ≤ C.n) {S : St} {lm lo : Loc} {mem xs : List Int} {a : Int} (hm : S.σ lm = some (.list (IL mem))) (ho : S.σ lo = some (.list (IL xs))) (hne : lo ≠ lm) (h0 : 0 ≤ a) (h1 : a + xs.length ≤ 256) (hl : mem.length = 256) :
    SF C "put_octets" [.ref lm, .int a, .ref lo] S (fun v S' => v = .none ∧ MemTo S S' lm (putM mem a.toNat xs)) noX := by
  refine SFA.run hF hF.f_put_octets.fn hn [("memory", .ref lm), ("at", .int a), ("octets", .ref lo)] rfl rfl fun C' e1 kx e2 e3 hb => ?_
  refine SL.cons (SS.for ⟨kx.isV (by kernel_rfl), kx.isV (by kernel_rfl)⟩ (SI.enum (kx.isB kx.F.b_enumerate (by kernel_rfl) (by kernel_rfl)) (SE.name (by walk_at "lk") ⟨lo, _, rfl, ho, ?_⟩ (by decide +kernel))))
  refine ⟨fun i fr' S' => fr' = ([("memory", .ref lm), ("at", .int a), ("octets", .ref lo)] : Frm) ∧ MemTo S S' lm (putM mem a.toNat (xs.take i)), ⟨rfl, Chg.refl _ _, by simpa [putM] using hm⟩, ?_, ?_⟩
  · refine jT2 fun i S' ch hm' hi => ?_
    have ho' := ch.2 _ _ (by simpa using hne) ho
    refine ⟨⟨_, ho', rfl⟩, ?_⟩
    rintro fr₁ S₂ ⟨rfl, vs, v, e, hv, rfl⟩
    rw [ho'] at e; cases e
    rw [IL_len] at hi
    rw [IL_get hi] at hv; cases hv
    refine SL.cons (SS.expr (SE.fn kx kx.F.f_poke (by kernel_rfl) ?_))
    walk_at "w"
    refine .add ?_
    walk_at "w"
    refine .m16 ?_
    walk_at "w"
    have e : (a + i) % 65536 = a + i := by (first | lia | omega)
    rw [e]
    refine (poke_sf kx.F (kx.le (by decide)) hm' (by (first | lia | omega)) (by (first | lia | omega)) (by rw [putM_len]; exact hl)).thnE2 ?_
    intro S₃ ch3 e3
    refine SL.nil ⟨_, _, ?_, Sub.refl _, rfl, ch.trans ch3, ?_⟩
    · refine .cons (by walk_at "lk") (.cons (by walk_at "lk") (.cons (by walk_at "lk") (.nil _)))
    · rw [e3, take_snoc (gI_get hi), putM_snoc, List.length_take, show (a + (i : Int)).toNat = a.toNat + min i xs.length by (first | lia | omega)]
  · refine jE2 fun S' ch hm' => ?_
    have ho' := ch.2 _ _ (by simpa using hne) ho
    refine ⟨⟨_, ho', rfl⟩, SL.nil ⟨rfl, ch, ?_⟩⟩
    rw [hm', IL_len, List.take_length]
end Mine
end
section
open PySem PySem.W PyProof.Rows PySem.Calls
set_option Elab.async false
set_option maxRecDepth 100000
set_option linter.unusedVariables false
namespace Mine
local macro_rules | `(tactic| walk_at "k") => `(tactic| (refine (?_ : _ = _); kernel_rfl!))
local macro_rules | `(tactic| walk_at "lk") => `(tactic| first | with_reducible exact lookup_here | (refine (?_ : LkAt 1 _ _); walk_at "k") | (refine (?_ : LkAt 2 _ _); walk_at "k") | (refine (?_ : LkAt 3 _ _); walk_at "k") | (refine (?_ : LkAt 4 _ _); walk_at "k") | (refine (?_ : LkAt 5 _ _); walk_at "k") | (refine (?_ : LkAt 6 _ _); walk_at "k") | (refine (?_ : LkAt 7 _ _); walk_at "k") | (refine (?_ : LkAt 8 _ _); walk_at "k") | (refine (?_ : LkAt 9 _ _); walk_at "k") | (refine (?_ : LkAt 10 _ _); walk_at "k") | (refine (?_ : LkAt 11 _ _); walk_at "k") | (refine (?_ : LkAt 12 _ _); walk_at "k") | (refine (?_ : LkAt 13 _ _); walk_at "k") | (refine (?_ : LkAt 14 _ _); walk_at "k") | (refine (?_ : LkAt 15 _ _); walk_at "k") | (refine (?_ : LkAt 16 _ _); walk_at "k"))
local macro_rules | `(tactic| walk_at "nm") => `(tactic| refine SE.name (by walk_at "lk") ?_ (by decide +kernel))
local macro_rules | `(tactic| walk_at "len") => `(tactic| refine SE.blt (id := "len") ((‹Kx _ _ _›).isB (‹Kx _ _ _›).F.b_len (by kernel_rfl) (by kernel_rfl)) ?_)
local macro_rules | `(tactic| walk_at "s") => `(tactic| first
  | ((with_reducible show SE _ _ (Expr.Name _ _) _ _ _); walk_at "nm")
  | with_reducible (first | refine SE.cInt ?_ | refine SE.cNone ?_ | refine SE.cBool ?_ | refine SE.binop ?_ | refine SE.cmp ?_ | refine SE.ifexp ?_ | refine SE.list ?_ | refine SE.tuple ?_ | refine SE.sub ?_ | refine SAs.nil ?_ | refine SAs.cons ?_ | refine SB.cmp ?_ | refine SB.not ?_ | refine SB.boolop ?_ | refine SAll.and ?_ | refine SAll.or ?_ | refine SAll.and_nil ?_ | refine SAll.or_nil ?_ | refine SS.ret ?_ | refine SS.ifs ?_ | refine SL.cons ?_)
  | ((with_reducible show SE _ _ (Expr.Call (Expr.Name (Str.ofString "len") _) _ _ _) _ _ _); walk_at "len"))
local macro_rules | `(tactic| walk_at "w") => `(tactic| ((try ((with_reducible show SL _ _ _ _ _ _ _); refine SL.cons ?_)); repeat walk_at "s"))

noncomputable def LkAll (fr : Frm) : Frm → Prop
  | [] => True
  | (x, v) :: r => fr.lookup x = some v ∧ LkAll fr r
theorem LkAll.mem {fr : Frm} : ∀ {l : Frm}, LkAll fr l → ∀ p ∈ l, fr.lookup p.1 = some p.2
  | (_, _) :: _, h, p, hp => by
    rcases List.mem_cons.mp hp with rfl | hp
    · exact h.1
    · exact LkAll.mem h.2 p hp
noncomputable def compChk (scope sc : Scope) (xs : List Str) : Bool := xs.all (fun x => (relS scope sc).lookup x == some .cell) && scope.names.all (fun y => y.2 != .cell) && (scope.kind == .function) && scope.names.all (fun y => if y.2 == .local then scope.names.lookup y.1 == some .local else true) && scope.names.all (fun y => if y.2 == .free then sc.names.lookup y.1 == some .cell else true)
theorem CompOk.of {C : Cx} {fr frc : Frm} {scope sc : Scope} {m : Nat} (k : Kx C sc.names m) (hs : C.env.scope = sc) (h1 : LkAll fr frc) (h2 : compChk scope sc (frc.map (·.1)) = true) : CompOk C fr frc scope := by
  unfold compChk at h2
  simp only [Bool.and_eq_true, List.all_eq_true, beq_iff_eq, bne_iff_ne] at h2
  obtain ⟨⟨⟨⟨a1, a2⟩, a3⟩, a4⟩, a5⟩ := h2
  refine ⟨fun p hp => ⟨h1.mem p hp, by rw [hs]; exact a1 p.1 (List.mem_map_of_mem hp)⟩, fun y hy => a2 y hy, a3, fun y hy h => ?_, fun y hy h => ?_⟩
  · have := a4 y hy
    rw [h] at this
    simpa using this
  · have := a5 y hy
    rw [h] at this
    exact k.g (by simpa using this)
theorem le_push {frc : Frm} {x : Str} {v : AV} (h : frc.lookup x = none) : Le frc ((x, v) :: frc) := fun y u e => by
  by_cases q : y = x
  · rw [q, h] at e; cases e
  · rw [lookup_there q]; exact e
noncomputable def seg (l : List Int) (a n : Nat) : List Int := (l.drop a).take n
theorem seg_len {l : List Int} {a n : Nat} (h : a + n ≤ l.length) : (seg l a n).length = n := by simp [seg]; (first | lia | omega)
theorem seg_snoc {l : List Int} {a i : Nat} (h : a + i < l.length) : seg l a (i + 1) = seg l a i ++ [gI l (a + i)] := by
  unfold seg
  rw [List.take_add_one, List.getElem?_drop, gI_get h]; rfl
theorem gI_seg {l : List Int} {a n j : Nat} (h : j < n) : gI (seg l a n) j = gI l (a + j) := by
  simp [gI, seg, List.getD_eq_getElem?_getD, List.getElem?_take, h, List.getElem?_drop]
/-- a new list of ints -/
noncomputable def NewL (S S' : St) (v : AV) (xs : List Int) : Prop := ∃ l, v = .ref l ∧ S.nx ≤ l ∧ Ext S S' ∧ S'.σ l = some (.list (IL xs))
theorem octets_at_sf {C : Cx} (hF : Facts C.KF) (hn : 2 ≤ C.n) {S : St} {lm : Loc} {mem : List Int} {a n : Int} (hm : S.σ lm = some (.list (IL mem))) (h0 : 0 ≤ a) (hn0 : 0 ≤ n) (h1 : a + n ≤ 256) (hl : mem.length = 256) :
    SF C "octets_at" [.ref lm, .int a, .int n] S (fun v S' => NewL S S' v (seg mem a.toNat n.toNat)) noX := by
  refine SFA.run hF hF.f_octets_at.fn hn [("memory", .ref lm), ("at", .int a), ("many", .int n)] rfl rfl fun C' e1 kx e2 e3 hb => ?_
  refine SL.cons (SS.ret (SE.comp (frc := [("memory", .ref lm), ("at", .int a)]) (CompOk.of kx e2 ⟨by walk_at "lk", by walk_at "lk", trivial⟩ (by kernel_rfl)) (fun C₂ ic => (kx.comp e2 ic).isV (by kernel_rfl)) (SI.range1 (kx.isB kx.F.b_range (by kernel_rfl) (by kernel_rfl)) (SE.name (by walk_at "lk") ⟨n, rfl, hn0, by (first | lia | omega), ?_⟩ (by decide +kernel)))))
  refine ⟨fun i ys => ys = IL (seg mem a.toNat i), ⟨by simp [seg], by (first | lia | omega), ?_, ?_, fun _ _ => trivial⟩, ?_⟩
  · rintro i S' fr₁ S₂ ⟨rfl, rfl⟩
    exact le_push (by kernel_rfl)
  · rintro C₂ ic i ys S' hi rfl ex
    have k2 := kx.comp e2 ic
    refine ⟨trivial, fun fr₁ it => ?_⟩
    obtain ⟨_, rfl⟩ := it
    refine ⟨.refl _, ?_⟩
    rw [if_pos rfl]
    refine SE.fn k2 k2.F.f_peek (by kernel_rfl) ?_
    walk_at "w"
    refine .add ?_
    walk_at "w"
    refine .m16 ?_
    walk_at "w"
    have e : (a + (0 + (i : Int))) % 65536 = a + i := by (first | lia | omega)
    rw [e]
    refine (peek_sf k2.F (k2.le (by decide)) (ex.2 _ _ hm) (by (first | lia | omega)) (by (first | lia | omega)) hl).thnE ?_
    intro S₃ x3
    refine ⟨x3, ?_⟩
    show IL (seg mem a.toNat i) ++ [AV.int (gI mem (a + (i : Int)).toNat)] = IL (seg mem a.toNat (i + 1))
    rw [seg_snoc (by (first | lia | omega)), show (a + (i : Int)).toNat = a.toNat + i by (first | lia | omega)]
    simp [IL]
  · rintro ys S' la rfl ex hla e
    exact ⟨la, rfl, hla, ex, e⟩
end Mine
end
section
open PySem PySem.W PyProof.Rows PySem.Calls
set_option Elab.async false
set_option maxRecDepth 100000
set_option linter.unusedVariables false
namespace Mine
local macro_rules | `(tactic| walk_at "k") => `(tactic| (refine (?_ : _ = _); kernel_rfl!))
local macro_rules | `(tactic| walk_at "lk") => `(tactic| first | with_reducible exact lookup_here | (refine (?_ : LkAt 1 _ _); walk_at "k") | (refine (?_ : LkAt 2 _ _); walk_at "k") | (refine (?_ : LkAt 3 _ _); walk_at "k") | (refine (?_ : LkAt 4 _ _); walk_at "k") | (refine (?_ : LkAt 5 _ _); walk_at "k") | (refine (?_ : LkAt 6 _ _); walk_at "k") | (refine (?_ : LkAt 7 _ _); walk_at "k") | (refine (?_ : LkAt 8 _ _); walk_at "k") | (refine (?_ : LkAt 9 _ _); walk_at "k") | (refine (?_ : LkAt 10 _ _); walk_at "k") | (refine (?_ : LkAt 11 _ _); walk_at "k") | (refine (?_ : LkAt 12 _ _); walk_at "k") | (refine (?_ : LkAt 13 _ _); walk_at "k") | (refine (?_ : LkAt 14 _ _); walk_at "k") | (refine (?_ : LkAt 15 _ _); walk_at "k") | (refine (?_ : LkAt 16 _ _); walk_at "k"))
local macro_rules | `(tactic| walk_at "nm") => `(tactic| refine SE.name (by walk_at "lk") ?_ (by decide +kernel))
local macro_rules | `(tactic| walk_at "len") => `(tactic| refine SE.blt (id := "len") ((‹Kx _ _ _›).isB (‹Kx _ _ _›).F.b_len (by kernel_rfl) (by kernel_rfl)) ?_)
local macro_rules | `(tactic| walk_at "s") => `(tactic| first
  | ((with_reducible show SE _ _ (Expr.Name _ _) _ _ _); walk_at "nm")
  | with_reducible (first | refine SE.cInt ?_ | refine SE.cNone ?_ | refine SE.cBool ?_ | refine SE.binop ?_ | refine SE.cmp ?_ | refine SE.ifexp ?_ | refine SE.list ?_ | refine SE.tuple ?_ | refine SE.sub ?_ | refine SAs.nil ?_ | refine SAs.cons ?_ | refine SB.cmp ?_ | refine SB.not ?_ | refine SB.boolop ?_ | refine SAll.and ?_ | refine SAll.or ?_ | refine SAll.and_nil ?_ | refine SAll.or_nil ?_ | refine SS.ret ?_ | refine SS.ifs ?_ | refine SL.cons ?_)
  | ((with_reducible show SE _ _ (Expr.Call (Expr.Name (Str.ofString "len") _) _ _ _) _ _ _); walk_at "len"))
local macro_rules | `(tactic| walk_at "w") => `(tactic| ((try ((with_reducible show SL _ _ _ _ _ _ _); refine SL.cons ?_)); repeat walk_at "s"))

section
variable {C : Cx} {S : St} {lm : Loc} {mem : List Int} {a : Int} {dk dd ld lg : Loc} {N : Int} {data given : List Int}
theorem name_at_sf (hF : Facts C.KF) (hn : 3 ≤ C.n) (hm : S.σ lm = some (.list (IL mem))) (h0 : 0 ≤ a) (h1 : a + 36 ≤ 256) (hl : mem.length = 256) : SF C "name_at" [.ref lm, .int a] S (fun v S' => NewL S S' v (seg mem (a.toNat + 1) 11)) noX := by
  refine SFA.run hF hF.f_name_at.fn hn [("memory", .ref lm), ("at", .int a)] rfl rfl fun C' e1 kx e2 e3 hb => ?_
  refine SL.cons (SS.ret (SE.fn kx kx.F.f_octets_at (by kernel_rfl) ?_))
  walk_at "w"
  refine .add ?_
  walk_at "s"
  refine SE.gint kx kx.F.i_NAME_SIZE (by kernel_rfl) ?_
  walk_at "w"
  refine (octets_at_sf kx.F (kx.le (by decide)) hm (by (first | lia | omega)) (by (first | lia | omega)) (by (first | lia | omega)) hl).thn ?_
  intro v S' h
  rwa [show (a + 1).toNat = a.toNat + 1 by (first | lia | omega)] at h
theorem extent_at_sf (hF : Facts C.KF) (hn : 2 ≤ C.n) (hm : S.σ lm = some (.list (IL mem))) (h0 : 0 ≤ a) (h1 : a + 36 ≤ 256) (hl : mem.length = 256) : SF C "extent_at" [.ref lm, .int a] S (fun v S' => v = .int (gI mem (a.toNat + 14) % 64 * 32 + gI mem (a.toNat + 12) % 32) ∧ Ext S S') noX := by
  refine SFA.run hF hF.f_extent_at.fn hn [("memory", .ref lm), ("at", .int a)] rfl rfl fun C' e1 kx e2 e3 hb => ?_
  refine letPost ?_
  intro PR
  refine letFr ?_
  intro fr0
  walk_at "w"
  refine SE.fn kx kx.F.f_peek (by kernel_rfl) ?_
  walk_at "w"
  refine SE.gint kx kx.F.i_S2_AT (by kernel_rfl) (.add ?_)
  walk_at "w"
  refine (peek_sf kx.F (kx.le (by decide)) hm (by (first | lia | omega)) (by (first | lia | omega)) hl).thnE ?_
  intro S₁ x1
  walk_at "w"
  refine .m6 ?_
  refine SE.gint kx kx.F.i_EXTENTS_LOW (by kernel_rfl) (.mul ?_ (by (first | lia | omega)) (by (first | lia | omega)))
  walk_at "w"
  refine SE.fn kx kx.F.f_peek (by kernel_rfl) ?_
  walk_at "w"
  refine SE.gint kx kx.F.i_EX_AT (by kernel_rfl) (.add ?_)
  walk_at "w"
  refine (peek_sf kx.F (kx.le (by decide)) (x1.2 _ _ hm) (by (first | lia | omega)) (by (first | lia | omega)) hl).thnE ?_
  intro S₂ x2
  walk_at "w"
  refine .m5 (.add ⟨?_, x1.trans x2⟩)
  rw [show (a + 14).toNat = a.toNat + 14 by (first | lia | omega), show (a + 12).toNat = a.toNat + 12 by (first | lia | omega)]
theorem count_at_sf (hF : Facts C.KF) (hn : 2 ≤ C.n) (hm : S.σ lm = some (.list (IL mem))) (h0 : 0 ≤ a) (h1 : a + 36 ≤ 256) (hl : mem.length = 256) : SF C "count_at" [.ref lm, .int a] S (fun v S' => v = .int (gI mem (a.toNat + 15)) ∧ Ext S S') noX := by
  refine SFA.run hF hF.f_count_at.fn hn [("memory", .ref lm), ("at", .int a)] rfl rfl fun C' e1 kx e2 e3 hb => ?_
  walk_at "w"
  refine SE.fn kx kx.F.f_peek (by kernel_rfl) ?_
  walk_at "w"
  refine SE.gint kx kx.F.i_RC_AT (by kernel_rfl) (.add ?_)
  walk_at "w"
  refine (peek_sf kx.F (kx.le (by decide)) hm (by (first | lia | omega)) (by (first | lia | omega)) hl).thnE ?_
  intro S₁ x1
  exact ⟨by rw [show (a + 15).toNat = a.toNat + 15 by (first | lia | omega)], x1⟩
theorem current_at_sf (hF : Facts C.KF) (hn : 2 ≤ C.n) (hm : S.σ lm = some (.list (IL mem))) (h0 : 0 ≤ a) (h1 : a + 36 ≤ 256) (hl : mem.length = 256) : SF C "current_at" [.ref lm, .int a] S (fun v S' => v = .int (gI mem (a.toNat + 32)) ∧ Ext S S') noX := by
  refine SFA.run hF hF.f_current_at.fn hn [("memory", .ref lm), ("at", .int a)] rfl rfl fun C' e1 kx e2 e3 hb => ?_
  walk_at "w"
  refine SE.fn kx kx.F.f_peek (by kernel_rfl) ?_
  walk_at "w"
  refine SE.gint kx kx.F.i_CR_AT (by kernel_rfl) (.add ?_)
  walk_at "w"
  refine (peek_sf kx.F (kx.le (by decide)) hm (by (first | lia | omega)) (by (first | lia | omega)) hl).thnE ?_
  intro S₁ x1
  exact ⟨by rw [show (a + 32).toNat = a.toNat + 32 by (first | lia | omega)], x1⟩
theorem is_changed_sf (hF : Facts C.KF) (hn : 2 ≤ C.n) (hm : S.σ lm = some (.list (IL mem))) (h0 : 0 ≤ a) (h1 : a + 36 ≤ 256) (hl : mem.length = 256) : SF C "is_changed" [.ref lm, .int a] S (fun v S' => v = .bool (decide (Builtin.bitAnd (gI mem (a.toNat + 14)) 128 = 0)) ∧ Ext S S') noX := by
  refine SFA.run hF hF.f_is_changed.fn hn [("memory", .ref lm), ("at", .int a)] rfl rfl fun C' e1 kx e2 e3 hb => ?_
  walk_at "w"
  refine SE.fn kx kx.F.f_peek (by kernel_rfl) ?_
  walk_at "w"
  refine SE.gint kx kx.F.i_S2_AT (by kernel_rfl) (.add ?_)
  walk_at "w"
  refine (peek_sf kx.F (kx.le (by decide)) hm (by (first | lia | omega)) (by (first | lia | omega)) hl).thnE ?_
  intro S₁ x1
  refine SE.gint kx kx.F.i_UNCHANGED (by kernel_rfl) (.band ?_)
  walk_at "w"
  exact ⟨_, rfl, by rw [show (a + 14).toNat = a.toNat + 14 by (first | lia | omega)], x1⟩
theorem set_count_sf {o : Int} (hF : Facts C.KF) (hn : 2 ≤ C.n) (hm : S.σ lm = some (.list (IL mem))) (h0 : 0 ≤ a) (h1 : a + 36 ≤ 256) (hl : mem.length = 256) : SF C "set_count" [.ref lm, .int a, .int o] S (fun v S' => v = .none ∧ MemTo S S' lm (mem.set (a.toNat + 15) (o % 256))) noX := by
  refine SFA.run hF hF.f_set_count.fn hn [("memory", .ref lm), ("at", .int a), ("count", .int o)] rfl rfl fun C' e1 kx e2 e3 hb => ?_
  refine SL.cons (SS.expr (SE.fn kx kx.F.f_poke (by kernel_rfl) ?_))
  walk_at "w"
  refine SE.gint kx kx.F.i_RC_AT (by kernel_rfl) (.add ?_)
  walk_at "w"
  refine (poke_sf kx.F (kx.le (by decide)) hm (by (first | lia | omega)) (by (first | lia | omega)) hl).thnE ?_
  intro S₁ x1
  refine SL.nil ⟨rfl, ?_⟩
  rwa [show (a + 15).toNat = a.toNat + 15 by (first | lia | omega)] at x1
theorem set_current_sf {o : Int} (hF : Facts C.KF) (hn : 2 ≤ C.n) (hm : S.σ lm = some (.list (IL mem))) (h0 : 0 ≤ a) (h1 : a + 36 ≤ 256) (hl : mem.length = 256) : SF C "set_current" [.ref lm, .int a, .int o] S (fun v S' => v = .none ∧ MemTo S S' lm (mem.set (a.toNat + 32) (o % 256))) noX := by
  refine SFA.run hF hF.f_set_current.fn hn [("memory", .ref lm), ("at", .int a), ("record", .int o)] rfl rfl fun C' e1 kx e2 e3 hb => ?_
  refine SL.cons (SS.expr (SE.fn kx kx.F.f_poke (by kernel_rfl) ?_))
  walk_at "w"
  refine SE.gint kx kx.F.i_CR_AT (by kernel_rfl) (.add ?_)
  walk_at "w"
  refine (poke_sf kx.F (kx.le (by decide)) hm (by (first | lia | omega)) (by (first | lia | omega)) hl).thnE ?_
  intro S₁ x1
  refine SL.nil ⟨rfl, ?_⟩
  rwa [show (a + 32).toNat = a.toNat + 32 by (first | lia | omega)] at x1
/-- the extent 0 alone is ever set -/
theorem set_extent_sf (hF : Facts C.KF) (hn : 2 ≤ C.n) (hm : S.σ lm = some (.list (IL mem))) (h0 : 0 ≤ a) (h1 : a + 36 ≤ 256) (hl : mem.length = 256) : SF C "set_extent" [.ref lm, .int a, .int 0] S (fun v S' => v = .none ∧ MemTo S S' lm ((mem.set (a.toNat + 12) 0).set (a.toNat + 14) 128)) noX := by
  refine SFA.run hF hF.f_set_extent.fn hn [("memory", .ref lm), ("at", .int a), ("extent", .int 0)] rfl rfl fun C' e1 kx e2 e3 hb => ?_
  refine letPost ?_
  intro PR
  refine letFr ?_
  intro fr0
  refine SL.cons (SS.expr (SE.fn kx kx.F.f_poke (by kernel_rfl) ?_))
  walk_at "w"
  refine SE.gint kx kx.F.i_EX_AT (by kernel_rfl) (.add ?_)
  walk_at "w"
  refine SE.gint kx kx.F.i_EXTENTS_LOW (by kernel_rfl) (.mod (by (first | lia | omega)) ?_)
  walk_at "w"
  refine (poke_sf kx.F (kx.le (by decide)) hm (by (first | lia | omega)) (by (first | lia | omega)) hl).thnE2 ?_
  intro S₁ c1 m1
  rw [show (a + 12).toNat = a.toNat + 12 by (first | lia | omega), show (0 : Int) % 32 % 256 = 0 by decide] at m1
  refine SL.cons (SS.expr (SE.fn kx kx.F.f_poke (by kernel_rfl) ?_))
  walk_at "w"
  refine SE.gint kx kx.F.i_S2_AT (by kernel_rfl) (.add ?_)
  walk_at "w"
  refine SE.gint kx kx.F.i_EXTENTS_LOW (by kernel_rfl) (.div (by (first | lia | omega)) ?_)
  walk_at "w"
  refine .m6 ?_
  refine SE.gint kx kx.F.i_UNCHANGED (by kernel_rfl) (.bor ?_)
  walk_at "w"
  refine (poke_sf kx.F (kx.le (by decide)) m1 (by (first | lia | omega)) (by (first | lia | omega)) (by simpa using hl)).thnE2 ?_
  intro S₂ c2 m2
  rw [show (a + 14).toNat = a.toNat + 14 by (first | lia | omega), show Builtin.bitOr ((0 : Int) / 32 % 64) 128 % 256 = 128 by decide] at m2
  exact SL.nil ⟨rfl, c1.trans c2, m2⟩
theorem mark_changed_sf {b : Bool} (hF : Facts C.KF) (hn : 2 ≤ C.n) (hm : S.σ lm = some (.list (IL mem))) (h0 : 0 ≤ a) (h1 : a + 36 ≤ 256) (hl : mem.length = 256) :
    SF C "mark_changed" [.ref lm, .int a, .bool b] S (fun v S' => v = .none ∧ MemTo S S' lm (mem.set (a.toNat + 14) ((if b then gI mem (a.toNat + 14) % 128 else Builtin.bitOr (gI mem (a.toNat + 14) % 128) 128) % 256))) noX := by
  refine SFA.run hF hF.f_mark_changed.fn hn [("memory", .ref lm), ("at", .int a), ("is_now", .bool b)] rfl rfl fun C' e1 kx e2 e3 hb => ?_
  refine letPost ?_
  intro PR
  refine letFr ?_
  intro fr0
  refine SL.cons (SS.assign (SE.binop (SE.fn kx kx.F.f_peek (by kernel_rfl) ?_)))
  walk_at "w"
  refine SE.gint kx kx.F.i_S2_AT (by kernel_rfl) (.add ?_)
  walk_at "w"
  refine (peek_sf kx.F (kx.le (by decide)) hm (by (first | lia | omega)) (by (first | lia | omega)) hl).thnE ?_
  intro S₁ x1
  rw [show (a + 14).toNat = a.toNat + 14 by (first | lia | omega)]
  walk_at "w"
  refine .m7 (ST.name (kx.isV (by kernel_rfl)) ?_)
  refine SL.cons (SS.expr (SE.fn kx kx.F.f_poke (by kernel_rfl) ?_))
  walk_at "w"
  refine SE.gint kx kx.F.i_S2_AT (by kernel_rfl) (.add ?_)
  walk_at "s"
  refine SE.ifexp (SB.val (by intro _ _; rfl) ?_)
  walk_at "nm"
  have fin : ∀ (o : Int), SF C' "poke" [.ref lm, .int (a + 14), .int o] S₁ (fun v S' => MemTo S S' lm (mem.set (a.toNat + 14) (o % 256))) noX := fun o => by
    refine (poke_sf kx.F (kx.le (by decide)) (x1.2 _ _ hm) (by (first | lia | omega)) (by (first | lia | omega)) hl).thnE2 ?_
    intro S₂ c2 m2
    rw [show (a + 14).toNat = a.toNat + 14 by (first | lia | omega)] at m2
    exact ⟨(x1.chg _).trans c2, m2⟩
  cases b with
  | true =>
    show SE _ _ _ _ _ _
    walk_at "w"
    refine (fin _).thn ?_
    exact fun v S₂ h => SL.nil ⟨rfl, h⟩
  | false =>
    show SE _ _ _ _ _ _
    walk_at "w"
    refine SE.gint kx kx.F.i_UNCHANGED (by kernel_rfl) (.bor ?_)
    walk_at "w"
    refine (fin _).thn ?_
    exact fun v S₂ h => SL.nil ⟨rfl, h⟩
end
end Mine
end
section
open PySem PySem.W PyProof.Rows PySem.Calls
set_option Elab.async false
set_option maxRecDepth 100000
set_option linter.unusedVariables false
namespace Mine
local macro_rules | `(tactic| walk_at "k") => `(tactic| (refine (?_ : _ = _); kernel_rfl!))
local macro_rules | `(tactic| walk_at "lk") => `(tactic| first | with_reducible exact lookup_here | (refine (?_ : LkAt 1 _ _); walk_at "k") | (refine (?_ : LkAt 2 _ _); walk_at "k") | (refine (?_ : LkAt 3 _ _); walk_at "k") | (refine (?_ : LkAt 4 _ _); walk_at "k") | (refine (?_ : LkAt 5 _ _); walk_at "k") | (refine (?_ : LkAt 6 _ _); walk_at "k") | (refine (?_ : LkAt 7 _ _); walk_at "k") | (refine (?_ : LkAt 8 _ _); walk_at "k") | (refine (?_ : LkAt 9 _ _); walk_at "k") | (refine (?_ : LkAt 10 _ _); walk_at "k") | (refine (?_ : LkAt 11 _ _); walk_at "k") | (refine (?_ : LkAt 12 _ _); walk_at "k") | (refine (?_ : LkAt 13 _ _); walk_at "k") | (refine (?_ : LkAt 14 _ _); walk_at "k") | (refine (?_ : LkAt 15 _ _); walk_at "k") | (refine (?_ : LkAt 16 _ _); walk_at "k"))
local macro_rules | `(tactic| walk_at "nm") => `(tactic| refine SE.name (by walk_at "lk") ?_ (by decide +kernel))
local macro_rules | `(tactic| walk_at "len") => `(tactic| refine SE.blt (id := "len") ((‹Kx _ _ _›).isB (‹Kx _ _ _›).F.b_len (by kernel_rfl) (by kernel_rfl)) ?_)
local macro_rules | `(tactic| walk_at "s") => `(tactic| first
  | ((with_reducible show SE _ _ (Expr.Name _ _) _ _ _); walk_at "nm")
  | with_reducible (first | refine SE.cInt ?_ | refine SE.cNone ?_ | refine SE.cBool ?_ | refine SE.binop ?_ | refine SE.cmp ?_ | refine SE.ifexp ?_ | refine SE.list ?_ | refine SE.tuple ?_ | refine SE.sub ?_ | refine SAs.nil ?_ | refine SAs.cons ?_ | refine SB.cmp ?_ | refine SB.not ?_ | refine SB.boolop ?_ | refine SAll.and ?_ | refine SAll.or ?_ | refine SAll.and_nil ?_ | refine SAll.or_nil ?_ | refine SS.ret ?_ | refine SS.ifs ?_ | refine SL.cons ?_)
  | ((with_reducible show SE _ _ (Expr.Call (Expr.Name (Str.ofString "len") _) _ _ _) _ _ _); walk_at "len"))
local macro_rules | `(tactic| walk_at "w") => `(tactic| ((try ((with_reducible show SL _ _ _ _ _ _ _); refine SL.cons ?_)); repeat walk_at "s"))

section
variable {C : Cx} {S : St} {lm : Loc} {mem : List Int} {a : Int} {dk dd ld lg : Loc} {N : Int} {data given : List Int}
theorem map_slots_sf (hF : Facts C.KF) (hn : 1 ≤ C.n) (D : Dk C.KF S dk dd ld lg N data given) (hN : N ≤ 256) : SF C "map_slots" [.ref dk] S (fun v S' => v = .int 16 ∧ Ext S S') noX := by
  refine SFA.run hF hF.f_map_slots.fn hn [("disk", .ref dk)] rfl rfl fun C' e1 kx e2 e3 hb => ?_
  rw [← e1] at D
  walk_at "w"
  refine SE.dBlocks kx (by walk_at "lk") D ?_
  walk_at "w"
  refine ⟨true, congrArg some (decide_eq_true (by (first | lia | omega))), ?_⟩
  show SE _ _ _ _ _ _
  walk_at "w"
  exact ⟨rfl, .refl _⟩
theorem records_of_block_sf (hF : Facts C.KF) (hn : 1 ≤ C.n) (D : Dk C.KF S dk dd ld lg N data given) : SF C "records_of_block" [.ref dk] S (fun v S' => v = .int 2 ∧ Ext S S') noX := by
  refine SFA.run hF hF.f_records_of_block.fn hn [("disk", .ref dk)] rfl rfl fun C' e1 kx e2 e3 hb => ?_
  rw [← e1] at D
  walk_at "w"
  refine SE.dBlock kx (by walk_at "lk") D (SE.dRecord kx (by walk_at "lk") D (.div (by (first | lia | omega)) ⟨congrArg AV.int (by decide), .refl _⟩))
theorem directory_blocks_sf (hF : Facts C.KF) (hn : 1 ≤ C.n) (D : Dk C.KF S dk dd ld lg N data given) : SF C "directory_blocks" [.ref dk] S (fun v S' => v = .int 2 ∧ Ext S S') noX := by
  refine SFA.run hF hF.f_directory_blocks.fn hn [("disk", .ref dk)] rfl rfl fun C' e1 kx e2 e3 hb => ?_
  rw [← e1] at D
  walk_at "w"
  refine SE.dEntries kx (by walk_at "lk") D (SE.gint kx kx.F.i_ENTRY_SIZE (by kernel_rfl) (.mul ?_ (by (first | lia | omega)) (by (first | lia | omega))))
  refine SE.dBlock kx (by walk_at "lk") D (.add ?_)
  walk_at "w"
  refine .sub (SE.dBlock kx (by walk_at "lk") D (.div (by (first | lia | omega)) ⟨congrArg AV.int (by decide), .refl _⟩))
theorem records_of_extent_sf (hF : Facts C.KF) (hn : 2 ≤ C.n) (D : Dk C.KF S dk dd ld lg N data given) (hN : N ≤ 256) : SF C "records_of_extent" [.ref dk] S (fun v S' => v = .int 32 ∧ Ext S S') noX := by
  refine SFA.run hF hF.f_records_of_extent.fn hn [("disk", .ref dk)] rfl rfl fun C' e1 kx e2 e3 hb => ?_
  rw [← e1] at D
  refine letPost ?_
  intro PR
  refine letFr ?_
  intro fr0
  refine SL.cons (SS.ret (SE.blt (id := "min") (kx.isB kx.F.b_min (by kernel_rfl) (by kernel_rfl)) ?_))
  walk_at "w"
  refine SE.fn kx kx.F.f_map_slots (by kernel_rfl) ?_
  walk_at "w"
  refine (map_slots_sf kx.F (kx.le (by decide)) D hN).thnE ?_
  intro S₁ x1
  refine SE.fn kx kx.F.f_records_of_block (by kernel_rfl) ?_
  walk_at "w"
  refine (records_of_block_sf kx.F (kx.le (by decide)) (D.ext x1)).thnE ?_
  intro S₂ x2
  refine .mul ?_ (by (first | lia | omega)) (by (first | lia | omega))
  walk_at "w"
  refine SE.gint kx kx.F.i_MOST_RECORDS (by kernel_rfl) ?_
  walk_at "w"
  exact SC.min2 ⟨congrArg AV.int (by decide), x1.trans x2⟩
theorem need_writable_sf (hF : Facts C.KF) (hn : 1 ≤ C.n) (D : Dk C.KF S dk dd ld lg N data given) : SF C "need_writable" [.ref dk] S (fun v S' => v = .none ∧ Ext S S') noX := by
  refine SFA.run hF hF.f_need_writable.fn hn [("disk", .ref dk)] rfl rfl fun C' e1 kx e2 e3 hb => ?_
  rw [← e1] at D
  walk_at "w"
  refine SB.val (by intro _ _; rfl) (SE.dRo kx (by walk_at "lk") D ?_)
  exact SL.nil (SL.nil ⟨rfl, .refl _⟩)
theorem need_writable_disk_sf (hF : Facts C.KF) (hn : 1 ≤ C.n) (D : Dk C.KF S dk dd ld lg N data given) : SF C "need_writable_disk" [.ref dk] S (fun v S' => v = .none ∧ Ext S S') noX := by
  refine SFA.run hF hF.f_need_writable_disk.fn hn [("disk", .ref dk)] rfl rfl fun C' e1 kx e2 e3 hb => ?_
  rw [← e1] at D
  walk_at "w"
  refine SB.val (by intro _ _; rfl) (SE.dRo kx (by walk_at "lk") D ?_)
  exact SL.nil (SL.nil ⟨rfl, .refl _⟩)
theorem code_of_sf {i : Int} (hF : Facts C.KF) (hn : 1 ≤ C.n) (D : Dk C.KF S dk dd ld lg N data given) : SF C "code_of" [.ref dk, .int i] S (fun v S' => v = .int 0 ∧ Ext S S') noX := by
  refine SFA.run hF hF.f_code_of.fn hn [("disk", .ref dk), ("number", .int i)] rfl rfl fun C' e1 kx e2 e3 hb => ?_
  rw [← e1] at D
  walk_at "w"
  refine SE.blt (id := "max") (kx.isB kx.F.b_max (by kernel_rfl) (by kernel_rfl)) ?_
  walk_at "w"
  refine SE.dRecord kx (by walk_at "lk") D (SE.gint kx kx.F.i_ENTRY_SIZE (by kernel_rfl) (.div (by (first | lia | omega)) ?_))
  walk_at "w"
  refine SC.max2 (.mod (by decide) ⟨?_, .refl _⟩)
  rw [show (if (1 : Int) > 32 / 32 then (1 : Int) else 32 / 32) = 1 by decide, Int.emod_one]
theorem has_flag_sf {lr : Loc} {raw : List Int} (hF : Facts C.KF) (hn : 1 ≤ C.n) (hr : S.σ lr = some (.list (IL raw))) (h0 : 0 ≤ a) (h1 : a.toNat < raw.length) (h2 : raw.length < 1000) : SF C "has_flag" [.ref lr, .int a] S (fun v S' => v = .bool (decide (128 ≤ gI raw a.toNat)) ∧ Ext S S') noX := by
  refine SFA.run hF hF.f_has_flag.fn hn [("raw", .ref lr), ("at", .int a)] rfl rfl fun C' e1 kx e2 e3 hb => ?_
  walk_at "w"
  refine ⟨_, .int (gI raw a.toNat), .inl hr, h0, by (first | lia | omega), IL_get h1, ?_⟩
  walk_at "w"
  exact ⟨_, rfl, rfl, .refl _⟩
theorem need_writable_file_sf {lr : Loc} {raw : List Int} (hF : Facts C.KF) (hn : 2 ≤ C.n) (hr : S.σ lr = some (.list (IL raw))) (h1 : raw.length = 11) (h2 : gI raw 8 < 128) : SF C "need_writable_file" [.ref lr] S (fun v S' => v = .none ∧ Ext S S') noX := by
  refine SFA.run hF hF.f_need_writable_file.fn hn [("raw", .ref lr)] rfl rfl fun C' e1 kx e2 e3 hb => ?_
  walk_at "w"
  refine SB.val (by intro _ _; rfl) (SE.fn kx kx.F.f_has_flag (by kernel_rfl) ?_)
  walk_at "w"
  refine SE.gint kx kx.F.i_READ_ONLY_AT (by kernel_rfl) ?_
  walk_at "w"
  refine (has_flag_sf kx.F (kx.le (by decide)) hr (by (first | lia | omega)) (by simp; (first | lia | omega)) (by (first | lia | omega))).thnE ?_
  intro S₁ x1
  have e : decide (128 ≤ gI raw (8 : Int).toNat) = false := by simpa using h2
  rw [e]
  exact SL.nil (SL.nil ⟨rfl, x1⟩)
theorem code_for_sf (hF : Facts C.KF) (hn : 1 ≤ C.n) : SF C "code_for" [.int a] S (fun v S' => Ext S S') noX := by
  refine SFA.run hF hF.f_code_for.fn hn [("many", .int a)] rfl rfl fun C' e1 kx e2 e3 hb => ?_
  walk_at "w"
  by_cases q : 0 < a
  · exact ⟨true, congrArg some (decide_eq_true q), SE.gint kx kx.F.i_DONE (by kernel_rfl) (.refl _)⟩
  · exact ⟨false, congrArg some (decide_eq_false q), SE.gint kx kx.F.i_NOT_FOUND (by kernel_rfl) (.refl _)⟩
theorem map_of_sf {lo : Loc} {os : List Int} (hF : Facts C.KF) (hn : 2 ≤ C.n) (D : Dk C.KF S dk dd ld lg N data given) (hN : N ≤ 256) (ho : S.σ lo = some (.list (IL os))) (hl : os.length = 32) : SF C "map_of" [.ref dk, .ref lo] S (fun v S' => NewL S S' v (seg os 16 16)) noX := by
  refine SFA.run hF hF.f_map_of.fn hn [("disk", .ref dk), ("octets", .ref lo)] rfl rfl fun C' e1 kx e2 e3 hb => ?_
  rw [← e1] at D
  refine letPost ?_
  intro PR
  refine letFr ?_
  intro fr0
  walk_at "w"
  refine SE.fn kx kx.F.f_map_slots (by kernel_rfl) ?_
  walk_at "w"
  refine (map_slots_sf kx.F (kx.le (by decide)) D hN).thnE ?_
  intro S₁ x1
  walk_at "w"
  refine ⟨true, rfl, ?_⟩
  refine SL.bnd fun hb1 => ?_
  refine SL.cons (SS.ret (SE.slice ?_))
  walk_at "w"
  refine SE.gint kx kx.F.i_MAP_AT (by kernel_rfl) (SE.gint kx kx.F.i_ENTRY_SIZE (by kernel_rfl) ⟨lo, 16, 32, _, rfl, rfl, rfl, x1.2 _ _ ho, by rw [IL_len]; (first | lia | omega), by (first | lia | omega), by (first | lia | omega), by rw [IL_len, hl]; decide, ?_⟩)
  refine ⟨_, rfl, x1.1, x1.add hb1, ?_⟩
  rw [add_at]
  simp [IL, seg]
theorem map_octets_sf {lo : Loc} {os : List Int} (hF : Facts C.KF) (hn : 2 ≤ C.n) (D : Dk C.KF S dk dd ld lg N data given) (hN : N ≤ 256) (ho : S.σ lo = some (.list (IL os))) (hl : os.length ≤ 1000) : SF C "map_octets" [.ref dk, .ref lo] S (fun v S' => NewL S S' v os) noX := by
  refine SFA.run hF hF.f_map_octets.fn hn [("disk", .ref dk), ("blocks", .ref lo)] rfl rfl fun C' e1 kx e2 e3 hb => ?_
  rw [← e1] at D
  walk_at "w"
  refine SE.fn kx kx.F.f_map_slots (by kernel_rfl) ?_
  walk_at "w"
  refine (map_slots_sf kx.F (kx.le (by decide)) D hN).thnE ?_
  intro S₁ x1
  walk_at "w"
  refine ⟨true, rfl, ?_⟩
  refine SL.bnd fun hb1 => ?_
  refine SL.cons (SS.ret (SE.typ (T := "list") (kx.isB kx.F.b_list (by kernel_rfl) (by kernel_rfl)) ?_))
  walk_at "w"
  exact SC.list (x1.2 _ _ ho) (by rw [IL_len]; (first | lia | omega)) ⟨_, rfl, x1.1, x1.add hb1, add_at⟩
theorem blocks_at_sf (hF : Facts C.KF) (hn : 3 ≤ C.n) (D : Dk C.KF S dk dd ld lg N data given) (hN : N ≤ 256) (hm : S.σ lm = some (.list (IL mem))) (h0 : 0 ≤ a) (h1 : a + 36 ≤ 256) (hl : mem.length = 256) : SF C "blocks_at" [.ref dk, .ref lm, .int a] S (fun v S' => NewL S S' v (seg mem (a.toNat + 16) 16)) noX := by
  refine SFA.run hF hF.f_blocks_at.fn hn [("disk", .ref dk), ("memory", .ref lm), ("at", .int a)] rfl rfl fun C' e1 kx e2 e3 hb => ?_
  rw [← e1] at D
  refine letPost ?_
  intro PR
  refine letFr ?_
  intro fr0
  refine SL.cons (SS.ret (SE.fn kx kx.F.f_map_of (by kernel_rfl) ?_))
  walk_at "w"
  refine SE.fn kx kx.F.f_octets_at (by kernel_rfl) ?_
  walk_at "w"
  refine SE.gint kx kx.F.i_ENTRY_SIZE (by kernel_rfl) ?_
  walk_at "w"
  refine (octets_at_sf kx.F (kx.le (by decide)) hm h0 (by (first | lia | omega)) (by (first | lia | omega)) hl).thnR ?_
  intro lo S₁ hlo x1 eo
  walk_at "w"
  refine (map_of_sf kx.F (kx.le (by decide)) (D.ext x1) hN eo (seg_len (by simp; (first | lia | omega)))).thnR ?_
  intro l2 S₂ hl2 x2 eo2
  refine ⟨l2, rfl, Nat.le_trans x1.1 hl2, x1.trans x2, ?_⟩
  rw [eo2]
  congr 3
  simp [seg, List.drop_drop, List.take_take, List.drop_take]
end
end Mine
end
section
open PySem PySem.W PyProof.Rows PySem.Calls
set_option Elab.async false
set_option maxRecDepth 100000
set_option linter.unusedVariables false
namespace Mine
local macro_rules | `(tactic| walk_at "k") => `(tactic| (refine (?_ : _ = _); kernel_rfl!))
local macro_rules | `(tactic| walk_at "lk") => `(tactic| first | with_reducible exact lookup_here | (refine (?_ : LkAt 1 _ _); walk_at "k") | (refine (?_ : LkAt 2 _ _); walk_at "k") | (refine (?_ : LkAt 3 _ _); walk_at "k") | (refine (?_ : LkAt 4 _ _); walk_at "k") | (refine (?_ : LkAt 5 _ _); walk_at "k") | (refine (?_ : LkAt 6 _ _); walk_at "k") | (refine (?_ : LkAt 7 _ _); walk_at "k") | (refine (?_ : LkAt 8 _ _); walk_at "k") | (refine (?_ : LkAt 9 _ _); walk_at "k") | (refine (?_ : LkAt 10 _ _); walk_at "k") | (refine (?_ : LkAt 11 _ _); walk_at "k") | (refine (?_ : LkAt 12 _ _); walk_at "k") | (refine (?_ : LkAt 13 _ _); walk_at "k") | (refine (?_ : LkAt 14 _ _); walk_at "k") | (refine (?_ : LkAt 15 _ _); walk_at "k") | (refine (?_ : LkAt 16 _ _); walk_at "k"))
local macro_rules | `(tactic| walk_at "nm") => `(tactic| refine SE.name (by walk_at "lk") ?_ (by decide +kernel))
local macro_rules | `(tactic| walk_at "len") => `(tactic| refine SE.blt (id := "len") ((‹Kx _ _ _›).isB (‹Kx _ _ _›).F.b_len (by kernel_rfl) (by kernel_rfl)) ?_)
local macro_rules | `(tactic| walk_at "s") => `(tactic| first
  | ((with_reducible show SE _ _ (Expr.Name _ _) _ _ _); walk_at "nm")
  | with_reducible (first | refine SE.cInt ?_ | refine SE.cNone ?_ | refine SE.cBool ?_ | refine SE.binop ?_ | refine SE.cmp ?_ | refine SE.ifexp ?_ | refine SE.list ?_ | refine SE.tuple ?_ | refine SE.sub ?_ | refine SAs.nil ?_ | refine SAs.cons ?_ | refine SB.cmp ?_ | refine SB.not ?_ | refine SB.boolop ?_ | refine SAll.and ?_ | refine SAll.or ?_ | refine SAll.and_nil ?_ | refine SAll.or_nil ?_ | refine SS.ret ?_ | refine SS.ifs ?_ | refine SL.cons ?_)
  | ((with_reducible show SE _ _ (Expr.Call (Expr.Name (Str.ofString "len") _) _ _ _) _ _ _); walk_at "len"))
local macro_rules | `(tactic| walk_at "w") => `(tactic| ((try ((with_reducible show SL _ _ _ _ _ _ _); refine SL.cons ?_)); repeat walk_at "s"))

theorem SS.setAttr {C : Cx} {fr : Frm} {S : St} {PN : Frm → St → Prop} {PR : AV → St → Prop} {X : St → Prop} {o x : Str} {np ap pos : Pos} {value : Expr} {l : Loc} (hx : fr.lookup o = some (.ref l))
    (h : SE C fr value S (fun v S₁ => ∃ c d es, S₁.σ l = some (.inst c d) ∧ S₁.σ d = some (.dict es) ∧ setOk C.KF c x = true ∧ es.length ≤ 1000 ∧ PN fr (S₁.put d (.dict (dput x v es)))) X)
    (hs : ∀ env, swapsWithSole [.Attribute (.Name o np) x ap] value pos.line env = pure false := by intro _; rfl) (hw : ∀ env, env.scope.kind = .function → swappedStores [.Attribute (.Name o np) x ap] value env = pure none := by intro _ _; rfl)
    (hd : (o == ("__debug__" : Str)) = false := by decide +kernel) : SS C fr (.Assign [.Attribute (.Name o np) x ap] value pos) S PN PR X :=
  .assign (h.mono fun v S₁ ⟨c, d, es, e1, e2, g, hz, p⟩ => .attr (.name hx ⟨l, c, d, es, rfl, e1, e2, g, hz, p⟩ hd)) hs hw
theorem ne_of_ao {S : St} {l k : Loc} {o o' : AO} (e : S.σ l = some o) (e' : S.σ k = some o') (h : o ≠ o') : l ≠ k := fun q => by rw [q, e'] at e; exact h (Option.some.inj e).symm
section
variable {C : Cx} {S : St} {lm : Loc} {mem : List Int} {a : Int} {dk dd ld lg : Loc} {N : Int} {data given : List Int}
theorem entry_init {le de lraw : Loc} {user ext : Int} {raw : List Int} (hF : Facts C.KF) (hn : 1 ≤ C.n) (hle : S.σ le = some (.inst (adr C.KF "Entry") de)) (hde : S.σ de = some (.dict [])) (hr : S.σ lraw = some (.list (IL raw))) (hz : raw.length ≤ 1000) (hdl : de ≤ le) :
    SFA C (iadr C.KF "Entry") [.ref le, .int user, .ref lraw, .int ext] S (fun v S' => v = .none ∧ Chg [de] S S' ∧ ∃ lr lp, En C.KF S' de le de lr lp user raw ext 0 0 []) noX := by
  refine SFA.run hF hF.c_Entry.def_ hn [("self", .ref le), ("user", .int user), ("raw", .ref lraw), ("extent", .int ext)] rfl rfl fun C' e1 kx e2 e3 hb => ?_
  rw [← e1] at hle ⊢
  refine letPost ?_
  intro PR
  refine letFr ?_
  intro fr0
  have n1 : le ≠ de := ne_of_ao hle hde (by first | exact ao_ld | exact ao_dl | exact ao_li | exact ao_il | exact ao_di | exact ao_id | exact ao_tl | exact ao_lt | (intro q; cases q))
  have n2 : lraw ≠ de := ne_of_ao hr hde (by first | exact ao_ld | exact ao_dl | exact ao_li | exact ao_il | exact ao_di | exact ao_id | exact ao_tl | exact ao_lt | (intro q; cases q))
  have hbd : de < S.nx := hb de (by rw [hde]; simp)
  -- user
  refine SL.cons (SS.setAttr (by walk_at "lk") ?_)
  walk_at "w"
  refine ⟨_, _, _, hle, hde, kx.F.s_Entry_user, by simp, ?_⟩
  generalize hS1 : S.put de (.dict (dput "user" (.int user) [])) = S1
  have c1 : Chg [de] S S1 := hS1 ▸ (Chg.refl _ S).put (by simp)
  have d1 : S1.σ de = some (.dict [("user", .int user)]) := hS1 ▸ put_at
  refine SL.bnd fun hb1 => ?_
  -- raw
  refine SL.cons (SS.setAttr (by walk_at "lk") (SE.typ (T := "list") (kx.isB kx.F.b_list (by kernel_rfl) (by kernel_rfl)) ?_))
  walk_at "w"
  refine SC.list (c1.2 _ _ (by simpa using n2) hr) (by rw [IL_len]; (first | lia | omega)) ⟨_, _, _, add_off hb1 (c1.2 _ _ (by simpa using n1) hle), add_off hb1 d1, kx.F.s_Entry_raw, by simp, ?_⟩
  generalize hS2 : (S1.add (.list (IL raw))).put de (.dict (dput "raw" (.ref S1.nx) [("user", .int user)])) = S2
  have hlr : S1.nx ≠ de := Nat.ne_of_gt (Nat.lt_of_lt_of_le hbd c1.1)
  have c2 : Chg [de] S S2 := hS2 ▸ (c1.add hb1).put (by simp)
  have d2 : S2.σ de = some (.dict [("user", .int user), ("raw", .ref S1.nx)]) := by
    rw [← hS2, put_at]
    exact congrArg (fun z => some (AO.dict z)) (by kernel_rfl)
  have r2 : S2.σ S1.nx = some (.list (IL raw)) := by rw [← hS2, put_off hlr, add_at]
  -- extent
  refine SL.cons (SS.setAttr (by walk_at "lk") ?_)
  walk_at "w"
  refine ⟨_, _, _, c2.2 _ _ (by simpa using n1) hle, d2, kx.F.s_Entry_extent, by simp, ?_⟩
  generalize hS3 : S2.put de (.dict (dput "extent" (.int ext) [("user", .int user), ("raw", .ref S1.nx)])) = S3
  have c3 : Chg [de] S S3 := hS3 ▸ c2.put (by simp)
  have d3 : S3.σ de = some (.dict [("user", .int user), ("raw", .ref S1.nx), ("extent", .int ext)]) := by
    rw [← hS3, put_at]
    exact congrArg (fun z => some (AO.dict z)) (by kernel_rfl)
  have r3 : S3.σ S1.nx = some (.list (IL raw)) := by rw [← hS3, put_off hlr, r2]
  -- spare
  refine SL.cons (SS.setAttr (by walk_at "lk") ?_)
  walk_at "w"
  refine ⟨_, _, _, c3.2 _ _ (by simpa using n1) hle, d3, kx.F.s_Entry_spare, by simp, ?_⟩
  generalize hS4 : S3.put de (.dict (dput "spare" (.int 0) [("user", .int user), ("raw", .ref S1.nx), ("extent", .int ext)])) = S4
  have c4 : Chg [de] S S4 := hS4 ▸ c3.put (by simp)
  have d4 : S4.σ de = some (.dict [("user", .int user), ("raw", .ref S1.nx), ("extent", .int ext), ("spare", .int 0)]) := by
    rw [← hS4, put_at]
    exact congrArg (fun z => some (AO.dict z)) (by kernel_rfl)
  have r4 : S4.σ S1.nx = some (.list (IL raw)) := by rw [← hS4, put_off hlr, r3]
  -- count
  refine SL.cons (SS.setAttr (by walk_at "lk") ?_)
  walk_at "w"
  refine ⟨_, _, _, c4.2 _ _ (by simpa using n1) hle, d4, kx.F.s_Entry_count, by simp, ?_⟩
  generalize hS5 : S4.put de (.dict (dput "count" (.int 0) [("user", .int user), ("raw", .ref S1.nx), ("extent", .int ext), ("spare", .int 0)])) = S5
  have c5 : Chg [de] S S5 := hS5 ▸ c4.put (by simp)
  have d5 : S5.σ de = some (.dict [("user", .int user), ("raw", .ref S1.nx), ("extent", .int ext), ("spare", .int 0), ("count", .int 0)]) := by
    rw [← hS5, put_at]
    exact congrArg (fun z => some (AO.dict z)) (by kernel_rfl)
  have r5 : S5.σ S1.nx = some (.list (IL raw)) := by rw [← hS5, put_off hlr, r4]
  refine SL.bnd fun hb5 => ?_
  -- map
  refine SL.cons (SS.setAttr (by walk_at "lk") ?_)
  walk_at "w"
  refine ⟨by simp, _, _, _, add_off hb5 (c5.2 _ _ (by simpa using n1) hle), add_off hb5 d5, kx.F.s_Entry_map, by simp, ?_⟩
  generalize hS6 : (S5.add (.list [])).put de (.dict (dput "map" (.ref S5.nx) [("user", .int user), ("raw", .ref S1.nx), ("extent", .int ext), ("spare", .int 0), ("count", .int 0)])) = S6
  have c6 : Chg [de] S S6 := hS6 ▸ (c5.add hb5).put (by simp)
  have d6 : S6.σ de = some (.dict (enD user ext 0 0 S1.nx S5.nx)) := by
    rw [← hS6, put_at]
    exact congrArg (fun z => some (AO.dict z)) (by kernel_rfl)
  have hlp : S5.nx ≠ de := Nat.ne_of_gt (Nat.lt_of_lt_of_le hbd c5.1)
  have r6 : S6.σ S1.nx = some (.list (IL raw)) := by rw [← hS6, put_off hlr, add_off hb5 r5]
  have m6 : S6.σ S5.nx = some (.list (IL [])) := by rw [← hS6, put_off hlp, add_at]; rfl
  refine SL.nil ⟨rfl, c6, S1.nx, S5.nx, c6.2 _ _ (by simpa using n1) hle, d6, r6, m6, Nat.le_refl _, Nat.le_of_lt (Nat.lt_of_lt_of_le hbd c5.1), Nat.le_of_lt (Nat.lt_of_lt_of_le hbd c1.1), hdl⟩
theorem entry_new {lraw : Loc} {user ext : Int} {raw : List Int} (hF : Facts C.KF) (hn : 2 ≤ C.n) (hr : S.σ lraw = some (.list (IL raw))) (hz : raw.length ≤ 1000) :
    SFA C (adr C.KF "Entry") [.int user, .ref lraw, .int ext] S (fun v S' => Ext S S' ∧ ∃ le de lr lp, v = .ref le ∧ En C.KF S' S.nx le de lr lp user raw ext 0 0 []) noX := by
  refine SFA.bnd fun hb => make_inst (by (first | lia | omega)) hF.c_Entry.makes hF.c_Entry.init hF.c_Entry.fn fun C₁ md => ?_
  have hb1 : Bnd (S.add (.dict [])) := hb.add
  have x2 : Ext S ((S.add (.dict [])).add (.inst (adr C.KF "Entry") S.nx)) := (Ext.refl S).add hb |>.add hb1
  have e1 : ((S.add (.dict [])).add (.inst (adr C.KF "Entry") S.nx)).σ (S.nx + 1) = some (.inst (adr C.KF "Entry") S.nx) := add_at
  have e2 : ((S.add (.dict [])).add (.inst (adr C.KF "Entry") S.nx)).σ S.nx = some (.dict []) := add_off hb1 add_at
  have key := entry_init (C := C₁) (user := user) (ext := ext) (by rw [md.KF]; exact hF) (by have := md.n; (first | lia | omega)) (by rw [md.KF]; exact e1) e2 (x2.2 _ _ hr) hz (Nat.le_succ _)
  rw [md.KF] at key
  refine key.thn ?_
  rintro v S' ⟨rfl, ch, lr, lp, E⟩
  refine ⟨rfl, ⟨Nat.le_trans (Nat.le_trans (Nat.le_succ _) (Nat.le_succ _)) ch.1, fun l o e => ?_⟩, S.nx + 1, S.nx, lr, lp, rfl, E⟩
  exact ch.2 _ _ (by simp; intro q; exact absurd (hb l (by rw [e]; simp)) (by rw [q]; exact Nat.lt_irrefl _)) (x2.2 _ _ e)
theorem raw_entry_sf {n : Int} (hF : Facts C.KF) (hn : 1 ≤ C.n) (D : Dk C.KF S dk dd ld lg N data given) (h0 : 0 ≤ n) (h1 : n < 4) (hl : 128 ≤ data.length) (hz : data.length ≤ 1000) : SF C "raw_entry" [.ref dk, .int n] S (fun v S' => NewL S S' v (seg data (32 * n.toNat) 32)) noX := by
  refine SFA.run hF hF.f_raw_entry.fn hn [("disk", .ref dk), ("number", .int n)] rfl rfl fun C' e1 kx e2 e3 hb => ?_
  rw [← e1] at D
  refine letPost ?_
  intro PR
  refine letFr ?_
  intro fr0
  walk_at "w"
  refine SB.chain ?_
  walk_at "w"
  refine ⟨true, congrArg some (decide_eq_true h0), ?_⟩
  refine SE.dEntries kx (by walk_at "lk") D ⟨true, congrArg some (decide_eq_true h1), ?_⟩
  refine SL.nil (SL.cons (SS.ret (SE.slice (SE.dData kx (by walk_at "lk") D ?_))))
  walk_at "w"
  refine SE.gint kx kx.F.i_ENTRY_SIZE (by kernel_rfl) (.mul ?_ (by (first | lia | omega)) (by (first | lia | omega)))
  walk_at "w"
  refine .add ?_
  refine SE.gint kx kx.F.i_ENTRY_SIZE (by kernel_rfl) (.mul ?_ (by (first | lia | omega)) (by (first | lia | omega)))
  refine ⟨ld, n * 32, (n + 1) * 32, _, rfl, rfl, rfl, D.ld, by rw [IL_len]; (first | lia | omega), by (first | lia | omega), by (first | lia | omega), by rw [IL_len]; (first | lia | omega), ?_⟩
  refine ⟨_, rfl, Nat.le_refl _, (Ext.refl _).add hb, ?_⟩
  rw [add_at, show (n * 32).toNat = 32 * n.toNat by (first | lia | omega), show ((n + 1) * 32).toNat - 32 * n.toNat = 32 by (first | lia | omega)]
  simp [IL, seg, List.map_drop, List.map_take]
end
end Mine
end
section
open PySem PySem.W PyProof.Rows PySem.Calls
set_option Elab.async false
set_option maxRecDepth 100000
set_option linter.unusedVariables false
namespace Mine
local macro_rules | `(tactic| walk_at "k") => `(tactic| (refine (?_ : _ = _); kernel_rfl!))
local macro_rules | `(tactic| walk_at "lk") => `(tactic| first | with_reducible exact lookup_here | (refine (?_ : LkAt 1 _ _); walk_at "k") | (refine (?_ : LkAt 2 _ _); walk_at "k") | (refine (?_ : LkAt 3 _ _); walk_at "k") | (refine (?_ : LkAt 4 _ _); walk_at "k") | (refine (?_ : LkAt 5 _ _); walk_at "k") | (refine (?_ : LkAt 6 _ _); walk_at "k") | (refine (?_ : LkAt 7 _ _); walk_at "k") | (refine (?_ : LkAt 8 _ _); walk_at "k") | (refine (?_ : LkAt 9 _ _); walk_at "k") | (refine (?_ : LkAt 10 _ _); walk_at "k") | (refine (?_ : LkAt 11 _ _); walk_at "k") | (refine (?_ : LkAt 12 _ _); walk_at "k") | (refine (?_ : LkAt 13 _ _); walk_at "k") | (refine (?_ : LkAt 14 _ _); walk_at "k") | (refine (?_ : LkAt 15 _ _); walk_at "k") | (refine (?_ : LkAt 16 _ _); walk_at "k"))
local macro_rules | `(tactic| walk_at "nm") => `(tactic| refine SE.name (by walk_at "lk") ?_ (by decide +kernel))
local macro_rules | `(tactic| walk_at "len") => `(tactic| refine SE.blt (id := "len") ((‹Kx _ _ _›).isB (‹Kx _ _ _›).F.b_len (by kernel_rfl) (by kernel_rfl)) ?_)
local macro_rules | `(tactic| walk_at "s") => `(tactic| first
  | ((with_reducible show SE _ _ (Expr.Name _ _) _ _ _); walk_at "nm")
  | with_reducible (first | refine SE.cInt ?_ | refine SE.cNone ?_ | refine SE.cBool ?_ | refine SE.binop ?_ | refine SE.cmp ?_ | refine SE.ifexp ?_ | refine SE.list ?_ | refine SE.tuple ?_ | refine SE.sub ?_ | refine SAs.nil ?_ | refine SAs.cons ?_ | refine SB.cmp ?_ | refine SB.not ?_ | refine SB.boolop ?_ | refine SAll.and ?_ | refine SAll.or ?_ | refine SAll.and_nil ?_ | refine SAll.or_nil ?_ | refine SS.ret ?_ | refine SS.ifs ?_ | refine SL.cons ?_)
  | ((with_reducible show SE _ _ (Expr.Call (Expr.Name (Str.ofString "len") _) _ _ _) _ _ _); walk_at "len"))
local macro_rules | `(tactic| walk_at "w") => `(tactic| ((try ((with_reducible show SL _ _ _ _ _ _ _); refine SL.cons ?_)); repeat walk_at "s"))

/-- values laid into a list, one after the other -/
noncomputable def putL : List Int → Nat → List Int → List Int
  | l, _, [] => l
  | l, a, x :: xs => putL (l.set a x) (a + 1) xs
theorem putL_len : ∀ (xs l : List Int) (a : Nat), (putL l a xs).length = l.length
  | [], _, _ => rfl
  | x :: xs, l, a => by unfold putL; rw [putL_len xs]; simp
theorem putL_snoc (x : Int) : ∀ (xs l : List Int) (a : Nat), putL l a (xs ++ [x]) = (putL l a xs).set (a + xs.length) x
  | [], l, a => rfl
  | y :: ys, l, a => by
    show putL (l.set a y) (a + 1) (ys ++ [x]) = _
    rw [putL_snoc x ys]
    show (putL (l.set a y) (a + 1) ys).set (a + 1 + ys.length) x = (putL (l.set a y) (a + 1) ys).set (a + (ys.length + 1)) x
    rw [show a + 1 + ys.length = a + (ys.length + 1) by (first | lia | omega)]
section
variable {C : Cx} {S : St} {lm : Loc} {mem : List Int} {a : Int} {dk dd ld lg : Loc} {N : Int} {data given : List Int}
theorem Dk.toData {K : Frag} {S' : St} {data' : List Int} (D : Dk K S dk dd ld lg N data given) (ch : Chg [ld] S S') (e : S'.σ ld = some (.list (IL data'))) : Dk K S' dk dd ld lg N data' given :=
  ⟨D.ne, ch.2 _ _ (by simpa using ne_of_ao D.dk D.ld (by first | exact ao_ld | exact ao_dl | exact ao_li | exact ao_il | exact ao_di | exact ao_id | exact ao_tl | exact ao_lt | (intro q; cases q))) D.dk, ch.2 _ _ (by simpa using ne_of_ao D.dd D.ld (by first | exact ao_ld | exact ao_dl | exact ao_li | exact ao_il | exact ao_di | exact ao_id | exact ao_tl | exact ao_lt | (intro q; cases q))) D.dd, e, ch.2 _ _ (by simpa using D.ne) D.lg⟩
theorem Dk.toMem {K : Frag} {S' : St} (D : Dk K S dk dd ld lg N data given) (ch : Chg [lm] S S') (hm : S.σ lm = some (.list (IL mem))) (n1 : ld ≠ lm) (n2 : lg ≠ lm) : Dk K S' dk dd ld lg N data given :=
  ⟨D.ne, ch.2 _ _ (by simpa using ne_of_ao D.dk hm (by first | exact ao_ld | exact ao_dl | exact ao_li | exact ao_il | exact ao_di | exact ao_id | exact ao_tl | exact ao_lt | (intro q; cases q))) D.dk, ch.2 _ _ (by simpa using ne_of_ao D.dd hm (by first | exact ao_ld | exact ao_dl | exact ao_li | exact ao_il | exact ao_di | exact ao_id | exact ao_tl | exact ao_lt | (intro q; cases q))) D.dd, ch.2 _ _ (by simpa using n1) D.ld, ch.2 _ _ (by simpa using n2) D.lg⟩
theorem put_entry_sf {n : Int} {lo : Loc} {xs : List Int} (hF : Facts C.KF) (hn : 2 ≤ C.n) (D : Dk C.KF S dk dd ld lg N data given) (h0 : 0 ≤ n) (h1 : n < 4) (hl : 128 ≤ data.length) (hz : data.length ≤ 1000) (ho : S.σ lo = some (.list (IL xs))) (hxs : xs.length = 32) (hne : lo ≠ ld) :
    SF C "put_entry" [.ref dk, .int n, .ref lo] S (fun v S' => v = .none ∧ Chg [ld] S S' ∧ S'.σ ld = some (.list (IL (putL data (32 * n.toNat) xs)))) noX := by
  refine SFA.run hF hF.f_put_entry.fn hn [("disk", .ref dk), ("number", .int n), ("octets", .ref lo)] rfl rfl fun C' e1 kx e2 e3 hb => ?_
  rw [← e1] at D
  refine letPost ?_
  intro PR
  refine letFr ?_
  intro fr0
  refine SL.cons (SS.expr (SE.fn kx kx.F.f_need_writable (by kernel_rfl) ?_))
  walk_at "w"
  refine (need_writable_sf kx.F (kx.le (by decide)) D).thnE ?_
  intro S₁ x1
  refine SL.cons (SS.expr (SE.fn kx kx.F.f_raw_entry (by kernel_rfl) ?_))
  walk_at "w"
  refine (raw_entry_sf kx.F (kx.le (by decide)) (D.ext x1) h0 h1 hl hz).thnR ?_
  intro l2 S₂ _ x2 _
  have x12 := x1.trans x2
  refine SL.cons (SS.for ⟨kx.isV (by kernel_rfl), kx.isV (by kernel_rfl)⟩ (SI.enum (kx.isB kx.F.b_enumerate (by kernel_rfl) (by kernel_rfl)) (SE.name (by walk_at "lk") ⟨lo, _, rfl, x12.2 _ _ ho, ?_⟩ (by decide +kernel))))
  refine ⟨fun i fr' S' => fr' = ([("disk", .ref dk), ("number", .int n), ("octets", .ref lo)] : Frm) ∧ Chg [ld] S S' ∧ S'.σ ld = some (.list (IL (putL data (32 * n.toNat) (xs.take i)))), ⟨rfl, x12.chg _, by simpa [putL] using x12.2 _ _ D.ld⟩, ?_, ?_⟩
  · refine jT2 fun i S' ch hd hi => ?_
    have ho' := ch.2 _ _ (by simpa using hne) ho
    refine ⟨⟨_, ho', rfl⟩, ?_⟩
    rintro fr₁ S₃ ⟨rfl, vs, v, e, hv, rfl⟩
    rw [ho'] at e; cases e
    rw [IL_len] at hi
    rw [IL_get hi] at hv; cases hv
    have D' := D.toData ch hd
    refine SL.cons (SS.assign ?_)
    walk_at "w"
    refine ST.sub (SE.dData kx (by walk_at "lk") D' ?_)
    walk_at "w"
    refine SE.gint kx kx.F.i_ENTRY_SIZE (by kernel_rfl) (.mul ?_ (by (first | lia | omega)) (by (first | lia | omega)))
    walk_at "w"
    refine .add ⟨ld, n * 32 + i, _, rfl, rfl, hd, by (first | lia | omega), by (first | lia | omega), by rw [IL_len, putL_len]; (first | lia | omega), ?_⟩
    refine SL.nil ⟨_, _, ?_, Sub.refl _, rfl, ch.put (by simp), ?_⟩
    · refine .cons (by walk_at "lk") (.cons (by walk_at "lk") (.cons (by walk_at "lk") (.nil _)))
    · rw [put_at, IL_set, take_snoc (gI_get hi), putL_snoc, List.length_take, show (n * 32 + (i : Int)).toNat = 32 * n.toNat + min i xs.length by (first | lia | omega)]
  · refine jE2 fun S' ch hd => ?_
    refine ⟨⟨_, ch.2 _ _ (by simpa using hne) ho, rfl⟩, SL.nil ⟨rfl, ch, ?_⟩⟩
    rw [hd, IL_len, List.take_length]
theorem erase_entry_sf {n : Int} (hF : Facts C.KF) (hn : 2 ≤ C.n) (D : Dk C.KF S dk dd ld lg N data given) (h0 : 0 ≤ n) (h1 : n < 4) (hl : 128 ≤ data.length) (hz : data.length ≤ 1000) :
    SF C "erase_entry" [.ref dk, .int n] S (fun v S' => v = .none ∧ Chg [ld] S S' ∧ S'.σ ld = some (.list (IL (data.set (32 * n.toNat) 229)))) noX := by
  refine SFA.run hF hF.f_erase_entry.fn hn [("disk", .ref dk), ("number", .int n)] rfl rfl fun C' e1 kx e2 e3 hb => ?_
  rw [← e1] at D
  refine letPost ?_
  intro PR
  refine letFr ?_
  intro fr0
  refine SL.cons (SS.expr (SE.fn kx kx.F.f_need_writable (by kernel_rfl) ?_))
  walk_at "w"
  refine (need_writable_sf kx.F (kx.le (by decide)) D).thnE ?_
  intro S₁ x1
  refine SL.cons (SS.expr (SE.fn kx kx.F.f_raw_entry (by kernel_rfl) ?_))
  walk_at "w"
  refine (raw_entry_sf kx.F (kx.le (by decide)) (D.ext x1) h0 h1 hl hz).thnR ?_
  intro l2 S₂ _ x2 _
  have x12 := x1.trans x2
  have D' := D.ext x12
  refine SL.cons (SS.assign (SE.gint kx kx.F.i_FREE (by kernel_rfl) (ST.sub (SE.dData kx (by walk_at "lk") D' ?_))))
  walk_at "w"
  refine SE.gint kx kx.F.i_ENTRY_SIZE (by kernel_rfl) (.mul ?_ (by (first | lia | omega)) (by (first | lia | omega)))
  refine ⟨ld, n * 32, _, rfl, rfl, D'.ld, by (first | lia | omega), by (first | lia | omega), by rw [IL_len]; (first | lia | omega), ?_⟩
  refine SL.nil ⟨rfl, (x12.chg _).put (by simp), ?_⟩
  rw [put_at, IL_set, show (n * 32).toNat = 32 * n.toNat by (first | lia | omega)]
theorem free_entry_sf (hF : Facts C.KF) (hn : 1 ≤ C.n) (D : Dk C.KF S dk dd ld lg N data given) (hl : 128 ≤ data.length) (hz : data.length ≤ 1000) :
    SF C "free_entry" [.ref dk] S (fun v S' => Ext S S' ∧ (v = .none ∨ ∃ n : Nat, n < 4 ∧ v = .int n ∧ gI data (32 * n) = 229)) noX := by
  refine SFA.run hF hF.f_free_entry.fn hn [("disk", .ref dk)] rfl rfl fun C' e1 kx e2 e3 hb => ?_
  rw [← e1] at D
  refine letPost ?_
  intro PR
  refine letFr ?_
  intro fr0
  refine SL.cons (SS.for (kx.isV (by kernel_rfl)) (SI.range1 (kx.isB kx.F.b_range (by kernel_rfl) (by kernel_rfl)) (SE.dEntries kx (by walk_at "lk") D ⟨4, rfl, by (first | lia | omega), by (first | lia | omega), ?_⟩)))
  refine ⟨fun i fr' S' => fr' = ([("disk", .ref dk)] : Frm) ∧ Ext S S', ⟨rfl, .refl _⟩, ?_, ?_⟩
  · refine jT1 fun i S' ex hi => ?_
    have hi' : i < 4 := hi
    refine ⟨trivial, ?_⟩
    rintro fr₁ S₂ ⟨rfl, rfl⟩
    have D' := D.ext ex
    walk_at "w"
    refine SE.dData kx (by walk_at "lk") D' ?_
    walk_at "w"
    refine SE.gint kx kx.F.i_ENTRY_SIZE (by kernel_rfl) (.mul ?_ (by (first | lia | omega)) (by (first | lia | omega)))
    refine ⟨_, _, .inl D'.ld, by (first | lia | omega), by (first | lia | omega), IL_get (by (first | lia | omega)), ?_⟩
    refine SE.gint kx kx.F.i_FREE (by kernel_rfl) ?_
    by_cases q : gI data ((0 + (i : Int)) * 32).toNat = 229
    · refine ⟨true, congrArg some (decide_eq_true q), ?_⟩
      show SL _ _ _ _ _ _ _
      walk_at "w"
      refine ⟨ex, .inr ⟨i, hi', by simp, ?_⟩⟩
      rwa [show ((0 + (i : Int)) * 32).toNat = 32 * i by (first | lia | omega)] at q
    · refine ⟨false, congrArg some (decide_eq_false q), ?_⟩
      exact SL.nil (SL.nil ⟨_, _, .cons (by walk_at "lk") (.nil _), Sub.refl _, rfl, ex⟩)
  · refine jE1 fun S' ex => ?_
    refine ⟨trivial, ?_⟩
    walk_at "w"
    exact ⟨ex, .inl rfl⟩
end
end Mine
end
section
open PySem PySem.W PyProof.Rows PySem.Calls
set_option Elab.async false
set_option maxRecDepth 100000
set_option linter.unusedVariables false
namespace Mine
local macro_rules | `(tactic| walk_at "k") => `(tactic| (refine (?_ : _ = _); kernel_rfl!))
local macro_rules | `(tactic| walk_at "lk") => `(tactic| first | with_reducible exact lookup_here | (refine (?_ : LkAt 1 _ _); walk_at "k") | (refine (?_ : LkAt 2 _ _); walk_at "k") | (refine (?_ : LkAt 3 _ _); walk_at "k") | (refine (?_ : LkAt 4 _ _); walk_at "k") | (refine (?_ : LkAt 5 _ _); walk_at "k") | (refine (?_ : LkAt 6 _ _); walk_at "k") | (refine (?_ : LkAt 7 _ _); walk_at "k") | (refine (?_ : LkAt 8 _ _); walk_at "k") | (refine (?_ : LkAt 9 _ _); walk_at "k") | (refine (?_ : LkAt 10 _ _); walk_at "k") | (refine (?_ : LkAt 11 _ _); walk_at "k") | (refine (?_ : LkAt 12 _ _); walk_at "k") | (refine (?_ : LkAt 13 _ _); walk_at "k") | (refine (?_ : LkAt 14 _ _); walk_at "k") | (refine (?_ : LkAt 15 _ _); walk_at "k") | (refine (?_ : LkAt 16 _ _); walk_at "k"))
local macro_rules | `(tactic| walk_at "nm") => `(tactic| refine SE.name (by walk_at "lk") ?_ (by decide +kernel))
local macro_rules | `(tactic| walk_at "len") => `(tactic| refine SE.blt (id := "len") ((‹Kx _ _ _›).isB (‹Kx _ _ _›).F.b_len (by kernel_rfl) (by kernel_rfl)) ?_)
local macro_rules | `(tactic| walk_at "s") => `(tactic| first
  | ((with_reducible show SE _ _ (Expr.Name _ _) _ _ _); walk_at "nm")
  | with_reducible (first | refine SE.cInt ?_ | refine SE.cNone ?_ | refine SE.cBool ?_ | refine SE.binop ?_ | refine SE.cmp ?_ | refine SE.ifexp ?_ | refine SE.list ?_ | refine SE.tuple ?_ | refine SE.sub ?_ | refine SAs.nil ?_ | refine SAs.cons ?_ | refine SB.cmp ?_ | refine SB.not ?_ | refine SB.boolop ?_ | refine SAll.and ?_ | refine SAll.or ?_ | refine SAll.and_nil ?_ | refine SAll.or_nil ?_ | refine SS.ret ?_ | refine SS.ifs ?_ | refine SL.cons ?_)
  | ((with_reducible show SE _ _ (Expr.Call (Expr.Name (Str.ofString "len") _) _ _ _) _ _ _); walk_at "len"))
local macro_rules | `(tactic| walk_at "w") => `(tactic| ((try ((with_reducible show SL _ _ _ _ _ _ _); refine SL.cons ?_)); repeat walk_at "s"))

theorem SFA.thnB {C : Cx} {a : Addr} {args : List AV} {S : St} {P P' : AV → St → Prop} {X' : St → Prop} (H : SFA C a args S P noX) (h : ∀ v S', Bnd S' → P v S' → P' v S') : SFA C a args S P' X' :=
  fun c ρ s R vs I r k kx => H c ρ s R vs I r (fun v S' ρ' h' tk v' p G' I' => k v S' ρ' h' tk v' (h v S' I'.bnd p) G' I') KX.no
theorem SFA.thnEB {C : Cx} {a : Addr} {args : List AV} {S : St} {w : AV} {Q : St → Prop} {P' : AV → St → Prop} {X' : St → Prop} (H : SFA C a args S (fun v S' => v = w ∧ Q S') noX) (h : ∀ S', Bnd S' → Q S' → P' w S') : SFA C a args S P' X' := H.thnB fun _ S' b q => q.1 ▸ h S' b q.2
theorem SFA.thnEB2 {C : Cx} {a : Addr} {args : List AV} {S : St} {w : AV} {Q R : St → Prop} {P' : AV → St → Prop} {X' : St → Prop} (H : SFA C a args S (fun v S' => v = w ∧ Q S' ∧ R S') noX) (h : ∀ S', Bnd S' → Q S' → R S' → P' w S') : SFA C a args S P' X' := H.thnEB fun S' b q => h S' b q.1 q.2
theorem SFA.thnRB {C : Cx} {a : Addr} {args : List AV} {S : St} {Q R T : Loc → St → Prop} {P' : AV → St → Prop} {X' : St → Prop} (H : SFA C a args S (fun v S' => ∃ l, v = .ref l ∧ Q l S' ∧ R l S' ∧ T l S') noX) (h : ∀ l S', Bnd S' → Q l S' → R l S' → T l S' → P' (.ref l) S') : SFA C a args S P' X' := H.thnB fun _ S' b ⟨l, e, q, r, t⟩ => e ▸ h l S' b q r t
theorem SFA.thnAB {C : Cx} {a : Addr} {args : List AV} {S : St} {Q R : AV → St → Prop} {P' : AV → St → Prop} {X' : St → Prop} (H : SFA C a args S (fun v S' => Q v S' ∧ R v S') noX) (h : ∀ v S', Bnd S' → Q v S' → R v S' → P' v S') : SFA C a args S P' X' := H.thnB fun v S' b q => h v S' b q.1 q.2
theorem Ext.of_new {S S₁ S₂ : St} {L : List Loc} (x : Ext S S₁) (ch : Chg L S₁ S₂) (h : ∀ l ∈ L, S.nx ≤ l) (hb : Bnd S) : Ext S S₂ :=
  ⟨Nat.le_trans x.1 ch.1, fun l o e => ch.2 _ _ (fun q => absurd (hb l (by rw [e]; simp)) (Nat.not_lt.mpr (h l q))) (x.2 _ _ e)⟩
theorem En.set {K : Frag} {S : St} {b le de lr lp lp' : Loc} {u e sp c sp' c' : Int} {raw m m' : List Int} (E : En K S b le de lr lp u raw e sp c m) (h : S.σ lp' = some (.list (IL m'))) (hb : b ≤ lp') :
    En K (S.put de (.dict (enD u e sp' c' lr lp'))) b le de lr lp' u raw e sp' c' m' :=
  ⟨by rw [put_off (ne_of_ao E.hle E.hde (by first | exact ao_ld | exact ao_dl | exact ao_li | exact ao_il | exact ao_di | exact ao_id | exact ao_tl | exact ao_lt | (intro q; cases q)))]; exact E.hle, put_at, by rw [put_off (ne_of_ao E.hlr E.hde (by first | exact ao_ld | exact ao_dl | exact ao_li | exact ao_il | exact ao_di | exact ao_id | exact ao_tl | exact ao_lt | (intro q; cases q)))]; exact E.hlr, by rw [put_off (ne_of_ao h E.hde (by first | exact ao_ld | exact ao_dl | exact ao_li | exact ao_il | exact ao_di | exact ao_id | exact ao_tl | exact ao_lt | (intro q; cases q)))]; exact h, E.b1, hb, E.b3, E.b4⟩
theorem En.weak {K : Frag} {S : St} {b b' le de lr lp : Loc} {u e sp c : Int} {raw m : List Int} (E : En K S b le de lr lp u raw e sp c m) (h : b' ≤ b) : En K S b' le de lr lp u raw e sp c m :=
  ⟨E.hle, E.hde, E.hlr, E.hlp, Nat.le_trans h E.b1, Nat.le_trans h E.b2, Nat.le_trans h E.b3, Nat.le_trans h E.b4⟩
/-- an entry as it is read from its octets -/
noncomputable def EntAt (K : Frag) (S : St) (b : Loc) (v : AV) (os : List Int) : Prop := ∃ le de lr lp, v = .ref le ∧ En K S b le de lr lp (gI os 0) (seg os 1 11) 0 (gI os 13) (gI os 15) (seg os 16 16)
theorem EntAt.ext {K : Frag} {S S' : St} {b : Loc} {v : AV} {os : List Int} (h : EntAt K S b v os) (x : Ext S S') : EntAt K S' b v os := by
  obtain ⟨le, de, lr, lp, e, E⟩ := h; exact ⟨le, de, lr, lp, e, E.ext x⟩
section
variable {C : Cx} {S : St} {lm : Loc} {mem : List Int} {a : Int} {dk dd ld lg : Loc} {N : Int} {data given : List Int}
theorem En.attr_ {fr : Frm} {P : AV → St → Prop} {X : St → Prop} {b le de lr lp : Loc} {u e sp c : Int} {raw m : List Int} {x : Str} {np pos : Pos} {at_ : Str} {v : AV} (E : En C.KF S b le de lr lp u raw e sp c m) (hx : fr.lookup x = some (.ref le)) (hg : getOk C.KF (adr C.KF "Entry") at_ = true)
    (hv : (enD u e sp c lr lp).lookup at_ = some v) (h : P v S) (hd : (x == ("__debug__" : Str)) = false := by decide +kernel) : SE C fr (.Attribute (.Name x np) at_ pos) S P X := .attr (.name hx ⟨le, _, de, _, v, rfl, E.hle, E.hde, hg, hv, h⟩ hd)
theorem En.a_user {fr : Frm} {P : AV → St → Prop} {X : St → Prop} {b le de lr lp : Loc} {u e sp c : Int} {raw m : List Int} {x : Str} {np pos : Pos} {names : List (Str × NameKind)} {k : Nat} (E : En C.KF S b le de lr lp u raw e sp c m) (kx : Kx C names k) (hx : fr.lookup x = some (.ref le)) (h : P (.int u) S) (hd : (x == ("__debug__" : Str)) = false := by decide +kernel) : SE C fr (.Attribute (.Name x np) "user" pos) S P X := E.attr_ hx kx.F.g_Entry_user (v := .int u) (by kernel_rfl) h hd
theorem En.a_raw {fr : Frm} {P : AV → St → Prop} {X : St → Prop} {b le de lr lp : Loc} {u e sp c : Int} {raw m : List Int} {x : Str} {np pos : Pos} {names : List (Str × NameKind)} {k : Nat} (E : En C.KF S b le de lr lp u raw e sp c m) (kx : Kx C names k) (hx : fr.lookup x = some (.ref le)) (h : P (.ref lr) S) (hd : (x == ("__debug__" : Str)) = false := by decide +kernel) : SE C fr (.Attribute (.Name x np) "raw" pos) S P X := E.attr_ hx kx.F.g_Entry_raw (v := .ref lr) (by kernel_rfl) h hd
theorem En.a_extent {fr : Frm} {P : AV → St → Prop} {X : St → Prop} {b le de lr lp : Loc} {u e sp c : Int} {raw m : List Int} {x : Str} {np pos : Pos} {names : List (Str × NameKind)} {k : Nat} (E : En C.KF S b le de lr lp u raw e sp c m) (kx : Kx C names k) (hx : fr.lookup x = some (.ref le)) (h : P (.int e) S) (hd : (x == ("__debug__" : Str)) = false := by decide +kernel) : SE C fr (.Attribute (.Name x np) "extent" pos) S P X := E.attr_ hx kx.F.g_Entry_extent (v := .int e) (by kernel_rfl) h hd
theorem En.a_spare {fr : Frm} {P : AV → St → Prop} {X : St → Prop} {b le de lr lp : Loc} {u e sp c : Int} {raw m : List Int} {x : Str} {np pos : Pos} {names : List (Str × NameKind)} {k : Nat} (E : En C.KF S b le de lr lp u raw e sp c m) (kx : Kx C names k) (hx : fr.lookup x = some (.ref le)) (h : P (.int sp) S) (hd : (x == ("__debug__" : Str)) = false := by decide +kernel) : SE C fr (.Attribute (.Name x np) "spare" pos) S P X := E.attr_ hx kx.F.g_Entry_spare (v := .int sp) (by kernel_rfl) h hd
theorem En.a_count {fr : Frm} {P : AV → St → Prop} {X : St → Prop} {b le de lr lp : Loc} {u e sp c : Int} {raw m : List Int} {x : Str} {np pos : Pos} {names : List (Str × NameKind)} {k : Nat} (E : En C.KF S b le de lr lp u raw e sp c m) (kx : Kx C names k) (hx : fr.lookup x = some (.ref le)) (h : P (.int c) S) (hd : (x == ("__debug__" : Str)) = false := by decide +kernel) : SE C fr (.Attribute (.Name x np) "count" pos) S P X := E.attr_ hx kx.F.g_Entry_count (v := .int c) (by kernel_rfl) h hd
theorem En.a_map {fr : Frm} {P : AV → St → Prop} {X : St → Prop} {b le de lr lp : Loc} {u e sp c : Int} {raw m : List Int} {x : Str} {np pos : Pos} {names : List (Str × NameKind)} {k : Nat} (E : En C.KF S b le de lr lp u raw e sp c m) (kx : Kx C names k) (hx : fr.lookup x = some (.ref le)) (h : P (.ref lp) S) (hd : (x == ("__debug__" : Str)) = false := by decide +kernel) : SE C fr (.Attribute (.Name x np) "map" pos) S P X := E.attr_ hx kx.F.g_Entry_map (v := .ref lp) (by kernel_rfl) h hd
theorem entry_octets_sf {b le de lr lp : Loc} {u sp c : Int} {raw m : List Int} (hF : Facts C.KF) (hn : 3 ≤ C.n) (D : Dk C.KF S dk dd ld lg N data given) (hN : N ≤ 256) (E : En C.KF S b le de lr lp u raw 0 sp c m) (hr : raw.length = 11) (hm : m.length = 16) :
    SF C "entry_octets" [.ref dk, .ref le] S (fun v S' => NewL S S' v ([u] ++ raw ++ [0, sp, 0, c] ++ m)) noX := by
  refine SFA.run hF hF.f_entry_octets.fn hn [("disk", .ref dk), ("entry", .ref le)] rfl rfl fun C' e1 kx e2 e3 hb => ?_
  rw [← e1] at D E
  refine letPost ?_
  intro PR
  refine letFr ?_
  intro fr0
  refine SL.cons (SS.assign ?_)
  walk_at "w"
  refine E.a_user kx (by walk_at "lk") ?_
  walk_at "w"
  refine ⟨by simp, ?_⟩
  have hb1 : Bnd (S.add (.list [.int u])) := hb.add
  have x1 : Ext S (S.add (.list [.int u])) := (Ext.refl _).add hb
  refine (E.ext x1).a_raw kx (by walk_at "lk") (.cat add_at (x1.2 _ _ E.hlr) (by simp [hr]) ?_)
  generalize hS2 : ((S.add (.list [.int u])).add (.list ([.int u] ++ IL raw))) = S2
  have x2 : Ext S S2 := hS2 ▸ x1.add hb1
  have l2 : S2.σ (S.add (.list [.int u])).nx = some (.list (IL ([u] ++ raw))) := by rw [← hS2, add_at]; simp [IL]
  generalize (S.add (.list [.int u])).nx = p2 at l2 ⊢
  refine ST.name (kx.isV (by kernel_rfl)) (SL.bnd fun hb2 => ?_)
  refine SL.cons (SS.assign ?_)
  walk_at "w"
  have E2 := E.ext x2
  refine E2.a_extent kx (by walk_at "lk") ?_
  refine SE.gint kx kx.F.i_EXTENTS_LOW (by kernel_rfl) (.mod (by (first | lia | omega)) ?_)
  walk_at "w"
  refine E2.a_spare kx (by walk_at "lk") ?_
  walk_at "w"
  refine E2.a_extent kx (by walk_at "lk") ?_
  refine SE.gint kx kx.F.i_EXTENTS_LOW (by kernel_rfl) (.div (by (first | lia | omega)) ?_)
  walk_at "w"
  refine E2.a_count kx (by walk_at "lk") ?_
  walk_at "w"
  refine ⟨by simp, .cat (add_off hb2 l2) add_at (by simp [hr]) ?_⟩
  have hb3 : Bnd (S2.add (.list [.int (0 % 32), .int sp, .int (0 / 32), .int c])) := hb2.add
  have x3 : Ext S (S2.add (.list [.int (0 % 32), .int sp, .int (0 / 32), .int c])) := x2.add hb2
  generalize hS3 : S2.add (.list [.int (0 % 32), .int sp, .int (0 / 32), .int c]) = S3 at hb3 x3 ⊢
  generalize hS4 : S3.add (.list (IL ([u] ++ raw) ++ [.int (0 % 32), .int sp, .int (0 / 32), .int c])) = S4
  have x4 : Ext S S4 := hS4 ▸ x3.add hb3
  have l4 : S4.σ S3.nx = some (.list (IL ([u] ++ raw ++ [0, sp, 0, c]))) := by rw [← hS4, add_at]; simp [IL]
  generalize S3.nx = p4 at l4 ⊢
  refine ST.name (kx.isV (by kernel_rfl)) ?_
  refine SL.cons (SS.ret ?_)
  walk_at "w"
  refine SE.fn kx kx.F.f_map_octets (by kernel_rfl) ?_
  walk_at "w"
  refine (E.ext x4).a_map kx (by walk_at "lk") ?_
  walk_at "w"
  refine (map_octets_sf kx.F (kx.le (by decide)) (D.ext x4) hN (x4.2 _ _ E.hlp) (by (first | lia | omega))).thnRB ?_
  intro l5 S5 hb5 _ x5 e5
  refine .cat (x5.2 _ _ l4) e5 (by simp [hr, hm]) ?_
  refine ⟨_, rfl, (x4.trans x5).1, (x4.trans x5).add hb5, ?_⟩
  rw [add_at]
  simp [IL]
end
end Mine
end
section
open PySem PySem.W PyProof.Rows PySem.Calls
set_option Elab.async false
set_option maxRecDepth 100000
set_option linter.unusedVariables false
namespace Mine
local macro_rules | `(tactic| walk_at "k") => `(tactic| (refine (?_ : _ = _); kernel_rfl!))
local macro_rules | `(tactic| walk_at "lk") => `(tactic| first | with_reducible exact lookup_here | (refine (?_ : LkAt 1 _ _); walk_at "k") | (refine (?_ : LkAt 2 _ _); walk_at "k") | (refine (?_ : LkAt 3 _ _); walk_at "k") | (refine (?_ : LkAt 4 _ _); walk_at "k") | (refine (?_ : LkAt 5 _ _); walk_at "k") | (refine (?_ : LkAt 6 _ _); walk_at "k") | (refine (?_ : LkAt 7 _ _); walk_at "k") | (refine (?_ : LkAt 8 _ _); walk_at "k") | (refine (?_ : LkAt 9 _ _); walk_at "k") | (refine (?_ : LkAt 10 _ _); walk_at "k") | (refine (?_ : LkAt 11 _ _); walk_at "k") | (refine (?_ : LkAt 12 _ _); walk_at "k") | (refine (?_ : LkAt 13 _ _); walk_at "k") | (refine (?_ : LkAt 14 _ _); walk_at "k") | (refine (?_ : LkAt 15 _ _); walk_at "k") | (refine (?_ : LkAt 16 _ _); walk_at "k"))
local macro_rules | `(tactic| walk_at "nm") => `(tactic| refine SE.name (by walk_at "lk") ?_ (by decide +kernel))
local macro_rules | `(tactic| walk_at "len") => `(tactic| refine SE.blt (id := "len") ((‹Kx _ _ _›).isB (‹Kx _ _ _›).F.b_len (by kernel_rfl) (by kernel_rfl)) ?_)
local macro_rules | `(tactic| walk_at "s") => `(tactic| first
  | ((with_reducible show SE _ _ (Expr.Name _ _) _ _ _); walk_at "nm")
  | with_reducible (first | refine SE.cInt ?_ | refine SE.cNone ?_ | refine SE.cBool ?_ | refine SE.binop ?_ | refine SE.cmp ?_ | refine SE.ifexp ?_ | refine SE.list ?_ | refine SE.tuple ?_ | refine SE.sub ?_ | refine SAs.nil ?_ | refine SAs.cons ?_ | refine SB.cmp ?_ | refine SB.not ?_ | refine SB.boolop ?_ | refine SAll.and ?_ | refine SAll.or ?_ | refine SAll.and_nil ?_ | refine SAll.or_nil ?_ | refine SS.ret ?_ | refine SS.ifs ?_ | refine SL.cons ?_)
  | ((with_reducible show SE _ _ (Expr.Call (Expr.Name (Str.ofString "len") _) _ _ _) _ _ _); walk_at "len"))
local macro_rules | `(tactic| walk_at "w") => `(tactic| ((try ((with_reducible show SL _ _ _ _ _ _ _); refine SL.cons ?_)); repeat walk_at "s"))

section
variable {C : Cx} {S : St} {lm : Loc} {mem : List Int} {a : Int} {dk dd ld lg : Loc} {N : Int} {data given : List Int}
theorem dput_spare {u e sp c v : Int} {lr lp : Loc} : dput "spare" (.int v) (enD u e sp c lr lp) = enD u e v c lr lp := by kernel_rfl
theorem dput_count {u e sp c v : Int} {lr lp : Loc} : dput "count" (.int v) (enD u e sp c lr lp) = enD u e sp v lr lp := by kernel_rfl
theorem dput_map {u e sp c : Int} {lr lp lp' : Loc} : dput "map" (.ref lp') (enD u e sp c lr lp) = enD u e sp c lr lp' := by kernel_rfl
theorem entry_from_sf {lo : Loc} {os : List Int} (hF : Facts C.KF) (hn : 3 ≤ C.n) (D : Dk C.KF S dk dd ld lg N data given) (hN : N ≤ 256) (ho : S.σ lo = some (.list (IL os))) (hl : os.length = 32) (h12 : gI os 0 ≠ 229 → gI os 12 = 0) (h14 : gI os 0 ≠ 229 → gI os 14 = 0) :
    SF C "entry_from" [.ref dk, .ref lo] S (fun v S' => Ext S S' ∧ if gI os 0 = 229 then v = .none else EntAt C.KF S' S.nx v os) noX := by
  refine SFA.run hF hF.f_entry_from.fn hn [("disk", .ref dk), ("octets", .ref lo)] rfl rfl fun C' e1 kx e2 e3 hb => ?_
  rw [← e1] at D ⊢
  refine letPost ?_
  intro PR
  refine letFr ?_
  intro fr0
  walk_at "w"
  refine ⟨_, _, .inl ho, by (first | lia | omega), by (first | lia | omega), IL_get (by simp; (first | lia | omega)), ?_⟩
  refine SE.gint kx kx.F.i_FREE (by kernel_rfl) ?_
  by_cases q : gI os 0 = 229
  · refine ⟨true, congrArg some (decide_eq_true q), ?_⟩
    show SL _ _ _ _ _ _ _
    walk_at "w"
    exact ⟨.refl _, by rw [if_pos q]⟩
  refine ⟨false, congrArg some (decide_eq_false q), ?_⟩
  refine SL.nil ?_
  refine SL.cons (SS.assign (SE.new (kx.g (by kernel_rfl)) kx.F.c_Entry.glob kx.F.c_Entry.keep ?_ (hd := by decide +kernel)))
  walk_at "w"
  refine ⟨_, _, .inl ho, by (first | lia | omega), by (first | lia | omega), IL_get (by simp; (first | lia | omega)), ?_⟩
  refine SAs.cons (SE.slice ?_)
  walk_at "w"
  refine SE.gint kx kx.F.i_NAME_SIZE (by kernel_rfl) (.add ⟨lo, 1, 1 + 11, _, rfl, rfl, rfl, ho, by rw [IL_len]; (first | lia | omega), by (first | lia | omega), by (first | lia | omega), by rw [IL_len, hl]; decide, ?_⟩)
  have hsg : List.take ((1 + 11 : Int).toNat - (1 : Int).toNat) (List.drop (1 : Int).toNat (IL os)) = IL (seg os 1 11) := by
    simp [IL, seg]
  rw [hsg]
  have x1 : Ext S (S.add (.list (IL (seg os 1 11)))) := (Ext.refl _).add hb
  have l1 : (S.add (.list (IL (seg os 1 11)))).σ S.nx = some (.list (IL (seg os 1 11))) := add_at
  generalize S.add (.list (IL (seg os 1 11))) = S1 at x1 l1 ⊢
  walk_at "w"
  refine ⟨_, _, .inl (x1.2 _ _ ho), by (first | lia | omega), by (first | lia | omega), IL_get (by simp; (first | lia | omega)), ?_⟩
  refine SE.gint kx kx.F.i_EXTENTS_LOW (by kernel_rfl) ?_
  rw [show gI os (14 : Int).toNat = 0 from h14 q]
  refine .mul ?_ (by (first | lia | omega)) (by (first | lia | omega))
  walk_at "w"
  refine ⟨_, _, .inl (x1.2 _ _ ho), by (first | lia | omega), by (first | lia | omega), IL_get (by simp; (first | lia | omega)), ?_⟩
  rw [show gI os (12 : Int).toNat = 0 from h12 q]
  refine SE.gint kx kx.F.i_EXTENTS_LOW (by kernel_rfl) (.mod (by (first | lia | omega)) (.add ?_))
  walk_at "w"
  refine (entry_new kx.F (kx.le (by decide)) l1 (by rw [seg_len (by (first | lia | omega))]; (first | lia | omega))).thnB ?_
  rintro v S2 hb2 ⟨x2, le, de, lr, lp, rfl, E⟩
  rw [show (0 * 32 + 0 % 32 : Int) = 0 by decide] at E
  have x12 := x1.trans x2
  have E : En C'.KF S2 S.nx le de lr lp (gI os 0) (seg os 1 11) 0 0 0 [] := E.weak x1.1
  refine ST.name (kx.isV (by kernel_rfl)) ?_
  -- spare
  refine SL.cons (SS.setAttr (by walk_at "lk") ?_)
  walk_at "w"
  refine ⟨_, _, .inl (x12.2 _ _ ho), by (first | lia | omega), by (first | lia | omega), IL_get (by simp; (first | lia | omega)), ?_⟩
  refine ⟨_, _, _, E.hle, E.hde, kx.F.s_Entry_spare, by simp [enD], ?_⟩
  rw [dput_spare]
  have E3 := E.set (sp' := gI os 13) (c' := 0) E.hlp E.b2
  have x3 : Ext S (S2.put de (.dict (enD (gI os 0) 0 (gI os 13) 0 lr lp))) := x12.of_new ((Chg.refl _ _).put (L := [de]) (by simp)) (by simpa using E.b1) hb
  generalize hS3 : S2.put de (.dict (enD (gI os 0) 0 (gI os 13) 0 lr lp)) = S3 at E3 x3
  rw [show S2.put de (.dict (enD (gI os 0) 0 (gI os (13 : Int).toNat) 0 lr lp)) = S3 from hS3]
  -- count
  refine SL.cons (SS.setAttr (by walk_at "lk") ?_)
  walk_at "w"
  refine ⟨_, _, .inl (x3.2 _ _ ho), by (first | lia | omega), by (first | lia | omega), IL_get (by simp; (first | lia | omega)), ?_⟩
  refine ⟨_, _, _, E3.hle, E3.hde, kx.F.s_Entry_count, by simp [enD], ?_⟩
  rw [dput_count]
  have E4 := E3.set (sp' := gI os 13) (c' := gI os 15) E3.hlp E3.b2
  have x4 : Ext S (S3.put de (.dict (enD (gI os 0) 0 (gI os 13) (gI os 15) lr lp))) := x3.of_new ((Chg.refl _ _).put (L := [de]) (by simp)) (by simpa using E.b1) hb
  generalize hS4 : S3.put de (.dict (enD (gI os 0) 0 (gI os 13) (gI os 15) lr lp)) = S4 at E4 x4
  rw [show S3.put de (.dict (enD (gI os 0) 0 (gI os 13) (gI os (15 : Int).toNat) lr lp)) = S4 from hS4]
  -- map
  refine SL.cons (SS.setAttr (by walk_at "lk") (SE.fn kx kx.F.f_map_of (by kernel_rfl) ?_))
  walk_at "w"
  refine (map_of_sf kx.F (kx.le (by decide)) (D.ext x4) hN (x4.2 _ _ ho) hl).thnR ?_
  intro l5 S5 hl5 x5 e5
  have E5 := E4.ext x5
  refine ⟨_, _, _, E5.hle, E5.hde, kx.F.s_Entry_map, by simp [enD], ?_⟩
  rw [dput_map]
  have E6 := E5.set (sp' := gI os 13) (c' := gI os 15) e5 (Nat.le_trans x4.1 hl5)
  have x6 : Ext S (S5.put de (.dict (enD (gI os 0) 0 (gI os 13) (gI os 15) lr l5))) := (x4.trans x5).of_new ((Chg.refl _ _).put (L := [de]) (by simp)) (by simpa using E.b1) hb
  refine SL.cons (SS.ret ?_)
  walk_at "w"
  exact ⟨x6, by rw [if_neg q]; exact ⟨le, de, lr, l5, rfl, E6⟩⟩
theorem read_entry_sf {n : Nat} (hF : Facts C.KF) (hn : 4 ≤ C.n) (D : Dk C.KF S dk dd ld lg N data given) (hN : N ≤ 256) (h1 : n < 4) (hl : 128 ≤ data.length) (hz : data.length ≤ 1000) (hd : gI data (32 * n) ≠ 229 → gI data (32 * n + 12) = 0 ∧ gI data (32 * n + 14) = 0) :
    SF C "read_entry" [.ref dk, .int n] S (fun v S' => Ext S S' ∧ if gI data (32 * n) = 229 then v = .none else EntAt C.KF S' S.nx v (seg data (32 * n) 32)) noX := by
  refine SFA.run hF hF.f_read_entry.fn hn [("disk", .ref dk), ("number", .int n)] rfl rfl fun C' e1 kx e2 e3 hb => ?_
  rw [← e1] at D ⊢
  refine letPost ?_
  intro PR
  refine letFr ?_
  intro fr0
  refine SL.cons (SS.ret (SE.fn kx kx.F.f_entry_from (by kernel_rfl) ?_))
  walk_at "w"
  refine SE.fn kx kx.F.f_raw_entry (by kernel_rfl) ?_
  walk_at "w"
  refine (raw_entry_sf kx.F (kx.le (by decide)) D (by (first | lia | omega)) (by (first | lia | omega)) hl hz).thnR ?_
  intro l1 S₁ _ x1 e1
  rw [show (n : Int).toNat = n by (first | lia | omega)] at e1
  walk_at "w"
  have g0 : gI (seg data (32 * n) 32) 0 = gI data (32 * n) := gI_seg (by (first | lia | omega))
  have g12 : gI (seg data (32 * n) 32) 12 = gI data (32 * n + 12) := gI_seg (by (first | lia | omega))
  have g14 : gI (seg data (32 * n) 32) 14 = gI data (32 * n + 14) := gI_seg (by (first | lia | omega))
  refine (entry_from_sf kx.F (kx.le (by decide)) (D.ext x1) hN e1 (seg_len (by (first | lia | omega))) (by rw [g0, g12]; exact fun q => (hd q).1) (by rw [g0, g14]; exact fun q => (hd q).2)).thnA ?_
  intro v S₂ x2 h
  refine ⟨x1.trans x2, ?_⟩
  rw [g0] at h
  split at h
  · rename_i q; rw [if_pos q]; exact h
  · rename_i q
    rw [if_neg q]
    obtain ⟨le, de, lr, lp, rfl, E⟩ := h
    exact ⟨le, de, lr, lp, rfl, E.weak x1.1⟩
end
end Mine
end
section
open PySem PySem.W PyProof.Rows PySem.Calls
set_option Elab.async false
set_option maxRecDepth 100000
set_option linter.unusedVariables false
namespace Mine
local macro_rules | `(tactic| walk_at "k") => `(tactic| (refine (?_ : _ = _); kernel_rfl!))
local macro_rules | `(tactic| walk_at "lk") => `(tactic| first | with_reducible exact lookup_here | (refine (?_ : LkAt 1 _ _); walk_at "k") | (refine (?_ : LkAt 2 _ _); walk_at "k") | (refine (?_ : LkAt 3 _ _); walk_at "k") | (refine (?_ : LkAt 4 _ _); walk_at "k") | (refine (?_ : LkAt 5 _ _); walk_at "k") | (refine (?_ : LkAt 6 _ _); walk_at "k") | (refine (?_ : LkAt 7 _ _); walk_at "k") | (refine (?_ : LkAt 8 _ _); walk_at "k") | (refine (?_ : LkAt 9 _ _); walk_at "k") | (refine (?_ : LkAt 10 _ _); walk_at "k") | (refine (?_ : LkAt 11 _ _); walk_at "k") | (refine (?_ : LkAt 12 _ _); walk_at "k") | (refine (?_ : LkAt 13 _ _); walk_at "k") | (refine (?_ : LkAt 14 _ _); walk_at "k") | (refine (?_ : LkAt 15 _ _); walk_at "k") | (refine (?_ : LkAt 16 _ _); walk_at "k"))
local macro_rules | `(tactic| walk_at "nm") => `(tactic| refine SE.name (by walk_at "lk") ?_ (by decide +kernel))
local macro_rules | `(tactic| walk_at "len") => `(tactic| refine SE.blt (id := "len") ((‹Kx _ _ _›).isB (‹Kx _ _ _›).F.b_len (by kernel_rfl) (by kernel_rfl)) ?_)
local macro_rules | `(tactic| walk_at "s") => `(tactic| first
  | ((with_reducible show SE _ _ (Expr.Name _ _) _ _ _); walk_at "nm")
  | with_reducible (first | refine SE.cInt ?_ | refine SE.cNone ?_ | refine SE.cBool ?_ | refine SE.binop ?_ | refine SE.cmp ?_ | refine SE.ifexp ?_ | refine SE.list ?_ | refine SE.tuple ?_ | refine SE.sub ?_ | refine SAs.nil ?_ | refine SAs.cons ?_ | refine SB.cmp ?_ | refine SB.not ?_ | refine SB.boolop ?_ | refine SAll.and ?_ | refine SAll.or ?_ | refine SAll.and_nil ?_ | refine SAll.or_nil ?_ | refine SS.ret ?_ | refine SS.ifs ?_ | refine SL.cons ?_)
  | ((with_reducible show SE _ _ (Expr.Call (Expr.Name (Str.ofString "len") _) _ _ _) _ _ _); walk_at "len"))
local macro_rules | `(tactic| walk_at "w") => `(tactic| ((try ((with_reducible show SL _ _ _ _ _ _ _); refine SL.cons ?_)); repeat walk_at "s"))

theorem EntAt.weak {K : Frag} {S : St} {b b' : Loc} {v : AV} {os : List Int} (h : EntAt K S b v os) (hb : b' ≤ b) : EntAt K S b' v os := by
  obtain ⟨le, de, lr, lp, e, E⟩ := h; exact ⟨le, de, lr, lp, e, E.weak hb⟩
theorem EntAt.put {K : Frag} {S : St} {b : Loc} {v : AV} {os : List Int} {l : Loc} {o : AO} (h : EntAt K S b v os) (hl : l < b) : EntAt K (S.put l o) b v os := by
  obtain ⟨le, de, lr, lp, e, E⟩ := h
  have ne : ∀ k, b ≤ k → k ≠ l := fun k hk q => absurd hl (by rw [← q]; exact Nat.not_lt.mpr hk)
  exact ⟨le, de, lr, lp, e, by rw [put_off (ne _ E.b4)]; exact E.hle, by rw [put_off (ne _ E.b1)]; exact E.hde, by rw [put_off (ne _ E.b3)]; exact E.hlr, by rw [put_off (ne _ E.b2)]; exact E.hlp, E.b1, E.b2, E.b3, E.b4⟩
noncomputable def PairAt (K : Frag) (S : St) (b : Loc) (data : List Int) (v : AV) (n : Nat) : Prop := ∃ lt ve, v = .ref lt ∧ b ≤ lt ∧ S.σ lt = some (.tuple [.int n, ve]) ∧ EntAt K S b ve (seg data (32 * n) 32)
theorem PairAt.ext {K : Frag} {S S' : St} {b : Loc} {data : List Int} {v : AV} {n : Nat} (h : PairAt K S b data v n) (x : Ext S S') : PairAt K S' b data v n := by
  obtain ⟨lt, ve, e, hb, ht, E⟩ := h; exact ⟨lt, ve, e, hb, x.2 _ _ ht, E.ext x⟩
theorem PairAt.put {K : Frag} {S : St} {b : Loc} {data : List Int} {v : AV} {n : Nat} {l : Loc} {o : AO} (h : PairAt K S b data v n) (hl : l < b) : PairAt K (S.put l o) b data v n := by
  obtain ⟨lt, ve, e, hb, ht, E⟩ := h
  exact ⟨lt, ve, e, hb, by rw [put_off (fun q => absurd hl (by rw [← q]; exact Nat.not_lt.mpr hb))]; exact ht, E.put hl⟩
theorem PairAt.weak {K : Frag} {S : St} {b b' : Loc} {data : List Int} {v : AV} {n : Nat} (h : PairAt K S b data v n) (hb' : b' ≤ b) : PairAt K S b' data v n := by
  obtain ⟨lt, ve, e, hb, ht, E⟩ := h; exact ⟨lt, ve, e, Nat.le_trans hb' hb, ht, E.weak hb'⟩
noncomputable def Ents (K : Frag) (S : St) (b : Loc) (data : List Int) (vs : List AV) (ns : List Nat) : Prop := vs.length = ns.length ∧ ∀ (i : Nat) (v : AV) (n : Nat), vs[i]? = some v → ns[i]? = some n → PairAt K S b data v n
theorem Ents.ext {K : Frag} {S S' : St} {b : Loc} {data : List Int} {vs : List AV} {ns : List Nat} (h : Ents K S b data vs ns) (x : Ext S S') : Ents K S' b data vs ns := ⟨h.1, fun i v n e1 e2 => (h.2 i v n e1 e2).ext x⟩
theorem Ents.put {K : Frag} {S : St} {b : Loc} {data : List Int} {vs : List AV} {ns : List Nat} {l : Loc} {o : AO} (h : Ents K S b data vs ns) (hl : l < b) : Ents K (S.put l o) b data vs ns := ⟨h.1, fun i v n e1 e2 => (h.2 i v n e1 e2).put hl⟩
theorem Ents.weak {K : Frag} {S : St} {b b' : Loc} {data : List Int} {vs : List AV} {ns : List Nat} (h : Ents K S b data vs ns) (hb : b' ≤ b) : Ents K S b' data vs ns := ⟨h.1, fun i v n e1 e2 => (h.2 i v n e1 e2).weak hb⟩
theorem Ents.nil {K : Frag} {S : St} {b : Loc} {data : List Int} : Ents K S b data [] [] := ⟨rfl, fun i v n e => by simp at e⟩
theorem Ents.snoc {K : Frag} {S : St} {b : Loc} {data : List Int} {vs : List AV} {ns : List Nat} {v : AV} {n : Nat} (h : Ents K S b data vs ns) (p : PairAt K S b data v n) : Ents K S b data (vs ++ [v]) (ns ++ [n]) := by
  refine ⟨by simp [h.1], fun i u k e1 e2 => ?_⟩
  by_cases q : i < vs.length
  · rw [List.getElem?_append_left q] at e1
    rw [List.getElem?_append_left (by rw [← h.1]; exact q)] at e2
    exact h.2 i u k e1 e2
  · rw [List.getElem?_append_right (Nat.not_lt.mp q)] at e1
    rw [List.getElem?_append_right (by rw [← h.1]; exact Nat.not_lt.mp q)] at e2
    have hi : i - vs.length = 0 := by
      have := (List.getElem?_eq_some_iff.mp e1).1
      simp at this; (first | lia | omega)
    rw [hi] at e1
    rw [← h.1, hi] at e2
    cases e1; cases e2; exact p
noncomputable def liveN (data : List Int) (i : Nat) : List Nat := (List.range i).filter fun n => decide (gI data (32 * n) ≠ 229)
theorem liveN_succ {data : List Int} {i : Nat} : liveN data (i + 1) = liveN data i ++ (if gI data (32 * i) ≠ 229 then [i] else []) := by
  unfold liveN
  rw [List.range_succ, List.filter_append]
  congr 1
  by_cases q : gI data (32 * i) = 229 <;> simp [q]
noncomputable def DirOk (data : List Int) : Prop := ∀ n, n < 4 → gI data (32 * n) ≠ 229 → gI data (32 * n + 12) = 0 ∧ gI data (32 * n + 14) = 0
section
variable {C : Cx} {S : St} {lm : Loc} {mem : List Int} {a : Int} {dk dd ld lg : Loc} {N : Int} {data given : List Int}
/-- found.append((number, entry)) -/
theorem live_entries_sf (hF : Facts C.KF) (hn : 5 ≤ C.n) (D : Dk C.KF S dk dd ld lg N data given) (hN : N ≤ 256) (hl : 128 ≤ data.length) (hz : data.length ≤ 1000) (hd : DirOk data) :
    SF C "live_entries" [.ref dk] S (fun v S' => ∃ lf vs, v = .ref lf ∧ S.nx ≤ lf ∧ Ext S S' ∧ S'.σ lf = some (.list vs) ∧ Ents C.KF S' S.nx data vs (liveN data 4)) noX := by
  refine SFA.run hF hF.f_live_entries.fn hn [("disk", .ref dk)] rfl rfl fun C' e1 kx e2 e3 hb => ?_
  rw [← e1] at D ⊢
  refine letPost ?_
  intro PR
  refine letFr ?_
  intro fr0
  refine SL.cons (SS.assign ?_)
  walk_at "w"
  refine ⟨by simp, ST.name (kx.isV (by kernel_rfl)) ?_⟩
  refine SL.cons (SS.for (kx.isV (by kernel_rfl)) (SI.range1 (kx.isB kx.F.b_range (by kernel_rfl) (by kernel_rfl)) (SE.dEntries kx (by walk_at "lk") (D.ext ((Ext.refl S).add hb)) ⟨4, rfl, by (first | lia | omega), by (first | lia | omega), ?_⟩)))
  refine ⟨fun i fr' S' => fr' = ([("found", .ref S.nx), ("disk", .ref dk)] : Frm) ∧ Ext S S' ∧ S.nx + 1 ≤ S'.nx ∧ ∃ vs, S'.σ S.nx = some (.list vs) ∧ vs.length ≤ i ∧ Ents C'.KF S' (S.nx + 1) data vs (liveN data i), ⟨rfl, (Ext.refl S).add hb, Nat.le_refl _, [], add_at, Nat.le_refl _, .nil⟩, ?_, ?_⟩
  · rintro i fr' S' ⟨rfl, ex, hnx, vs, ev, hvl, en⟩ hi
    have hi' : i < 4 := hi
    refine ⟨trivial, ?_⟩
    rintro fr₁ S₂ ⟨rfl, rfl⟩
    refine SL.cons (SS.assign (SE.fn kx kx.F.f_read_entry (by kernel_rfl) ?_))
    walk_at "w"
    have e0 : (0 : Int) + (i : Int) = (i : Int) := by (first | lia | omega)
    rw [e0]
    refine (read_entry_sf kx.F (kx.le (by decide)) (D.ext ex) hN hi' hl hz (hd i hi')).thnAB ?_
    intro v S3 hb3 x3 h
    refine ST.name (kx.isV (by kernel_rfl)) ?_
    refine SL.cons (SS.ifs ?_)
    walk_at "w"
    by_cases q : gI data (32 * i) = 229
    · rw [if_pos q] at h
      subst h
      refine .inr ⟨rfl, ?_⟩
      refine SL.nil (SL.nil ⟨_, _, .cons (by walk_at "lk") (.cons (by walk_at "lk") (.nil _)), Sub.refl _, rfl, ex.trans x3, Nat.le_trans hnx x3.1, vs, x3.2 _ _ ev, by (first | lia | omega), ?_⟩)
      rw [liveN_succ, if_neg (by simpa using q), List.append_nil]; exact en.ext x3
    · rw [if_neg q] at h
      obtain ⟨le, de, lr, lp, rfl, E⟩ := id h
      refine .inr ⟨rfl, ?_⟩
      show SL _ _ _ _ _ _ _
      refine SL.cons (SS.expr (SE.meth lm_append ?_))
      walk_at "w"
      refine ⟨S.nx, vs, rfl, x3.2 _ _ ev, ?_⟩
      walk_at "w"
      refine ⟨by simp, ?_⟩
      walk_at "w"
      have x4 : Ext S3 (S3.add (.tuple [.int (i : Int), .ref le])) := (Ext.refl _).add hb3
      refine SC.append (x4.2 _ _ (x3.2 _ _ ev)) (by (first | lia | omega)) ?_
      have hlt : S.nx < S3.nx := Nat.lt_of_lt_of_le hnx x3.1
      have p : PairAt C'.KF (S3.add (.tuple [.int (i : Int), .ref le])) (S.nx + 1) data (.ref S3.nx) i := ⟨S3.nx, .ref le, rfl, hlt, add_at, (h.weak (Nat.le_trans hnx (Nat.le_refl _))).ext x4⟩
      refine SL.nil (SL.nil ⟨_, _, .cons (by walk_at "lk") (.cons (by walk_at "lk") (.nil _)), Sub.refl _, rfl, (ex.trans (x3.trans x4)).of_new ((Chg.refl _ _).put (L := [S.nx]) (by simp)) (by simp) hb, Nat.le_trans hnx (x3.trans x4).1, _, put_at, by simp; (first | lia | omega), ?_⟩)
      rw [liveN_succ, if_pos q]
      exact ((((en.ext x3).ext x4).snoc p)).put (Nat.lt_succ_self _)
  · rintro fr' S' ⟨rfl, ex, hnx, vs, ev, hvl, en⟩
    refine ⟨trivial, ?_⟩
    walk_at "w"
    exact ⟨S.nx, vs, rfl, Nat.le_refl _, ex, ev, en.weak (Nat.le_succ _)⟩
end
end Mine
end
section
open PySem PySem.W PyProof.Rows PySem.Calls
set_option Elab.async false
set_option maxRecDepth 100000
set_option linter.unusedVariables false
namespace Mine
local macro_rules | `(tactic| walk_at "k") => `(tactic| (refine (?_ : _ = _); kernel_rfl!))
local macro_rules | `(tactic| walk_at "lk") => `(tactic| first | with_reducible exact lookup_here | (refine (?_ : LkAt 1 _ _); walk_at "k") | (refine (?_ : LkAt 2 _ _); walk_at "k") | (refine (?_ : LkAt 3 _ _); walk_at "k") | (refine (?_ : LkAt 4 _ _); walk_at "k") | (refine (?_ : LkAt 5 _ _); walk_at "k") | (refine (?_ : LkAt 6 _ _); walk_at "k") | (refine (?_ : LkAt 7 _ _); walk_at "k") | (refine (?_ : LkAt 8 _ _); walk_at "k") | (refine (?_ : LkAt 9 _ _); walk_at "k") | (refine (?_ : LkAt 10 _ _); walk_at "k") | (refine (?_ : LkAt 11 _ _); walk_at "k") | (refine (?_ : LkAt 12 _ _); walk_at "k") | (refine (?_ : LkAt 13 _ _); walk_at "k") | (refine (?_ : LkAt 14 _ _); walk_at "k") | (refine (?_ : LkAt 15 _ _); walk_at "k") | (refine (?_ : LkAt 16 _ _); walk_at "k"))
local macro_rules | `(tactic| walk_at "nm") => `(tactic| refine SE.name (by walk_at "lk") ?_ (by decide +kernel))
local macro_rules | `(tactic| walk_at "len") => `(tactic| refine SE.blt (id := "len") ((‹Kx _ _ _›).isB (‹Kx _ _ _›).F.b_len (by kernel_rfl) (by kernel_rfl)) ?_)
local macro_rules | `(tactic| walk_at "s") => `(tactic| first
  | ((with_reducible show SE _ _ (Expr.Name _ _) _ _ _); walk_at "nm")
  | with_reducible (first | refine SE.cInt ?_ | refine SE.cNone ?_ | refine SE.cBool ?_ | refine SE.binop ?_ | refine SE.cmp ?_ | refine SE.ifexp ?_ | refine SE.list ?_ | refine SE.tuple ?_ | refine SE.sub ?_ | refine SAs.nil ?_ | refine SAs.cons ?_ | refine SB.cmp ?_ | refine SB.not ?_ | refine SB.boolop ?_ | refine SAll.and ?_ | refine SAll.or ?_ | refine SAll.and_nil ?_ | refine SAll.or_nil ?_ | refine SS.ret ?_ | refine SS.ifs ?_ | refine SL.cons ?_)
  | ((with_reducible show SE _ _ (Expr.Call (Expr.Name (Str.ofString "len") _) _ _ _) _ _ _); walk_at "len"))
local macro_rules | `(tactic| walk_at "w") => `(tactic| ((try ((with_reducible show SL _ _ _ _ _ _ _); refine SL.cons ?_)); repeat walk_at "s"))

noncomputable def mB (p r : List Int) (j : Nat) : Bool := if gI p j % 128 = 63 then true else decide (gI p j % 128 = gI r j % 128)
noncomputable def matchB (p r : List Int) : Bool := ((List.range 11).map (mB p r)).all id
noncomputable def foundN (data : List Int) (user : Int) (pat : List Int) (i : Nat) : List Nat := (List.range i).filter fun n => decide (gI data (32 * n) = user) && matchB pat (seg data (32 * n + 1) 11)
theorem foundN_succ {data : List Int} {user : Int} {pat : List Int} {i : Nat} : foundN data user pat (i + 1) = foundN data user pat i ++ (if gI data (32 * i) = user ∧ matchB pat (seg data (32 * i + 1) 11) = true then [i] else []) := by
  unfold foundN
  rw [List.range_succ, List.filter_append]
  congr 1
  by_cases q : gI data (32 * i) = user <;> by_cases q2 : matchB pat (seg data (32 * i + 1) 11) = true <;> simp [q, q2]
section
variable {C : Cx} {S : St} {lm : Loc} {mem : List Int} {a : Int} {dk dd ld lg : Loc} {N : Int} {data given : List Int}
theorem matches_sf {l1 l2 : Loc} {p r : List Int} (hF : Facts C.KF) (hn : 1 ≤ C.n) (h1 : S.σ l1 = some (.list (IL p))) (h2 : S.σ l2 = some (.list (IL r))) (z1 : p.length = 11) (z2 : r.length = 11) :
    SF C "matches" [.ref l1, .ref l2] S (fun v S' => v = .bool (matchB p r) ∧ Ext S S') noX := by
  refine SFA.run hF hF.f_matches.fn hn [("pattern", .ref l1), ("raw", .ref l2)] rfl rfl fun C' e1 kx e2 e3 hb => ?_
  refine letPost ?_
  intro PR
  refine letFr ?_
  intro fr0
  refine SL.cons (SS.ret (SE.blt (id := "all") (kx.isB kx.F.b_all (by kernel_rfl) (by kernel_rfl)) (SAs.cons ?_)))
  refine SE.comp (frc := []) (CompOk.of kx e2 trivial (by kernel_rfl)) (fun C₂ ic => ⟨(kx.comp e2 ic).isV (by kernel_rfl), (kx.comp e2 ic).isV (by kernel_rfl)⟩) (SI.zip (kx.isB kx.F.b_zip (by kernel_rfl) (by kernel_rfl)) ?_)
  walk_at "w"
  refine ⟨l1, l2, _, _, rfl, h1, h2, by rw [IL_len, IL_len, z1, z2], ?_⟩
  rw [IL_len, z1]
  refine ⟨fun i ys => ys = ((List.range i).map (mB p r)).map AV.bool, ⟨rfl, by (first | lia | omega), ?_, ?_, ?_⟩, ?_⟩
  · rintro i S' fr₁ S₂ ⟨rfl, _, _, _, _, _, _, _, _, rfl⟩
    exact Le.nil _
  · rintro C₂ ic i ys S' hi rfl ex
    have k2 := kx.comp e2 ic
    refine ⟨⟨_, _, ex.2 _ _ h1, ex.2 _ _ h2, by rw [IL_len, z1], by rw [IL_len, z2]⟩, fun fr₁ it => ?_⟩
    obtain ⟨_, vs, us, v, u, a1, a2, a3, a4, rfl⟩ := it
    rw [ex.2 _ _ h1] at a1; cases a1
    rw [ex.2 _ _ h2] at a2; cases a2
    rw [IL_get (by (first | lia | omega))] at a3; cases a3
    rw [IL_get (by (first | lia | omega))] at a4; cases a4
    refine ⟨.refl _, ?_⟩
    rw [if_pos rfl]
    have fin : ∀ b S₂, Ext S' S₂ → b = mB p r i → (Ext S' S₂ ∧ ((List.range i).map (mB p r)).map AV.bool ++ [AV.bool b] = ((List.range (i + 1)).map (mB p r)).map AV.bool) := fun b S₂ x e => ⟨x, by rw [e, List.range_succ]; simp⟩
    refine SE.or2 ?_
    walk_at "w"
    refine .m7 ?_
    refine SE.gint k2 k2.F.i_ANY (by kernel_rfl) ?_
    by_cases q : gI p i % 128 = 63
    · refine ⟨true, congrArg some (decide_eq_true q), ?_⟩
      exact fin _ _ (.refl _) (by unfold mB; rw [if_pos q])
    · refine ⟨false, congrArg some (decide_eq_false q), ?_⟩
      show SE _ _ _ _ _ _
      walk_at "w"
      refine .m7 ?_
      walk_at "w"
      refine .m7 ⟨_, rfl, ?_⟩
      exact fin _ _ (.refl _) (by unfold mB; rw [if_neg q])
  · intro S' ex
    exact ⟨_, _, ex.2 _ _ h1, ex.2 _ _ h2, by rw [IL_len, z1], by rw [IL_len, z2]⟩
  · rintro ys S' la rfl ex hla e
    exact SAs.nil (SC.all e ⟨rfl, ex⟩)
theorem find_sf {lp : Loc} {user : Int} {pat : List Int} (hF : Facts C.KF) (hn : 5 ≤ C.n) (D : Dk C.KF S dk dd ld lg N data given) (hN : N ≤ 256) (hl : 128 ≤ data.length) (hz : data.length ≤ 1000) (hd : DirOk data) (hu : user ≠ 229) (hp : S.σ lp = some (.list (IL pat))) (zp : pat.length = 11) :
    SF C "find" [.ref dk, .int user, .ref lp] S (fun v S' => ∃ lf vs, v = .ref lf ∧ S.nx ≤ lf ∧ Ext S S' ∧ S'.σ lf = some (.list vs) ∧ Ents C.KF S' S.nx data vs (foundN data user pat 4)) noX := by
  refine SFA.run hF hF.f_find.fn hn [("disk", .ref dk), ("user", .int user), ("pattern", .ref lp)] rfl rfl fun C' e1 kx e2 e3 hb => ?_
  rw [← e1] at D ⊢
  refine letPost ?_
  intro PR
  refine letFr ?_
  intro fr0
  refine SL.cons (SS.assign ?_)
  walk_at "w"
  refine ⟨by simp, ST.name (kx.isV (by kernel_rfl)) ?_⟩
  refine SL.cons (SS.for (kx.isV (by kernel_rfl)) (SI.range1 (kx.isB kx.F.b_range (by kernel_rfl) (by kernel_rfl)) (SE.dEntries kx (by walk_at "lk") (D.ext ((Ext.refl S).add hb)) ⟨4, rfl, by (first | lia | omega), by (first | lia | omega), ?_⟩)))
  refine ⟨fun i fr' S' => fr' = ([("found", .ref S.nx), ("disk", .ref dk), ("user", .int user), ("pattern", .ref lp)] : Frm) ∧ Ext S S' ∧ S.nx + 1 ≤ S'.nx ∧ ∃ vs, S'.σ S.nx = some (.list vs) ∧ vs.length ≤ i ∧ Ents C'.KF S' (S.nx + 1) data vs (foundN data user pat i), ⟨rfl, (Ext.refl S).add hb, Nat.le_refl _, [], add_at, Nat.le_refl _, .nil⟩, ?_, ?_⟩
  · rintro i fr' S' ⟨rfl, ex, hnx, vs, ev, hvl, en⟩ hi
    have hi' : i < 4 := hi
    refine ⟨trivial, ?_⟩
    rintro fr₁ S₂ ⟨rfl, rfl⟩
    refine SL.cons (SS.assign (SE.fn kx kx.F.f_raw_entry (by kernel_rfl) ?_))
    walk_at "w"
    have e0 : (0 : Int) + (i : Int) = (i : Int) := by (first | lia | omega)
    rw [e0]
    refine (raw_entry_sf kx.F (kx.le (by decide)) (D.ext ex) (by (first | lia | omega)) (by (first | lia | omega)) hl hz).thnRB ?_
    intro lo S3 hb3 hlo x3 eo
    rw [show (i : Int).toNat = i by (first | lia | omega)] at eo
    have g0 : gI (seg data (32 * i) 32) 0 = gI data (32 * i) := gI_seg (by (first | lia | omega))
    have g12 : gI (seg data (32 * i) 32) 12 = gI data (32 * i + 12) := gI_seg (by (first | lia | omega))
    have g14 : gI (seg data (32 * i) 32) 14 = gI data (32 * i + 14) := gI_seg (by (first | lia | omega))
    have so : (seg data (32 * i) 32).length = 32 := seg_len (by (first | lia | omega))
    refine ST.name (kx.isV (by kernel_rfl)) ?_
    have x13 := ex.trans x3
    have skip : ∀ S4, Ext S3 S4 → ¬ (gI data (32 * i) = user ∧ matchB pat (seg data (32 * i + 1) 11) = true) → ∀ fr4 : Frm, Le [("found", .ref S.nx), ("disk", .ref dk), ("user", .int user), ("pattern", .ref lp)] fr4 → (∃ fr₄ S₄, Le fr₄ fr4 ∧ Sub S₄ S4 ∧ (fr₄ = ([("found", .ref S.nx), ("disk", .ref dk), ("user", .int user), ("pattern", .ref lp)] : Frm) ∧ Ext S S₄ ∧ S.nx + 1 ≤ S₄.nx ∧ ∃ vs, S₄.σ S.nx = some (.list vs) ∧ vs.length ≤ i + 1 ∧ Ents C'.KF S₄ (S.nx + 1) data vs (foundN data user pat (i + 1)))) := fun S4 x4 q fr4 le =>
      ⟨_, S4, le, Sub.refl _, rfl, x13.trans x4, Nat.le_trans hnx (x3.trans x4).1, vs, (x3.trans x4).2 _ _ ev, by (first | lia | omega), by rw [foundN_succ, if_neg q, List.append_nil]; exact en.ext (x3.trans x4)⟩
    walk_at "w"
    refine ⟨_, _, .inl eo, by (first | lia | omega), by (first | lia | omega), IL_get (by rw [so]; decide), ?_⟩
    walk_at "w"
    rw [show gI (seg data (32 * i) 32) (0 : Int).toNat = gI data (32 * i) from g0]
    by_cases q : gI data (32 * i) = user
    rotate_left
    · refine ⟨false, congrArg some (decide_eq_false q), ?_⟩
      exact SL.nil (SL.nil (skip _ (.refl _) (fun z => q z.1) _ (.cons (by walk_at "lk") (.cons (by walk_at "lk") (.cons (by walk_at "lk") (.cons (by walk_at "lk") (.nil _)))))))
    refine ⟨true, congrArg some (decide_eq_true q), ?_⟩
    refine SAll.and (SB.val (by intro _ _; rfl) (SE.fn kx kx.F.f_matches (by kernel_rfl) ?_))
    walk_at "s"
    walk_at "s"
    refine SAs.cons (SE.slice ?_)
    walk_at "w"
    refine SE.gint kx kx.F.i_NAME_SIZE (by kernel_rfl) (.add ⟨lo, 1, 1 + 11, _, rfl, rfl, rfl, eo, by rw [IL_len]; (first | lia | omega), by (first | lia | omega), by (first | lia | omega), by rw [IL_len, so]; decide, ?_⟩)
    have hsg : List.take ((1 + 11 : Int).toNat - (1 : Int).toNat) (List.drop (1 : Int).toNat (IL (seg data (32 * i) 32))) = IL (seg data (32 * i + 1) 11) := by
      have e1 : (1 : Int).toNat = 1 := rfl
      have e2 : (1 + 11 : Int).toNat - 1 = 11 := rfl
      rw [e1, e2]
      simp [IL, seg, List.drop_drop, List.take_take, List.drop_take]
    rw [hsg]
    have x4 : Ext S3 (S3.add (.list (IL (seg data (32 * i + 1) 11)))) := (Ext.refl _).add hb3
    have l4 : (S3.add (.list (IL (seg data (32 * i + 1) 11)))).σ S3.nx = some (.list (IL (seg data (32 * i + 1) 11))) := add_at
    generalize S3.add (.list (IL (seg data (32 * i + 1) 11))) = S4 at x4 l4 ⊢
    walk_at "w"
    refine (matches_sf kx.F (kx.le (by decide)) ((x13.trans x4).2 _ _ hp) l4 zp (seg_len (by (first | lia | omega)))).thnE ?_
    intro S5 x5
    have x35 := x4.trans x5
    cases q2 : matchB pat (seg data (32 * i + 1) 11) with
    | false =>
      exact SL.nil (SL.nil (skip _ x35 (fun z => by rw [q2] at z; cases z.2) _ (.cons (by walk_at "lk") (.cons (by walk_at "lk") (.cons (by walk_at "lk") (.cons (by walk_at "lk") (.nil _)))))))
    | true =>
      refine SAll.and_nil ?_
      show SL _ _ _ _ _ _ _
      refine SL.cons (SS.expr (SE.meth lm_append ?_))
      walk_at "w"
      refine ⟨S.nx, vs, rfl, (x3.trans x35).2 _ _ ev, ?_⟩
      walk_at "w"
      refine SE.fn kx kx.F.f_entry_from (by kernel_rfl) ?_
      walk_at "w"
      refine (entry_from_sf kx.F (kx.le (by decide)) (D.ext (x13.trans x35)) hN (x35.2 _ _ eo) so (by rw [g0, g12]; exact fun z => (hd i hi' z).1) (by rw [g0, g14]; exact fun z => (hd i hi' z).2)).thnAB ?_
      intro v S6 hb6 x6 h6
      rw [g0, if_neg (by rw [q]; exact hu)] at h6
      walk_at "w"
      refine ⟨by simp, ?_⟩
      walk_at "w"
      have x36 := x35.trans x6
      have x7 : Ext S6 (S6.add (.tuple [.int (i : Int), v])) := (Ext.refl _).add hb6
      refine SC.append (x7.2 _ _ ((x3.trans x36).2 _ _ ev)) (by (first | lia | omega)) ?_
      have hlt : S.nx + 1 ≤ S5.nx := Nat.le_trans hnx (x3.trans x35).1
      have p : PairAt C'.KF (S6.add (.tuple [.int (i : Int), v])) (S.nx + 1) data (.ref S6.nx) i := ⟨S6.nx, v, rfl, Nat.le_trans hlt x6.1, add_at, (h6.weak hlt).ext x7⟩
      refine SL.nil (SL.nil ⟨_, _, .cons (by walk_at "lk") (.cons (by walk_at "lk") (.cons (by walk_at "lk") (.cons (by walk_at "lk") (.nil _)))), Sub.refl _, rfl, (x13.trans (x36.trans x7)).of_new ((Chg.refl _ _).put (L := [S.nx]) (by simp)) (by simp) hb, Nat.le_trans hlt (x6.trans x7).1, _, put_at, by simp; (first | lia | omega), ?_⟩)
      rw [foundN_succ, if_pos ⟨q, q2⟩]
      exact ((((en.ext (x3.trans x36)).ext x7).snoc p)).put (Nat.lt_succ_self _)
  · rintro fr' S' ⟨rfl, ex, hnx, vs, ev, hvl, en⟩
    refine ⟨trivial, ?_⟩
    walk_at "w"
    exact ⟨S.nx, vs, rfl, Nat.le_refl _, ex, ev, en.weak (Nat.le_succ _)⟩
end
end Mine
end
section
open PySem PySem.W PyProof.Rows PySem.Calls
set_option Elab.async false
set_option maxRecDepth 100000
set_option linter.unusedVariables false
namespace Mine
local macro_rules | `(tactic| walk_at "k") => `(tactic| (refine (?_ : _ = _); kernel_rfl!))
local macro_rules | `(tactic| walk_at "lk") => `(tactic| first | with_reducible exact lookup_here | (refine (?_ : LkAt 1 _ _); walk_at "k") | (refine (?_ : LkAt 2 _ _); walk_at "k") | (refine (?_ : LkAt 3 _ _); walk_at "k") | (refine (?_ : LkAt 4 _ _); walk_at "k") | (refine (?_ : LkAt 5 _ _); walk_at "k") | (refine (?_ : LkAt 6 _ _); walk_at "k") | (refine (?_ : LkAt 7 _ _); walk_at "k") | (refine (?_ : LkAt 8 _ _); walk_at "k") | (refine (?_ : LkAt 9 _ _); walk_at "k") | (refine (?_ : LkAt 10 _ _); walk_at "k") | (refine (?_ : LkAt 11 _ _); walk_at "k") | (refine (?_ : LkAt 12 _ _); walk_at "k") | (refine (?_ : LkAt 13 _ _); walk_at "k") | (refine (?_ : LkAt 14 _ _); walk_at "k") | (refine (?_ : LkAt 15 _ _); walk_at "k") | (refine (?_ : LkAt 16 _ _); walk_at "k"))
local macro_rules | `(tactic| walk_at "nm") => `(tactic| refine SE.name (by walk_at "lk") ?_ (by decide +kernel))
local macro_rules | `(tactic| walk_at "len") => `(tactic| refine SE.blt (id := "len") ((‹Kx _ _ _›).isB (‹Kx _ _ _›).F.b_len (by kernel_rfl) (by kernel_rfl)) ?_)
local macro_rules | `(tactic| walk_at "s") => `(tactic| first
  | ((with_reducible show SE _ _ (Expr.Name _ _) _ _ _); walk_at "nm")
  | with_reducible (first | refine SE.cInt ?_ | refine SE.cNone ?_ | refine SE.cBool ?_ | refine SE.binop ?_ | refine SE.cmp ?_ | refine SE.ifexp ?_ | refine SE.list ?_ | refine SE.tuple ?_ | refine SE.sub ?_ | refine SAs.nil ?_ | refine SAs.cons ?_ | refine SB.cmp ?_ | refine SB.not ?_ | refine SB.boolop ?_ | refine SAll.and ?_ | refine SAll.or ?_ | refine SAll.and_nil ?_ | refine SAll.or_nil ?_ | refine SS.ret ?_ | refine SS.ifs ?_ | refine SL.cons ?_)
  | ((with_reducible show SE _ _ (Expr.Call (Expr.Name (Str.ofString "len") _) _ _ _) _ _ _); walk_at "len"))
local macro_rules | `(tactic| walk_at "w") => `(tactic| ((try ((with_reducible show SL _ _ _ _ _ _ _); refine SL.cons ?_)); repeat walk_at "s"))

/-- a tuple of the store, read at a place -/
theorem SE.tupAt {C : Cx} {fr : Frm} {S : St} {P : AV → St → Prop} {X : St → Prop} {x : Str} {np cp pos : Pos} {i : Int} {k : Nat} {l : Loc} {vs : List AV} {v : AV} (hx : fr.lookup x = some (.ref l)) (e : S.σ l = some (.tuple vs)) (h0 : 0 ≤ i) (h1 : i < 100000) (hv : vs[i.toNat]? = some v) (h : P v S)
    (hd : (x == ("__debug__" : Str)) = false := by decide +kernel) (hs : ∀ o j, subscripted (.Constant (.int i) k cp) false o j = operate [o, j] (getItem o j) := by intro _ _; rfl) : SE C fr (.Subscript (.Name x np) (.Constant (.int i) k cp) pos) S P X :=
  .sub (.name hx (.cInt ⟨vs, v, .inr e, h0, h1, hv, h⟩) hd) hs
section
variable {C : Cx} {S : St} {lm : Loc} {mem : List Int} {a : Int} {dk dd ld lg : Loc} {N : Int} {data given : List Int}
theorem enD_extent {u e sp c : Int} {lr lp : Loc} : (enD u e sp c lr lp).lookup ("extent" : Str) = some (AV.int e) := by kernel_rfl
theorem find_extent_sf {lp : Loc} {user : Int} {pat : List Int} (hF : Facts C.KF) (hn : 6 ≤ C.n) (D : Dk C.KF S dk dd ld lg N data given) (hN : N ≤ 256) (hl : 128 ≤ data.length) (hz : data.length ≤ 1000) (hd : DirOk data) (hu : user ≠ 229) (hp : S.σ lp = some (.list (IL pat))) (zp : pat.length = 11) :
    SF C "find_extent" [.ref dk, .int user, .ref lp, .int 0] S (fun v S' => Ext S S' ∧ match (foundN data user pat 4).head? with | none => v = .none | some n => PairAt C.KF S' S.nx data v n) noX := by
  refine SFA.run hF hF.f_find_extent.fn hn [("disk", .ref dk), ("user", .int user), ("raw", .ref lp), ("extent", .int 0)] rfl rfl fun C' e1 kx e2 e3 hb => ?_
  rw [← e1] at D ⊢
  refine letPost ?_
  intro PR
  refine letFr ?_
  intro fr0
  refine SL.cons (SS.for (kx.isV (by kernel_rfl)) (SI.list (.N _ _) (SE.fn kx kx.F.f_find (by kernel_rfl) ?_)))
  walk_at "w"
  refine (find_sf kx.F (kx.le (by decide)) D hN hl hz hd hu hp zp).thn ?_
  rintro v S₁ ⟨lf, vs, rfl, hlf, x1, el, en⟩
  refine ⟨lf, vs, rfl, el, ?_⟩
  refine ⟨fun i fr' S' => fr' = ([("disk", .ref dk), ("user", .int user), ("raw", .ref lp), ("extent", .int 0)] : Frm) ∧ Ext S₁ S' ∧ i = 0, ⟨rfl, .refl _, rfl⟩, ?_, ?_⟩
  · refine jT2 fun i S' ex q0 hi => ?_
    subst q0
    have el' := ex.2 _ _ el
    refine ⟨⟨vs, el', rfl, fun _ => ⟨vs[0], by simp [hi], fun fr => ⟨_, rfl⟩⟩⟩, ?_⟩
    rintro fr₁ S₂ ⟨rfl, us, v, e, hv, rfl⟩
    rw [el'] at e; cases e
    obtain ⟨n, hns⟩ : ∃ n, (foundN data user pat 4)[0]? = some n := ⟨_, List.getElem?_eq_getElem (by rw [← en.1]; exact hi)⟩
    have p := (en.2 0 v n hv hns).ext ex
    obtain ⟨lt, ve, rfl, hb1, et, Ea⟩ := id p
    obtain ⟨le, de, lr, lq, rfl, E⟩ := Ea
    walk_at "w"
    refine SE.attr (SE.tupAt (by walk_at "lk") et (by (first | lia | omega)) (by (first | lia | omega)) rfl ⟨le, _, de, _, _, rfl, E.hle, E.hde, kx.F.g_Entry_extent, enD_extent, ?_⟩)
    walk_at "w"
    refine ⟨true, rfl, ?_⟩
    show SL _ _ _ _ _ _ _
    walk_at "w"
    refine ⟨x1.trans ex, ?_⟩
    rw [← List.head?_eq_getElem?] at hns
    rw [hns]
    exact p
  · refine jE2 fun S' ex h0 => ?_
    refine ⟨⟨vs, ex.2 _ _ el, rfl, fun q => absurd q (Nat.lt_irrefl _)⟩, ?_⟩
    walk_at "w"
    refine ⟨x1.trans ex, ?_⟩
    have : foundN data user pat 4 = [] := List.eq_nil_of_length_eq_zero (by rw [← en.1, h0])
    rw [this]; rfl
theorem new_entry_sf {lraw : Loc} {user : Int} {raw : List Int} (hF : Facts C.KF) (hn : 3 ≤ C.n) (D : Dk C.KF S dk dd ld lg N data given) (hN : N ≤ 256) (hr : S.σ lraw = some (.list (IL raw))) (hz : raw.length = 11) :
    SF C "new_entry" [.ref dk, .int user, .ref lraw, .int 0] S (fun v S' => Ext S S' ∧ ∃ le de lr lp, v = .ref le ∧ En C.KF S' S.nx le de lr lp user raw 0 0 0 (List.replicate 16 0)) noX := by
  refine SFA.run hF hF.f_new_entry.fn hn [("disk", .ref dk), ("user", .int user), ("raw", .ref lraw), ("extent", .int 0)] rfl rfl fun C' e1 kx e2 e3 hb => ?_
  rw [← e1] at D ⊢
  refine letPost ?_
  intro PR
  refine letFr ?_
  intro fr0
  refine SL.cons (SS.assign (SE.new (kx.g (by kernel_rfl)) kx.F.c_Entry.glob kx.F.c_Entry.keep ?_ (hd := by decide +kernel)))
  walk_at "w"
  refine (entry_new kx.F (kx.le (by decide)) hr (by (first | lia | omega))).thnB ?_
  rintro v S2 hb2 ⟨x2, le, de, lr, lp, rfl, E⟩
  refine ST.name (kx.isV (by kernel_rfl)) ?_
  refine SL.cons (SS.setAttr (by walk_at "lk") ?_)
  walk_at "w"
  refine ⟨by simp, SE.fn kx kx.F.f_map_slots (by kernel_rfl) ?_⟩
  have x3 : Ext S2 (S2.add (.list [.int 0])) := (Ext.refl _).add hb2
  have l3 : (S2.add (.list [.int 0])).σ S2.nx = some (.list [.int 0]) := add_at
  generalize S2.add (.list [.int 0]) = S3 at x3 l3 ⊢
  walk_at "w"
  refine (map_slots_sf kx.F (kx.le (by decide)) (D.ext (x2.trans x3)) hN).thnEB ?_
  intro S4 hb4 x4
  refine .rep (x4.2 _ _ l3) (by (first | lia | omega)) (by (first | lia | omega)) ?_
  have x5 : Ext S4 (S4.add (.list (IL (List.replicate 16 0)))) := (Ext.refl _).add hb4
  have l5 : (S4.add (.list (IL (List.replicate 16 0)))).σ S4.nx = some (.list (IL (List.replicate 16 0))) := add_at
  rw [show (16 : Int).toNat = 16 from rfl]
  have h4 : S.nx ≤ S4.nx := (x2.trans (x3.trans x4)).1
  generalize S4.add (.list (IL (List.replicate 16 0))) = S5 at x5 l5 ⊢
  generalize S4.nx = l5n at l5 h4 ⊢
  have E5 := E.ext (x3.trans (x4.trans x5))
  refine ⟨_, _, _, E5.hle, E5.hde, kx.F.s_Entry_map, by simp [enD], ?_⟩
  rw [dput_map]
  have E6 := E5.set (sp' := 0) (c' := 0) l5 h4
  have x6 : Ext S (S5.put de (.dict (enD user 0 0 0 lr l5n))) := (x2.trans (x3.trans (x4.trans x5))).of_new ((Chg.refl _ _).put (L := [de]) (by simp)) (by simpa using E.b1) hb
  refine SL.cons (SS.ret ?_)
  walk_at "w"
  exact ⟨x6, le, de, lr, l5n, rfl, E6⟩
theorem merged_sf {l1 l2 : Loc} {xs ys : List Int} (hF : Facts C.KF) (hn : 1 ≤ C.n) (h1 : S.σ l1 = some (.list (IL xs))) (h2 : S.σ l2 = some (.list (IL ys))) (z1 : xs.length = 16) (z2 : ys.length = 16) :
    SF C "merged" [.ref l1, .ref l2] S (fun v S' => Ext S S' ∧ (v = .none ∨ NewL S S' v ((List.range 16).map fun j => if gI xs j ≠ 0 then gI xs j else gI ys j))) noX := by
  refine SFA.run hF hF.f_merged.fn hn [("ours", .ref l1), ("theirs", .ref l2)] rfl rfl fun C' e1 kx e2 e3 hb => ?_
  refine letPost ?_
  intro PR
  refine letFr ?_
  intro fr0
  refine SL.cons (SS.assign ?_)
  walk_at "w"
  refine ⟨by simp, ST.name (kx.isV (by kernel_rfl)) ?_⟩
  have x0 : Ext S (S.add (.list [])) := (Ext.refl S).add hb
  refine SL.cons (SS.for ⟨kx.isV (by kernel_rfl), kx.isV (by kernel_rfl)⟩ (SI.zip (kx.isB kx.F.b_zip (by kernel_rfl) (by kernel_rfl)) ?_))
  walk_at "w"
  refine ⟨l1, l2, _, _, rfl, x0.2 _ _ h1, x0.2 _ _ h2, by rw [IL_len, IL_len, z1, z2], ?_⟩
  rw [IL_len, z1]
  refine ⟨fun i fr' S' => fr' = ([("found", .ref S.nx), ("ours", .ref l1), ("theirs", .ref l2)] : Frm) ∧ Ext S S' ∧ S'.σ S.nx = some (.list (IL ((List.range i).map fun j => if gI xs j ≠ 0 then gI xs j else gI ys j))), ⟨rfl, x0, add_at⟩, ?_, ?_⟩
  · refine jT2 fun i S' ex el hi => ?_
    refine ⟨⟨_, _, ex.2 _ _ h1, ex.2 _ _ h2, by rw [IL_len, z1], by rw [IL_len, z2]⟩, ?_⟩
    rintro fr₁ S₂ ⟨rfl, vs, us, v, u, a1, a2, a3, a4, rfl⟩
    rw [ex.2 _ _ h1] at a1; cases a1
    rw [ex.2 _ _ h2] at a2; cases a2
    rw [IL_get (by (first | lia | omega))] at a3; cases a3
    rw [IL_get (by (first | lia | omega))] at a4; cases a4
    -- the last statement
    have last : ∀ sts, sts = (bd_merged.drop 1).head?.elim [] (fun s => match s with | .For _ _ b _ _ => b.drop 1 | _ => []) → SL C' [("other", .int (gI ys i)), ("one", .int (gI xs i)), ("found", .ref S.nx), ("ours", .ref l1), ("theirs", .ref l2)] sts S₂
        (fun fr₃ S₃ => ∃ fr₄ S₄, Le fr₄ fr₃ ∧ Sub S₄ S₃ ∧ (fr₄ = ([("found", .ref S.nx), ("ours", .ref l1), ("theirs", .ref l2)] : Frm) ∧ Ext S S₄ ∧ S₄.σ S.nx = some (.list (IL ((List.range (i + 1)).map fun j => if gI xs j ≠ 0 then gI xs j else gI ys j))))) (fun v S' => Ext S S' ∧ (v = .none ∨ NewL S S' v ((List.range 16).map fun j => if gI xs j ≠ 0 then gI xs j else gI ys j))) noX := by
      rintro _ rfl
      refine SL.cons (SS.expr (SE.meth lm_append ?_))
      walk_at "w"
      refine ⟨S.nx, _, rfl, el, ?_⟩
      have fin : ∀ w, w = (if gI xs i ≠ 0 then gI xs i else gI ys i) → SAs C' [("other", .int (gI ys i)), ("one", .int (gI xs i)), ("found", .ref S.nx), ("ours", .ref l1), ("theirs", .ref l2)] [] S₂ (fun ws S₂ => SC C' (.builtin "list.append") (.ref S.nx :: AV.int w :: ws) S₂ (fun x S' => SL C' [("other", .int (gI ys i)), ("one", .int (gI xs i)), ("found", .ref S.nx), ("ours", .ref l1), ("theirs", .ref l2)] [] S'
          (fun fr₃ S₃ => ∃ fr₄ S₄, Le fr₄ fr₃ ∧ Sub S₄ S₃ ∧ (fr₄ = ([("found", .ref S.nx), ("ours", .ref l1), ("theirs", .ref l2)] : Frm) ∧ Ext S S₄ ∧ S₄.σ S.nx = some (.list (IL ((List.range (i + 1)).map fun j => if gI xs j ≠ 0 then gI xs j else gI ys j))))) (fun v S' => Ext S S' ∧ (v = .none ∨ NewL S S' v ((List.range 16).map fun j => if gI xs j ≠ 0 then gI xs j else gI ys j))) noX)) noX := by
        intro w hw
        refine SAs.nil (SC.append el (by rw [IL_len]; simp; (first | lia | omega)) ?_)
        refine SL.nil ⟨_, _, .cons (by walk_at "lk") (.cons (by walk_at "lk") (.cons (by walk_at "lk") (.nil _))), Sub.refl _, rfl, ex.of_new ((Chg.refl _ _).put (L := [S.nx]) (by simp)) (by simp) hb, ?_⟩
        rw [put_at, hw, List.range_succ]; simp [IL]
      refine SAs.cons (SE.ifexp ?_)
      walk_at "w"
      by_cases q : gI xs i = 0
      · refine ⟨false, by simp [cmpI, q], ?_⟩
        show SE _ _ _ _ _ _
        walk_at "nm"
        exact fin _ (by simp [q])
      · refine ⟨true, by simp [cmpI, q], ?_⟩
        show SE _ _ _ _ _ _
        walk_at "nm"
        exact fin _ (by simp [q])
    refine SL.cons (SS.ifs (SB.boolop ?_))
    walk_at "w"
    by_cases q1 : gI xs i = 0
    · refine ⟨false, by simp [cmpI, q1], ?_⟩
      exact SL.nil (last _ rfl)
    refine ⟨true, by simp [cmpI, q1], ?_⟩
    show SAll _ _ _ _ _ _ _
    walk_at "w"
    by_cases q2 : gI ys i = 0
    · refine ⟨false, by simp [cmpI, q2], ?_⟩
      exact SL.nil (last _ rfl)
    refine ⟨true, by simp [cmpI, q2], ?_⟩
    show SAll _ _ _ _ _ _ _
    walk_at "w"
    by_cases q3 : gI xs i = gI ys i
    · refine ⟨false, by simp [cmpI, q3], ?_⟩
      exact SL.nil (last _ rfl)
    refine ⟨true, by simp [cmpI, q3], ?_⟩
    refine SAll.and_nil ?_
    show SL _ _ _ _ _ _ _
    walk_at "w"
    exact ⟨ex, .inl rfl⟩
  · refine jE2 fun S' ex el => ?_
    refine ⟨⟨_, _, ex.2 _ _ h1, ex.2 _ _ h2, by rw [IL_len, z1], by rw [IL_len, z2]⟩, ?_⟩
    walk_at "w"
    exact ⟨ex, .inr ⟨S.nx, rfl, Nat.le_refl _, ex, el⟩⟩
end
end Mine
end
section
open PySem PySem.W PyProof.Rows PySem.Calls
set_option Elab.async false
set_option maxRecDepth 100000
set_option linter.unusedVariables false
namespace Mine
local macro_rules | `(tactic| walk_at "k") => `(tactic| (refine (?_ : _ = _); kernel_rfl!))
local macro_rules | `(tactic| walk_at "lk") => `(tactic| first | with_reducible exact lookup_here | (refine (?_ : LkAt 1 _ _); walk_at "k") | (refine (?_ : LkAt 2 _ _); walk_at "k") | (refine (?_ : LkAt 3 _ _); walk_at "k") | (refine (?_ : LkAt 4 _ _); walk_at "k") | (refine (?_ : LkAt 5 _ _); walk_at "k") | (refine (?_ : LkAt 6 _ _); walk_at "k") | (refine (?_ : LkAt 7 _ _); walk_at "k") | (refine (?_ : LkAt 8 _ _); walk_at "k") | (refine (?_ : LkAt 9 _ _); walk_at "k") | (refine (?_ : LkAt 10 _ _); walk_at "k") | (refine (?_ : LkAt 11 _ _); walk_at "k") | (refine (?_ : LkAt 12 _ _); walk_at "k") | (refine (?_ : LkAt 13 _ _); walk_at "k") | (refine (?_ : LkAt 14 _ _); walk_at "k") | (refine (?_ : LkAt 15 _ _); walk_at "k") | (refine (?_ : LkAt 16 _ _); walk_at "k"))
local macro_rules | `(tactic| walk_at "nm") => `(tactic| refine SE.name (by walk_at "lk") ?_ (by decide +kernel))
local macro_rules | `(tactic| walk_at "len") => `(tactic| refine SE.blt (id := "len") ((‹Kx _ _ _›).isB (‹Kx _ _ _›).F.b_len (by kernel_rfl) (by kernel_rfl)) ?_)
local macro_rules | `(tactic| walk_at "s") => `(tactic| first
  | ((with_reducible show SE _ _ (Expr.Name _ _) _ _ _); walk_at "nm")
  | with_reducible (first | refine SE.cInt ?_ | refine SE.cNone ?_ | refine SE.cBool ?_ | refine SE.binop ?_ | refine SE.cmp ?_ | refine SE.ifexp ?_ | refine SE.list ?_ | refine SE.tuple ?_ | refine SE.sub ?_ | refine SAs.nil ?_ | refine SAs.cons ?_ | refine SB.cmp ?_ | refine SB.not ?_ | refine SB.boolop ?_ | refine SAll.and ?_ | refine SAll.or ?_ | refine SAll.and_nil ?_ | refine SAll.or_nil ?_ | refine SS.ret ?_ | refine SS.ifs ?_ | refine SL.cons ?_)
  | ((with_reducible show SE _ _ (Expr.Call (Expr.Name (Str.ofString "len") _) _ _ _) _ _ _); walk_at "len"))
local macro_rules | `(tactic| walk_at "w") => `(tactic| ((try ((with_reducible show SL _ _ _ _ _ _ _); refine SL.cons ?_)); repeat walk_at "s"))

section
variable {C : Cx} {S : St} {lm : Loc} {mem : List Int} {a : Int} {dk dd ld lg : Loc} {N : Int} {data given : List Int}
theorem need_changeable_sf {b lf : Loc} {vs : List AV} {ns : List Nat} (hF : Facts C.KF) (hn : 2 ≤ C.n) (el : S.σ lf = some (.list vs)) (en : Ents C.KF S b data vs ns) (hz : ns.length ≤ 4) (hr : ∀ n ∈ ns, gI data (32 * n + 9) < 128) (hl : ∀ n ∈ ns, 32 * n + 32 ≤ data.length) :
    SF C "need_changeable" [.ref lf] S (fun v S' => v = .none ∧ Ext S S') noX := by
  refine SFA.run hF hF.f_need_changeable.fn hn [("pairs", .ref lf)] rfl rfl fun C' e1 kx e2 e3 hb => ?_
  rw [← e1] at en
  refine letPost ?_
  intro PR
  refine letFr ?_
  intro fr0
  refine SL.cons (SS.ifs (SB.val (by intro _ _; rfl) (SE.blt (id := "any") (kx.isB kx.F.b_any (by kernel_rfl) (by kernel_rfl)) (SAs.cons ?_))))
  refine SE.comp (frc := []) (CompOk.of kx e2 trivial (by kernel_rfl)) (fun C₂ ic => ⟨(kx.comp e2 ic).isV (by kernel_rfl), (kx.comp e2 ic).isV (by kernel_rfl)⟩) (SI.list (.T _ _ _ _ _ _) (SE.name (by walk_at "lk") ⟨lf, vs, rfl, el, ?_⟩ (by decide +kernel)))
  refine ⟨fun i ys => ys = (List.replicate i false).map AV.bool, ⟨rfl, by rw [en.1]; (first | lia | omega), ?_, ?_, ?_⟩, ?_⟩
  · rintro i S' fr₁ S₂ h
    exact Le.trans (Le.nil _) (Le.nil _)
  · rintro C₂ ic i ys S' hi rfl ex
    have k2 := kx.comp e2 ic
    obtain ⟨n, hns⟩ : ∃ n, ns[i]? = some n := ⟨_, List.getElem?_eq_getElem (by rw [← en.1]; exact hi)⟩
    have hv : vs[i]? = some vs[i] := List.getElem?_eq_getElem hi
    obtain ⟨lt, ve, e, hb1, et, Ea⟩ := (en.2 i _ n hv hns).ext ex
    obtain ⟨le, de, lr, lq, rfl, E⟩ := Ea
    refine turnLTc (ex.2 _ _ el) rfl (hv.trans (congrArg some e)) et ?_
    refine ⟨.refl _, ?_⟩
    rw [if_pos rfl]
    have hk : C₂.KF = C'.KF := ic.KF
    rw [← hk] at E
    refine SE.fn k2 k2.F.f_has_flag (by kernel_rfl) ?_
    walk_at "w"
    refine E.a_raw k2 (by walk_at "lk") ?_
    walk_at "w"
    refine SE.gint k2 k2.F.i_READ_ONLY_AT (by kernel_rfl) ?_
    walk_at "w"
    have hmem : n ∈ ns := List.mem_of_getElem? hns
    have hln := hl n hmem
    have so : (seg data (32 * n) 32).length = 32 := seg_len (by (first | lia | omega))
    have s1 : (seg (seg data (32 * n) 32) 1 11).length = 11 := seg_len (by (first | lia | omega))
    refine (has_flag_sf k2.F (k2.le (by decide)) E.hlr (by (first | lia | omega)) (by rw [s1]; decide) (by (first | lia | omega))).thnE ?_
    intro S₃ x3
    refine ⟨x3, ?_⟩
    have e8 : gI (seg (seg data (32 * n) 32) 1 11) (8 : Int).toNat = gI data (32 * n + 9) := by
      show gI (seg (seg data (32 * n) 32) 1 11) 8 = _
      rw [gI_seg (by (first | lia | omega)), gI_seg (by (first | lia | omega))]
    rw [e8, decide_eq_false (by have := hr n hmem; (first | lia | omega))]
    show (List.replicate i false).map AV.bool ++ [AV.bool false] = (List.replicate (i + 1) false).map AV.bool
    rw [List.replicate_succ']; simp
  · intro S' ex
    exact ⟨vs, ex.2 _ _ el, rfl, fun q => absurd q (Nat.lt_irrefl _)⟩
  · rintro ys S' la rfl ex hla e
    refine SAs.nil (SC.any e ?_)
    have : (List.replicate vs.length false).any id = false := by simp
    rw [this]
    exact SL.nil (SL.nil ⟨rfl, ex⟩)
noncomputable def eraseN (data : List Int) (ns : List Nat) : List Int := ns.foldl (fun d n => d.set (32 * n) 229) data
theorem eraseN_len : ∀ (ns : List Nat) (data : List Int), (eraseN data ns).length = data.length
  | [], _ => rfl
  | n :: ns, d => by show (eraseN (d.set (32 * n) 229) ns).length = _; rw [eraseN_len ns]; simp
theorem foundN_lt {user : Int} {pat : List Int} {i n : Nat} (h : n ∈ foundN data user pat i) : n < i := by
  unfold foundN at h
  exact List.mem_range.mp (List.mem_filter.mp h).1
theorem delete_sf {lp : Loc} {user : Int} {pat : List Int} (hF : Facts C.KF) (hn : 6 ≤ C.n) (D : Dk C.KF S dk dd ld lg N data given) (hN : N ≤ 256) (hl : 128 ≤ data.length) (hz : data.length ≤ 1000) (hd : DirOk data) (hu : user ≠ 229) (hp : S.σ lp = some (.list (IL pat))) (zp : pat.length = 11)
    (hr : ∀ n ∈ foundN data user pat 4, gI data (32 * n + 9) < 128) :
    SF C "delete" [.ref dk, .int user, .ref lp] S (fun v S' => (∃ i : Int, v = .int i) ∧ Chg [ld] S S' ∧ S'.σ ld = some (.list (IL (eraseN data (foundN data user pat 4))))) noX := by
  refine SFA.run hF hF.f_delete.fn hn [("disk", .ref dk), ("user", .int user), ("pattern", .ref lp)] rfl rfl fun C' e1 kx e2 e3 hb => ?_
  rw [← e1] at D
  refine letPost ?_
  intro PR
  refine letFr ?_
  intro fr0
  refine SL.cons (SS.expr (SE.fn kx kx.F.f_need_writable (by kernel_rfl) ?_))
  walk_at "w"
  refine (need_writable_sf kx.F (kx.le (by decide)) D).thnE ?_
  intro S₁ x1
  refine SL.cons (SS.assign (SE.fn kx kx.F.f_find (by kernel_rfl) ?_))
  walk_at "w"
  refine (find_sf kx.F (kx.le (by decide)) (D.ext x1) hN hl hz hd hu (x1.2 _ _ hp) zp).thn ?_
  rintro v S₂ ⟨lf, vs, rfl, hlf, x2, el, en⟩
  have zl : (foundN data user pat 4).length ≤ 4 := by
    unfold foundN
    exact Nat.le_trans (List.length_filter_le _ _) (by simp)
  refine ST.name (kx.isV (by kernel_rfl)) ?_
  refine SL.cons (SS.expr (SE.fn kx kx.F.f_need_changeable (by kernel_rfl) ?_))
  walk_at "w"
  refine (need_changeable_sf kx.F (kx.le (by decide)) el en zl hr (fun n hm => by have := foundN_lt hm; (first | lia | omega))).thnE ?_
  intro S₃ x3
  have x13 := x1.trans (x2.trans x3)
  have nf : lf ≠ ld := fun q => by
    have h1 : ld < S.nx := hb ld (by rw [D.ld]; simp)
    have h2 : S.nx ≤ lf := Nat.le_trans x1.1 hlf
    rw [q] at h2
    exact absurd h1 (Nat.not_lt.mpr h2)
  refine SL.cons (SS.for ⟨kx.isV (by kernel_rfl), kx.isV (by kernel_rfl)⟩ (SI.list (.T _ _ _ _ _ _) (SE.name (by walk_at "lk") ⟨lf, vs, rfl, x3.2 _ _ el, ?_⟩ (by decide +kernel))))
  refine ⟨fun i fr' S' => fr' = ([("pairs", .ref lf), ("disk", .ref dk), ("user", .int user), ("pattern", .ref lp)] : Frm) ∧ Chg [ld] S₃ S' ∧ S'.σ ld = some (.list (IL (eraseN data ((foundN data user pat 4).take i)))), ?_, ?_, ?_⟩
  · exact ⟨rfl, Chg.refl _ _, x13.2 _ _ D.ld⟩
  · refine jT2 fun i S' ch ed hi => ?_
    obtain ⟨n, hns⟩ : ∃ n, (foundN data user pat 4)[i]? = some n := ⟨_, List.getElem?_eq_getElem (by rw [← en.1]; exact hi)⟩
    have hv : vs[i]? = some vs[i] := List.getElem?_eq_getElem hi
    obtain ⟨lt, ve, e, hb1, et, Ea⟩ := (en.2 i _ n hv hns).ext x3
    have et' := ch.2 _ _ (by simpa using ne_of_ao et (x13.2 _ _ D.ld) (by first | exact ao_ld | exact ao_dl | exact ao_li | exact ao_il | exact ao_di | exact ao_id | exact ao_tl | exact ao_lt | (intro q; cases q))) et
    have el' := ch.2 _ _ (by simpa using nf) (x3.2 _ _ el)
    refine turnLT el' rfl (hv.trans (congrArg some e)) et' ?_
    refine letPN ?_
    intro PN1
    refine letFr ?_
    intro fr1
    have D' := (D.ext x13).toData ch ed
    have hlt := foundN_lt (List.mem_of_getElem? hns)
    refine SL.cons (SS.expr (SE.fn kx kx.F.f_erase_entry (by kernel_rfl) ?_))
    walk_at "w"
    refine (erase_entry_sf kx.F (kx.le (by decide)) D' (by (first | lia | omega)) (by (first | lia | omega)) (by rw [eraseN_len]; exact hl) (by rw [eraseN_len]; exact hz)).thnE2 ?_
    intro S₅ c5 e5
    refine SL.nil ⟨_, _, .cons (by walk_at "lk") (.cons (by walk_at "lk") (.cons (by walk_at "lk") (.cons (by walk_at "lk") (.nil _)))), Sub.refl _, rfl, ch.trans c5, ?_⟩
    rw [e5, List.take_add_one, hns]
    unfold eraseN
    rw [List.foldl_append]; simp
  · refine jE2 fun S' ch ed => ?_
    have el' := ch.2 _ _ (by simpa using nf) (x3.2 _ _ el)
    refine ⟨⟨vs, el', rfl, fun q => absurd q (Nat.lt_irrefl _)⟩, ?_⟩
    walk_at "w"
    refine SC.len el' (by rw [en.1]; (first | lia | omega)) ⟨⟨_, rfl⟩, (x13.chg _).trans ch, ?_⟩
    rw [ed, en.1, List.take_length]
theorem delete_file_sf {user : Int} (hF : Facts C.KF) (hn : 7 ≤ C.n) (D : Dk C.KF S dk dd ld lg N data given) (hN : N ≤ 256) (hl : 128 ≤ data.length) (hz : data.length ≤ 1000) (hd : DirOk data) (hu : user ≠ 229) (hm : S.σ lm = some (.list (IL mem))) (h0 : 0 ≤ a) (h1 : a + 36 ≤ 256) (hlm : mem.length = 256)
    (hr : ∀ n ∈ foundN data user (seg mem (a.toNat + 1) 11) 4, gI data (32 * n + 9) < 128) :
    SF C "delete_file" [.ref dk, .int user, .ref lm, .int a] S (fun v S' => Chg [ld] S S' ∧ S'.σ ld = some (.list (IL (eraseN data (foundN data user (seg mem (a.toNat + 1) 11) 4))))) noX := by
  refine SFA.run hF hF.f_delete_file.fn hn [("disk", .ref dk), ("user", .int user), ("memory", .ref lm), ("at", .int a)] rfl rfl fun C' e1 kx e2 e3 hb => ?_
  rw [← e1] at D
  refine letPost ?_
  intro PR
  refine letFr ?_
  intro fr0
  refine SL.cons (SS.ret (SE.fn kx kx.F.f_code_for (by kernel_rfl) ?_))
  walk_at "w"
  refine SE.fn kx kx.F.f_delete (by kernel_rfl) ?_
  walk_at "w"
  refine SE.fn kx kx.F.f_name_at (by kernel_rfl) ?_
  walk_at "w"
  refine (name_at_sf kx.F (kx.le (by decide)) hm h0 h1 hlm).thnR ?_
  intro ln S₁ hln x1 e1'
  walk_at "w"
  refine (delete_sf kx.F (kx.le (by decide)) (D.ext x1) hN hl hz hd hu e1' (seg_len (by (first | lia | omega))) hr).thn ?_
  rintro v S₂ ⟨⟨i, rfl⟩, c2, e2'⟩
  walk_at "w"
  refine (code_for_sf kx.F (kx.le (by decide))).thn ?_
  intro v S₃ x3
  exact ⟨((x1.chg _).trans c2).trans (x3.chg _), x3.2 _ _ e2'⟩
theorem record_place_sf {bl ix : Int} (hF : Facts C.KF) (hn : 2 ≤ C.n) (D : Dk C.KF S dk dd ld lg N data given) (hN : N ≤ 256) (b0 : 0 ≤ bl) (b1 : bl < N) (i0 : 0 ≤ ix) (i1 : ix < 2) {p : Nat} (hp : bl * 64 + ix * 32 = p) : SF C "record_place" [.ref dk, .int bl, .int ix] S (fun v S' => v = .int p ∧ Ext S S') noX := by
  refine SFA.run hF hF.f_record_place.fn hn [("disk", .ref dk), ("block", .int bl), ("index", .int ix)] rfl rfl fun C' e1 kx e2 e3 hb => ?_
  rw [← e1] at D
  refine letPost ?_
  intro PR
  refine letFr ?_
  intro fr0
  walk_at "w"
  refine SB.chain ?_
  walk_at "w"
  refine ⟨true, congrArg some (decide_eq_true b0), ?_⟩
  refine SE.dBlocks kx (by walk_at "lk") D ⟨true, congrArg some (decide_eq_true b1), ?_⟩
  show SAll _ _ _ _ _ _ _
  walk_at "w"
  refine SB.chain ?_
  walk_at "w"
  refine ⟨true, congrArg some (decide_eq_true i0), ?_⟩
  refine SE.fn kx kx.F.f_records_of_block (by kernel_rfl) ?_
  walk_at "w"
  refine (records_of_block_sf kx.F (kx.le (by decide)) D).thnE ?_
  intro S₁ x1
  refine ⟨true, congrArg some (decide_eq_true i1), ?_⟩
  show SAll _ _ _ _ _ _ _
  refine SAll.or_nil (SL.nil ?_)
  walk_at "w"
  refine SE.dBlock kx (by walk_at "lk") (D.ext x1) (.mul ?_ (by (first | lia | omega)) (by (first | lia | omega)))
  walk_at "w"
  exact SE.dRecord kx (by walk_at "lk") (D.ext x1) (.mul (.add ⟨congrArg AV.int hp, x1⟩) (by (first | lia | omega)) (by (first | lia | omega)))
end
end Mine
end
section
open PySem PySem.W PyProof.Rows PySem.Calls
set_option Elab.async false
set_option maxRecDepth 100000
set_option linter.unusedVariables false
namespace Mine
local macro_rules | `(tactic| walk_at "k") => `(tactic| (refine (?_ : _ = _); kernel_rfl!))
local macro_rules | `(tactic| walk_at "lk") => `(tactic| first | with_reducible exact lookup_here | (refine (?_ : LkAt 1 _ _); walk_at "k") | (refine (?_ : LkAt 2 _ _); walk_at "k") | (refine (?_ : LkAt 3 _ _); walk_at "k") | (refine (?_ : LkAt 4 _ _); walk_at "k") | (refine (?_ : LkAt 5 _ _); walk_at "k") | (refine (?_ : LkAt 6 _ _); walk_at "k") | (refine (?_ : LkAt 7 _ _); walk_at "k") | (refine (?_ : LkAt 8 _ _); walk_at "k") | (refine (?_ : LkAt 9 _ _); walk_at "k") | (refine (?_ : LkAt 10 _ _); walk_at "k") | (refine (?_ : LkAt 11 _ _); walk_at "k") | (refine (?_ : LkAt 12 _ _); walk_at "k") | (refine (?_ : LkAt 13 _ _); walk_at "k") | (refine (?_ : LkAt 14 _ _); walk_at "k") | (refine (?_ : LkAt 15 _ _); walk_at "k") | (refine (?_ : LkAt 16 _ _); walk_at "k"))
local macro_rules | `(tactic| walk_at "nm") => `(tactic| refine SE.name (by walk_at "lk") ?_ (by decide +kernel))
local macro_rules | `(tactic| walk_at "len") => `(tactic| refine SE.blt (id := "len") ((‹Kx _ _ _›).isB (‹Kx _ _ _›).F.b_len (by kernel_rfl) (by kernel_rfl)) ?_)
local macro_rules | `(tactic| walk_at "s") => `(tactic| first
  | ((with_reducible show SE _ _ (Expr.Name _ _) _ _ _); walk_at "nm")
  | with_reducible (first | refine SE.cInt ?_ | refine SE.cNone ?_ | refine SE.cBool ?_ | refine SE.binop ?_ | refine SE.cmp ?_ | refine SE.ifexp ?_ | refine SE.list ?_ | refine SE.tuple ?_ | refine SE.sub ?_ | refine SAs.nil ?_ | refine SAs.cons ?_ | refine SB.cmp ?_ | refine SB.not ?_ | refine SB.boolop ?_ | refine SAll.and ?_ | refine SAll.or ?_ | refine SAll.and_nil ?_ | refine SAll.or_nil ?_ | refine SS.ret ?_ | refine SS.ifs ?_ | refine SL.cons ?_)
  | ((with_reducible show SE _ _ (Expr.Call (Expr.Name (Str.ofString "len") _) _ _ _) _ _ _); walk_at "len"))
local macro_rules | `(tactic| walk_at "w") => `(tactic| ((try ((with_reducible show SL _ _ _ _ _ _ _); refine SL.cons ?_)); repeat walk_at "s"))

section
variable {C : Cx} {S : St} {lm : Loc} {mem : List Int} {a : Int} {dk dd ld lg : Loc} {N : Int} {data given : List Int}
theorem write_record_sf {lo : Loc} {bl ix : Int} {xs : List Int} (hF : Facts C.KF) (hn : 3 ≤ C.n) (D : Dk C.KF S dk dd ld lg N data given) (hN : N ≤ 15) (b0 : 0 ≤ bl) (b1 : bl < N) (i0 : 0 ≤ ix) (i1 : ix < 2) (hl : data.length = 64 * N.toNat) (ho : S.σ lo = some (.list (IL xs))) (hxs : xs.length = 32) (hne : lo ≠ ld) :
    SF C "write_record" [.ref dk, .int bl, .int ix, .ref lo] S (fun v S' => v = .none ∧ Chg [ld] S S' ∧ S'.σ ld = some (.list (IL (putL data (64 * bl.toNat + 32 * ix.toNat) xs)))) noX := by
  refine SFA.run hF hF.f_write_record.fn hn [("disk", .ref dk), ("block", .int bl), ("index", .int ix), ("octets", .ref lo)] rfl rfl fun C' e1 kx e2 e3 hb => ?_
  rw [← e1] at D
  have hp : bl * 64 + ix * 32 = ((64 * bl.toNat + 32 * ix.toNat : Nat) : Int) := by (first | lia | omega)
  have hpl : 64 * bl.toNat + 32 * ix.toNat + 32 ≤ data.length := by (first | lia | omega)
  generalize 64 * bl.toNat + 32 * ix.toNat = p at hp hpl ⊢
  refine letPost ?_
  intro PR
  refine letFr ?_
  intro fr0
  refine SL.cons (SS.expr (SE.fn kx kx.F.f_need_writable (by kernel_rfl) ?_))
  walk_at "w"
  refine (need_writable_sf kx.F (kx.le (by decide)) D).thnE ?_
  intro S₁ x1
  refine SL.cons (SS.assign (SE.fn kx kx.F.f_record_place (by kernel_rfl) ?_))
  walk_at "w"
  refine (record_place_sf kx.F (kx.le (by decide)) (D.ext x1) (by (first | lia | omega)) b0 b1 i0 i1 hp).thnE ?_
  intro S₂ x2
  have x12 := x1.trans x2
  refine ST.name (kx.isV (by kernel_rfl)) ?_
  walk_at "w"
  refine SC.lenI (x12.2 _ _ ho) hxs (by (first | lia | omega)) ?_
  refine SE.dRecord kx (by walk_at "lk") (D.ext x12) ⟨false, rfl, ?_⟩
  refine SL.nil ?_
  refine SL.cons (SS.for ⟨kx.isV (by kernel_rfl), kx.isV (by kernel_rfl)⟩ (SI.enum (kx.isB kx.F.b_enumerate (by kernel_rfl) (by kernel_rfl)) (SE.name (by walk_at "lk") ⟨lo, _, rfl, x12.2 _ _ ho, ?_⟩ (by decide +kernel))))
  refine ⟨fun i fr' S' => fr' = ([("begin", .int p), ("disk", .ref dk), ("block", .int bl), ("index", .int ix), ("octets", .ref lo)] : Frm) ∧ Chg [ld] S S' ∧ S'.σ ld = some (.list (IL (putL data p (xs.take i)))), ⟨rfl, x12.chg _, by simpa [putL] using x12.2 _ _ D.ld⟩, ?_, ?_⟩
  · refine jT2 fun i S' ch hd hi => ?_
    have ho' := ch.2 _ _ (by simpa using hne) ho
    refine ⟨⟨_, ho', rfl⟩, ?_⟩
    rintro fr₁ S₃ ⟨rfl, vs, v, e, hv, rfl⟩
    rw [ho'] at e; cases e
    rw [IL_len] at hi
    rw [IL_get hi] at hv; cases hv
    have D' := D.toData ch hd
    refine SL.cons (SS.assign ?_)
    walk_at "w"
    refine ST.sub (SE.dData kx (by walk_at "lk") D' ?_)
    walk_at "w"
    refine .add ⟨ld, p + i, _, rfl, rfl, hd, by (first | lia | omega), by (first | lia | omega), by rw [IL_len, putL_len]; (first | lia | omega), ?_⟩
    refine SL.nil ⟨_, _, ?_, Sub.refl _, rfl, ch.put (by simp), ?_⟩
    · refine .cons (by walk_at "lk") (.cons (by walk_at "lk") (.cons (by walk_at "lk") (.cons (by walk_at "lk") (.cons (by walk_at "lk") (.nil _)))))
    · rw [put_at, IL_set, take_snoc (gI_get hi), putL_snoc, List.length_take, Nat.min_eq_left (Nat.le_of_lt hi), show ((p : Int) + (i : Int)).toNat = p + i from rfl]
  · refine jE2 fun S' ch hd => ?_
    refine ⟨⟨_, ch.2 _ _ (by simpa using hne) ho, rfl⟩, SL.nil ⟨rfl, ch, ?_⟩⟩
    rw [hd, IL_len, List.take_length]
noncomputable def boolsOf (n : Nat) (f : Nat → Bool) : List AV := ((List.range n).map f).map AV.bool
theorem boolsOf_get {n : Nat} {f : Nat → Bool} {i : Nat} (h : i < n) : (boolsOf n f)[i]? = some (.bool (f i)) := by simp [boolsOf, h]
theorem boolsOf_len {n : Nat} {f : Nat → Bool} : (boolsOf n f).length = n := by simp [boolsOf]
theorem boolsOf_congr {n : Nat} {f g : Nat → Bool} (h : ∀ k, k < n → f k = g k) : boolsOf n f = boolsOf n g := by
  unfold boolsOf
  congr 1
  exact List.map_congr_left fun k hk => h k (List.mem_range.mp hk)
theorem boolsOf_set {n : Nat} {f : Nat → Bool} {i : Nat} : (boolsOf n f).set i (.bool true) = boolsOf n (fun k => f k || decide (k = i)) := by
  refine List.ext_getElem? fun k => ?_
  rw [List.getElem?_set]
  by_cases q : k < n
  · by_cases q2 : i = k
    · subst q2; rw [if_pos rfl, if_pos (by rw [boolsOf_len]; exact q), boolsOf_get q]; simp
    · have : ¬ k = i := fun z => q2 z.symm
      simp [q2, boolsOf_get q, this]
  · have h1 : (boolsOf n f)[k]? = none := by simp [boolsOf]; (first | lia | omega)
    have h2 : (boolsOf n fun k => f k || decide (k = i))[k]? = none := by simp [boolsOf]; (first | lia | omega)
    rw [h1, h2]
    split
    · simp [boolsOf_len]; (first | lia | omega)
    · rfl
theorem Tru.bool {b : Bool} {P : Bool → Prop} (h : P b) : Tru (.bool b) P := h
theorem nearest_free_sf {lu : Loc} {near : Int} {n : Nat} {f : Nat → Bool} (hF : Facts C.KF) (hn : 1 ≤ C.n) (hu : S.σ lu = some (.list (boolsOf n f))) (h0 : 0 ≤ near) (h1 : near < n) (hz : n ≤ 1000) :
    SF C "nearest_free" [.ref lu, .int near] S (fun v S' => Ext S S' ∧ ((v = .none ∧ ∀ k, k < n → (k : Int) ≠ near → f k = true) ∨ ∃ b : Nat, v = .int b ∧ b < n ∧ (b : Int) ≠ near ∧ f b = false)) noX := by
  refine SFA.run hF hF.f_nearest_free.fn hn [("is_used", .ref lu), ("near", .int near)] rfl rfl fun C' e1 kx e2 e3 hb => ?_
  refine letPost ?_
  intro PR
  refine letFr ?_
  intro fr0
  refine SL.cons (SS.swap (xs := ["left", "right"]) ?_ (SE.tuple (SAs.cons (SE.blt (id := "min") (kx.isB kx.F.b_min (by kernel_rfl) (by kernel_rfl)) ?_))) (by intro _; rfl) ?_)
  · intro x hx
    simp only [List.mem_cons, List.not_mem_nil, or_false] at hx
    rcases hx with rfl | rfl
    · exact kx.g (by kernel_rfl)
    · exact kx.g (by kernel_rfl)
  · walk_at "w"
    refine SC.len hu (by rw [boolsOf_len]; (first | lia | omega)) ?_
    refine SAs.nil (SC.min2 ?_)
    rw [boolsOf_len, if_neg (by (first | lia | omega))]
    walk_at "w"
    refine ⟨by simp, S.nx, _, rfl, add_at, rfl, ?_⟩
    have x1 : Ext S (S.add (.tuple [.int near, .int near])) := (Ext.refl _).add hb
    show SL _ [("left", .int near), ("right", .int near), ("is_used", .ref lu), ("near", .int near)] _ _ _ _ _
    generalize S.add (.tuple [.int near, .int near]) = S1 at x1 ⊢
    refine SL.cons (SS.while (fun m fr' S' => ∃ l r : Nat, fr' = ([("left", .int l), ("right", .int r), ("is_used", .ref lu), ("near", .int near)] : Frm) ∧ Ext S S' ∧ (l : Int) ≤ near ∧ near ≤ r ∧ r < n ∧ (∀ k, l ≤ k → k ≤ r → (k : Int) ≠ near → f k = true) ∧ m = l + (n - r)) (n₀ := near.toNat + (n - near.toNat))
      ⟨near.toNat, near.toNat, by simp [Int.toNat_of_nonneg h0], x1, by (first | lia | omega), by (first | lia | omega), by (first | lia | omega), fun k k1 k2 k3 => by (first | lia | omega), rfl⟩ ?_)
    rintro m fr' S' ⟨l, r, rfl, ex, hl, hr, hrn, hall, rfl⟩
    have hu' := ex.2 _ _ hu
    -- the right half of a turn
    have right : ∀ l' : Nat, l' ≤ l → (l' < l ∨ r + 1 < n) → (∀ k, l' ≤ k → k ≤ r → (k : Int) ≠ near → f k = true) → ∀ fr2 : Frm, fr2.lookup ("right" : Str) = some (AV.int r) → fr2.lookup ("left" : Str) = some (AV.int l') → fr2.lookup ("is_used" : Str) = some (AV.ref lu) → fr2.lookup ("near" : Str) = some (AV.int near) →
        ∀ sts, sts = (bd_nearest_free.drop 1).head?.elim [] (fun s => match s with | .While _ b _ _ => b.drop 1 | _ => []) → SL C' fr2 sts S' (fun fr₃ S₃ => ∃ m fr₄ S₄, m < l + (n - r) ∧ Le fr₄ fr₃ ∧ Sub S₄ S₃ ∧ ∃ l r : Nat, fr₄ = ([("left", .int l), ("right", .int r), ("is_used", .ref lu), ("near", .int near)] : Frm) ∧ Ext S S₄ ∧ (l : Int) ≤ near ∧ near ≤ r ∧ r < n ∧ (∀ k, l ≤ k → k ≤ r → (k : Int) ≠ near → f k = true) ∧ m = l + (n - r))
          (fun v S' => Ext S S' ∧ ((v = .none ∧ ∀ k, k < n → (k : Int) ≠ near → f k = true) ∨ ∃ b : Nat, v = .int b ∧ b < n ∧ (b : Int) ≠ near ∧ f b = false)) noX := by
      rintro l' hl' hm hall' fr2 g1 g2 g3 g4 _ rfl
      refine SL.cons (SS.ifs ?_)
      refine SB.cmp (SE.name g1 ?_ (by decide +kernel))
      walk_at "w"
      refine SE.name g3 ?_ (by decide +kernel)
      refine SAs.nil (SC.len hu' (by rw [boolsOf_len]; (first | lia | omega)) ?_)
      rw [boolsOf_len]
      walk_at "w"
      refine Bop.sub ?_
      by_cases q : r + 1 < n
      · refine ⟨true, congrArg some (decide_eq_true (by (first | lia | omega))), ?_⟩
        show SL _ _ _ _ _ _ _
        refine SL.cons (SS.aug (.inl rfl) g1 (kx.g (by kernel_rfl)) ?_)
        walk_at "w"
        refine ⟨1, rfl, ?_⟩
        rw [if_pos rfl, show (r : Int) + 1 = ((r + 1 : Nat) : Int) by push_cast; rfl]
        have nk : ∀ (x y : Str) (v u : AV), y ≠ x → fr2.lookup y = some u → ((x, v) :: fr2).lookup y = some u := fun x y v u h e => by rw [lookup_there h]; exact e
        refine SL.cons (SS.ifs ?_)
        walk_at "w"
        refine SB.val (by intro _ _; rfl) ?_
        refine SE.sub ?_
        refine SE.name (nk _ _ _ _ (by decide +kernel) g3) ?_ (by decide +kernel)
        refine SE.name lookup_here ?_ (by decide +kernel)
        refine ⟨_, _, .inl hu', by (first | lia | omega), by (first | lia | omega), boolsOf_get (by (first | lia | omega)), ?_⟩
        rw [show ((r + 1 : Nat) : Int).toNat = r + 1 from rfl]
        cases qf : f (r + 1) with
        | true =>
          refine SL.nil (SL.nil (SL.nil ⟨l' + (n - (r + 1)), _, _, by (first | lia | omega), .cons (nk _ _ _ _ (by decide +kernel) g2) (.cons lookup_here (.cons (nk _ _ _ _ (by decide +kernel) g3) (.cons (nk _ _ _ _ (by decide +kernel) g4) (.nil _)))), Sub.refl _, l', r + 1, rfl, ex, by (first | lia | omega), by (first | lia | omega), q, fun k k1 k2 k3 => ?_, rfl⟩))
          by_cases z : k = r + 1
          · rw [z]; exact qf
          · exact hall' k k1 (by (first | lia | omega)) k3
        | false =>
          refine SL.cons (SS.ret (SE.name lookup_here ?_ (by decide +kernel)))
          exact ⟨ex, .inr ⟨r + 1, rfl, q, by (first | lia | omega), qf⟩⟩
      · refine ⟨false, congrArg some (decide_eq_false (by (first | lia | omega))), ?_⟩
        refine SL.nil (SL.nil ⟨l' + (n - r), _, _, by (first | lia | omega), .cons g2 (.cons g1 (.cons g3 (.cons g4 (.nil _)))), Sub.refl _, l', r, rfl, ex, by (first | lia | omega), by (first | lia | omega), hrn, hall', rfl⟩)
    refine SB.boolop ?_
    have body : (0 < l ∨ r + 1 < n) → SL C' [("left", .int l), ("right", .int r), ("is_used", .ref lu), ("near", .int near)] ((bd_nearest_free.drop 1).head?.elim [] (fun s => match s with | .While _ b _ _ => b | _ => [])) S' (fun fr₃ S₃ => ∃ m fr₄ S₄, m < l + (n - r) ∧ Le fr₄ fr₃ ∧ Sub S₄ S₃ ∧ ∃ l r : Nat, fr₄ = ([("left", .int l), ("right", .int r), ("is_used", .ref lu), ("near", .int near)] : Frm) ∧ Ext S S₄ ∧ (l : Int) ≤ near ∧ near ≤ r ∧ r < n ∧ (∀ k, l ≤ k → k ≤ r → (k : Int) ≠ near → f k = true) ∧ m = l + (n - r))
          (fun v S' => Ext S S' ∧ ((v = .none ∧ ∀ k, k < n → (k : Int) ≠ near → f k = true) ∨ ∃ b : Nat, v = .int b ∧ b < n ∧ (b : Int) ≠ near ∧ f b = false)) noX := by
      intro hlr
      refine SL.cons (SS.ifs ?_)
      walk_at "w"
      by_cases q : 0 < l
      · refine ⟨true, congrArg some (decide_eq_true (by (first | lia | omega))), ?_⟩
        show SL _ _ _ _ _ _ _
        refine SL.cons (SS.aug (.inr rfl) (by walk_at "lk") (kx.g (by kernel_rfl)) ?_)
        walk_at "w"
        refine ⟨1, rfl, ?_⟩
        rw [if_neg (by intro z; cases z), show (l : Int) - 1 = ((l - 1 : Nat) : Int) by (first | lia | omega)]
        refine SL.cons (SS.ifs ?_)
        walk_at "w"
        refine SB.val (by intro _ _; rfl) ?_
        walk_at "w"
        refine ⟨_, _, .inl hu', by (first | lia | omega), by (first | lia | omega), boolsOf_get (by (first | lia | omega)), ?_⟩
        rw [show ((l - 1 : Nat) : Int).toNat = l - 1 from rfl]
        cases qf : f (l - 1) with
        | true =>
          refine SL.nil (SL.nil (right (l - 1) (by (first | lia | omega)) (.inl (by (first | lia | omega))) (fun k k1 k2 k3 => ?_) _ (by walk_at "lk") (by walk_at "lk") (by walk_at "lk") (by walk_at "lk") _ rfl))
          by_cases z : k = l - 1
          · rw [z]; exact qf
          · exact hall k (by (first | lia | omega)) k2 k3
        | false =>
          refine SL.cons (SS.ret (SE.name (by walk_at "lk") ?_ (by decide +kernel)))
          exact ⟨ex, .inr ⟨l - 1, rfl, by (first | lia | omega), by (first | lia | omega), qf⟩⟩
      · refine ⟨false, congrArg some (decide_eq_false (by (first | lia | omega))), ?_⟩
        exact SL.nil (right l (Nat.le_refl _) (.inr (by (first | lia | omega))) hall _ (by walk_at "lk") (by walk_at "lk") (by walk_at "lk") (by walk_at "lk") _ rfl)
    walk_at "w"
    by_cases q : 0 < l
    · refine ⟨true, congrArg some (decide_eq_true (by (first | lia | omega))), ?_⟩
      exact body (.inl q)
    · refine ⟨false, congrArg some (decide_eq_false (by (first | lia | omega))), ?_⟩
      show SAll _ _ _ _ _ _ _
      walk_at "w"
      refine SC.len hu' (by rw [boolsOf_len]; (first | lia | omega)) ?_
      rw [boolsOf_len]
      walk_at "w"
      refine Bop.sub ?_
      by_cases q2 : r + 1 < n
      · refine ⟨true, congrArg some (decide_eq_true (by (first | lia | omega))), ?_⟩
        exact body (.inr q2)
      · refine ⟨false, congrArg some (decide_eq_false (by (first | lia | omega))), ?_⟩
        refine SAll.or_nil ?_
        show SL _ _ _ _ _ _ _
        walk_at "w"
        exact ⟨ex, .inl ⟨rfl, fun k k1 k2 => hall k (by (first | lia | omega)) (by (first | lia | omega)) k2⟩⟩
  · have key : ∀ env : Env, env.scope = sc_nearest_free → swappedStores (asgT (bd_nearest_free)) (asgV (bd_nearest_free)) env = (pure (some ["left", "right"]) : Sem (Option (List Str))) := by
      rintro ⟨sc, b, c, d, e, f, g, h, i⟩ he
      dsimp only at he
      subst he
      kernel_rfl
    exact key _ e2
end
end Mine
end
section
open PySem PySem.W PyProof.Rows PySem.Calls
set_option Elab.async false
set_option maxRecDepth 100000
set_option linter.unusedVariables false
namespace Mine
local macro_rules | `(tactic| walk_at "k") => `(tactic| (refine (?_ : _ = _); kernel_rfl!))
local macro_rules | `(tactic| walk_at "lk") => `(tactic| first | with_reducible exact lookup_here | (refine (?_ : LkAt 1 _ _); walk_at "k") | (refine (?_ : LkAt 2 _ _); walk_at "k") | (refine (?_ : LkAt 3 _ _); walk_at "k") | (refine (?_ : LkAt 4 _ _); walk_at "k") | (refine (?_ : LkAt 5 _ _); walk_at "k") | (refine (?_ : LkAt 6 _ _); walk_at "k") | (refine (?_ : LkAt 7 _ _); walk_at "k") | (refine (?_ : LkAt 8 _ _); walk_at "k") | (refine (?_ : LkAt 9 _ _); walk_at "k") | (refine (?_ : LkAt 10 _ _); walk_at "k") | (refine (?_ : LkAt 11 _ _); walk_at "k") | (refine (?_ : LkAt 12 _ _); walk_at "k") | (refine (?_ : LkAt 13 _ _); walk_at "k") | (refine (?_ : LkAt 14 _ _); walk_at "k") | (refine (?_ : LkAt 15 _ _); walk_at "k") | (refine (?_ : LkAt 16 _ _); walk_at "k"))
local macro_rules | `(tactic| walk_at "nm") => `(tactic| refine SE.name (by walk_at "lk") ?_ (by decide +kernel))
local macro_rules | `(tactic| walk_at "len") => `(tactic| refine SE.blt (id := "len") ((‹Kx _ _ _›).isB (‹Kx _ _ _›).F.b_len (by kernel_rfl) (by kernel_rfl)) ?_)
local macro_rules | `(tactic| walk_at "s") => `(tactic| first
  | ((with_reducible show SE _ _ (Expr.Name _ _) _ _ _); walk_at "nm")
  | with_reducible (first | refine SE.cInt ?_ | refine SE.cNone ?_ | refine SE.cBool ?_ | refine SE.binop ?_ | refine SE.cmp ?_ | refine SE.ifexp ?_ | refine SE.list ?_ | refine SE.tuple ?_ | refine SE.sub ?_ | refine SAs.nil ?_ | refine SAs.cons ?_ | refine SB.cmp ?_ | refine SB.not ?_ | refine SB.boolop ?_ | refine SAll.and ?_ | refine SAll.or ?_ | refine SAll.and_nil ?_ | refine SAll.or_nil ?_ | refine SS.ret ?_ | refine SS.ifs ?_ | refine SL.cons ?_)
  | ((with_reducible show SE _ _ (Expr.Call (Expr.Name (Str.ofString "len") _) _ _ _) _ _ _); walk_at "len"))
local macro_rules | `(tactic| walk_at "w") => `(tactic| ((try ((with_reducible show SL _ _ _ _ _ _ _); refine SL.cons ?_)); repeat walk_at "s"))

noncomputable def mapN (data : List Int) (n : Nat) : List Int := seg data (32 * n + 16) 16
noncomputable def base (given : List Int) (k : Nat) : Bool := if (k : Int) < 2 then true else given.any (· == (k : Int))
noncomputable def inMaps (data : List Int) (ns : List Nat) (k : Nat) : Bool := ns.any fun n => (mapN data n).any (· == (k : Int))
noncomputable def usedB (data given : List Int) (k : Nat) : Bool := base given k || inMaps data (liveN data 4) k
theorem inMaps_snoc {data : List Int} {ns : List Nat} {n k : Nat} : inMaps data (ns ++ [n]) k = (inMaps data ns k || (mapN data n).any (· == (k : Int))) := by simp [inMaps]
theorem seg_map {data : List Int} {n : Nat} : seg (seg data (32 * n) 32) 16 16 = mapN data n := by
  simp [mapN, seg, List.drop_drop, List.take_take, List.drop_take]
theorem liveN_lt {data : List Int} {n : Nat} (h : n ∈ liveN data 4) : n < 4 := List.mem_range.mp (List.mem_filter.mp h).1
section
variable {C : Cx} {S : St} {lm : Loc} {mem : List Int} {a : Int} {dk dd ld lg : Loc} {N : Nat} {data given : List Int}
theorem used_blocks_sf (hF : Facts C.KF) (hn : 6 ≤ C.n) (D : Dk C.KF S dk dd ld lg N data given) (hN : N ≤ 15) (hl : 128 ≤ data.length) (hz : data.length ≤ 1000) (hd : DirOk data) :
    SF C "used_blocks" [.ref dk] S (fun v S' => ∃ lu, v = .ref lu ∧ Ext S S' ∧ S'.σ lu = some (.list (boolsOf N (usedB data given)))) noX := by
  refine SFA.run hF hF.f_used_blocks.fn hn [("disk", .ref dk)] rfl rfl fun C' e1 kx e2 e3 hb => ?_
  rw [← e1] at D
  refine letPost ?_
  intro PR
  refine letFr ?_
  intro fr0
  refine SL.cons (SS.assignComp (frc := [("disk", .ref dk)]) (.inl (kx.g (by kernel_rfl))) (CompOk.of kx e2 ⟨by walk_at "lk", trivial⟩ (by kernel_rfl)) (fun C₂ ic => (kx.comp e2 ic).isV (by kernel_rfl)) (SI.range1 (kx.isB kx.F.b_range (by kernel_rfl) (by kernel_rfl)) (SE.dBlocks kx (by walk_at "lk") D ⟨N, rfl, by (first | lia | omega), by (first | lia | omega), ?_⟩)) ?_)
  rotate_left
  · have key : ∀ env : Env, env.scope = sc_used_blocks → swapsWith (match bd_used_blocks with | .Assign _ v _ :: _ => v | _ => .Name "" ⟨0, 0, 0, 0⟩) (match bd_used_blocks with | .Assign (t :: _) _ _ :: _ => some t | _ => none) (match bd_used_blocks with | .Assign _ _ p :: _ => p.line | _ => 0) env = pure true := by
      rintro ⟨sc, b, c, d, e, f, g, h, i⟩ he
      dsimp only at he
      subst he
      kernel_rfl
    exact key _ e2
  refine ⟨fun i ys => ys = boolsOf i (base given), ⟨rfl, by (first | lia | omega), ?_, ?_, fun _ _ => trivial⟩, ?_⟩
  · rintro i S' fr₁ S₂ ⟨rfl, rfl⟩
    exact le_push (by kernel_rfl)
  · rintro C₂ ic i ys S' hi rfl ex
    have k2 := kx.comp e2 ic
    have hk : C₂.KF = C'.KF := ic.KF
    have D' := D.ext ex
    rw [← hk] at D'
    refine ⟨trivial, fun fr₁ it => ?_⟩
    obtain ⟨_, rfl⟩ := it
    refine ⟨.refl _, ?_⟩
    rw [if_pos rfl, show (0 : Int) + (i : Int) = (i : Int) by (first | lia | omega)]
    have fin : ∀ b S₂, Ext S' S₂ → b = base given i → (Ext S' S₂ ∧ boolsOf i (base given) ++ [AV.bool b] = boolsOf (i + 1) (base given)) := fun b S₂ x e => ⟨x, by rw [e]; unfold boolsOf; rw [List.range_succ]; simp⟩
    refine SE.or2 ?_
    walk_at "w"
    refine SE.fn k2 k2.F.f_directory_blocks (by kernel_rfl) ?_
    walk_at "w"
    refine (directory_blocks_sf k2.F (k2.le (by decide)) D').thnE ?_
    intro S₃ x3
    by_cases q : (i : Int) < 2
    · refine ⟨true, congrArg some (decide_eq_true q), ?_⟩
      exact fin _ _ x3 (by unfold base; rw [if_pos q])
    · refine ⟨false, congrArg some (decide_eq_false q), ?_⟩
      show SE _ _ _ _ _ _
      walk_at "w"
      refine SE.dGiven k2 (by walk_at "lk") (D'.ext x3) ⟨_, .inl (D'.ext x3).lg, .inl ⟨rfl, ?_⟩⟩
      exact fin _ _ x3 (by unfold base; rw [if_neg q])
  · rintro ys S₁ lu rfl x1 hlu eu
    rw [show (N : Int).toNat = N by (first | lia | omega)] at eu
    refine SL.bnd fun hbb => ?_
    -- over the live entries
    refine SL.cons (SS.for ⟨kx.isV (by kernel_rfl), kx.isV (by kernel_rfl)⟩ (SI.list (.T _ _ _ _ _ _) (SE.fn kx kx.F.f_live_entries (by kernel_rfl) ?_)))
    walk_at "w"
    refine (live_entries_sf kx.F (kx.le (by decide)) (D.ext x1) (by (first | lia | omega)) hl hz hd).thn ?_
    rintro v S₂ ⟨lf, vs, rfl, hlf, x2, el, en⟩
    refine ⟨lf, vs, rfl, el, ?_⟩
    have hbS1 : lu < S₁.nx := hbb lu (by rw [eu]; simp)
    refine ⟨fun i fr' S' => fr' = ([("found", .ref lu), ("disk", .ref dk)] : Frm) ∧ Chg [lu] S₂ S' ∧ S'.σ lu = some (.list (boolsOf N fun k => base given k || inMaps data ((liveN data 4).take i) k)), ⟨rfl, Chg.refl _ _, ?_⟩, ?_, ?_⟩
    · rw [x2.2 _ _ eu]
      congr 2
      exact boolsOf_congr fun k _ => by simp [inMaps]
    · refine jT2 fun i S' ch eu' hi => ?_
      obtain ⟨n, hns⟩ : ∃ n, (liveN data 4)[i]? = some n := ⟨_, List.getElem?_eq_getElem (by rw [← en.1]; exact hi)⟩
      have hv : vs[i]? = some vs[i] := List.getElem?_eq_getElem hi
      obtain ⟨lt, ve, e, hb1, et, le, de, lr, lp, rfl, E⟩ := en.2 i _ n hv hns
      have off : ∀ l, S₁.nx ≤ l → l ≠ lu := fun l h q => absurd hbS1 (by rw [← q]; exact Nat.not_lt.mpr h)
      have et' := ch.2 _ _ (by simpa using off _ hb1) et
      have el' := ch.2 _ _ (by simpa using off _ hlf) el
      have E' : En C'.KF S' S₁.nx le de lr lp (gI (seg data (32 * n) 32) 0) (seg (seg data (32 * n) 32) 1 11) 0 (gI (seg data (32 * n) 32) 13) (gI (seg data (32 * n) 32) 15) (seg (seg data (32 * n) 32) 16 16) :=
        ⟨ch.2 _ _ (by simpa using off _ E.b4) E.hle, ch.2 _ _ (by simpa using off _ E.b1) E.hde, ch.2 _ _ (by simpa using off _ E.b3) E.hlr, ch.2 _ _ (by simpa using off _ E.b2) E.hlp, E.b1, E.b2, E.b3, E.b4⟩
      rw [seg_map] at E'
      have hn4 := liveN_lt (List.mem_of_getElem? hns)
      have ml : (mapN data n).length = 16 := seg_len (by (first | lia | omega))
      refine turnLT el' rfl (hv.trans (congrArg some e)) et' ?_
      refine letPN ?_
      intro PN1
      refine letFr ?_
      intro fr1
      refine SL.cons (SS.for (kx.isV (by kernel_rfl)) (SI.list (.N _ _) (E'.a_map kx (by walk_at "lk") ⟨lp, _, rfl, E'.hlp, ?_⟩)))
      rw [IL_len, ml]
      refine ⟨fun j fr' S' => fr' = ([("entry", .ref le), ("number", .int n), ("found", .ref lu), ("disk", .ref dk)] : Frm) ∧ Chg [lu] S₂ S' ∧ S'.σ lu = some (.list (boolsOf N fun k => (base given k || inMaps data ((liveN data 4).take i) k) || ((mapN data n).take j).any (· == (k : Int)))), ⟨rfl, ch, ?_⟩, ?_, ?_⟩
      · rw [eu']
        congr 2
        exact boolsOf_congr fun k _ => by simp
      · rintro j fr' S4 ⟨rfl, ch4, eu4⟩ hj
        have elp := ch4.2 _ _ (by simpa using off _ E.b2) E.hlp
        rw [seg_map] at elp
        have x4 : Ext S S4 := (x1.trans x2).of_new ch4 (by simpa using hlu) hb
        have hv4 := IL_get (l := mapN data n) (i := j) (by (first | lia | omega))
        refine turnLN elp (by rw [IL_len, ml]) hv4 ?_
        generalize hbv : gI (mapN data n) j = bv
        have tk : (mapN data n).take (j + 1) = (mapN data n).take j ++ [bv] := by rw [← hbv]; exact take_snoc (gI_get (by (first | lia | omega)))
        have same : (bv ≤ 0 ∨ (N : Int) ≤ bv) → SL C' [("block", .int bv), ("entry", .ref le), ("number", .int n), ("found", .ref lu), ("disk", .ref dk)] [] S4 (fun fr₃ S₃ => ∃ fr₄ S₄, Le fr₄ fr₃ ∧ Sub S₄ S₃ ∧ (fr₄ = ([("entry", .ref le), ("number", .int n), ("found", .ref lu), ("disk", .ref dk)] : Frm) ∧ Chg [lu] S₂ S₄ ∧ S₄.σ lu = some (.list (boolsOf N fun k => (base given k || inMaps data ((liveN data 4).take i) k) || ((mapN data n).take (j + 1)).any (· == (k : Int)))))) (fun v S' => ∃ lu, v = .ref lu ∧ Ext S S' ∧ S'.σ lu = some (.list (boolsOf N (usedB data given)))) noX := by
          intro hq
          refine SL.nil ⟨_, _, .cons (by walk_at "lk") (.cons (by walk_at "lk") (.cons (by walk_at "lk") (.cons (by walk_at "lk") (.nil _)))), Sub.refl _, rfl, ch4, ?_⟩
          rw [eu4]
          congr 2
          refine boolsOf_congr fun k hk => ?_
          rw [tk, List.any_append]
          have : ([bv].any (· == (k : Int))) = true → base given k = true := by
            intro h
            have h' : bv = (k : Int) := by simpa using h
            unfold base
            rw [if_pos (by (first | lia | omega))]
          cases hb1 : [bv].any (· == (k : Int)) with
          | false => simp
          | true => rw [this hb1]; simp
        walk_at "w"
        refine SB.chain ?_
        walk_at "w"
        by_cases q1 : 0 < bv
        rotate_left
        · refine ⟨false, congrArg some (decide_eq_false q1), ?_⟩
          exact SL.nil (same (.inl (by (first | lia | omega))))
        refine ⟨true, congrArg some (decide_eq_true q1), ?_⟩
        refine SE.dBlocks kx (by walk_at "lk") (D.ext x4) ?_
        by_cases q2 : bv < N
        rotate_left
        · refine ⟨false, congrArg some (decide_eq_false q2), ?_⟩
          exact SL.nil (same (.inr (by (first | lia | omega))))
        refine ⟨true, congrArg some (decide_eq_true q2), ?_⟩
        show SL _ _ _ _ _ _ _
        refine SL.cons (SS.assign ?_)
        walk_at "w"
        refine ST.sub ?_
        walk_at "w"
        refine ⟨lu, bv, _, rfl, rfl, eu4, by (first | lia | omega), by (first | lia | omega), by rw [boolsOf_len]; (first | lia | omega), ?_⟩
        refine SL.nil (SL.nil ⟨_, _, .cons (by walk_at "lk") (.cons (by walk_at "lk") (.cons (by walk_at "lk") (.cons (by walk_at "lk") (.nil _)))), Sub.refl _, rfl, ch4.put (by simp), ?_⟩)
        rw [put_at, boolsOf_set]
        congr 2
        refine boolsOf_congr fun k hk => ?_
        rw [tk, List.any_append]
        have : ([bv].any (· == (k : Int))) = decide (k = bv.toNat) := by
          by_cases z : k = bv.toNat
          · have : bv = (k : Int) := by (first | lia | omega)
            simp [this]
          · have : ¬ bv = (k : Int) := by (first | lia | omega)
            simp [z, this]
        rw [this, Bool.or_assoc]
      · refine jE2 fun S4 ch4 eu4 => ?_
        have elp := ch4.2 _ _ (by simpa using off _ E.b2) E.hlp
        rw [seg_map] at elp
        refine ⟨⟨_, elp, by rw [IL_len, ml], fun q => absurd q (Nat.lt_irrefl _)⟩, ?_⟩
        refine SL.nil ⟨_, _, .cons (by walk_at "lk") (.cons (by walk_at "lk") (.nil _)), Sub.refl _, rfl, ch4, ?_⟩
        rw [eu4]
        congr 2
        refine boolsOf_congr fun k _ => ?_
        have t1 : (liveN data 4).take (i + 1) = (liveN data 4).take i ++ [n] := by rw [List.take_add_one, hns]; rfl
        rw [t1, inMaps_snoc, show (mapN data n).take 16 = mapN data n from by rw [← ml, List.take_length], Bool.or_assoc]
    · refine jE2 fun S' ch eu' => ?_
      have off : ∀ l, S₁.nx ≤ l → l ≠ lu := fun l h q => absurd hbS1 (by rw [← q]; exact Nat.not_lt.mpr h)
      refine ⟨⟨vs, ch.2 _ _ (by simpa using off _ hlf) el, rfl, fun q => absurd q (Nat.lt_irrefl _)⟩, ?_⟩
      walk_at "w"
      refine ⟨lu, rfl, (x1.trans x2).of_new ch (by simpa using hlu) hb, ?_⟩
      rw [eu', en.1, List.take_length]
      rfl
end
end Mine
end
section
open PySem PySem.W PyProof.Rows PySem.Calls
set_option Elab.async false
set_option maxRecDepth 100000
set_option linter.unusedVariables false
namespace Mine
local macro_rules | `(tactic| walk_at "k") => `(tactic| (refine (?_ : _ = _); kernel_rfl!))
local macro_rules | `(tactic| walk_at "lk") => `(tactic| first | with_reducible exact lookup_here | (refine (?_ : LkAt 1 _ _); walk_at "k") | (refine (?_ : LkAt 2 _ _); walk_at "k") | (refine (?_ : LkAt 3 _ _); walk_at "k") | (refine (?_ : LkAt 4 _ _); walk_at "k") | (refine (?_ : LkAt 5 _ _); walk_at "k") | (refine (?_ : LkAt 6 _ _); walk_at "k") | (refine (?_ : LkAt 7 _ _); walk_at "k") | (refine (?_ : LkAt 8 _ _); walk_at "k") | (refine (?_ : LkAt 9 _ _); walk_at "k") | (refine (?_ : LkAt 10 _ _); walk_at "k") | (refine (?_ : LkAt 11 _ _); walk_at "k") | (refine (?_ : LkAt 12 _ _); walk_at "k") | (refine (?_ : LkAt 13 _ _); walk_at "k") | (refine (?_ : LkAt 14 _ _); walk_at "k") | (refine (?_ : LkAt 15 _ _); walk_at "k") | (refine (?_ : LkAt 16 _ _); walk_at "k"))
local macro_rules | `(tactic| walk_at "nm") => `(tactic| refine SE.name (by walk_at "lk") ?_ (by decide +kernel))
local macro_rules | `(tactic| walk_at "len") => `(tactic| refine SE.blt (id := "len") ((‹Kx _ _ _›).isB (‹Kx _ _ _›).F.b_len (by kernel_rfl) (by kernel_rfl)) ?_)
local macro_rules | `(tactic| walk_at "s") => `(tactic| first
  | ((with_reducible show SE _ _ (Expr.Name _ _) _ _ _); walk_at "nm")
  | with_reducible (first | refine SE.cInt ?_ | refine SE.cNone ?_ | refine SE.cBool ?_ | refine SE.binop ?_ | refine SE.cmp ?_ | refine SE.ifexp ?_ | refine SE.list ?_ | refine SE.tuple ?_ | refine SE.sub ?_ | refine SAs.nil ?_ | refine SAs.cons ?_ | refine SB.cmp ?_ | refine SB.not ?_ | refine SB.boolop ?_ | refine SAll.and ?_ | refine SAll.or ?_ | refine SAll.and_nil ?_ | refine SAll.or_nil ?_ | refine SS.ret ?_ | refine SS.ifs ?_ | refine SL.cons ?_)
  | ((with_reducible show SE _ _ (Expr.Call (Expr.Name (Str.ofString "len") _) _ _ _) _ _ _); walk_at "len"))
local macro_rules | `(tactic| walk_at "w") => `(tactic| ((try ((with_reducible show SL _ _ _ _ _ _ _); refine SL.cons ?_)); repeat walk_at "s"))

section
variable {C : Cx} {S : St} {lm : Loc} {mem : List Int} {a : Int} {dk dd ld lg : Loc} {N : Nat} {data given : List Int}
theorem allocate_sf {near : Int} (hF : Facts C.KF) (hn : 7 ≤ C.n) (D : Dk C.KF S dk dd ld lg N data given) (hN : N ≤ 15) (hl : 128 ≤ data.length) (hz : data.length ≤ 1000) (hd : DirOk data) (h0 : 0 ≤ near) (h1 : near < N) :
    SF C "allocate" [.ref dk, .int near] S (fun v S' => Ext S S' ∧ ∃ b : Nat, v = .int b ∧ b < N ∧ (b : Int) ≠ near ∧ usedB data given b = false) (fun S' => Ext S S' ∧ ∀ k, k < N → (k : Int) ≠ near → usedB data given k = true) := by
  refine SFA.run hF hF.f_allocate.fn hn [("disk", .ref dk), ("near", .int near)] rfl rfl fun C' e1 kx e2 e3 hb => ?_
  rw [← e1] at D
  refine letPost ?_
  intro PR
  refine letFr ?_
  intro fr0
  refine SL.cons (SS.assign (SE.fn kx kx.F.f_nearest_free (by kernel_rfl) ?_))
  walk_at "w"
  refine SE.fn kx kx.F.f_used_blocks (by kernel_rfl) ?_
  walk_at "w"
  refine (used_blocks_sf kx.F (kx.le (by decide)) D hN hl hz hd).thn ?_
  rintro v S₁ ⟨lu, rfl, x1, eu⟩
  walk_at "w"
  refine (nearest_free_sf kx.F (kx.le (by decide)) eu h0 h1 (by (first | lia | omega))).thnA ?_
  intro v S₂ x2 h
  refine ST.name (kx.isV (by kernel_rfl)) ?_
  refine SL.cons (SS.ifs ?_)
  walk_at "w"
  rcases h with ⟨rfl, hall⟩ | ⟨b, rfl, hb1, hb2, hb3⟩
  · refine .inl ⟨rfl, ?_⟩
    show SL _ _ _ _ _ _ _
    exact SL.cons (SS.raiseFull kx.F.disk_error (kx.g (by kernel_rfl)) (kx.le (by decide)) ⟨x1.trans x2, hall⟩)
  · refine .inl ⟨rfl, ?_⟩
    refine SL.nil ?_
    walk_at "w"
    exact ⟨x1.trans x2, b, rfl, hb1, hb2, hb3⟩
theorem set_block_sf {slot bl : Int} (hF : Facts C.KF) (hn : 4 ≤ C.n) (D : Dk C.KF S dk dd ld lg N data given) (hN : N ≤ 15) (hm : S.σ lm = some (.list (IL mem))) (h0 : 0 ≤ a) (h1 : a + 36 ≤ 256) (hlm : mem.length = 256) (s0 : 0 ≤ slot) (s1 : slot < 16) (n1 : ld ≠ lm) (n2 : lg ≠ lm) :
    SF C "set_block" [.ref dk, .ref lm, .int a, .int slot, .int bl] S (fun v S' => v = .none ∧ MemTo S S' lm (putM mem (a.toNat + 16) ((seg mem (a.toNat + 16) 16).set slot.toNat bl))) noX := by
  refine SFA.run hF hF.f_set_block.fn hn [("disk", .ref dk), ("memory", .ref lm), ("at", .int a), ("slot", .int slot), ("block", .int bl)] rfl rfl fun C' e1 kx e2 e3 hb => ?_
  rw [← e1] at D
  refine letPost ?_
  intro PR
  refine letFr ?_
  intro fr0
  have hlt : lm < S.nx := hb lm (by rw [hm]; simp)
  refine SL.cons (SS.assign (SE.fn kx kx.F.f_blocks_at (by kernel_rfl) ?_))
  walk_at "w"
  refine (blocks_at_sf kx.F (kx.le (by decide)) D (by (first | lia | omega)) hm h0 h1 hlm).thnR ?_
  intro lb S₁ hlb x1 eb
  have sl : (seg mem (a.toNat + 16) 16).length = 16 := seg_len (by (first | lia | omega))
  have nb : lm ≠ lb := fun q => absurd hlt (by rw [q]; exact Nat.not_lt.mpr hlb)
  refine ST.name (kx.isV (by kernel_rfl)) ?_
  refine SL.cons (SS.assign ?_)
  walk_at "w"
  refine ST.sub ?_
  walk_at "w"
  refine ⟨lb, slot, _, rfl, rfl, eb, s0, by (first | lia | omega), by rw [IL_len, sl]; (first | lia | omega), ?_⟩
  rw [IL_set]
  have c2 : Chg [lb] S₁ (S₁.put lb (.list (IL ((seg mem (a.toNat + 16) 16).set slot.toNat bl)))) := (Chg.refl _ _).put (by simp)
  have e2' : (S₁.put lb (.list (IL ((seg mem (a.toNat + 16) 16).set slot.toNat bl)))).σ lb = some (.list (IL ((seg mem (a.toNat + 16) 16).set slot.toNat bl))) := put_at
  generalize S₁.put lb (.list (IL ((seg mem (a.toNat + 16) 16).set slot.toNat bl))) = S₂ at c2 e2' ⊢
  have x2 : Ext S S₂ := x1.of_new c2 (by simpa using hlb) hb
  refine SL.cons (SS.expr (SE.fn kx kx.F.f_put_octets (by kernel_rfl) ?_))
  walk_at "w"
  refine SE.gint kx kx.F.i_MAP_AT (by kernel_rfl) (.add ?_)
  walk_at "w"
  refine SE.fn kx kx.F.f_map_octets (by kernel_rfl) ?_
  walk_at "w"
  refine (map_octets_sf kx.F (kx.le (by decide)) (D.ext x2) (by (first | lia | omega)) e2' (by simp [sl])).thnR ?_
  intro lo S₃ hlo x3 eo
  have x23 := x2.trans x3
  walk_at "w"
  have no : lo ≠ lm := fun q => absurd hlt (by rw [← q]; exact Nat.not_lt.mpr (Nat.le_trans x2.1 hlo))
  refine (put_octets_sf kx.F (kx.le (by decide)) (x23.2 _ _ hm) eo no (by (first | lia | omega)) (by simp [sl]; (first | lia | omega)) hlm).thnE2 ?_
  intro S₄ c4 e4
  refine SL.nil ⟨rfl, (x23.chg _).trans c4, ?_⟩
  rwa [show (a + 16).toNat = a.toNat + 16 by (first | lia | omega)] at e4
theorem begin_extent_sf (hF : Facts C.KF) (hn : 3 ≤ C.n) (hm : S.σ lm = some (.list (IL mem))) (h0 : 0 ≤ a) (h1 : a + 36 ≤ 256) (hlm : mem.length = 256) :
    SF C "begin_extent" [.ref lm, .int a, .int 0] S (fun v S' => v = .none ∧ MemTo S S' lm (putM (putM ((mem.set (a.toNat + 12) 0).set (a.toNat + 14) 128) (a.toNat + 13) [0]) (a.toNat + 15) (List.replicate 17 0))) noX := by
  refine SFA.run hF hF.f_begin_extent.fn hn [("memory", .ref lm), ("at", .int a), ("extent", .int 0)] rfl rfl fun C' e1 kx e2 e3 hb => ?_
  refine letPost ?_
  intro PR
  refine letFr ?_
  intro fr0
  refine SL.cons (SS.expr (SE.fn kx kx.F.f_set_extent (by kernel_rfl) ?_))
  walk_at "w"
  refine (set_extent_sf kx.F (kx.le (by decide)) hm h0 h1 hlm).thnEB2 ?_
  intro S₁ hb1 c1 m1
  refine SL.cons (SS.expr (SE.fn kx kx.F.f_put_octets (by kernel_rfl) ?_))
  walk_at "w"
  refine .add ?_
  walk_at "w"
  refine ⟨by simp, ?_⟩
  have x2 : Ext S₁ (S₁.add (.list [.int 0])) := (Ext.refl _).add hb1
  have l2 : (S₁.add (.list [.int 0])).σ S₁.nx = some (.list (IL [0])) := add_at
  have n2 : S₁.nx ≠ lm := fun q => by
    have := hb1 lm (by rw [m1]; simp)
    rw [q] at this; exact Nat.lt_irrefl _ this
  generalize S₁.add (.list [.int 0]) = S₂ at x2 l2 ⊢
  walk_at "w"
  refine (put_octets_sf kx.F (kx.le (by decide)) (x2.2 _ _ m1) l2 n2 (by (first | lia | omega)) (by simp; (first | lia | omega)) (by simpa using hlm)).thnEB2 ?_
  intro S₃ hb3 c3 m3
  refine SL.cons (SS.expr (SE.fn kx kx.F.f_put_octets (by kernel_rfl) ?_))
  walk_at "w"
  refine SE.gint kx kx.F.i_RC_AT (by kernel_rfl) (.add ?_)
  walk_at "w"
  refine ⟨by simp, ?_⟩
  have hb4 : Bnd (S₃.add (.list [.int 0])) := hb3.add
  have x4 : Ext S₃ (S₃.add (.list [.int 0])) := (Ext.refl _).add hb3
  have l4 : (S₃.add (.list [.int 0])).σ S₃.nx = some (.list [.int 0]) := add_at
  generalize S₃.add (.list [.int 0]) = S₄ at hb4 x4 l4 ⊢
  walk_at "w"
  refine .rep l4 (by (first | lia | omega)) (by (first | lia | omega)) ?_
  have x5 : Ext S₄ (S₄.add (.list (IL (List.replicate 17 0)))) := (Ext.refl _).add hb4
  have l5 : (S₄.add (.list (IL (List.replicate 17 0)))).σ S₄.nx = some (.list (IL (List.replicate 17 0))) := add_at
  have n5 : S₄.nx ≠ lm := fun q => by
    have := hb4 lm (by rw [x4.2 _ _ m3]; simp)
    rw [q] at this; exact Nat.lt_irrefl _ this
  rw [show (17 : Int).toNat = 17 from rfl]
  generalize S₄.add (.list (IL (List.replicate 17 0))) = S₅ at x5 l5 ⊢
  walk_at "w"
  refine (put_octets_sf kx.F (kx.le (by decide)) ((x4.trans x5).2 _ _ m3) l5 n5 (by (first | lia | omega)) (by simp; (first | lia | omega)) (by simpa [putM_len] using hlm)).thnE2 ?_
  intro S₆ c6 m6
  refine SL.nil ⟨rfl, ((c1.trans (x2.chg _)).trans (c3.trans ((x4.trans x5).chg _))).trans c6, ?_⟩
  rw [m6, show (a + 13).toNat = a.toNat + 13 by (first | lia | omega), show (a + 15).toNat = a.toNat + 15 by (first | lia | omega)]
theorem new_fcb_sf {ln : Loc} {name : List Int} (hF : Facts C.KF) (hn : 1 ≤ C.n) (he : S.σ ln = some (.list (IL name))) (hz : name.length = 11) : SF C "new_fcb" [.int 0, .ref ln] S (fun v S' => NewL S S' v ([0] ++ name ++ List.replicate 24 0)) noX := by
  refine SFA.run hF hF.f_new_fcb.fn hn [("drive", .int 0), ("name", .ref ln)] rfl rfl fun C' e1 kx e2 e3 hb => ?_
  refine letPost ?_
  intro PR
  refine letFr ?_
  intro fr0
  walk_at "w"
  refine ⟨by simp, ?_⟩
  have hb1 : Bnd (S.add (.list [.int 0])) := hb.add
  have x1 : Ext S (S.add (.list [.int 0])) := (Ext.refl _).add hb
  have l1 : (S.add (.list [.int 0])).σ S.nx = some (.list [.int 0]) := add_at
  generalize S.add (.list [.int 0]) = S₁ at hb1 x1 l1 ⊢
  walk_at "w"
  refine .cat l1 (x1.2 _ _ he) (by simp [hz]) ?_
  have hb2 : Bnd (S₁.add (.list ([.int 0] ++ IL name))) := hb1.add
  have x2 : Ext S₁ (S₁.add (.list ([.int 0] ++ IL name))) := (Ext.refl _).add hb1
  have l2 : (S₁.add (.list ([.int 0] ++ IL name))).σ S₁.nx = some (.list ([.int 0] ++ IL name)) := add_at
  generalize S₁.add (.list ([.int 0] ++ IL name)) = S₂ at hb2 x2 l2 ⊢
  walk_at "w"
  refine ⟨by simp, ?_⟩
  have hb3 : Bnd (S₂.add (.list [.int 0])) := hb2.add
  have x3 : Ext S₂ (S₂.add (.list [.int 0])) := (Ext.refl _).add hb2
  have l3 : (S₂.add (.list [.int 0])).σ S₂.nx = some (.list [.int 0]) := add_at
  generalize S₂.add (.list [.int 0]) = S₃ at hb3 x3 l3 ⊢
  walk_at "w"
  refine SE.gint kx kx.F.i_FCB_SIZE (by kernel_rfl) ?_
  walk_at "w"
  refine .sub (SE.gint kx kx.F.i_NAME_SIZE (by kernel_rfl) (.sub (.rep l3 (by (first | lia | omega)) (by (first | lia | omega)) ?_)))
  rw [show ((36 : Int) - 1 - 11).toNat = 24 from rfl]
  have hb4 : Bnd (S₃.add (.list (IL (List.replicate 24 0)))) := hb3.add
  have x4 : Ext S₃ (S₃.add (.list (IL (List.replicate 24 0)))) := (Ext.refl _).add hb3
  have l4 : (S₃.add (.list (IL (List.replicate 24 0)))).σ S₃.nx = some (.list (IL (List.replicate 24 0))) := add_at
  generalize S₃.add (.list (IL (List.replicate 24 0))) = S₄ at hb4 x4 l4 ⊢
  refine .cat ((x3.trans x4).2 _ _ l2) l4 (by simp [hz]) ?_
  refine ⟨_, rfl, (x1.trans (x2.trans (x3.trans x4))).1, (x1.trans (x2.trans (x3.trans x4))).add hb4, ?_⟩
  rw [add_at]
  simp [IL]
end
end Mine
end
section
open PySem PySem.W PyProof.Rows PySem.Calls
set_option Elab.async false
set_option maxRecDepth 100000
set_option linter.unusedVariables false
namespace Mine
local macro_rules | `(tactic| walk_at "k") => `(tactic| (refine (?_ : _ = _); kernel_rfl!))
local macro_rules | `(tactic| walk_at "lk") => `(tactic| first | with_reducible exact lookup_here | (refine (?_ : LkAt 1 _ _); walk_at "k") | (refine (?_ : LkAt 2 _ _); walk_at "k") | (refine (?_ : LkAt 3 _ _); walk_at "k") | (refine (?_ : LkAt 4 _ _); walk_at "k") | (refine (?_ : LkAt 5 _ _); walk_at "k") | (refine (?_ : LkAt 6 _ _); walk_at "k") | (refine (?_ : LkAt 7 _ _); walk_at "k") | (refine (?_ : LkAt 8 _ _); walk_at "k") | (refine (?_ : LkAt 9 _ _); walk_at "k") | (refine (?_ : LkAt 10 _ _); walk_at "k") | (refine (?_ : LkAt 11 _ _); walk_at "k") | (refine (?_ : LkAt 12 _ _); walk_at "k") | (refine (?_ : LkAt 13 _ _); walk_at "k") | (refine (?_ : LkAt 14 _ _); walk_at "k") | (refine (?_ : LkAt 15 _ _); walk_at "k") | (refine (?_ : LkAt 16 _ _); walk_at "k"))
local macro_rules | `(tactic| walk_at "nm") => `(tactic| refine SE.name (by walk_at "lk") ?_ (by decide +kernel))
local macro_rules | `(tactic| walk_at "len") => `(tactic| refine SE.blt (id := "len") ((‹Kx _ _ _›).isB (‹Kx _ _ _›).F.b_len (by kernel_rfl) (by kernel_rfl)) ?_)
local macro_rules | `(tactic| walk_at "s") => `(tactic| first
  | ((with_reducible show SE _ _ (Expr.Name _ _) _ _ _); walk_at "nm")
  | with_reducible (first | refine SE.cInt ?_ | refine SE.cNone ?_ | refine SE.cBool ?_ | refine SE.binop ?_ | refine SE.cmp ?_ | refine SE.ifexp ?_ | refine SE.list ?_ | refine SE.tuple ?_ | refine SE.sub ?_ | refine SAs.nil ?_ | refine SAs.cons ?_ | refine SB.cmp ?_ | refine SB.not ?_ | refine SB.boolop ?_ | refine SAll.and ?_ | refine SAll.or ?_ | refine SAll.and_nil ?_ | refine SAll.or_nil ?_ | refine SS.ret ?_ | refine SS.ifs ?_ | refine SL.cons ?_)
  | ((with_reducible show SE _ _ (Expr.Call (Expr.Name (Str.ofString "len") _) _ _ _) _ _ _); walk_at "len"))
local macro_rules | `(tactic| walk_at "w") => `(tactic| ((try ((with_reducible show SL _ _ _ _ _ _ _); refine SL.cons ?_)); repeat walk_at "s"))

theorem gI_set {l : List Int} {i j : Nat} {v : Int} (h : i < l.length) : gI (l.set i v) j = if j = i then v else gI l j := by
  unfold gI
  rw [List.getD_eq_getElem?_getD, List.getD_eq_getElem?_getD, List.getElem?_set]
  by_cases q : i = j
  · subst q; simp [h]
  · have : ¬ j = i := fun z => q z.symm
    simp [q, this]
noncomputable def beginM (mem : List Int) (a : Nat) : List Int := putM (putM ((mem.set (a + 12) 0).set (a + 14) 128) (a + 13) [0]) (a + 15) (List.replicate 17 0)
section
variable {C : Cx} {S : St} {lm : Loc} {mem : List Int} {a : Int} {dk dd ld lg : Loc} {N : Nat} {data given : List Int}
theorem forget_given_sf (hF : Facts C.KF) (hn : 1 ≤ C.n) (D : Dk C.KF S dk dd ld lg N data given) :
    SF C "forget_given" [.ref dk] S (fun v S' => Chg [dd] S S' ∧ ∃ lg', S.nx ≤ lg' ∧ Dk C.KF S' dk dd ld lg' N data []) noX := by
  refine SFA.run hF hF.f_forget_given.fn hn [("disk", .ref dk)] rfl rfl fun C' e1 kx e2 e3 hb => ?_
  rw [← e1] at D ⊢
  refine letPost ?_
  intro PR
  refine letFr ?_
  intro fr0
  refine SL.cons (SS.setAttr (by walk_at "lk") ?_)
  walk_at "w"
  have x1 : Ext S (S.add (.list [])) := (Ext.refl _).add hb
  have l1 : (S.add (.list [])).σ S.nx = some (.list (IL [])) := add_at
  have D1 := D.ext x1
  generalize hS1 : S.add (.list []) = S₁ at x1 l1 D1
  refine ⟨by simp, _, _, _, D1.dk, D1.dd, kx.F.s_Disk_given, by simp [dkD], ?_⟩
  have dp : dput "given" (.ref S.nx) (dkD N lg ld) = dkD N S.nx ld := by kernel_rfl
  rw [dp]
  have nl : ∀ l o, S.σ l = some o → l ≠ S.nx := fun l o e q => absurd (hb l (by rw [e]; simp)) (by rw [q]; exact Nat.lt_irrefl _)
  refine SL.nil ⟨(x1.chg _).put (by simp), S.nx, Nat.le_refl _, (nl _ _ D.ld).symm, ?_, put_at, ?_, ?_⟩
  · rw [put_off (ne_of_ao D1.dk D1.dd (by first | exact ao_ld | exact ao_dl | exact ao_li | exact ao_il | exact ao_di | exact ao_id | exact ao_tl | exact ao_lt | (intro q; cases q)))]; exact D1.dk
  · rw [put_off (ne_of_ao D1.ld D1.dd (by first | exact ao_ld | exact ao_dl | exact ao_li | exact ao_il | exact ao_di | exact ao_id | exact ao_tl | exact ao_lt | (intro q; cases q)))]; exact D1.ld
  · rw [put_off (ne_of_ao l1 D1.dd (by first | exact ao_ld | exact ao_dl | exact ao_li | exact ao_il | exact ao_di | exact ao_id | exact ao_tl | exact ao_lt | (intro q; cases q)))]; exact l1
theorem make_file_sf {user : Int} (hF : Facts C.KF) (hn : 5 ≤ C.n) (D : Dk C.KF S dk dd ld lg N data given) (hN : N ≤ 15) (hl : 128 ≤ data.length) (hz : data.length ≤ 1000) (hm : S.σ lm = some (.list (IL mem))) (h0 : 0 ≤ a) (h1 : a + 36 ≤ 256) (hlm : mem.length = 256) (h12 : gI mem (a.toNat + 12) = 0) (n1 : ld ≠ lm) (n2 : lg ≠ lm) :
    SF C "make_file" [.ref dk, .int user, .ref lm, .int a] S (fun v S' => Chg [lm, ld] S S' ∧ ((v = .int 255 ∧ S'.σ lm = some (.list (IL (mem.set (a.toNat + 14) 0))) ∧ S'.σ ld = some (.list (IL data))) ∨
      (v = .int 0 ∧ ∃ n, n < 4 ∧ gI data (32 * n) = 229 ∧ S'.σ ld = some (.list (IL (putL data (32 * n) ([user] ++ seg (mem.set (a.toNat + 14) 0) (a.toNat + 1) 11 ++ [0, 0, 0, 0] ++ List.replicate 16 0)))) ∧ S'.σ lm = some (.list (IL (beginM (mem.set (a.toNat + 14) 0) a.toNat)))))) noX := by
  refine SFA.run hF hF.f_make_file.fn hn [("disk", .ref dk), ("user", .int user), ("memory", .ref lm), ("at", .int a)] rfl rfl fun C' e1 kx e2 e3 hb => ?_
  rw [← e1] at D
  have hlt : lm < S.nx := hb lm (by rw [hm]; simp)
  have hld : ld < S.nx := hb ld (by rw [D.ld]; simp)
  refine SL.cons (SS.expr (SE.fn kx kx.F.f_put_octets (by kernel_rfl) ?_))
  walk_at "w"
  refine SE.gint kx kx.F.i_S2_AT (by kernel_rfl) (.add ?_)
  walk_at "w"
  refine ⟨by simp, ?_⟩
  have x1 : Ext S (S.add (.list [.int 0])) := (Ext.refl _).add hb
  have l1 : (S.add (.list [.int 0])).σ S.nx = some (.list (IL [0])) := add_at
  generalize S.add (.list [.int 0]) = S₁ at x1 l1 ⊢
  walk_at "w"
  refine (put_octets_sf kx.F (kx.le (by decide)) (x1.2 _ _ hm) l1 (Nat.ne_of_gt hlt) (by (first | lia | omega)) (by simp; (first | lia | omega)) hlm).thnE2 ?_
  intro S₂ c2 m2
  rw [show putM mem (a + 14).toNat [0] = mem.set (a.toNat + 14) 0 from by rw [show (a + 14).toNat = a.toNat + 14 by (first | lia | omega)]; rfl] at m2
  have D2 := (D.ext x1).toMem c2 (x1.2 _ _ hm) n1 n2
  have c12 : Chg [lm, ld] S S₂ := ((x1.chg _).trans c2).mono (by simp)
  generalize hM1 : mem.set (a.toNat + 14) 0 = m1 at m2 ⊢
  have hl1 : m1.length = 256 := by rw [← hM1]; simpa using hlm
  have g14 : gI m1 (a.toNat + 14) = 0 := by rw [← hM1, gI_set (by (first | lia | omega))]; simp
  have g12 : gI m1 (a.toNat + 12) = 0 := by rw [← hM1, gI_set (by (first | lia | omega))]; simp [h12]
  refine SL.cons (SS.expr (SE.fn kx kx.F.f_need_writable_disk (by kernel_rfl) ?_))
  walk_at "w"
  refine (need_writable_disk_sf kx.F (kx.le (by decide)) D2).thnE ?_
  intro S₃ x3
  refine SL.cons (SS.assign (SE.fn kx kx.F.f_free_entry (by kernel_rfl) ?_))
  walk_at "w"
  refine (free_entry_sf kx.F (kx.le (by decide)) (D2.ext x3) hl hz).thnA ?_
  intro v S₄ x4 hv
  have x34 := x3.trans x4
  refine ST.name (kx.isV (by kernel_rfl)) ?_
  refine SL.cons (SS.ifs ?_)
  walk_at "w"
  rcases hv with rfl | ⟨n, hn4, rfl, hfree⟩
  · refine .inl ⟨rfl, ?_⟩
    show SL _ _ _ _ _ _ _
    refine SL.cons (SS.ret (SE.gint kx kx.F.i_NOT_FOUND (by kernel_rfl) ?_))
    exact ⟨c12.trans (x34.chg _), .inl ⟨rfl, x34.2 _ _ m2, x34.2 _ _ D2.ld⟩⟩
  refine .inl ⟨rfl, ?_⟩
  refine SL.nil ?_
  refine SL.cons (SS.assign (SE.fn kx kx.F.f_extent_at (by kernel_rfl) ?_))
  walk_at "w"
  refine (extent_at_sf kx.F (kx.le (by decide)) (x34.2 _ _ m2) h0 h1 hl1).thnE ?_
  intro S₅ x5
  rw [g14, g12, show (0 % 64 * 32 + 0 % 32 : Int) = 0 by decide]
  have x35 := x34.trans x5
  refine ST.name (kx.isV (by kernel_rfl)) ?_
  refine SL.cons (SS.expr (SE.fn kx kx.F.f_put_entry (by kernel_rfl) ?_))
  walk_at "w"
  refine SE.fn kx kx.F.f_entry_octets (by kernel_rfl) ?_
  walk_at "w"
  refine SE.fn kx kx.F.f_new_entry (by kernel_rfl) ?_
  walk_at "w"
  refine SE.fn kx kx.F.f_name_at (by kernel_rfl) ?_
  walk_at "w"
  refine (name_at_sf kx.F (kx.le (by decide)) (x35.2 _ _ m2) h0 h1 hl1).thnR ?_
  intro ln S₆ hln x6 e6
  have x36 := x35.trans x6
  walk_at "w"
  have sn : (seg m1 (a.toNat + 1) 11).length = 11 := seg_len (by (first | lia | omega))
  refine (new_entry_sf kx.F (kx.le (by decide)) (D2.ext x36) (by (first | lia | omega)) e6 sn).thn ?_
  rintro v S₇ ⟨x7, le, de, lr, lp, rfl, E⟩
  have x37 := x36.trans x7
  walk_at "w"
  refine (entry_octets_sf kx.F (kx.le (by decide)) (D2.ext x37) (by (first | lia | omega)) E sn (by simp)).thnR ?_
  intro lo S₈ hlo x8 e8
  have x38 := x37.trans x8
  walk_at "w"
  have no : lo ≠ ld := Nat.ne_of_gt (Nat.lt_of_lt_of_le hld (Nat.le_trans c12.1 (Nat.le_trans x37.1 hlo)))
  refine (put_entry_sf kx.F (kx.le (by decide)) (D2.ext x38) (by (first | lia | omega)) (by (first | lia | omega)) hl hz e8 (by simp [sn]) no).thnE2 ?_
  intro S₉ c9 e9
  rw [show (n : Int).toNat = n by (first | lia | omega)] at e9
  have m9 := c9.2 _ _ (by simpa using n1.symm) (x38.2 _ _ m2)
  have D9 := (D2.ext x38).toData c9 e9
  refine SL.cons (SS.expr (SE.fn kx kx.F.f_begin_extent (by kernel_rfl) ?_))
  walk_at "w"
  refine (begin_extent_sf kx.F (kx.le (by decide)) m9 h0 h1 hl1).thnE2 ?_
  intro S₁₀ c10 m10
  have D10 := D9.toMem c10 m9 n1 n2
  refine SL.cons (SS.ret (SE.fn kx kx.F.f_code_of (by kernel_rfl) ?_))
  walk_at "w"
  refine (code_of_sf kx.F (kx.le (by decide)) D10).thnE ?_
  intro S₁₁ x11
  refine ⟨((c12.trans (x38.chg _)).trans (c9.mono (by simp))).trans ((c10.mono (by simp)).trans (x11.chg _)), .inr ⟨rfl, n, hn4, hfree, x11.2 _ _ D10.ld, x11.2 _ _ m10⟩⟩
end
end Mine
end
section
open PySem PySem.W PyProof.Rows PySem.Calls
set_option Elab.async false
set_option maxRecDepth 100000
set_option linter.unusedVariables false
namespace Mine
local macro_rules | `(tactic| walk_at "k") => `(tactic| (refine (?_ : _ = _); kernel_rfl!))
local macro_rules | `(tactic| walk_at "lk") => `(tactic| first | with_reducible exact lookup_here | (refine (?_ : LkAt 1 _ _); walk_at "k") | (refine (?_ : LkAt 2 _ _); walk_at "k") | (refine (?_ : LkAt 3 _ _); walk_at "k") | (refine (?_ : LkAt 4 _ _); walk_at "k") | (refine (?_ : LkAt 5 _ _); walk_at "k") | (refine (?_ : LkAt 6 _ _); walk_at "k") | (refine (?_ : LkAt 7 _ _); walk_at "k") | (refine (?_ : LkAt 8 _ _); walk_at "k") | (refine (?_ : LkAt 9 _ _); walk_at "k") | (refine (?_ : LkAt 10 _ _); walk_at "k") | (refine (?_ : LkAt 11 _ _); walk_at "k") | (refine (?_ : LkAt 12 _ _); walk_at "k") | (refine (?_ : LkAt 13 _ _); walk_at "k") | (refine (?_ : LkAt 14 _ _); walk_at "k") | (refine (?_ : LkAt 15 _ _); walk_at "k") | (refine (?_ : LkAt 16 _ _); walk_at "k"))
local macro_rules | `(tactic| walk_at "nm") => `(tactic| refine SE.name (by walk_at "lk") ?_ (by decide +kernel))
local macro_rules | `(tactic| walk_at "len") => `(tactic| refine SE.blt (id := "len") ((‹Kx _ _ _›).isB (‹Kx _ _ _›).F.b_len (by kernel_rfl) (by kernel_rfl)) ?_)
local macro_rules | `(tactic| walk_at "s") => `(tactic| first
  | ((with_reducible show SE _ _ (Expr.Name _ _) _ _ _); walk_at "nm")
  | with_reducible (first | refine SE.cInt ?_ | refine SE.cNone ?_ | refine SE.cBool ?_ | refine SE.binop ?_ | refine SE.cmp ?_ | refine SE.ifexp ?_ | refine SE.list ?_ | refine SE.tuple ?_ | refine SE.sub ?_ | refine SAs.nil ?_ | refine SAs.cons ?_ | refine SB.cmp ?_ | refine SB.not ?_ | refine SB.boolop ?_ | refine SAll.and ?_ | refine SAll.or ?_ | refine SAll.and_nil ?_ | refine SAll.or_nil ?_ | refine SS.ret ?_ | refine SS.ifs ?_ | refine SL.cons ?_)
  | ((with_reducible show SE _ _ (Expr.Call (Expr.Name (Str.ofString "len") _) _ _ _) _ _ _); walk_at "len"))
local macro_rules | `(tactic| walk_at "w") => `(tactic| ((try ((with_reducible show SL _ _ _ _ _ _ _); refine SL.cons ?_)); repeat walk_at "s"))

theorem gI_putM_off {j : Nat} : ∀ (xs l : List Int) (a : Nat), (j < a ∨ a + xs.length ≤ j) → gI (putM l a xs) j = gI l j
  | [], _, _, _ => rfl
  | x :: xs, l, a, h => by
    show gI (putM (l.set a (x % 256)) (a + 1) xs) j = _
    rw [gI_putM_off xs _ _ (by simp at h; (first | lia | omega))]
    by_cases q : a < l.length
    · rw [gI_set q, if_neg (by simp at h; (first | lia | omega))]
    · rw [List.set_eq_of_length_le (Nat.not_lt.mp q)]
theorem SFA.thnX {C : Cx} {a : Addr} {args : List AV} {S : St} {P P' : AV → St → Prop} {X X' : St → Prop} (H : SFA C a args S P X) (h : ∀ v S', Bnd S' → P v S' → P' v S') (hx : ∀ S', X S' → X' S') : SFA C a args S P' X' :=
  fun c ρ s R vs I r k kx => H c ρ s R vs I r (fun v S' ρ' h' tk v' p G' I' => k v S' ρ' h' tk v' (h v S' I'.bnd p) G' I') (fun S' ρ' h' tk e p => kx S' ρ' h' tk e (hx S' p))
theorem enD_map {u e sp c : Int} {lr lp : Loc} : (enD u e sp c lr lp).lookup ("map" : Str) = some (AV.ref lp) := by kernel_rfl
theorem Dk.toGiven {K : Frag} {S S' : St} {dk dd ld lg : Loc} {N : Int} {data given given' : List Int} (D : Dk K S dk dd ld lg N data given) (ch : Chg [lg] S S') (e : S'.σ lg = some (.list (IL given'))) : Dk K S' dk dd ld lg N data given' :=
  ⟨D.ne, ch.2 _ _ (by simpa using ne_of_ao D.dk D.lg (by first | exact ao_ld | exact ao_dl | exact ao_li | exact ao_il | exact ao_di | exact ao_id | exact ao_tl | exact ao_lt | (intro q; cases q))) D.dk, ch.2 _ _ (by simpa using ne_of_ao D.dd D.lg (by first | exact ao_ld | exact ao_dl | exact ao_li | exact ao_il | exact ao_di | exact ao_id | exact ao_tl | exact ao_lt | (intro q; cases q))) D.dd, ch.2 _ _ (by simpa using D.ne.symm) D.ld, e⟩
noncomputable def BFPost (K : Frag) (S S' : St) (lm dk dd ld lg : Loc) (N : Nat) (data given mem : List Int) (a : Nat) (slot : Nat) (user : Int) (v : AV) : Prop :=
  ∃ b M : Nat, v = .int b ∧ b < N ∧ (M : Int) ∈ seg mem (a + 16) 16 ∧ (∀ x ∈ seg mem (a + 16) 16, x ≤ (M : Int)) ∧ b ≠ M ∧ usedB data given b = false ∧ Chg [lm, ld, lg] S S' ∧ S'.σ lm = some (.list (IL (putM mem (a + 16) ((seg mem (a + 16) 16).set slot b)))) ∧
    ∃ data' given', Dk K S' dk dd ld lg N data' given' ∧
      ((∃ n, (foundN data user (seg mem (a + 1) 11) 4).head? = some n ∧ gI (mapN data n) slot = 0 ∧ given' = given ∧ data' = putL data (32 * n) ([gI data (32 * n)] ++ seg data (32 * n + 1) 11 ++ [0, gI data (32 * n + 13), 0, gI data (32 * n + 15)] ++ (mapN data n).set slot b)) ∨
       (((foundN data user (seg mem (a + 1) 11) 4).head? = none ∨ ∃ n, (foundN data user (seg mem (a + 1) 11) 4).head? = some n ∧ gI (mapN data n) slot ≠ 0) ∧ data' = data ∧ given' = given ++ [(b : Int)]))
section
variable {C : Cx} {S : St} {lm : Loc} {mem : List Int} {a : Int} {dk dd ld lg : Loc} {N : Nat} {data given : List Int}
theorem block_for_sf {user : Int} {slot : Nat} (hF : Facts C.KF) (hn : 8 ≤ C.n) (D : Dk C.KF S dk dd ld lg N data given) (hN : N ≤ 15) (hl : 128 ≤ data.length) (hz : data.length ≤ 1000) (hd : DirOk data) (hgl : given.length ≤ 1000) (hu : user ≠ 229) (hm : S.σ lm = some (.list (IL mem))) (h0 : 0 ≤ a) (h1 : a + 36 ≤ 256) (hlm : mem.length = 256)
    (h12 : gI mem (a.toNat + 12) % 32 = 0) (h14 : gI mem (a.toNat + 14) % 64 = 0) (hs : slot < 16) (hmap : ∀ x ∈ seg mem (a.toNat + 16) 16, 0 ≤ x ∧ x < N) (n1 : ld ≠ lm) (n2 : lg ≠ lm) :
    SF C "block_for" [.ref dk, .int user, .ref lm, .int a, .int slot, .bool false] S
      (fun v S' => (gI (seg mem (a.toNat + 16) 16) slot ≠ 0 ∧ v = .int (gI (seg mem (a.toNat + 16) 16) slot) ∧ Ext S S') ∨ (gI (seg mem (a.toNat + 16) 16) slot = 0 ∧ BFPost C.KF S S' lm dk dd ld lg N data given mem a.toNat slot user v))
      (fun S' => gI (seg mem (a.toNat + 16) 16) slot = 0 ∧ Ext S S' ∧ ∃ M : Nat, (M : Int) ∈ seg mem (a.toNat + 16) 16 ∧ (∀ x ∈ seg mem (a.toNat + 16) 16, x ≤ (M : Int)) ∧ ∀ k, k < N → k ≠ M → usedB data given k = true) := by
  refine SFA.run hF hF.f_block_for.fn hn [("disk", .ref dk), ("user", .int user), ("memory", .ref lm), ("at", .int a), ("slot", .int slot), ("is_blanked", .bool false)] rfl rfl fun C' e1 kx e2 e3 hb => ?_
  rw [← e1] at D ⊢
  refine letPost ?_
  intro PR
  refine letFr ?_
  intro fr0
  have sl : (seg mem (a.toNat + 16) 16).length = 16 := seg_len (by (first | lia | omega))
  have hlt : lm < S.nx := hb lm (by rw [hm]; simp)
  have hld : ld < S.nx := hb ld (by rw [D.ld]; simp)
  have hlg : lg < S.nx := hb lg (by rw [D.lg]; simp)
  refine SL.cons (SS.assign (SE.sub (SE.fn kx kx.F.f_blocks_at (by kernel_rfl) ?_)))
  walk_at "w"
  refine (blocks_at_sf kx.F (kx.le (by decide)) D (by (first | lia | omega)) hm h0 h1 hlm).thnR ?_
  intro lb S₁ hlb x1 eb
  walk_at "w"
  refine ⟨_, _, .inl eb, by (first | lia | omega), by (first | lia | omega), IL_get (by rw [sl]; (first | lia | omega)), ?_⟩
  rw [show (slot : Int).toNat = slot by (first | lia | omega)]
  refine ST.name (kx.isV (by kernel_rfl)) ?_
  refine SL.cons (SS.ifs ?_)
  walk_at "w"
  by_cases q0 : gI (seg mem (a.toNat + 16) 16) slot = 0
  rotate_left
  · refine ⟨true, by simp [cmpI, q0], ?_⟩
    show SL _ _ _ _ _ _ _
    walk_at "w"
    exact .inl ⟨q0, rfl, x1⟩
  refine ⟨false, by simp [cmpI, q0], ?_⟩
  refine SL.nil ?_
  refine SL.cons (SS.assign (SE.fn kx kx.F.f_allocate (by kernel_rfl) ?_))
  walk_at "w"
  refine SE.blt (id := "max") (kx.isB kx.F.b_max (by kernel_rfl) (by kernel_rfl)) (SAs.cons (SE.fn kx kx.F.f_blocks_at (by kernel_rfl) ?_))
  walk_at "w"
  refine (blocks_at_sf kx.F (kx.le (by decide)) (D.ext x1) (by (first | lia | omega)) (x1.2 _ _ hm) h0 h1 hlm).thnR ?_
  intro lb2 S₂ hlb2 x2 eb2
  have x12 := x1.trans x2
  refine SAs.nil (SC.maxL eb2 (by (first | lia | omega)) fun Mi hM1 hM2 => ?_)
  obtain ⟨M, rfl⟩ : ∃ M : Nat, Mi = (M : Int) := ⟨Mi.toNat, by have := (hmap Mi hM1).1; (first | lia | omega)⟩
  have hMN := (hmap _ hM1).2
  walk_at "w"
  refine (allocate_sf kx.F (kx.le (by decide)) (D.ext x12) hN hl hz hd (by (first | lia | omega)) hMN).thnX ?_ (fun S' ⟨x, hall⟩ => ⟨q0, x12.trans x, M, hM1, hM2, fun k k1 k2 => hall k k1 (by (first | lia | omega))⟩)
  rintro v S₃ hb3 ⟨x3, b, rfl, hbN, hbM, hub⟩
  have x13 := x12.trans x3
  refine ST.name (kx.isV (by kernel_rfl)) ?_
  refine SL.cons (SS.expr (SE.fn kx kx.F.f_set_block (by kernel_rfl) ?_))
  walk_at "w"
  refine (set_block_sf kx.F (kx.le (by decide)) (D.ext x13) hN (x13.2 _ _ hm) h0 h1 hlm (by (first | lia | omega)) (by (first | lia | omega)) n1 n2).thnE2 ?_
  intro S₄ c4 m4
  rw [show (slot : Int).toNat = slot by (first | lia | omega)] at m4
  have D4 := (D.ext x13).toMem c4 (x13.2 _ _ hm) n1 n2
  have c14 : Chg [lm, ld, lg] S S₄ := (x13.chg _).trans (c4.mono (by simp))
  generalize hm4 : putM mem (a.toNat + 16) ((seg mem (a.toNat + 16) 16).set slot b) = m' at m4
  have hl4 : m'.length = 256 := by rw [← hm4, putM_len]; exact hlm
  have g12 : gI m' (a.toNat + 12) = gI mem (a.toNat + 12) := by rw [← hm4]; exact gI_putM_off _ _ _ (.inl (by (first | lia | omega)))
  have g14 : gI m' (a.toNat + 14) = gI mem (a.toNat + 14) := by rw [← hm4]; exact gI_putM_off _ _ _ (.inl (by (first | lia | omega)))
  have nm : seg m' (a.toNat + 1) 11 = seg mem (a.toNat + 1) 11 := by
    refine List.ext_getElem (by rw [seg_len (by (first | lia | omega)), seg_len (by (first | lia | omega))]) fun j j1 j2 => ?_
    have hj : j < 11 := by rwa [seg_len (by (first | lia | omega))] at j1
    have e1 : (seg m' (a.toNat + 1) 11)[j]? = some (gI m' (a.toNat + 1 + j)) := by rw [gI_get (by rw [seg_len (by (first | lia | omega))]; exact hj), gI_seg hj]
    have e2 : (seg mem (a.toNat + 1) 11)[j]? = some (gI mem (a.toNat + 1 + j)) := by rw [gI_get (by rw [seg_len (by (first | lia | omega))]; exact hj), gI_seg hj]
    rw [List.getElem?_eq_getElem j1] at e1
    rw [List.getElem?_eq_getElem j2] at e2
    have : gI m' (a.toNat + 1 + j) = gI mem (a.toNat + 1 + j) := by rw [← hm4]; exact gI_putM_off _ _ _ (.inl (by (first | lia | omega)))
    rw [this] at e1
    exact (Option.some.inj e1).trans (Option.some.inj e2).symm
  refine SL.cons (SS.assign (SE.fn kx kx.F.f_find_extent (by kernel_rfl) ?_))
  walk_at "w"
  refine SE.fn kx kx.F.f_name_at (by kernel_rfl) ?_
  walk_at "w"
  refine (name_at_sf kx.F (kx.le (by decide)) m4 h0 h1 hl4).thnR ?_
  intro ln S₅ hln x5 e5
  rw [nm] at e5
  walk_at "w"
  refine SE.fn kx kx.F.f_extent_at (by kernel_rfl) ?_
  walk_at "w"
  refine (extent_at_sf kx.F (kx.le (by decide)) (x5.2 _ _ m4) h0 h1 hl4).thnE ?_
  intro S₆ x6
  rw [g14, g12, h12, h14, show (0 * 32 + 0 : Int) = 0 by decide]
  have x56 := x5.trans x6
  walk_at "w"
  refine (find_extent_sf kx.F (kx.le (by decide)) (D4.ext x56) (by (first | lia | omega)) hl hz hd hu (x6.2 _ _ e5) (seg_len (by (first | lia | omega)))).thnAB ?_
  intro v S₇ hb7 x7 hv
  have x57 := x56.trans x7
  have D7 := D4.ext x57
  refine ST.name (kx.isV (by kernel_rfl)) ?_
  have m7 := x57.2 _ _ m4
  -- the end, both ways
  have fin : ∀ fr S₈ data' given', fr.lookup ("is_blanked" : Str) = some (AV.bool false) → fr.lookup ("block" : Str) = some (AV.int b) → Chg [lm, ld, lg] S S₈ → S₈.σ lm = some (.list (IL m')) → Dk C'.KF S₈ dk dd ld lg N data' given' →
      ((∃ n, (foundN data user (seg mem (a.toNat + 1) 11) 4).head? = some n ∧ gI (mapN data n) slot = 0 ∧ given' = given ∧ data' = putL data (32 * n) ([gI data (32 * n)] ++ seg data (32 * n + 1) 11 ++ [0, gI data (32 * n + 13), 0, gI data (32 * n + 15)] ++ (mapN data n).set slot b)) ∨
       (((foundN data user (seg mem (a.toNat + 1) 11) 4).head? = none ∨ ∃ n, (foundN data user (seg mem (a.toNat + 1) 11) 4).head? = some n ∧ gI (mapN data n) slot ≠ 0) ∧ data' = data ∧ given' = given ++ [(b : Int)])) →
      ∀ sts, sts = bd_block_for.drop 6 → SL C' fr sts S₈ (fun _ S' => (gI (seg mem (a.toNat + 16) 16) slot ≠ 0 ∧ AV.none = .int (gI (seg mem (a.toNat + 16) 16) slot) ∧ Ext S S') ∨ (gI (seg mem (a.toNat + 16) 16) slot = 0 ∧ BFPost C'.KF S S' lm dk dd ld lg N data given mem a.toNat slot user AV.none))
        (fun v S' => (gI (seg mem (a.toNat + 16) 16) slot ≠ 0 ∧ v = .int (gI (seg mem (a.toNat + 16) 16) slot) ∧ Ext S S') ∨ (gI (seg mem (a.toNat + 16) 16) slot = 0 ∧ BFPost C'.KF S S' lm dk dd ld lg N data given mem a.toNat slot user v))
        (fun S' => gI (seg mem (a.toNat + 16) 16) slot = 0 ∧ Ext S S' ∧ ∃ M : Nat, (M : Int) ∈ seg mem (a.toNat + 16) 16 ∧ (∀ x ∈ seg mem (a.toNat + 16) 16, x ≤ (M : Int)) ∧ ∀ k, k < N → k ≠ M → usedB data given k = true) := by
    rintro fr S₈ data' given' g1 g2 ch8 m8 D8 hh _ rfl
    refine SL.cons (SS.ifs (SB.val (by intro _ _; rfl) (SE.name g1 ?_ (by decide +kernel))))
    refine SL.nil (SL.cons (SS.ret (SE.name g2 ?_ (by decide +kernel))))
    exact .inr ⟨q0, b, M, rfl, hbN, hM1, hM2, by (first | lia | omega), hub, ch8, by rw [hm4]; exact m8, data', given', D8, hh⟩
  have c17 : Chg [lm, ld, lg] S S₇ := c14.trans (x57.chg _)
  refine SL.cons (SS.ifs (SB.boolop ?_))
  walk_at "w"
  cases hh : (foundN data user (seg mem (a.toNat + 1) 11) 4).head? with
  | none =>
    rw [hh] at hv
    subst hv
    refine .inr ⟨rfl, ?_⟩
    refine SL.cons (SS.expr (SE.meth lm_append ?_))
    refine SE.dGiven kx (by walk_at "lk") D7 ⟨lg, _, rfl, D7.lg, ?_⟩
    walk_at "w"
    refine SC.append D7.lg (by rw [IL_len]; (first | lia | omega)) (SL.nil ?_)
    have c8 : Chg [lg] S₇ (S₇.put lg (.list (IL given ++ [.int b]))) := (Chg.refl _ _).put (by simp)
    have e8 : (S₇.put lg (.list (IL given ++ [.int b]))).σ lg = some (.list (IL (given ++ [(b : Int)]))) := by rw [put_at]; simp [IL]
    exact fin _ _ data (given ++ [(b : Int)]) (by walk_at "lk") (by walk_at "lk") (c17.trans (c8.mono (by simp))) (c8.2 _ _ (by simpa using n2.symm) m7) (D7.toGiven c8 e8) (.inr ⟨.inl hh, rfl, rfl⟩) _ rfl
  | some n =>
    rw [hh] at hv
    obtain ⟨lt, ve, rfl, hbt, et, le, de, lr, lp, rfl, E⟩ := hv
    rw [seg_map] at E
    have hn4 : n < 4 := foundN_lt (List.mem_of_mem_head? (by rw [hh]; exact rfl))
    have ml : (mapN data n).length = 16 := seg_len (by (first | lia | omega))
    have so : (seg data (32 * n) 32).length = 32 := seg_len (by (first | lia | omega))
    have h46 : S.nx ≤ S₆.nx := Nat.le_trans c14.1 x56.1
    refine .inr ⟨rfl, ?_⟩
    show SAll _ _ _ _ _ _ _
    walk_at "w"
    refine SE.attr (SE.tupAt (by walk_at "lk") et (by (first | lia | omega)) (by (first | lia | omega)) rfl ⟨le, _, de, _, _, rfl, E.hle, E.hde, kx.F.g_Entry_map, enD_map, ?_⟩)
    walk_at "w"
    refine ⟨_, _, .inl E.hlp, by (first | lia | omega), by (first | lia | omega), IL_get (by rw [ml]; (first | lia | omega)), ?_⟩
    rw [show (slot : Int).toNat = slot by (first | lia | omega)]
    walk_at "w"
    by_cases qm : gI (mapN data n) slot = 0
    rotate_left
    · refine ⟨false, by simp [cmpI, qm], ?_⟩
      show SL _ _ _ _ _ _ _
      refine SL.cons (SS.expr (SE.meth lm_append ?_))
      refine SE.dGiven kx (by walk_at "lk") D7 ⟨lg, _, rfl, D7.lg, ?_⟩
      walk_at "w"
      refine SC.append D7.lg (by rw [IL_len]; (first | lia | omega)) (SL.nil ?_)
      have c8 : Chg [lg] S₇ (S₇.put lg (.list (IL given ++ [.int b]))) := (Chg.refl _ _).put (by simp)
      have e8 : (S₇.put lg (.list (IL given ++ [.int b]))).σ lg = some (.list (IL (given ++ [(b : Int)]))) := by rw [put_at]; simp [IL]
      exact fin _ _ data (given ++ [(b : Int)]) (by walk_at "lk") (by walk_at "lk") (c17.trans (c8.mono (by simp))) (c8.2 _ _ (by simpa using n2.symm) m7) (D7.toGiven c8 e8) (.inr ⟨.inr ⟨n, hh, qm⟩, rfl, rfl⟩) _ rfl
    refine ⟨true, by simp [cmpI, qm], ?_⟩
    refine SAll.and_nil ?_
    show SL _ _ _ _ _ _ _
    refine SL.cons (SS.assign ?_)
    walk_at "w"
    refine ST.sub (SE.attr (SE.tupAt (by walk_at "lk") et (by (first | lia | omega)) (by (first | lia | omega)) rfl ⟨le, _, de, _, _, rfl, E.hle, E.hde, kx.F.g_Entry_map, enD_map, ?_⟩))
    walk_at "w"
    refine ⟨lp, slot, _, rfl, rfl, E.hlp, by (first | lia | omega), by (first | lia | omega), by rw [IL_len, ml]; (first | lia | omega), ?_⟩
    rw [IL_set, show (slot : Int).toNat = slot by (first | lia | omega)]
    have new : ∀ l, l < S.nx → l ≠ lp := fun l h q => absurd h (by rw [q]; exact Nat.not_lt.mpr (Nat.le_trans h46 E.b2))
    have c8 : Chg [lp] S₇ (S₇.put lp (.list (IL ((mapN data n).set slot b)))) := (Chg.refl _ _).put (by simp)
    have E8 : En C'.KF (S₇.put lp (.list (IL ((mapN data n).set slot b)))) S₆.nx le de lr lp (gI (seg data (32 * n) 32) 0) (seg (seg data (32 * n) 32) 1 11) 0 (gI (seg data (32 * n) 32) 13) (gI (seg data (32 * n) 32) 15) ((mapN data n).set slot b) :=
      ⟨c8.2 _ _ (by simpa using ne_of_ao E.hle E.hlp (by first | exact ao_ld | exact ao_dl | exact ao_li | exact ao_il | exact ao_di | exact ao_id | exact ao_tl | exact ao_lt | (intro q; cases q))) E.hle, c8.2 _ _ (by simpa using ne_of_ao E.hde E.hlp (by first | exact ao_ld | exact ao_dl | exact ao_li | exact ao_il | exact ao_di | exact ao_id | exact ao_tl | exact ao_lt | (intro q; cases q))) E.hde, c8.2 _ _ (by
        have : IL (seg (seg data (32 * n) 32) 1 11) ≠ IL (mapN data n) := fun q => by
          have := congrArg List.length q
          rw [IL_len, IL_len, ml, seg_len (by (first | lia | omega))] at this
          (first | lia | omega)
        simpa using ne_of_ao E.hlr E.hlp (fun q => this (by injection q))) E.hlr, put_at, E.b1, E.b2, E.b3, E.b4⟩
    have t8 : (S₇.put lp (.list (IL ((mapN data n).set slot b)))).σ lt = some (.tuple [.int n, .ref le]) := c8.2 _ _ (by simpa using ne_of_ao et E.hlp (by first | exact ao_ld | exact ao_dl | exact ao_li | exact ao_il | exact ao_di | exact ao_id | exact ao_tl | exact ao_lt | (intro q; cases q))) et
    have D8 : Dk C'.KF (S₇.put lp (.list (IL ((mapN data n).set slot b)))) dk dd ld lg N data given :=
      ⟨D7.ne, c8.2 _ _ (by simpa using new _ (hb dk (by rw [D.dk]; simp))) D7.dk, c8.2 _ _ (by simpa using new _ (hb dd (by rw [D.dd]; simp))) D7.dd, c8.2 _ _ (by simpa using new _ hld) D7.ld, c8.2 _ _ (by simpa using new _ hlg) D7.lg⟩
    have m8 := c8.2 _ _ (by simpa using new _ hlt) m7
    have c18 : Chg [lm, ld, lg] S (S₇.put lp (.list (IL ((mapN data n).set slot b)))) := ⟨Nat.le_trans c17.1 c8.1, fun l o q e => c8.2 _ _ (by simpa using new _ (hb l (by rw [e]; simp))) (c17.2 _ _ q e)⟩
    generalize S₇.put lp (.list (IL ((mapN data n).set slot b))) = S₈ at c8 E8 t8 D8 m8 c18 ⊢
    refine SL.cons (SS.expr (SE.fn kx kx.F.f_put_entry (by kernel_rfl) ?_))
    refine SAs.cons (SE.name (by walk_at "lk") (SAs.cons (SE.tupAt (by walk_at "lk") t8 (by (first | lia | omega)) (by (first | lia | omega)) rfl (SAs.cons (SE.fn kx kx.F.f_entry_octets (by kernel_rfl) (SAs.cons (SE.name (by walk_at "lk") (SAs.cons (SE.tupAt (by walk_at "lk") t8 (by (first | lia | omega)) (by (first | lia | omega)) rfl (SAs.nil ?_))) (by decide +kernel))))))) (by decide +kernel))
    refine (entry_octets_sf kx.F (kx.le (by decide)) D8 (by (first | lia | omega)) E8 (seg_len (by (first | lia | omega))) (by simp [ml])).thnR ?_
    intro lo S₉ hlo x9 e9
    refine SAs.nil ?_
    have no : lo ≠ ld := Nat.ne_of_gt (Nat.lt_of_lt_of_le hld (Nat.le_trans c18.1 hlo))
    refine (put_entry_sf kx.F (kx.le (by decide)) (D8.ext x9) (by (first | lia | omega)) (by (first | lia | omega)) hl hz e9 (by simp [ml, seg_len, so]) no).thnE2 ?_
    intro S₁₀ c10 e10
    refine SL.nil ?_
    rw [show (n : Int).toNat = n by (first | lia | omega)] at e10
    refine fin _ _ _ given (by walk_at "lk") (by walk_at "lk") ((c18.trans (x9.chg _)).trans (c10.mono (by simp))) (c10.2 _ _ (by simpa using n1.symm) (x9.2 _ _ m8)) ((D8.ext x9).toData c10 e10) (.inl ⟨n, hh, qm, rfl, ?_⟩) _ rfl
    have a1 : seg (seg data (32 * n) 32) 1 11 = seg data (32 * n + 1) 11 := by simp [seg, List.drop_drop, List.take_take, List.drop_take]
    rw [a1, show gI (seg data (32 * n) 32) 0 = gI data (32 * n) from gI_seg (by (first | lia | omega)), show gI (seg data (32 * n) 32) 13 = gI data (32 * n + 13) from gI_seg (by (first | lia | omega)), show gI (seg data (32 * n) 32) 15 = gI data (32 * n + 15) from gI_seg (by (first | lia | omega))]
end
end Mine
end
section
open PySem PySem.W PyProof.Rows PySem.Calls
set_option Elab.async false
set_option maxRecDepth 100000
set_option linter.unusedVariables false
namespace Mine
local macro_rules | `(tactic| walk_at "k") => `(tactic| (refine (?_ : _ = _); kernel_rfl!))
local macro_rules | `(tactic| walk_at "lk") => `(tactic| first | with_reducible exact lookup_here | (refine (?_ : LkAt 1 _ _); walk_at "k") | (refine (?_ : LkAt 2 _ _); walk_at "k") | (refine (?_ : LkAt 3 _ _); walk_at "k") | (refine (?_ : LkAt 4 _ _); walk_at "k") | (refine (?_ : LkAt 5 _ _); walk_at "k") | (refine (?_ : LkAt 6 _ _); walk_at "k") | (refine (?_ : LkAt 7 _ _); walk_at "k") | (refine (?_ : LkAt 8 _ _); walk_at "k") | (refine (?_ : LkAt 9 _ _); walk_at "k") | (refine (?_ : LkAt 10 _ _); walk_at "k") | (refine (?_ : LkAt 11 _ _); walk_at "k") | (refine (?_ : LkAt 12 _ _); walk_at "k") | (refine (?_ : LkAt 13 _ _); walk_at "k") | (refine (?_ : LkAt 14 _ _); walk_at "k") | (refine (?_ : LkAt 15 _ _); walk_at "k") | (refine (?_ : LkAt 16 _ _); walk_at "k"))
local macro_rules | `(tactic| walk_at "nm") => `(tactic| refine SE.name (by walk_at "lk") ?_ (by decide +kernel))
local macro_rules | `(tactic| walk_at "len") => `(tactic| refine SE.blt (id := "len") ((‹Kx _ _ _›).isB (‹Kx _ _ _›).F.b_len (by kernel_rfl) (by kernel_rfl)) ?_)
local macro_rules | `(tactic| walk_at "s") => `(tactic| first
  | ((with_reducible show SE _ _ (Expr.Name _ _) _ _ _); walk_at "nm")
  | with_reducible (first | refine SE.cInt ?_ | refine SE.cNone ?_ | refine SE.cBool ?_ | refine SE.binop ?_ | refine SE.cmp ?_ | refine SE.ifexp ?_ | refine SE.list ?_ | refine SE.tuple ?_ | refine SE.sub ?_ | refine SAs.nil ?_ | refine SAs.cons ?_ | refine SB.cmp ?_ | refine SB.not ?_ | refine SB.boolop ?_ | refine SAll.and ?_ | refine SAll.or ?_ | refine SAll.and_nil ?_ | refine SAll.or_nil ?_ | refine SS.ret ?_ | refine SS.ifs ?_ | refine SL.cons ?_)
  | ((with_reducible show SE _ _ (Expr.Call (Expr.Name (Str.ofString "len") _) _ _ _) _ _ _); walk_at "len"))
local macro_rules | `(tactic| walk_at "w") => `(tactic| ((try ((with_reducible show SL _ _ _ _ _ _ _); refine SL.cons ?_)); repeat walk_at "s"))

/-- what block_for does, in plain words -/
noncomputable def Max (l : List Int) (M : Nat) : Prop := (M : Int) ∈ l ∧ ∀ x ∈ l, x ≤ (M : Int)
noncomputable def BFp (N : Nat) (data given mem : List Int) (a slot : Nat) (user : Int) (b : Nat) (data' given' mem' : List Int) : Prop :=
  ∃ M : Nat, Max (seg mem (a + 16) 16) M ∧ b < N ∧ b ≠ M ∧ usedB data given b = false ∧ mem' = putM mem (a + 16) ((seg mem (a + 16) 16).set slot b) ∧
      ((∃ n, (foundN data user (seg mem (a + 1) 11) 4).head? = some n ∧ gI (mapN data n) slot = 0 ∧ given' = given ∧ data' = putL data (32 * n) ([gI data (32 * n)] ++ seg data (32 * n + 1) 11 ++ [0, gI data (32 * n + 13), 0, gI data (32 * n + 15)] ++ (mapN data n).set slot b)) ∨
       (((foundN data user (seg mem (a + 1) 11) 4).head? = none ∨ ∃ n, (foundN data user (seg mem (a + 1) 11) 4).head? = some n ∧ gI (mapN data n) slot ≠ 0) ∧ data' = data ∧ given' = given ++ [(b : Int)]))
/-- the block that a place of the control block has, or is given -/
noncomputable def Placed (N : Nat) (data given mem : List Int) (a slot : Nat) (user : Int) (b : Nat) (data' given' mem' : List Int) : Prop :=
  (gI (seg mem (a + 16) 16) slot ≠ 0 ∧ (b : Int) = gI (seg mem (a + 16) 16) slot ∧ data' = data ∧ given' = given ∧ mem' = mem) ∨ (gI (seg mem (a + 16) 16) slot = 0 ∧ BFp N data given mem a slot user b data' given' mem')
noncomputable def Full (N : Nat) (data given mem : List Int) (a slot : Nat) : Prop := gI (seg mem (a + 16) 16) slot = 0 ∧ ∃ M : Nat, Max (seg mem (a + 16) 16) M ∧ ∀ k, k < N → k ≠ M → usedB data given k = true
theorem SFA.run2 {C : Cx} {S : St} {P : AV → St → Prop} {X : St → Prop} {a : Addr} {params : List Str} {body : List Stmt} {scope : Scope} {args : List AV} (F : Facts C.KF) (H : FnA C.KF a params body scope) {m : Nat} (hn : m + 1 ≤ C.n) (fr : Frm) (hfr : fr = params.zip args) (hlen : args.length = params.length)
    (h : ∀ C', C'.KF = C.KF → Kx C' scope.names m → C'.env.scope = scope → C'.env.func.isSome = true → (∃ L o, C'.envs = C'.env :: o ∧ C'.env.frame = some L) → Bnd S → SL C' fr body S (fun _ S' => P .none S') P X) : SFA C a args S P X := SFA.bnd fun hb => SFA.body H (by (first | lia | omega)) hlen fun C' e => by
  rw [← hfr]
  obtain ⟨L, t1, t2⟩ := e.top
  exact h C' e.KF ⟨by rw [e.KF]; exact F, e.kind, by have := e.n; (first | lia | omega)⟩ e.scope e.fn ⟨L, _, t1, t2⟩ hb
theorem putL_tail {N : Nat} {data : List Int} {n b slot : Nat} {u sp c : Int} {raw m : List Int} : (putL data (32 * n) ([u] ++ raw ++ [0, sp, 0, c] ++ m)).length = data.length := putL_len _ _ _
section
variable {C : Cx} {S : St} {lm : Loc} {mem : List Int} {a : Int} {dk dd ld lg : Loc} {N : Nat} {data given : List Int}
theorem write_here_sf {user : Int} {ix : Nat} (hF : Facts C.KF) (hn : 9 ≤ C.n) (D : Dk C.KF S dk dd ld lg N data given) (hN : N ≤ 15) (hN6 : 2 ≤ N) (hl : data.length = 64 * N) (hd : DirOk data) (hgl : given.length ≤ 1000) (hu : user ≠ 229) (hm : S.σ lm = some (.list (IL mem))) (h0 : 0 ≤ a) (h1 : a + 36 ≤ 192) (hlm : mem.length = 256)
    (h12 : gI mem (a.toNat + 12) % 32 = 0) (h14 : gI mem (a.toNat + 14) % 64 = 0) (h9 : gI mem (a.toNat + 9) < 128) (hix : gI mem (a.toNat + 32) = ix) (hs : ix < 32) (hmap : ∀ x ∈ seg mem (a.toNat + 16) 16, 0 ≤ x ∧ x < N) (n1 : ld ≠ lm) (n2 : lg ≠ lm) :
    SF C "write_here" [.ref dk, .int user, .ref lm, .int a, .int 192, .bool false] S
      (fun v S' => (v = .int 2 ∧ Ext S S' ∧ Full N data given mem a.toNat (ix / 2)) ∨
        (v = .int 0 ∧ Chg [lm, ld, lg] S S' ∧ ∃ b data' given' mem' xs c, Placed N data given mem a.toNat (ix / 2) user b data' given' mem' ∧ b < N ∧ xs.length = 32 ∧ Dk C.KF S' dk dd ld lg N (putL data' (64 * b + 32 * (ix % 2)) xs) given' ∧
          S'.σ lm = some (.list (IL ((mem'.set (a.toNat + 15) (c % 256)).set (a.toNat + 14) (gI mem' (a.toNat + 14) % 128 % 256)))))) noX := by
  refine SFA.run2 hF hF.f_write_here.fn hn [("disk", .ref dk), ("user", .int user), ("memory", .ref lm), ("at", .int a), ("dma", .int 192), ("is_blanked", .bool false)] rfl rfl fun C' e1 kx e2 e3 e4 hb => ?_
  rw [← e1] at D ⊢
  refine letPost ?_
  intro PR
  refine letFr ?_
  intro fr0
  have hld : ld < S.nx := hb ld (by rw [D.ld]; simp)
  refine SL.cons (SS.assign (SE.fn kx kx.F.f_current_at (by kernel_rfl) ?_))
  walk_at "w"
  refine (current_at_sf kx.F (kx.le (by decide)) hm h0 (by (first | lia | omega)) hlm).thnE ?_
  intro S₁ x1
  rw [hix]
  refine ST.name (kx.isV (by kernel_rfl)) ?_
  refine SL.cons (SS.expr (SE.fn kx kx.F.f_need_writable_disk (by kernel_rfl) ?_))
  walk_at "w"
  refine (need_writable_disk_sf kx.F (kx.le (by decide)) (D.ext x1)).thnE ?_
  intro S₂ x2
  have x12 := x1.trans x2
  refine SL.cons (SS.expr (SE.fn kx kx.F.f_need_writable_file (by kernel_rfl) ?_))
  walk_at "w"
  refine SE.fn kx kx.F.f_name_at (by kernel_rfl) ?_
  walk_at "w"
  refine (name_at_sf kx.F (kx.le (by decide)) (x12.2 _ _ hm) h0 (by (first | lia | omega)) hlm).thnR ?_
  intro ln S₃ hln x3 e3'
  have x13 := x12.trans x3
  walk_at "w"
  refine (need_writable_file_sf kx.F (kx.le (by decide)) e3' (seg_len (by (first | lia | omega))) (by rw [gI_seg (by (first | lia | omega))]; exact h9)).thnE ?_
  intro S₄ x4
  have x14 := x13.trans x4
  refine SL.cons (SS.tryAssign (i := 2) kx.F.disk_error (kx.g (by kernel_rfl)) (kx.isV (by kernel_rfl)) (int_of kx.F.i_NO_ROOM) (kx.g (by kernel_rfl)) e4 (Xv := fun S' => Full N data given mem a.toNat (ix / 2) ∧ Ext S S') (SE.fn kx kx.F.f_block_for (by kernel_rfl) ?_) ?_)
  rotate_left
  · rintro S' ⟨hf, x⟩
    exact .inl ⟨rfl, x, hf⟩
  walk_at "w"
  refine SE.fn kx kx.F.f_records_of_block (by kernel_rfl) ?_
  walk_at "w"
  refine (records_of_block_sf kx.F (kx.le (by decide)) (D.ext x14)).thnE ?_
  intro S₅ x5
  have x15 := x14.trans x5
  refine .div (by (first | lia | omega)) ?_
  rw [show ((ix : Int) / 2) = ((ix / 2 : Nat) : Int) by (first | lia | omega)]
  walk_at "w"
  refine (block_for_sf kx.F (kx.le (by decide)) (D.ext x15) hN (by (first | lia | omega)) (by (first | lia | omega)) hd hgl hu (x15.2 _ _ hm) h0 (by (first | lia | omega)) hlm h12 h14 (by (first | lia | omega)) hmap n1 n2).thnX ?_ ?_
  rotate_left
  · rintro S' ⟨q0, x, M, hM1, hM2, hall⟩
    exact ⟨⟨q0, M, ⟨hM1, hM2⟩, hall⟩, x15.trans x⟩
  intro v S₆ hb6 hv
  -- the rest, once the block is there
  have rest : ∀ b data' given' mem', v = .int (b : Nat) → Placed N data given mem a.toNat (ix / 2) user b data' given' mem' → b < N → data'.length = data.length → mem'.length = 256 → Chg [lm, ld, lg] S S₆ → Dk C'.KF S₆ dk dd ld lg N data' given' → S₆.σ lm = some (.list (IL mem')) →
      ∀ sts, sts = bd_write_here.drop 4 → SL C' [("block", v), ("index", .int ix), ("disk", .ref dk), ("user", .int user), ("memory", .ref lm), ("at", .int a), ("dma", .int 192), ("is_blanked", .bool false)] sts S₆ (fun _ S' => (AV.none = .int 2 ∧ Ext S S' ∧ Full N data given mem a.toNat (ix / 2)) ∨
        (AV.none = .int 0 ∧ Chg [lm, ld, lg] S S' ∧ ∃ b data' given' mem' xs c, Placed N data given mem a.toNat (ix / 2) user b data' given' mem' ∧ b < N ∧ xs.length = 32 ∧ Dk C'.KF S' dk dd ld lg N (putL data' (64 * b + 32 * (ix % 2)) xs) given' ∧
          S'.σ lm = some (.list (IL ((mem'.set (a.toNat + 15) (c % 256)).set (a.toNat + 14) (gI mem' (a.toNat + 14) % 128 % 256)))))) (fun v S' => (v = .int 2 ∧ Ext S S' ∧ Full N data given mem a.toNat (ix / 2)) ∨
        (v = .int 0 ∧ Chg [lm, ld, lg] S S' ∧ ∃ b data' given' mem' xs c, Placed N data given mem a.toNat (ix / 2) user b data' given' mem' ∧ b < N ∧ xs.length = 32 ∧ Dk C'.KF S' dk dd ld lg N (putL data' (64 * b + 32 * (ix % 2)) xs) given' ∧
          S'.σ lm = some (.list (IL ((mem'.set (a.toNat + 15) (c % 256)).set (a.toNat + 14) (gI mem' (a.toNat + 14) % 128 % 256)))))) noX := by
    rintro b data' given' mem' rfl hpl hbN hdl hml c6 D6 m6 _ rfl
    refine SL.cons (SS.expr (SE.fn kx kx.F.f_write_record (by kernel_rfl) ?_))
    walk_at "w"
    refine SE.fn kx kx.F.f_records_of_block (by kernel_rfl) ?_
    walk_at "w"
    refine (records_of_block_sf kx.F (kx.le (by decide)) D6).thnE ?_
    intro S₇ x7
    refine .mod (by (first | lia | omega)) ?_
    rw [show ((ix : Int) % 2) = ((ix % 2 : Nat) : Int) by (first | lia | omega)]
    walk_at "w"
    refine SE.fn kx kx.F.f_octets_at (by kernel_rfl) ?_
    walk_at "w"
    refine SE.dRecord kx (by walk_at "lk") (D6.ext x7) ?_
    walk_at "w"
    refine (octets_at_sf kx.F (kx.le (by decide)) (x7.2 _ _ m6) (by (first | lia | omega)) (by (first | lia | omega)) (by (first | lia | omega)) hml).thnR ?_
    intro lo S₈ hlo x8 e8
    have x78 := x7.trans x8
    walk_at "w"
    have no : lo ≠ ld := Nat.ne_of_gt (Nat.lt_of_lt_of_le hld (Nat.le_trans c6.1 (Nat.le_trans x7.1 hlo)))
    have sx : (seg mem' (192 : Int).toNat (32 : Int).toNat).length = 32 := seg_len (by simp; (first | lia | omega))
    refine (write_record_sf kx.F (kx.le (by decide)) (D6.ext x78) (by (first | lia | omega)) (by (first | lia | omega)) (by (first | lia | omega)) (by (first | lia | omega)) (by (first | lia | omega)) (by rw [hdl, hl]; simp) e8 sx no).thnE2 ?_
    intro S₉ c9 e9
    have D9 := (D6.ext x78).toData c9 e9
    have m9 := c9.2 _ _ (by simpa using n1.symm) (x78.2 _ _ m6)
    refine SL.cons (SS.expr (SE.fn kx kx.F.f_set_count (by kernel_rfl) ?_))
    walk_at "w"
    refine SE.blt (id := "max") (kx.isB kx.F.b_max (by kernel_rfl) (by kernel_rfl)) (SAs.cons (SE.fn kx kx.F.f_count_at (by kernel_rfl) ?_))
    walk_at "w"
    refine (count_at_sf kx.F (kx.le (by decide)) m9 h0 (by (first | lia | omega)) hml).thnE ?_
    intro S₁₀ x10
    walk_at "w"
    refine .add (SAs.nil (SC.max2 ?_))
    generalize (if (ix : Int) + 1 > gI mem' (a.toNat + 15) then (ix : Int) + 1 else gI mem' (a.toNat + 15)) = cc
    walk_at "w"
    refine (set_count_sf kx.F (kx.le (by decide)) (x10.2 _ _ m9) h0 (by (first | lia | omega)) hml).thnE2 ?_
    intro S₁₁ c11 m11
    have D11 := (D9.ext x10).toMem c11 (x10.2 _ _ m9) n1 n2
    refine SL.cons (SS.expr (SE.fn kx kx.F.f_mark_changed (by kernel_rfl) ?_))
    walk_at "w"
    refine (mark_changed_sf kx.F (kx.le (by decide)) m11 h0 (by (first | lia | omega)) (by simpa using hml)).thnE2 ?_
    intro S₁₂ c12 m12
    have D12 := D11.toMem c12 m11 n1 n2
    refine SL.cons (SS.ret (SE.gint kx kx.F.i_DONE (by kernel_rfl) ?_))
    refine .inr ⟨rfl, ?_, b, data', given', mem', _, cc, hpl, hbN, sx, ?_, ?_⟩
    · exact ((c6.trans (x78.chg _)).trans (c9.mono (by simp))).trans ((x10.chg _).trans ((c11.mono (by simp)).trans (c12.mono (by simp))))
    · rw [Int.toNat_natCast, Int.toNat_natCast] at D12; exact D12
    · rw [m12, if_pos rfl, gI_set (by (first | lia | omega)), if_neg (by (first | lia | omega))]
  have x16 : ∀ x : Ext S₅ S₆, Ext S S₆ := fun x => x15.trans x
  rcases hv with ⟨q0, rfl, x⟩ | ⟨q0, b, M, rfl, hbN, hM1, hM2, hbM, hub, c6, m6, data', given', D6, hh⟩
  · have hmem : gI (seg mem (a.toNat + 16) 16) (ix / 2) ∈ seg mem (a.toNat + 16) 16 := List.mem_of_getElem? (gI_get (by rw [seg_len (by (first | lia | omega))]; (first | lia | omega)))
    obtain ⟨p1, p2⟩ := hmap _ hmem
    obtain ⟨b, hbv⟩ : ∃ b : Nat, gI (seg mem (a.toNat + 16) 16) (ix / 2) = (b : Int) := ⟨_, (Int.toNat_of_nonneg p1).symm⟩
    exact rest b data given mem (by rw [hbv]) (.inl ⟨q0, hbv.symm, rfl, rfl, rfl⟩) (by (first | lia | omega)) rfl hlm ((x16 x).chg _) (D.ext (x16 x)) ((x16 x).2 _ _ hm) _ rfl
  · have hdl : data'.length = data.length := by
      rcases hh with ⟨n, _, _, _, rfl⟩ | ⟨_, rfl, _⟩
      · rw [putL_len]
      · rfl
    exact rest b data' given' _ rfl (.inr ⟨q0, M, ⟨hM1, hM2⟩, hbN, hbM, hub, rfl, hh⟩) hbN hdl (by rw [putM_len]; exact hlm) ((x15.chg _).trans c6) D6 m6 _ rfl
end
end Mine
end
section
open PySem PySem.W PyProof.Rows PySem.Calls
set_option Elab.async false
set_option maxRecDepth 100000
set_option linter.unusedVariables false
namespace Mine
local macro_rules | `(tactic| walk_at "k") => `(tactic| (refine (?_ : _ = _); kernel_rfl!))
local macro_rules | `(tactic| walk_at "lk") => `(tactic| first | with_reducible exact lookup_here | (refine (?_ : LkAt 1 _ _); walk_at "k") | (refine (?_ : LkAt 2 _ _); walk_at "k") | (refine (?_ : LkAt 3 _ _); walk_at "k") | (refine (?_ : LkAt 4 _ _); walk_at "k") | (refine (?_ : LkAt 5 _ _); walk_at "k") | (refine (?_ : LkAt 6 _ _); walk_at "k") | (refine (?_ : LkAt 7 _ _); walk_at "k") | (refine (?_ : LkAt 8 _ _); walk_at "k") | (refine (?_ : LkAt 9 _ _); walk_at "k") | (refine (?_ : LkAt 10 _ _); walk_at "k") | (refine (?_ : LkAt 11 _ _); walk_at "k") | (refine (?_ : LkAt 12 _ _); walk_at "k") | (refine (?_ : LkAt 13 _ _); walk_at "k") | (refine (?_ : LkAt 14 _ _); walk_at "k") | (refine (?_ : LkAt 15 _ _); walk_at "k") | (refine (?_ : LkAt 16 _ _); walk_at "k"))
local macro_rules | `(tactic| walk_at "nm") => `(tactic| refine SE.name (by walk_at "lk") ?_ (by decide +kernel))
local macro_rules | `(tactic| walk_at "len") => `(tactic| refine SE.blt (id := "len") ((‹Kx _ _ _›).isB (‹Kx _ _ _›).F.b_len (by kernel_rfl) (by kernel_rfl)) ?_)
local macro_rules | `(tactic| walk_at "s") => `(tactic| first
  | ((with_reducible show SE _ _ (Expr.Name _ _) _ _ _); walk_at "nm")
  | with_reducible (first | refine SE.cInt ?_ | refine SE.cNone ?_ | refine SE.cBool ?_ | refine SE.binop ?_ | refine SE.cmp ?_ | refine SE.ifexp ?_ | refine SE.list ?_ | refine SE.tuple ?_ | refine SE.sub ?_ | refine SAs.nil ?_ | refine SAs.cons ?_ | refine SB.cmp ?_ | refine SB.not ?_ | refine SB.boolop ?_ | refine SAll.and ?_ | refine SAll.or ?_ | refine SAll.and_nil ?_ | refine SAll.or_nil ?_ | refine SS.ret ?_ | refine SS.ifs ?_ | refine SL.cons ?_)
  | ((with_reducible show SE _ _ (Expr.Call (Expr.Name (Str.ofString "len") _) _ _ _) _ _ _); walk_at "len"))
local macro_rules | `(tactic| walk_at "w") => `(tactic| ((try ((with_reducible show SL _ _ _ _ _ _ _); refine SL.cons ?_)); repeat walk_at "s"))

section
variable {C : Cx} {S : St} {lm : Loc} {mem : List Int} {a : Int} {dk dd ld lg : Loc} {N : Nat} {data given : List Int}
theorem go_on_sf {user : Int} {ix : Nat} (hF : Facts C.KF) (hn : 3 ≤ C.n) (D : Dk C.KF S dk dd ld lg N data given) (hN : N ≤ 15) (hm : S.σ lm = some (.list (IL mem))) (h0 : 0 ≤ a) (h1 : a + 36 ≤ 256) (hlm : mem.length = 256) (hix : gI mem (a.toNat + 32) = ix) (hs : ix < 32) :
    SF C "go_on" [.ref dk, .int user, .ref lm, .int a, .bool true] S (fun v S' => v = .int 0 ∧ Ext S S') noX := by
  refine SFA.run hF hF.f_go_on.fn hn [("disk", .ref dk), ("user", .int user), ("memory", .ref lm), ("at", .int a), ("is_writing", .bool true)] rfl rfl fun C' e1 kx e2 e3 hb => ?_
  rw [← e1] at D
  refine letPost ?_
  intro PR
  refine letFr ?_
  intro fr0
  walk_at "w"
  refine SE.fn kx kx.F.f_current_at (by kernel_rfl) ?_
  walk_at "w"
  refine (current_at_sf kx.F (kx.le (by decide)) hm h0 h1 hlm).thnE ?_
  intro S₁ x1
  rw [hix]
  refine SE.fn kx kx.F.f_records_of_extent (by kernel_rfl) ?_
  walk_at "w"
  refine (records_of_extent_sf kx.F (kx.le (by decide)) (D.ext x1) (by (first | lia | omega))).thnE ?_
  intro S₂ x2
  refine ⟨true, congrArg some (decide_eq_true (by (first | lia | omega))), ?_⟩
  show SL _ _ _ _ _ _ _
  refine SL.cons (SS.ret (SE.gint kx kx.F.i_DONE (by kernel_rfl) ⟨rfl, x1.trans x2⟩))
theorem write_next_sf {user : Int} {ix : Nat} (hF : Facts C.KF) (hn : 10 ≤ C.n) (D : Dk C.KF S dk dd ld lg N data given) (hN : N ≤ 15) (hN6 : 2 ≤ N) (hl : data.length = 64 * N) (hd : DirOk data) (hgl : given.length ≤ 1000) (hu : user ≠ 229) (hm : S.σ lm = some (.list (IL mem))) (h0 : 0 ≤ a) (h1 : a + 36 ≤ 192) (hlm : mem.length = 256)
    (h12 : gI mem (a.toNat + 12) % 32 = 0) (h14 : gI mem (a.toNat + 14) % 64 = 0) (h9 : gI mem (a.toNat + 9) < 128) (hix : gI mem (a.toNat + 32) = ix) (hs : ix < 32) (hmap : ∀ x ∈ seg mem (a.toNat + 16) 16, 0 ≤ x ∧ x < N) (n1 : ld ≠ lm) (n2 : lg ≠ lm) :
    SF C "write_next" [.ref dk, .int user, .ref lm, .int a, .int 192] S
      (fun v S' => (v = .int 2 ∧ Ext S S' ∧ Full N data given mem a.toNat (ix / 2)) ∨
        (v = .int 0 ∧ Chg [lm, ld, lg] S S' ∧ ∃ b data' given' mem' xs c d, Placed N data given mem a.toNat (ix / 2) user b data' given' mem' ∧ b < N ∧ xs.length = 32 ∧ Dk C.KF S' dk dd ld lg N (putL data' (64 * b + 32 * (ix % 2)) xs) given' ∧
          S'.σ lm = some (.list (IL (((mem'.set (a.toNat + 15) (c % 256)).set (a.toNat + 14) (gI mem' (a.toNat + 14) % 128 % 256)).set (a.toNat + 32) (d % 256)))))) noX := by
  refine SFA.run hF hF.f_write_next.fn hn [("disk", .ref dk), ("user", .int user), ("memory", .ref lm), ("at", .int a), ("dma", .int 192)] rfl rfl fun C' e1 kx e2 e3 hb => ?_
  rw [← e1] at D ⊢
  refine letPost ?_
  intro PR
  refine letFr ?_
  intro fr0
  refine SL.cons (SS.expr (SE.fn kx kx.F.f_need_writable_disk (by kernel_rfl) ?_))
  walk_at "w"
  refine (need_writable_disk_sf kx.F (kx.le (by decide)) D).thnE ?_
  intro S₁ x1
  refine SL.cons (SS.expr (SE.fn kx kx.F.f_need_writable_file (by kernel_rfl) ?_))
  walk_at "w"
  refine SE.fn kx kx.F.f_name_at (by kernel_rfl) ?_
  walk_at "w"
  refine (name_at_sf kx.F (kx.le (by decide)) (x1.2 _ _ hm) h0 (by (first | lia | omega)) hlm).thnR ?_
  intro ln S₂ hln x2 e2'
  have x12 := x1.trans x2
  walk_at "w"
  refine (need_writable_file_sf kx.F (kx.le (by decide)) e2' (seg_len (by (first | lia | omega))) (by rw [gI_seg (by (first | lia | omega))]; exact h9)).thnE ?_
  intro S₃ x3
  have x13 := x12.trans x3
  refine SL.cons (SS.ifs (SB.cmp (SE.fn kx kx.F.f_go_on (by kernel_rfl) ?_)))
  walk_at "w"
  refine (go_on_sf kx.F (kx.le (by decide)) (D.ext x13) hN (x13.2 _ _ hm) h0 (by (first | lia | omega)) hlm hix hs).thnE ?_
  intro S₄ x4
  have x14 := x13.trans x4
  refine SE.gint kx kx.F.i_DONE (by kernel_rfl) ⟨false, rfl, ?_⟩
  refine SL.nil ?_
  refine SL.cons (SS.assign (SE.fn kx kx.F.f_write_here (by kernel_rfl) ?_))
  walk_at "w"
  refine (write_here_sf kx.F (kx.le (by decide)) (D.ext x14) hN hN6 hl hd hgl hu (x14.2 _ _ hm) h0 h1 hlm h12 h14 h9 hix hs hmap n1 n2).thn ?_
  rintro v S₅ (⟨rfl, x5, hf⟩ | ⟨rfl, c5, b, data', given', mem', xs, c, hpl, hbN, hxs, D5, m5⟩)
  · refine ST.name (kx.isV (by kernel_rfl)) ?_
    walk_at "w"
    refine SE.gint kx kx.F.i_DONE (by kernel_rfl) ⟨false, rfl, ?_⟩
    refine SL.nil ?_
    walk_at "w"
    exact .inl ⟨rfl, x14.trans x5, hf⟩
  refine ST.name (kx.isV (by kernel_rfl)) ?_
  walk_at "w"
  refine SE.gint kx kx.F.i_DONE (by kernel_rfl) ⟨true, rfl, ?_⟩
  show SL _ _ _ _ _ _ _
  have ml : mem'.length = 256 := by
    rcases hpl with ⟨_, _, _, _, rfl⟩ | ⟨_, M, _, _, _, _, rfl, _⟩
    · exact hlm
    · rw [putM_len]; exact hlm
  refine SL.cons (SS.expr (SE.fn kx kx.F.f_set_current (by kernel_rfl) ?_))
  walk_at "w"
  refine SE.fn kx kx.F.f_current_at (by kernel_rfl) ?_
  walk_at "w"
  refine (current_at_sf kx.F (kx.le (by decide)) m5 h0 (by (first | lia | omega)) (by simpa using ml)).thnE ?_
  intro S₆ x6
  walk_at "w"
  refine .add ?_
  generalize gI ((mem'.set (a.toNat + 15) (c % 256)).set (a.toNat + 14) (gI mem' (a.toNat + 14) % 128 % 256)) (a.toNat + 32) + 1 = d
  walk_at "w"
  refine (set_current_sf kx.F (kx.le (by decide)) (x6.2 _ _ m5) h0 (by (first | lia | omega)) (by simpa using ml)).thnE2 ?_
  intro S₇ c7 m7
  refine SL.nil ?_
  walk_at "w"
  exact .inr ⟨rfl, ((x14.chg _).trans c5).trans ((x6.chg _).trans (c7.mono (by simp))), b, data', given', mem', xs, c, d, hpl, hbN, hxs, (D5.ext x6).toMem c7 (x6.2 _ _ m5) n1 n2, m7⟩
end
end Mine
end
section
open PySem PySem.W PyProof.Rows PySem.Calls
set_option Elab.async false
set_option maxRecDepth 100000
set_option linter.unusedVariables false
namespace Mine
local macro_rules | `(tactic| walk_at "k") => `(tactic| (refine (?_ : _ = _); kernel_rfl!))
local macro_rules | `(tactic| walk_at "lk") => `(tactic| first | with_reducible exact lookup_here | (refine (?_ : LkAt 1 _ _); walk_at "k") | (refine (?_ : LkAt 2 _ _); walk_at "k") | (refine (?_ : LkAt 3 _ _); walk_at "k") | (refine (?_ : LkAt 4 _ _); walk_at "k") | (refine (?_ : LkAt 5 _ _); walk_at "k") | (refine (?_ : LkAt 6 _ _); walk_at "k") | (refine (?_ : LkAt 7 _ _); walk_at "k") | (refine (?_ : LkAt 8 _ _); walk_at "k") | (refine (?_ : LkAt 9 _ _); walk_at "k") | (refine (?_ : LkAt 10 _ _); walk_at "k") | (refine (?_ : LkAt 11 _ _); walk_at "k") | (refine (?_ : LkAt 12 _ _); walk_at "k") | (refine (?_ : LkAt 13 _ _); walk_at "k") | (refine (?_ : LkAt 14 _ _); walk_at "k") | (refine (?_ : LkAt 15 _ _); walk_at "k") | (refine (?_ : LkAt 16 _ _); walk_at "k"))
local macro_rules | `(tactic| walk_at "nm") => `(tactic| refine SE.name (by walk_at "lk") ?_ (by decide +kernel))
local macro_rules | `(tactic| walk_at "len") => `(tactic| refine SE.blt (id := "len") ((‹Kx _ _ _›).isB (‹Kx _ _ _›).F.b_len (by kernel_rfl) (by kernel_rfl)) ?_)
local macro_rules | `(tactic| walk_at "s") => `(tactic| first
  | ((with_reducible show SE _ _ (Expr.Name _ _) _ _ _); walk_at "nm")
  | with_reducible (first | refine SE.cInt ?_ | refine SE.cNone ?_ | refine SE.cBool ?_ | refine SE.binop ?_ | refine SE.cmp ?_ | refine SE.ifexp ?_ | refine SE.list ?_ | refine SE.tuple ?_ | refine SE.sub ?_ | refine SAs.nil ?_ | refine SAs.cons ?_ | refine SB.cmp ?_ | refine SB.not ?_ | refine SB.boolop ?_ | refine SAll.and ?_ | refine SAll.or ?_ | refine SAll.and_nil ?_ | refine SAll.or_nil ?_ | refine SS.ret ?_ | refine SS.ifs ?_ | refine SL.cons ?_)
  | ((with_reducible show SE _ _ (Expr.Call (Expr.Name (Str.ofString "len") _) _ _ _) _ _ _); walk_at "len"))
local macro_rules | `(tactic| walk_at "w") => `(tactic| ((try ((with_reducible show SL _ _ _ _ _ _ _); refine SL.cons ?_)); repeat walk_at "s"))

noncomputable def mergeN (data mem : List Int) (a n : Nat) : List Int := (List.range 16).map fun j => if gI (seg mem (a + 16) 16) j ≠ 0 then gI (seg mem (a + 16) 16) j else gI (mapN data n) j
section
variable {C : Cx} {S : St} {lm : Loc} {mem : List Int} {a : Int} {dk dd ld lg : Loc} {N : Nat} {data given : List Int}
theorem close_file_sf {user : Int} (hF : Facts C.KF) (hn : 8 ≤ C.n) (D : Dk C.KF S dk dd ld lg N data given) (hN : N ≤ 15) (hl : 128 ≤ data.length) (hz : data.length ≤ 1000) (hd : DirOk data) (hgl : given.length ≤ 1000) (hu : user ≠ 229) (hm : S.σ lm = some (.list (IL mem))) (h0 : 0 ≤ a) (h1 : a + 36 ≤ 192) (hlm : mem.length = 256)
    (h12 : gI mem (a.toNat + 12) % 32 = 0) (h14 : gI mem (a.toNat + 14) % 64 = 0) (n1 : ld ≠ lm) (n2 : lg ≠ lm) :
    SF C "close_file" [.ref dk, .int user, .ref lm, .int a] S
      (fun v S' => (Ext S S' ∧ (v = .int 0 ∨ v = .int 255)) ∨
        (v = .int 0 ∧ Chg [lm, ld, dd] S S' ∧ ∃ n c lg', (foundN data user (seg mem (a.toNat + 1) 11) 4).head? = some n ∧ lg' ≠ lm ∧ S.nx ≤ lg' ∧
          Dk C.KF S' dk dd ld lg' N (putL data (32 * n) ([gI data (32 * n)] ++ seg data (32 * n + 1) 11 ++ [0, gI data (32 * n + 13), 0, c] ++ mergeN data mem a.toNat n)) (given.filter fun x => !((mergeN data mem a.toNat n).any (· == x))) ∧
          S'.σ lm = some (.list (IL (mem.set (a.toNat + 14) (Builtin.bitOr (gI mem (a.toNat + 14) % 128) 128 % 256)))))) noX := by
  refine SFA.run hF hF.f_close_file.fn hn [("disk", .ref dk), ("user", .int user), ("memory", .ref lm), ("at", .int a)] rfl rfl fun C' e1 kx e2 e3 hb => ?_
  rw [← e1] at D ⊢
  refine letPost ?_
  intro PR
  refine letFr ?_
  intro fr0
  have hlt : lm < S.nx := hb lm (by rw [hm]; simp)
  have hld : ld < S.nx := hb ld (by rw [D.ld]; simp)
  walk_at "w"
  refine SB.val (by intro _ _; rfl) (SE.fn kx kx.F.f_is_changed (by kernel_rfl) ?_)
  walk_at "w"
  refine (is_changed_sf kx.F (kx.le (by decide)) hm h0 (by (first | lia | omega)) hlm).thnE ?_
  intro S₁ x1
  cases decide (Builtin.bitAnd (gI mem (a.toNat + 14)) 128 = 0) with
  | false =>
    show SL _ _ _ _ _ _ _
    refine SL.cons (SS.ret (SE.gint kx kx.F.i_DONE (by kernel_rfl) (.inl ⟨x1, .inl rfl⟩)))
  | true =>
  show SAll _ _ _ _ _ _ _
  refine SAll.or (SB.val (by intro _ _; rfl) (SE.dRo kx (by walk_at "lk") (D.ext x1) ?_))
  show SAll _ _ _ _ _ _ _
  refine SAll.or_nil (SL.nil ?_)
  refine SL.cons (SS.assign (SE.fn kx kx.F.f_find_extent (by kernel_rfl) ?_))
  walk_at "w"
  refine SE.fn kx kx.F.f_name_at (by kernel_rfl) ?_
  walk_at "w"
  refine (name_at_sf kx.F (kx.le (by decide)) (x1.2 _ _ hm) h0 (by (first | lia | omega)) hlm).thnR ?_
  intro ln S₂ hln x2 e2'
  walk_at "w"
  refine SE.fn kx kx.F.f_extent_at (by kernel_rfl) ?_
  walk_at "w"
  refine (extent_at_sf kx.F (kx.le (by decide)) ((x1.trans x2).2 _ _ hm) h0 (by (first | lia | omega)) hlm).thnE ?_
  intro S₃ x3
  have x13 := x1.trans (x2.trans x3)
  rw [h12, h14, show (0 * 32 + 0 : Int) = 0 by decide]
  walk_at "w"
  refine (find_extent_sf kx.F (kx.le (by decide)) (D.ext x13) (by (first | lia | omega)) hl hz hd hu (x3.2 _ _ e2') (seg_len (by (first | lia | omega)))).thnAB ?_
  intro v S₄ hb4 x4 hv
  have x14 := x13.trans x4
  refine ST.name (kx.isV (by kernel_rfl)) ?_
  refine SL.cons (SS.ifs ?_)
  walk_at "w"
  cases hh : (foundN data user (seg mem (a.toNat + 1) 11) 4).head? with
  | none =>
    rw [hh] at hv
    subst hv
    refine .inl ⟨rfl, ?_⟩
    show SL _ _ _ _ _ _ _
    refine SL.cons (SS.ret (SE.gint kx kx.F.i_NOT_FOUND (by kernel_rfl) (.inl ⟨x14, .inr rfl⟩)))
  | some n =>
    rw [hh] at hv
    obtain ⟨lt, ve, rfl, hbt, et, le, de, lr, lp, rfl, E⟩ := hv
    rw [seg_map] at E
    refine .inl ⟨rfl, ?_⟩
    refine SL.nil ?_
    refine SL.cons (SS.assign (SE.name (by walk_at "lk") (ST.tup et rfl (STs.cons (ST.name (kx.isV (by kernel_rfl)) (STs.cons (ST.name (.inr ⟨kx.g (by kernel_rfl), e3⟩) (STs.nil ?_)))))) (by decide +kernel)))
    have sl : (seg mem (a.toNat + 16) 16).length = 16 := seg_len (by (first | lia | omega))
    have hn4 : n < 4 := foundN_lt (List.mem_of_mem_head? (by rw [hh]; exact rfl))
    have ml : (mapN data n).length = 16 := seg_len (by (first | lia | omega))
    have h34 : S.nx ≤ S₃.nx := x13.1
    refine SL.cons (SS.assign (SE.fn kx kx.F.f_merged (by kernel_rfl) (SAs.cons (SE.fn kx kx.F.f_blocks_at (by kernel_rfl) ?_))))
    walk_at "w"
    refine (blocks_at_sf kx.F (kx.le (by decide)) (D.ext x14) (by (first | lia | omega)) (x14.2 _ _ hm) h0 (by (first | lia | omega)) hlm).thnR ?_
    intro lb S₅ hlb x5 eb
    have x15 := x14.trans x5
    refine SAs.cons ((E.ext x5).a_map kx (by walk_at "lk") (SAs.nil ?_))
    refine (merged_sf kx.F (kx.le (by decide)) eb ((E.ext x5).hlp) sl ml).thnAB ?_
    intro v S₆ hb6 x6 hv6
    have x16 := x15.trans x6
    refine ST.name (kx.isV (by kernel_rfl)) ?_
    refine SL.cons (SS.ifs ?_)
    walk_at "w"
    rcases hv6 with rfl | ⟨lmg, rfl, hmg, _, emg⟩
    · refine .inl ⟨rfl, ?_⟩
      show SL _ _ _ _ _ _ _
      refine SL.cons (SS.ret (SE.gint kx kx.F.i_NOT_FOUND (by kernel_rfl) (.inl ⟨x16, .inr rfl⟩)))
    refine .inl ⟨rfl, ?_⟩
    refine SL.nil ?_
    have emg : S₆.σ lmg = some (.list (IL (mergeN data mem a.toNat n))) := emg
    have E6 := E.ext (x5.trans x6)
    refine SL.cons (SS.assign (SE.tuple (SAs.cons (SE.name (by walk_at "lk") (SAs.cons (SE.blt (id := "max") (kx.isB kx.F.b_max (by kernel_rfl) (by kernel_rfl)) (SAs.cons (E6.a_count kx (by walk_at "lk") (SAs.cons (SE.fn kx kx.F.f_count_at (by kernel_rfl) ?_))))))  (by decide +kernel)))) (by intro _; rfl) ?_)
    · walk_at "w"
      refine (count_at_sf kx.F (kx.le (by decide)) (x16.2 _ _ hm) h0 (by (first | lia | omega)) hlm).thnEB ?_
      intro S₇ hb7 x7
      refine SAs.nil (SC.max2 (SAs.nil ⟨by simp, ?_⟩))
      generalize (if gI mem (a.toNat + 15) > gI (seg data (32 * n) 32) 15 then gI mem (a.toNat + 15) else gI (seg data (32 * n) 32) 15) = cc
      have x17 := x16.trans x7
      have x8 : Ext S₇ (S₇.add (.tuple [.ref lmg, .int cc])) := (Ext.refl _).add hb7
      have E8 := E6.ext (x7.trans x8)
      have hmg8 : S₃.nx ≤ lmg := Nat.le_trans x4.1 (Nat.le_trans x5.1 hmg)
      refine ST.tup add_at rfl (STs.cons (ST.attr (SE.name (by walk_at "lk") ⟨le, _, de, _, rfl, E8.hle, E8.hde, kx.F.s_Entry_map, by simp [enD], ?_⟩ (by decide +kernel))))
      rw [dput_map]
      have E9 := E8.set (sp' := gI (seg data (32 * n) 32) 13) (c' := gI (seg data (32 * n) 32) 15) ((x7.trans x8).2 _ _ emg) hmg8
      refine STs.cons (ST.attr (SE.name (by walk_at "lk") ⟨le, _, de, _, rfl, E9.hle, E9.hde, kx.F.s_Entry_count, by simp [enD], ?_⟩ (by decide +kernel)))
      rw [dput_count]
      have E10 := E9.set (sp' := gI (seg data (32 * n) 32) 13) (c' := cc) E9.hlp E9.b2
      have bde : ∀ l ∈ [de], S.nx ≤ l := fun l hl => by rw [List.mem_singleton.mp hl]; exact Nat.le_trans h34 E.b1
      have c9 : Chg [de] (S₇.add (.tuple [.ref lmg, .int cc])) ((S₇.add (.tuple [.ref lmg, .int cc])).put de (.dict (enD (gI (seg data (32 * n) 32) 0) 0 (gI (seg data (32 * n) 32) 13) (gI (seg data (32 * n) 32) 15) lr lmg))) := (Chg.refl _ _).put (List.mem_singleton.mpr rfl)
      have c10 := c9.put (o := .dict (enD (gI (seg data (32 * n) 32) 0) 0 (gI (seg data (32 * n) 32) 13) cc lr lmg)) (List.mem_singleton.mpr rfl)
      have x10 := (x17.trans x8).of_new c10 bde hb
      clear c10 c9
      generalize ((S₇.add (.tuple [.ref lmg, .int cc])).put de (.dict (enD (gI (seg data (32 * n) 32) 0) 0 (gI (seg data (32 * n) 32) 13) (gI (seg data (32 * n) 32) 15) lr lmg))).put de (.dict (enD (gI (seg data (32 * n) 32) 0) 0 (gI (seg data (32 * n) 32) 13) cc lr lmg)) = S₁₀ at E10 x10 ⊢
      refine STs.nil ?_
      refine SL.cons (SS.expr (SE.fn kx kx.F.f_put_entry (by kernel_rfl) ?_))
      walk_at "w"
      refine SE.fn kx kx.F.f_entry_octets (by kernel_rfl) ?_
      walk_at "w"
      have mgl : (mergeN data mem a.toNat n).length = 16 := by simp [mergeN]
      have so : (seg data (32 * n) 32).length = 32 := seg_len (by (first | lia | omega))
      refine (entry_octets_sf kx.F (kx.le (by decide)) (D.ext x10) (by (first | lia | omega)) E10 (seg_len (by (first | lia | omega))) mgl).thnR ?_
      intro lo S₁₁ hlo x11 e11
      have x1011 := x10.trans x11
      walk_at "w"
      have no : lo ≠ ld := Nat.ne_of_gt (Nat.lt_of_lt_of_le hld (Nat.le_trans x10.1 hlo))
      refine (put_entry_sf kx.F (kx.le (by decide)) (D.ext x1011) (by (first | lia | omega)) (by (first | lia | omega)) hl hz e11 (by simp [mgl, seg_len, so]) no).thnEB2 ?_
      intro S₁₂ hb12 c12 e12
      rw [show (n : Int).toNat = n by (first | lia | omega)] at e12
      have D12 := (D.ext x1011).toData c12 e12
      have m12 := c12.2 _ _ (by simpa using n1.symm) (x1011.2 _ _ hm)
      have offl : ∀ l, S₃.nx ≤ l → l ≠ ld := fun l h => Nat.ne_of_gt (Nat.lt_of_lt_of_le hld (Nat.le_trans h34 h))
      have E11 := E10.ext x11
      have E12 : En C'.KF S₁₂ S₃.nx le de lr lmg (gI (seg data (32 * n) 32) 0) (seg (seg data (32 * n) 32) 1 11) 0 (gI (seg data (32 * n) 32) 13) cc (mergeN data mem a.toNat n) :=
        ⟨c12.2 _ _ (by simpa using offl _ E11.b4) E11.hle, c12.2 _ _ (by simpa using offl _ E11.b1) E11.hde, c12.2 _ _ (by simpa using offl _ E11.b3) E11.hlr, c12.2 _ _ (by simpa using offl _ E11.b2) E11.hlp, E11.b1, E11.b2, E11.b3, E11.b4⟩
      generalize hmm : mergeN data mem a.toNat n = mg at *
      refine SL.cons (SS.setAttr (by walk_at "lk") (SE.comp (frc := [("entry", .ref le)]) (CompOk.of kx e2 ⟨by walk_at "lk", trivial⟩ (by kernel_rfl)) (fun C₂ ic => (kx.comp e2 ic).isV (by kernel_rfl)) (SI.list (.N _ _) (SE.dGiven kx (by walk_at "lk") D12 ⟨lg, _, rfl, D12.lg, ?_⟩))))
      refine ⟨fun i ys => ys = IL ((given.take i).filter fun x => !(mg.any (· == x))), ⟨by simp, by rw [IL_len]; (first | lia | omega), ?_, ?_, ?_⟩, ?_⟩
      · rintro i S' fr₁ S₂ ⟨rfl, _, _, _, _, rfl⟩
        exact le_push (by kernel_rfl)
      · rintro C₂ ic i ys S' hi rfl ex
        have k2 := kx.comp e2 ic
        have hk : C₂.KF = C'.KF := ic.KF
        have E' := E12.ext ex
        rw [← hk] at E'
        rw [IL_len] at hi
        have hv' := IL_get (l := given) (i := i) hi
        refine turnLNc (ex.2 _ _ D12.lg) rfl hv' ?_
        refine SB.cmp (SE.name lookup_here (E'.a_map k2 (by walk_at "lk") ⟨_, .inl E'.hlp, .inr ⟨rfl, .refl _, ?_⟩⟩) (by decide +kernel))
        have tk : given.take (i + 1) = given.take i ++ [gI given i] := take_snoc (gI_get hi)
        cases hq : mg.any (· == gI given i) with
        | true =>
          show IL ((given.take i).filter fun x => !(mg.any (· == x))) = IL ((given.take (i + 1)).filter fun x => !(mg.any (· == x)))
          rw [tk, List.filter_append]; simp [hq]
        | false =>
          show SE _ _ _ _ _ _
          refine SE.name lookup_here ⟨.refl _, ?_⟩ (by decide +kernel)
          show IL ((given.take i).filter fun x => !(mg.any (· == x))) ++ [AV.int (gI given i)] = IL ((given.take (i + 1)).filter fun x => !(mg.any (· == x)))
          rw [tk, List.filter_append]; simp [hq, IL]
      · intro S' ex
        exact ⟨_, ex.2 _ _ D12.lg, rfl, fun q => absurd q (Nat.lt_irrefl _)⟩
      · rintro ys S₁₃ la rfl x13' hla ela
        rw [IL_len, List.take_length] at ela
        have D13 := D12.ext x13'
        refine ⟨_, _, _, D13.dk, D13.dd, kx.F.s_Disk_given, by simp [dkD], ?_⟩
        have dp : dput "given" (.ref la) (dkD N lg ld) = dkD N la ld := by kernel_rfl
        rw [dp]
        have hx12 : S.nx ≤ S₁₂.nx := Nat.le_trans x1011.1 c12.1
        have nla : la ≠ ld := Nat.ne_of_gt (Nat.lt_of_lt_of_le hld (Nat.le_trans hx12 hla))
        have nlm : la ≠ lm := Nat.ne_of_gt (Nat.lt_of_lt_of_le hlt (Nat.le_trans hx12 hla))
        have m13 := x13'.2 _ _ m12
        have c14 : Chg [dd] S₁₃ (S₁₃.put dd (.dict (dkD N la ld))) := (Chg.refl _ _).put (List.mem_singleton.mpr rfl)
        have D14 : Dk C'.KF (S₁₃.put dd (.dict (dkD N la ld))) dk dd ld la N _ (given.filter fun x => !(mg.any (· == x))) :=
          ⟨nla, c14.2 _ _ (by simpa using ne_of_ao D13.dk D13.dd (by first | exact ao_ld | exact ao_dl | exact ao_li | exact ao_il | exact ao_di | exact ao_id | exact ao_tl | exact ao_lt | (intro q; cases q))) D13.dk, put_at, c14.2 _ _ (by simpa using ne_of_ao D13.ld D13.dd (by first | exact ao_ld | exact ao_dl | exact ao_li | exact ao_il | exact ao_di | exact ao_id | exact ao_tl | exact ao_lt | (intro q; cases q))) D13.ld, c14.2 _ _ (by simpa using ne_of_ao ela D13.dd (by first | exact ao_ld | exact ao_dl | exact ao_li | exact ao_il | exact ao_di | exact ao_id | exact ao_tl | exact ao_lt | (intro q; cases q))) ela⟩
        have m14 := c14.2 _ _ (by simpa using ne_of_ao m13 D13.dd (by first | exact ao_ld | exact ao_dl | exact ao_li | exact ao_il | exact ao_di | exact ao_id | exact ao_tl | exact ao_lt | (intro q; cases q))) m13
        generalize S₁₃.put dd (.dict (dkD N la ld)) = S₁₄ at c14 D14 m14 ⊢
        refine SL.cons (SS.expr (SE.fn kx kx.F.f_mark_changed (by kernel_rfl) ?_))
        walk_at "w"
        refine (mark_changed_sf kx.F (kx.le (by decide)) m14 h0 (by (first | lia | omega)) hlm).thnE2 ?_
        intro S₁₅ c15 m15
        have D15 := D14.toMem c15 m14 n1 nlm
        refine SL.cons (SS.ret (SE.fn kx kx.F.f_code_of (by kernel_rfl) ?_))
        walk_at "w"
        refine (code_of_sf kx.F (kx.le (by decide)) D15).thnE ?_
        intro S₁₆ x16'
        refine .inr ⟨rfl, ?_, n, cc, la, hh, nlm, Nat.le_trans hx12 hla, ?_, x16'.2 _ _ m15⟩
        · exact ((x1011.chg _).trans (c12.mono (by simp))).trans ((x13'.chg _).trans ((c14.mono (by simp)).trans ((c15.mono (by simp)).trans (x16'.chg _))))
        · have Df := D15.ext x16'
          have a1 : seg (seg data (32 * n) 32) 1 11 = seg data (32 * n + 1) 11 := by simp [seg, List.drop_drop, List.take_take, List.drop_take]
          rw [a1, show gI (seg data (32 * n) 32) 0 = gI data (32 * n) from gI_seg (by (first | lia | omega)), show gI (seg data (32 * n) 32) 13 = gI data (32 * n + 13) from gI_seg (by (first | lia | omega))] at Df
          rw [hmm]; exact Df
    · rintro ⟨⟨⟩, b, c, d, e, f, g, h, i⟩ hk
      dsimp only at hk
      subst hk
      kernel_rfl
end
end Mine
end
section
open PySem PySem.W PyProof.Rows PySem.Calls
set_option Elab.async false
set_option maxRecDepth 100000
set_option linter.unusedVariables false
namespace Mine
local macro_rules | `(tactic| walk_at "k") => `(tactic| (refine (?_ : _ = _); kernel_rfl!))
local macro_rules | `(tactic| walk_at "lk") => `(tactic| first | with_reducible exact lookup_here | (refine (?_ : LkAt 1 _ _); walk_at "k") | (refine (?_ : LkAt 2 _ _); walk_at "k") | (refine (?_ : LkAt 3 _ _); walk_at "k") | (refine (?_ : LkAt 4 _ _); walk_at "k") | (refine (?_ : LkAt 5 _ _); walk_at "k") | (refine (?_ : LkAt 6 _ _); walk_at "k") | (refine (?_ : LkAt 7 _ _); walk_at "k") | (refine (?_ : LkAt 8 _ _); walk_at "k") | (refine (?_ : LkAt 9 _ _); walk_at "k") | (refine (?_ : LkAt 10 _ _); walk_at "k") | (refine (?_ : LkAt 11 _ _); walk_at "k") | (refine (?_ : LkAt 12 _ _); walk_at "k") | (refine (?_ : LkAt 13 _ _); walk_at "k") | (refine (?_ : LkAt 14 _ _); walk_at "k") | (refine (?_ : LkAt 15 _ _); walk_at "k") | (refine (?_ : LkAt 16 _ _); walk_at "k"))
local macro_rules | `(tactic| walk_at "nm") => `(tactic| refine SE.name (by walk_at "lk") ?_ (by decide +kernel))
local macro_rules | `(tactic| walk_at "len") => `(tactic| refine SE.blt (id := "len") ((‹Kx _ _ _›).isB (‹Kx _ _ _›).F.b_len (by kernel_rfl) (by kernel_rfl)) ?_)
local macro_rules | `(tactic| walk_at "s") => `(tactic| first
  | ((with_reducible show SE _ _ (Expr.Name _ _) _ _ _); walk_at "nm")
  | with_reducible (first | refine SE.cInt ?_ | refine SE.cNone ?_ | refine SE.cBool ?_ | refine SE.binop ?_ | refine SE.cmp ?_ | refine SE.ifexp ?_ | refine SE.list ?_ | refine SE.tuple ?_ | refine SE.sub ?_ | refine SAs.nil ?_ | refine SAs.cons ?_ | refine SB.cmp ?_ | refine SB.not ?_ | refine SB.boolop ?_ | refine SAll.and ?_ | refine SAll.or ?_ | refine SAll.and_nil ?_ | refine SAll.or_nil ?_ | refine SS.ret ?_ | refine SS.ifs ?_ | refine SL.cons ?_)
  | ((with_reducible show SE _ _ (Expr.Call (Expr.Name (Str.ofString "len") _) _ _ _) _ _ _); walk_at "len"))
local macro_rules | `(tactic| walk_at "w") => `(tactic| ((try ((with_reducible show SL _ _ _ _ _ _ _); refine SL.cons ?_)); repeat walk_at "s"))

section
variable {C : Cx} {S : St}
theorem disk_init {dk dd : Loc} {N : Int} (hF : Facts C.KF) (hn : 1 ≤ C.n) (h6 : 6 ≤ N) (h11 : N ≤ 11) (hdk : S.σ dk = some (.inst (adr C.KF "Disk") dd)) (hdd : S.σ dd = some (.dict [])) :
    SFA C (iadr C.KF "Disk") [.ref dk, .int N, .int 64, .int 32, .int 4] S (fun v S' => v = .none ∧ Chg [dd] S S' ∧ ∃ ld lg, S.nx ≤ ld ∧ S.nx ≤ lg ∧ Dk C.KF S' dk dd ld lg N (List.replicate (64 * N.toNat) 229) []) noX := by
  refine SFA.run hF hF.c_Disk.def_ hn [("self", .ref dk), ("blocks", .int N), ("block", .int 64), ("record", .int 32), ("entries", .int 4)] rfl rfl fun C' e1 kx e2 e3 hb => ?_
  rw [← e1] at hdk ⊢
  refine letPost ?_
  intro PR
  refine letFr ?_
  intro fr0
  have n1 : dk ≠ dd := ne_of_ao hdk hdd (by first | exact ao_ld | exact ao_dl | exact ao_li | exact ao_il | exact ao_di | exact ao_id | exact ao_tl | exact ao_lt | (intro q; cases q))
  have hbd : dd < S.nx := hb dd (by rw [hdd]; simp)
  walk_at "w"
  refine SE.gint kx kx.F.i_ENTRY_SIZE (by kernel_rfl) (.mul ?_ (by (first | lia | omega)) (by (first | lia | omega)))
  walk_at "w"
  refine .mul ⟨false, congrArg some (decide_eq_false (by (first | lia | omega))), ?_⟩ (by (first | lia | omega)) (by (first | lia | omega))
  refine SL.nil ?_
  refine SL.cons (SS.setAttr (by walk_at "lk") ?_)
  walk_at "w"
  refine ⟨_, _, _, hdk, hdd, kx.F.s_Disk_blocks, by simp, ?_⟩
  generalize hS1 : S.put dd (.dict (dput "blocks" (.int N) [])) = S1
  have c1 : Chg [dd] S S1 := hS1 ▸ (Chg.refl _ S).put (by simp)
  have d1 : S1.σ dd = some (.dict [("blocks", .int N)]) := by
    rw [← hS1, put_at]
    exact congrArg (fun z => some (AO.dict z)) (by kernel_rfl)
  refine SL.cons (SS.setAttr (by walk_at "lk") ?_)
  walk_at "w"
  refine ⟨_, _, _, (c1.2 _ _ (by simpa using n1) hdk), d1, kx.F.s_Disk_block, by simp, ?_⟩
  generalize hS2 : S1.put dd (.dict (dput "block" (.int 64) [("blocks", .int N)])) = S2
  have c2 : Chg [dd] S S2 := hS2 ▸ c1.put (by simp)
  have d2 : S2.σ dd = some (.dict [("blocks", .int N), ("block", .int 64)]) := by
    rw [← hS2, put_at]
    exact congrArg (fun z => some (AO.dict z)) (by kernel_rfl)
  refine SL.cons (SS.setAttr (by walk_at "lk") ?_)
  walk_at "w"
  refine ⟨_, _, _, (c2.2 _ _ (by simpa using n1) hdk), d2, kx.F.s_Disk_record, by simp, ?_⟩
  generalize hS3 : S2.put dd (.dict (dput "record" (.int 32) [("blocks", .int N), ("block", .int 64)])) = S3
  have c3 : Chg [dd] S S3 := hS3 ▸ c2.put (by simp)
  have d3 : S3.σ dd = some (.dict [("blocks", .int N), ("block", .int 64), ("record", .int 32)]) := by
    rw [← hS3, put_at]
    exact congrArg (fun z => some (AO.dict z)) (by kernel_rfl)
  refine SL.cons (SS.setAttr (by walk_at "lk") ?_)
  walk_at "w"
  refine ⟨_, _, _, (c3.2 _ _ (by simpa using n1) hdk), d3, kx.F.s_Disk_entries, by simp, ?_⟩
  generalize hS4 : S3.put dd (.dict (dput "entries" (.int 4) [("blocks", .int N), ("block", .int 64), ("record", .int 32)])) = S4
  have c4 : Chg [dd] S S4 := hS4 ▸ c3.put (by simp)
  have d4 : S4.σ dd = some (.dict [("blocks", .int N), ("block", .int 64), ("record", .int 32), ("entries", .int 4)]) := by
    rw [← hS4, put_at]
    exact congrArg (fun z => some (AO.dict z)) (by kernel_rfl)
  refine SL.cons (SS.setAttr (by walk_at "lk") ?_)
  walk_at "w"
  refine ⟨_, _, _, (c4.2 _ _ (by simpa using n1) hdk), d4, kx.F.s_Disk_is_read_only, by simp, ?_⟩
  generalize hS5 : S4.put dd (.dict (dput "is_read_only" (.bool false) [("blocks", .int N), ("block", .int 64), ("record", .int 32), ("entries", .int 4)])) = S5
  have c5 : Chg [dd] S S5 := hS5 ▸ c4.put (by simp)
  have d5 : S5.σ dd = some (.dict [("blocks", .int N), ("block", .int 64), ("record", .int 32), ("entries", .int 4), ("is_read_only", .bool false)]) := by
    rw [← hS5, put_at]
    exact congrArg (fun z => some (AO.dict z)) (by kernel_rfl)
  refine SL.bnd fun hb5 => ?_
  refine SL.cons (SS.setAttr (by walk_at "lk") ?_)
  walk_at "w"
  refine ⟨by simp, _, _, _, add_off hb5 (c5.2 _ _ (by simpa using n1) hdk), add_off hb5 d5, kx.F.s_Disk_given, by simp, ?_⟩
  generalize hS6 : (S5.add (.list [])).put dd (.dict (dput "given" (.ref S5.nx) [("blocks", .int N), ("block", .int 64), ("record", .int 32), ("entries", .int 4), ("is_read_only", .bool false)])) = S6
  have hlg : S5.nx ≠ dd := Nat.ne_of_gt (Nat.lt_of_lt_of_le hbd c5.1)
  have c6 : Chg [dd] S S6 := hS6 ▸ (c5.add hb5).put (by simp)
  have d6 : S6.σ dd = some (.dict ([("blocks", .int N), ("block", .int 64), ("record", .int 32), ("entries", .int 4), ("is_read_only", .bool false), ("given", .ref S5.nx)] : List (Str × AV))) := by
    rw [← hS6, put_at]
    exact congrArg (fun z => some (AO.dict z)) (by kernel_rfl)
  have g6 : S6.σ S5.nx = some (.list (IL [])) := by rw [← hS6, put_off hlg, add_at]; rfl
  have nx6 : S5.nx + 1 ≤ S6.nx := by rw [← hS6]; exact Nat.le_refl _
  refine SL.bnd fun hb6 => ?_
  refine SL.cons (SS.setAttr (by walk_at "lk") ?_)
  walk_at "w"
  refine SE.gint kx kx.F.i_FREE (by kernel_rfl) ?_
  walk_at "w"
  refine ⟨by simp, ?_⟩
  have hb7 : Bnd (S6.add (.list [.int 229])) := hb6.add
  have x7 : Ext S6 (S6.add (.list [.int 229])) := (Ext.refl _).add hb6
  have l7 : (S6.add (.list [.int 229])).σ S6.nx = some (.list [.int 229]) := add_at
  generalize S6.add (.list [.int 229]) = S7 at hb7 x7 l7 ⊢
  walk_at "w"
  refine .mul (.rep l7 (by (first | lia | omega)) (by (first | lia | omega)) ?_) (by (first | lia | omega)) (by (first | lia | omega))
  rw [show (N * 64).toNat = 64 * N.toNat by (first | lia | omega)]
  have x8 : Ext S7 (S7.add (.list (IL (List.replicate (64 * N.toNat) 229)))) := (Ext.refl _).add hb7
  have l8 : (S7.add (.list (IL (List.replicate (64 * N.toNat) 229)))).σ S7.nx = some (.list (IL (List.replicate (64 * N.toNat) 229))) := add_at
  generalize S7.add (.list (IL (List.replicate (64 * N.toNat) 229))) = S8 at x8 l8 ⊢
  have x68 := x7.trans x8
  refine ⟨_, _, _, x68.2 _ _ (c6.2 _ _ (by simpa using n1) hdk), x68.2 _ _ d6, kx.F.s_Disk_data, by simp, ?_⟩
  have dp : dput "data" (.ref S7.nx) ([("blocks", .int N), ("block", .int 64), ("record", .int 32), ("entries", .int 4), ("is_read_only", .bool false), ("given", .ref S5.nx)] : List (Str × AV)) = dkD N S5.nx S7.nx := by kernel_rfl
  rw [dp]
  have c9 : Chg [dd] S8 (S8.put dd (.dict (dkD N S5.nx S7.nx))) := (Chg.refl _ _).put (by simp)
  have h57 : S5.nx ≠ S7.nx := Nat.ne_of_lt (Nat.lt_of_lt_of_le (Nat.lt_succ_self _) (Nat.le_trans nx6 x7.1))
  have hld : S7.nx ≠ dd := Nat.ne_of_gt (Nat.lt_of_lt_of_le hbd (Nat.le_trans c6.1 x7.1))
  refine SL.nil ⟨rfl, (c6.trans (x68.chg _)).trans c9, S7.nx, S5.nx, Nat.le_trans c6.1 x7.1, c5.1, h57, c9.2 _ _ (by simpa using n1) (x68.2 _ _ (c6.2 _ _ (by simpa using n1) hdk)), put_at, c9.2 _ _ (by simpa using hld) l8, c9.2 _ _ (by simpa using hlg) (x68.2 _ _ g6)⟩
theorem disk_new {N : Int} (hF : Facts C.KF) (hn : 2 ≤ C.n) (h6 : 6 ≤ N) (h11 : N ≤ 11) :
    SFA C (adr C.KF "Disk") [.int N, .int 64, .int 32, .int 4] S (fun v S' => Ext S S' ∧ ∃ dk dd ld lg, v = .ref dk ∧ S.nx ≤ dd ∧ S.nx ≤ dk ∧ S.nx ≤ ld ∧ S.nx ≤ lg ∧ Dk C.KF S' dk dd ld lg N (List.replicate (64 * N.toNat) 229) []) noX := by
  refine SFA.bnd fun hb => make_inst (by (first | lia | omega)) hF.c_Disk.makes hF.c_Disk.init hF.c_Disk.fn fun C₁ md => ?_
  have hb1 : Bnd (S.add (.dict [])) := hb.add
  have x2 : Ext S ((S.add (.dict [])).add (.inst (adr C.KF "Disk") S.nx)) := (Ext.refl S).add hb |>.add hb1
  have e1 : ((S.add (.dict [])).add (.inst (adr C.KF "Disk") S.nx)).σ (S.nx + 1) = some (.inst (adr C.KF "Disk") S.nx) := add_at
  have e2 : ((S.add (.dict [])).add (.inst (adr C.KF "Disk") S.nx)).σ S.nx = some (.dict []) := add_off hb1 add_at
  have key := disk_init (C := C₁) (N := N) (by rw [md.KF]; exact hF) (by have := md.n; (first | lia | omega)) h6 h11 (by rw [md.KF]; exact e1) e2
  rw [md.KF] at key
  refine key.thn ?_
  rintro v S' ⟨rfl, ch, ld, lg, h1, h2, D⟩
  refine ⟨rfl, ⟨Nat.le_trans (Nat.le_trans (Nat.le_succ _) (Nat.le_succ _)) ch.1, fun l o e => ?_⟩, S.nx + 1, S.nx, ld, lg, rfl, Nat.le_refl _, Nat.le_succ _, Nat.le_trans x2.1 h1, Nat.le_trans x2.1 h2, D⟩
  exact ch.2 _ _ (by simp; intro q; exact absurd (hb l (by rw [e]; simp)) (by rw [q]; exact Nat.lt_irrefl _)) (x2.2 _ _ e)
end
end Mine
end
section
open PySem PySem.W PyProof.Rows PySem.Calls
set_option Elab.async false
set_option maxRecDepth 100000
set_option linter.unusedVariables false
namespace Mine
local macro_rules | `(tactic| walk_at "k") => `(tactic| (refine (?_ : _ = _); kernel_rfl!))
local macro_rules | `(tactic| walk_at "lk") => `(tactic| first | with_reducible exact lookup_here | (refine (?_ : LkAt 1 _ _); walk_at "k") | (refine (?_ : LkAt 2 _ _); walk_at "k") | (refine (?_ : LkAt 3 _ _); walk_at "k") | (refine (?_ : LkAt 4 _ _); walk_at "k") | (refine (?_ : LkAt 5 _ _); walk_at "k") | (refine (?_ : LkAt 6 _ _); walk_at "k") | (refine (?_ : LkAt 7 _ _); walk_at "k") | (refine (?_ : LkAt 8 _ _); walk_at "k") | (refine (?_ : LkAt 9 _ _); walk_at "k") | (refine (?_ : LkAt 10 _ _); walk_at "k") | (refine (?_ : LkAt 11 _ _); walk_at "k") | (refine (?_ : LkAt 12 _ _); walk_at "k") | (refine (?_ : LkAt 13 _ _); walk_at "k") | (refine (?_ : LkAt 14 _ _); walk_at "k") | (refine (?_ : LkAt 15 _ _); walk_at "k") | (refine (?_ : LkAt 16 _ _); walk_at "k"))
local macro_rules | `(tactic| walk_at "nm") => `(tactic| refine SE.name (by walk_at "lk") ?_ (by decide +kernel))
local macro_rules | `(tactic| walk_at "len") => `(tactic| refine SE.blt (id := "len") ((‹Kx _ _ _›).isB (‹Kx _ _ _›).F.b_len (by kernel_rfl) (by kernel_rfl)) ?_)
local macro_rules | `(tactic| walk_at "s") => `(tactic| first
  | ((with_reducible show SE _ _ (Expr.Name _ _) _ _ _); walk_at "nm")
  | with_reducible (first | refine SE.cInt ?_ | refine SE.cNone ?_ | refine SE.cBool ?_ | refine SE.binop ?_ | refine SE.cmp ?_ | refine SE.ifexp ?_ | refine SE.list ?_ | refine SE.tuple ?_ | refine SE.sub ?_ | refine SAs.nil ?_ | refine SAs.cons ?_ | refine SB.cmp ?_ | refine SB.not ?_ | refine SB.boolop ?_ | refine SAll.and ?_ | refine SAll.or ?_ | refine SAll.and_nil ?_ | refine SAll.or_nil ?_ | refine SS.ret ?_ | refine SS.ifs ?_ | refine SL.cons ?_)
  | ((with_reducible show SE _ _ (Expr.Call (Expr.Name (Str.ofString "len") _) _ _ _) _ _ _); walk_at "len"))
local macro_rules | `(tactic| walk_at "w") => `(tactic| ((try ((with_reducible show SL _ _ _ _ _ _ _); refine SL.cons ?_)); repeat walk_at "s"))

section
variable {C : Cx} {S : St}
theorem scooped_sf {lp lb : Loc} {bs : List Int} {k : Nat} {many : Int} (hF : Facts C.KF) (hn : 1 ≤ C.n) (hp : S.σ lp = some (.list [.ref lb, .int k])) (hbs : S.σ lb = some (.list (IL bs))) (hne : lb ≠ lp) (hz : bs.length ≤ 1000) (hk : k ≤ 10000) (hm : 0 < many) :
    SF C "_law_scooped" [.ref lp, .int many] S (fun v S' => (∃ x : Nat, v = .int x ∧ (x : Int) < many) ∧ Chg [lp] S S' ∧ S'.σ lp = some (.list [.ref lb, .int (k + 1 : Nat)])) noX := by
  refine SFA.run hF hF.f_law_scooped.fn hn [("pail", .ref lp), ("many", .int many)] rfl rfl fun C' e1 kx e2 e3 hb => ?_
  refine letPost ?_
  intro PR
  refine letFr ?_
  intro fr0
  refine SL.cons (SS.assign ?_)
  walk_at "w"
  refine ⟨_, _, .inl hp, by (first | lia | omega), by (first | lia | omega), rfl, ?_⟩
  walk_at "w"
  refine .add (ST.sub ?_)
  walk_at "w"
  refine ⟨lp, 1, _, rfl, rfl, hp, by (first | lia | omega), by (first | lia | omega), by simp, ?_⟩
  have c1 : Chg [lp] S (S.put lp (.list ([.ref lb, .int (k : Int)].set (1 : Int).toNat (.int ((k : Int) + 1))))) := (Chg.refl _ _).put (by simp)
  have p1 : (S.put lp (.list ([.ref lb, .int (k : Int)].set (1 : Int).toNat (.int ((k : Int) + 1))))).σ lp = some (.list [.ref lb, .int (k + 1 : Nat)]) := by rw [put_at]; simp
  generalize S.put lp (.list ([.ref lb, .int (k : Int)].set (1 : Int).toNat (.int ((k : Int) + 1)))) = S₁ at c1 p1 ⊢
  have b1 := c1.2 _ _ (by simpa using hne) hbs
  have fin : ∀ y : Int, Bop .Mod (.int y) (.int many) S₁ (fun v S' => (∃ x : Nat, v = .int x ∧ (x : Int) < many) ∧ Chg [lp] S S' ∧ S'.σ lp = some (.list [.ref lb, .int (k + 1 : Nat)])) := fun y => by
    refine .mod hm ⟨⟨(y % many).toNat, ?_, ?_⟩, c1, p1⟩
    · rw [Int.toNat_of_nonneg (Int.emod_nonneg _ (by (first | lia | omega)))]
    · rw [Int.toNat_of_nonneg (Int.emod_nonneg _ (by (first | lia | omega)))]; exact Int.emod_lt_of_pos _ hm
  walk_at "w"
  refine ⟨_, _, .inl p1, by (first | lia | omega), by (first | lia | omega), rfl, ?_⟩
  walk_at "w"
  refine ⟨_, _, .inl p1, by (first | lia | omega), by (first | lia | omega), rfl, ?_⟩
  refine SAs.nil (SC.lenI b1 rfl (by (first | lia | omega)) ?_)
  by_cases q : ((k + 1 : Nat) : Int) ≤ bs.length
  · refine ⟨true, congrArg some (decide_eq_true q), ?_⟩
    show SE _ _ _ _ _ _
    walk_at "w"
    refine ⟨_, _, .inl p1, by (first | lia | omega), by (first | lia | omega), rfl, ?_⟩
    walk_at "w"
    refine ⟨_, _, .inl p1, by (first | lia | omega), by (first | lia | omega), rfl, ?_⟩
    walk_at "w"
    refine .sub ⟨_, _, .inl b1, by (first | lia | omega), by (first | lia | omega), IL_get (by (first | lia | omega)), ?_⟩
    walk_at "w"
    exact fin _
  · refine ⟨false, congrArg some (decide_eq_false q), ?_⟩
    show SE _ _ _ _ _ _
    walk_at "w"
    refine ⟨_, _, .inl p1, by (first | lia | omega), by (first | lia | omega), rfl, .mul ?_ (by (first | lia | omega)) (by (first | lia | omega))⟩
    walk_at "w"
    refine ⟨_, _, .inl p1, by (first | lia | omega), by (first | lia | omega), rfl, ?_⟩
    walk_at "w"
    refine .div (by (first | lia | omega)) (.add ?_)
    walk_at "w"
    refine .add ?_
    walk_at "w"
    exact fin _
end
end Mine
end
section
open PySem PySem.W PyProof.Rows PySem.Calls
set_option Elab.async false
set_option maxRecDepth 100000
set_option linter.unusedVariables false
namespace Mine
local macro_rules | `(tactic| walk_at "k") => `(tactic| (refine (?_ : _ = _); kernel_rfl!))
local macro_rules | `(tactic| walk_at "lk") => `(tactic| first | with_reducible exact lookup_here | (refine (?_ : LkAt 1 _ _); walk_at "k") | (refine (?_ : LkAt 2 _ _); walk_at "k") | (refine (?_ : LkAt 3 _ _); walk_at "k") | (refine (?_ : LkAt 4 _ _); walk_at "k") | (refine (?_ : LkAt 5 _ _); walk_at "k") | (refine (?_ : LkAt 6 _ _); walk_at "k") | (refine (?_ : LkAt 7 _ _); walk_at "k") | (refine (?_ : LkAt 8 _ _); walk_at "k") | (refine (?_ : LkAt 9 _ _); walk_at "k") | (refine (?_ : LkAt 10 _ _); walk_at "k") | (refine (?_ : LkAt 11 _ _); walk_at "k") | (refine (?_ : LkAt 12 _ _); walk_at "k") | (refine (?_ : LkAt 13 _ _); walk_at "k") | (refine (?_ : LkAt 14 _ _); walk_at "k") | (refine (?_ : LkAt 15 _ _); walk_at "k") | (refine (?_ : LkAt 16 _ _); walk_at "k"))
local macro_rules | `(tactic| walk_at "nm") => `(tactic| refine SE.name (by walk_at "lk") ?_ (by decide +kernel))
local macro_rules | `(tactic| walk_at "len") => `(tactic| refine SE.blt (id := "len") ((‹Kx _ _ _›).isB (‹Kx _ _ _›).F.b_len (by kernel_rfl) (by kernel_rfl)) ?_)
local macro_rules | `(tactic| walk_at "s") => `(tactic| first
  | ((with_reducible show SE _ _ (Expr.Name _ _) _ _ _); walk_at "nm")
  | with_reducible (first | refine SE.cInt ?_ | refine SE.cNone ?_ | refine SE.cBool ?_ | refine SE.binop ?_ | refine SE.cmp ?_ | refine SE.ifexp ?_ | refine SE.list ?_ | refine SE.tuple ?_ | refine SE.sub ?_ | refine SAs.nil ?_ | refine SAs.cons ?_ | refine SB.cmp ?_ | refine SB.not ?_ | refine SB.boolop ?_ | refine SAll.and ?_ | refine SAll.or ?_ | refine SAll.and_nil ?_ | refine SAll.or_nil ?_ | refine SS.ret ?_ | refine SS.ifs ?_ | refine SL.cons ?_)
  | ((with_reducible show SE _ _ (Expr.Call (Expr.Name (Str.ofString "len") _) _ _ _) _ _ _); walk_at "len"))
local macro_rules | `(tactic| walk_at "w") => `(tactic| ((try ((with_reducible show SL _ _ _ _ _ _ _); refine SL.cons ?_)); repeat walk_at "s"))

noncomputable def posL (l : List Int) : List Int := l.filter fun x => decide (0 < x)
noncomputable def takenL (data given : List Int) (ns : List Nat) : List Int := [0, 1] ++ given ++ ns.flatMap fun n => posL (mapN data n)
theorem posL_len (l : List Int) : (posL l).length ≤ l.length := List.length_filter_le _ _
section
variable {C : Cx} {S : St} {dk dd ld lg : Loc} {N : Nat} {data given : List Int}
theorem taken_sf {lv : Loc} {gv : List Int} (hF : Facts C.KF) (hn : 6 ≤ C.n) (D : Dk C.KF S dk dd ld lg N data given) (hN : N ≤ 15) (hl : 128 ≤ data.length) (hz : data.length ≤ 1000) (hd : DirOk data) (hv : S.σ lv = some (.list (IL gv))) (hgl : gv.length ≤ 1000) :
    SF C "_law_taken" [.ref dk, .ref lv] S (fun v S' => NewL S S' v (takenL data gv (liveN data 4))) noX := by
  refine SFA.run hF hF.f_law_taken.fn hn [("disk", .ref dk), ("given", .ref lv)] rfl rfl fun C' e1 kx e2 e3 hb => ?_
  rw [← e1] at D
  refine letPost ?_
  intro PR
  refine letFr ?_
  intro fr0
  refine SL.cons (SS.assign ?_)
  walk_at "w"
  refine SE.listRange (kx.isB kx.F.b_list (by kernel_rfl) (by kernel_rfl)) (kx.isB kx.F.b_range (by kernel_rfl) (by kernel_rfl)) (SE.fn kx kx.F.f_directory_blocks (by kernel_rfl) ?_)
  walk_at "w"
  refine (directory_blocks_sf kx.F (kx.le (by decide)) D).thnEB ?_
  intro S₁ hb1 x1
  refine ⟨2, rfl, by (first | lia | omega), ?_⟩
  have hb2 : Bnd (S₁.add (.list (IL ((List.range 2).map fun i : Nat => (i : Int))))) := hb1.add
  have x2 : Ext S₁ (S₁.add (.list (IL ((List.range 2).map fun i : Nat => (i : Int))))) := (Ext.refl _).add hb1
  have l2 : (S₁.add (.list (IL ((List.range 2).map fun i : Nat => (i : Int))))).σ S₁.nx = some (.list (IL [0, 1])) := add_at
  generalize S₁.add (.list (IL ((List.range 2).map fun i : Nat => (i : Int)))) = S₂ at hb2 x2 l2 ⊢
  refine SE.typ (T := "list") (kx.isB kx.F.b_list (by kernel_rfl) (by kernel_rfl)) ?_
  walk_at "w"
  refine SC.list ((x1.trans x2).2 _ _ hv) (by rw [IL_len]; (first | lia | omega)) ?_
  have hb3 : Bnd (S₂.add (.list (IL gv))) := hb2.add
  have x3 : Ext S₂ (S₂.add (.list (IL gv))) := (Ext.refl _).add hb2
  have l3 : (S₂.add (.list (IL gv))).σ S₂.nx = some (.list (IL gv)) := add_at
  generalize S₂.add (.list (IL gv)) = S₃ at hb3 x3 l3 ⊢
  refine .cat (x3.2 _ _ l2) l3 (by rw [IL_len, IL_len]; simp; (first | lia | omega)) ?_
  have x13 := x1.trans (x2.trans x3)
  have x4 : Ext S (S₃.add (.list (IL [0, 1] ++ IL gv))) := x13.add hb3
  have l4 : (S₃.add (.list (IL [0, 1] ++ IL gv))).σ S₃.nx = some (.list (IL (takenL data gv []))) := by rw [add_at]; simp [takenL, IL]
  have hnx : S.nx ≤ S₃.nx := x13.1
  generalize S₃.add (.list (IL [0, 1] ++ IL gv)) = S₄ at x4 l4 ⊢
  generalize S₃.nx = lf at l4 hnx ⊢
  refine ST.name (kx.isV (by kernel_rfl)) ?_
  refine SL.cons (SS.for ⟨kx.isV (by kernel_rfl), .inl (kx.g (by kernel_rfl))⟩ (SI.list (.T _ _ _ _ _ _) (SE.fn kx kx.F.f_live_entries (by kernel_rfl) ?_)))
  walk_at "w"
  refine (live_entries_sf kx.F (kx.le (by decide)) (D.ext x4) (by (first | lia | omega)) hl hz hd).thnB ?_
  rintro v S₅ hb5 ⟨lf5, vs, rfl, hlf, x5, el, en⟩
  refine ⟨lf5, vs, rfl, el, ?_⟩
  have x45 := x4.trans x5
  refine ⟨fun i fr' S' => ∃ lk, fr' = ([("found", .ref lk), ("disk", .ref dk), ("given", .ref lv)] : Frm) ∧ Ext S₅ S' ∧ S.nx ≤ lk ∧ S'.σ lk = some (.list (IL (takenL data gv ((liveN data 4).take i)))), ⟨lf, rfl, .refl _, hnx, x5.2 _ _ l4⟩, ?_, ?_⟩
  · rintro i fr' S' ⟨lk, rfl, ex, hk, ek⟩ hi
    obtain ⟨n, hns⟩ : ∃ n, (liveN data 4)[i]? = some n := ⟨_, List.getElem?_eq_getElem (by rw [← en.1]; exact hi)⟩
    have hvv : vs[i]? = some vs[i] := List.getElem?_eq_getElem hi
    obtain ⟨lt, ve, e, hb1, et, le, de, lr, lp, rfl, E⟩ := (en.2 i _ n hvv hns).ext ex
    rw [seg_map] at E
    have hn4 := liveN_lt (List.mem_of_getElem? hns)
    have ml : (mapN data n).length = 16 := seg_len (by (first | lia | omega))
    refine turnLT (ex.2 _ _ el) rfl (hvv.trans (congrArg some e)) et ?_
    refine letPN ?_
    intro PN1
    refine letFr ?_
    intro fr1
    refine SL.cons (SS.assign ?_)
    walk_at "w"
    refine SE.comp (frc := []) (CompOk.of kx e2 trivial (by kernel_rfl)) (fun C₂ ic => (kx.comp e2 ic).isV (by kernel_rfl)) (SI.list (.N _ _) (E.a_map kx (by walk_at "lk") ⟨lp, _, rfl, E.hlp, ?_⟩))
    refine ⟨fun j ys => ys = IL (posL ((mapN data n).take j)), ⟨by simp [posL], by rw [IL_len]; (first | lia | omega), ?_, ?_, ?_⟩, ?_⟩
    · intro j S' fr₁ S₂ _; exact Le.nil _
    · rintro C₂ ic j ys S₇ hj rfl ex7
      have k2 := kx.comp e2 ic
      rw [IL_len] at hj
      have hv' := IL_get (l := mapN data n) (i := j) hj
      refine turnLNc (ex7.2 _ _ E.hlp) rfl hv' ?_
      have tk : (mapN data n).take (j + 1) = (mapN data n).take j ++ [gI (mapN data n) j] := take_snoc (gI_get hj)
      refine SB.cmp (SE.name lookup_here (SE.cInt ⟨decide (0 < gI (mapN data n) j), rfl, .refl _, ?_⟩) (by decide +kernel))
      by_cases q : 0 < gI (mapN data n) j
      · rw [if_pos (decide_eq_true q)]
        refine SE.name lookup_here ⟨.refl _, ?_⟩ (by decide +kernel)
        show IL (posL ((mapN data n).take j)) ++ [AV.int (gI (mapN data n) j)] = IL (posL ((mapN data n).take (j + 1)))
        rw [tk]; simp [posL, List.filter_append, q, IL]
      · rw [if_neg (by simpa using q)]
        show IL (posL ((mapN data n).take j)) = IL (posL ((mapN data n).take (j + 1)))
        rw [tk]; simp [posL, List.filter_append, q, IL]
    · intro S₇ ex7; exact ⟨_, ex7.2 _ _ E.hlp, rfl, fun q => absurd q (Nat.lt_irrefl _)⟩
    · rintro ys S₇ la rfl x7 hla ela
      rw [IL_len, List.take_length] at ela
      have tl : ∀ ns : List Nat, ns.length ≤ 4 → (∀ m ∈ ns, m < 4) → (takenL data gv ns).length ≤ 1100 := fun ns h1 h2 => by
        have : ∀ ms : List Nat, (∀ m ∈ ms, m < 4) → (ms.flatMap fun n => posL (mapN data n)).length ≤ 16 * ms.length := fun ms => by
          induction ms with
          | nil => intro _; simp
          | cons m ms ih =>
            intro h
            have a := ih fun x hx => h x (.tail _ hx)
            have b := posL_len (mapN data m)
            have c : (mapN data m).length = 16 := seg_len (by have := h m (.head _); (first | lia | omega))
            rw [List.flatMap_cons, List.length_append, List.length_cons]
            (first | lia | omega)
        have a := this ns h2
        unfold takenL
        rw [List.length_append, List.length_append]
        simp only [List.length_cons, List.length_nil]
        (first | lia | omega)
      have t0 := tl ((liveN data 4).take i) (by
        have : (liveN data 4).length ≤ 4 := Nat.le_trans (List.length_filter_le _ _) (by simp)
        rw [List.length_take]; (first | lia | omega)) (fun m hm => liveN_lt (List.mem_of_mem_take hm))
      have pl := posL_len (mapN data n)
      have hx5 : S.nx ≤ S₇.nx := Nat.le_trans x45.1 (Nat.le_trans ex.1 x7.1)
      refine .cat (x7.2 _ _ ek) ela (by rw [IL_len, IL_len]; (first | lia | omega)) ?_
      have t1 : (liveN data 4).take (i + 1) = (liveN data 4).take i ++ [n] := by rw [List.take_add_one, hns]; rfl
      refine ST.name (kx.isV (by kernel_rfl)) (SL.nil ⟨_, _, .cons (by walk_at "lk") (.cons (by walk_at "lk") (.cons (by walk_at "lk") (.nil _))), Sub.refl _, S₇.nx, rfl, ⟨Nat.le_succ_of_le (ex.trans x7).1, fun l o e => ?_⟩, hx5, ?_⟩)
      · have hlt : l < S₅.nx := hb5 l (by rw [e]; simp)
        exact (upd_ne (Nat.ne_of_lt (Nat.lt_of_lt_of_le hlt (ex.trans x7).1))).trans ((ex.trans x7).2 _ _ e)
      · rw [add_at, t1]; simp [takenL, IL, List.flatMap_append]
  · rintro fr' S' ⟨lk, rfl, ex, hk, ek⟩
    refine ⟨⟨vs, ex.2 _ _ el, rfl, fun q => absurd q (Nat.lt_irrefl _)⟩, ?_⟩
    walk_at "w"
    rw [en.1, List.take_length] at ek
    exact ⟨lk, rfl, hk, x45.trans ex, ek⟩
end
end Mine
end
section
open PySem PySem.W PyProof.Rows PySem.Calls
set_option Elab.async false
set_option maxRecDepth 100000
set_option linter.unusedVariables false
namespace Mine
/-! ## Plain: lists -/
theorem gI_putL {j : Nat} : ∀ (xs l : List Int) (a : Nat), a + xs.length ≤ l.length → gI (putL l a xs) j = if a ≤ j ∧ j < a + xs.length then gI xs (j - a) else gI l j
  | [], l, a, _ => by
    rw [if_neg (by simp)]; rfl
  | x :: xs, l, a, h => by
    simp only [List.length_cons] at h
    show gI (putL (l.set a x) (a + 1) xs) j = _
    rw [gI_putL xs _ _ (by rw [List.length_set]; (first | lia | omega)), gI_set (by (first | lia | omega))]
    simp only [List.length_cons]
    by_cases q : j = a
    · subst q
      rw [if_neg (by (first | lia | omega)), if_pos rfl, if_pos (by (first | lia | omega))]
      simp [gI]
    · rw [if_neg q]
      by_cases q2 : a + 1 ≤ j ∧ j < a + 1 + xs.length
      · rw [if_pos q2, if_pos (by (first | lia | omega))]
        obtain ⟨d, rfl⟩ : ∃ d, j = a + 1 + d := ⟨j - (a + 1), by (first | lia | omega)⟩
        rw [show a + 1 + d - (a + 1) = d by (first | lia | omega), show a + 1 + d - a = d + 1 by (first | lia | omega)]
        rfl
      · rw [if_neg q2, if_neg (by (first | lia | omega))]
theorem gI_putM {j : Nat} : ∀ (xs l : List Int) (a : Nat), a + xs.length ≤ l.length → gI (putM l a xs) j = if a ≤ j ∧ j < a + xs.length then gI xs (j - a) % 256 else gI l j
  | [], l, a, _ => by
    rw [if_neg (by simp)]; rfl
  | x :: xs, l, a, h => by
    simp only [List.length_cons] at h
    show gI (putM (l.set a (x % 256)) (a + 1) xs) j = _
    rw [gI_putM xs _ _ (by rw [List.length_set]; (first | lia | omega)), gI_set (by (first | lia | omega))]
    simp only [List.length_cons]
    by_cases q : j = a
    · subst q
      rw [if_neg (by (first | lia | omega)), if_pos rfl, if_pos (by (first | lia | omega))]
      simp [gI]
    · rw [if_neg q]
      by_cases q2 : a + 1 ≤ j ∧ j < a + 1 + xs.length
      · rw [if_pos q2, if_pos (by (first | lia | omega))]
        obtain ⟨d, rfl⟩ : ∃ d, j = a + 1 + d := ⟨j - (a + 1), by (first | lia | omega)⟩
        rw [show a + 1 + d - (a + 1) = d by (first | lia | omega), show a + 1 + d - a = d + 1 by (first | lia | omega)]
        rfl
      · rw [if_neg q2, if_neg (by (first | lia | omega))]
theorem seg_congr {l l' : List Int} {a a' n : Nat} (h1 : a + n ≤ l.length) (h2 : a' + n ≤ l'.length) (h : ∀ j, j < n → gI l (a + j) = gI l' (a' + j)) : seg l a n = seg l' a' n := by
  refine List.ext_getElem (by rw [seg_len h1, seg_len h2]) fun j j1 j2 => ?_
  have hj : j < n := by rwa [seg_len h1] at j1
  have e1 : (seg l a n)[j]? = some (gI l (a + j)) := by rw [gI_get (by rw [seg_len h1]; exact hj), gI_seg hj]
  have e2 : (seg l' a' n)[j]? = some (gI l' (a' + j)) := by rw [gI_get (by rw [seg_len h2]; exact hj), gI_seg hj]
  rw [List.getElem?_eq_getElem j1] at e1
  rw [List.getElem?_eq_getElem j2, ← h j hj] at e2
  exact (Option.some.inj e1).trans (Option.some.inj e2).symm
theorem list_congr {l l' : List Int} (h1 : l.length = l'.length) (h : ∀ j, j < l.length → gI l j = gI l' j) : l = l' := by
  refine List.ext_getElem h1 fun j j1 j2 => ?_
  have := h j j1
  have e1 := gI_get j1
  have e2 := gI_get j2
  rw [List.getElem?_eq_getElem j1] at e1
  rw [List.getElem?_eq_getElem j2] at e2
  rw [Option.some.inj e1, Option.some.inj e2, this]
theorem gI_mem {l : List Int} {j : Nat} (h : j < l.length) : gI l j ∈ l := List.mem_of_getElem? (gI_get h)
theorem mem_gI {l : List Int} {x : Int} (h : x ∈ l) : ∃ j, j < l.length ∧ x = gI l j := by
  obtain ⟨j, e⟩ := List.getElem?_of_mem h
  have hj : j < l.length := by
    rcases Nat.lt_or_ge j l.length with q | q
    · exact q
    · rw [List.getElem?_eq_none q] at e; cases e
  rw [gI_get hj] at e
  exact ⟨j, hj, (Option.some.inj e).symm⟩
theorem mem_seg {l : List Int} {a n : Nat} {x : Int} (h : a + n ≤ l.length) (hx : x ∈ seg l a n) : ∃ j, j < n ∧ x = gI l (a + j) := by
  obtain ⟨j, hj, e⟩ := mem_gI hx
  rw [seg_len h] at hj
  exact ⟨j, hj, by rw [e, gI_seg hj]⟩
/-! ## Plain: the octets of an entry -/
noncomputable def entO (u : Int) (raw : List Int) (s c : Int) (m : List Int) : List Int := [u] ++ raw ++ [0, s, 0, c] ++ m
theorem entO_len {u s c : Int} {raw m : List Int} (h1 : raw.length = 11) (h2 : m.length = 16) : (entO u raw s c m).length = 32 := by simp [entO, h1, h2]
theorem entO_0 {u s c : Int} {raw m : List Int} : gI (entO u raw s c m) 0 = u := rfl
theorem gI_append_l {l m : List Int} {j : Nat} (h : j < l.length) : gI (l ++ m) j = gI l j := by unfold gI; rw [List.getD_eq_getElem?_getD, List.getD_eq_getElem?_getD, List.getElem?_append_left h]
theorem gI_append_r {l m : List Int} {j : Nat} : gI (l ++ m) (l.length + j) = gI m j := by unfold gI; rw [List.getD_eq_getElem?_getD, List.getD_eq_getElem?_getD, List.getElem?_append_right (Nat.le_add_right _ _), Nat.add_sub_cancel_left]
theorem entO_raw {u s c : Int} {raw m : List Int} (h1 : raw.length = 11) {j : Nat} (hj : j < 11) : gI (entO u raw s c m) (1 + j) = gI raw j := by
  unfold entO
  rw [gI_append_l (by simp [h1]; (first | lia | omega)), gI_append_l (by simp [h1]; (first | lia | omega))]
  exact gI_append_r (l := [u])
theorem entO_mid {u s c : Int} {raw m : List Int} (h1 : raw.length = 11) {j : Nat} (hj : j < 4) : gI (entO u raw s c m) (12 + j) = gI [0, s, 0, c] j := by
  unfold entO
  rw [gI_append_l (by simp [h1]; (first | lia | omega))]
  have := gI_append_r (l := [u] ++ raw) (m := [0, s, 0, c]) (j := j)
  rwa [show ([u] ++ raw).length + j = 12 + j by simp [h1]] at this
theorem entO_map {u s c : Int} {raw m : List Int} (h1 : raw.length = 11) {j : Nat} : gI (entO u raw s c m) (16 + j) = gI m j := by
  unfold entO
  have := gI_append_r (l := [u] ++ raw ++ [0, s, 0, c]) (m := m) (j := j)
  rwa [show ([u] ++ raw ++ [0, s, 0, c]).length + j = 16 + j by simp [h1]] at this
theorem gI_ent {data xs : List Int} {n m k : Nat} (hx : xs.length = 32) (hn : 32 * n + 32 ≤ data.length) (hk : k < 32) : gI (putL data (32 * n) xs) (32 * m + k) = if m = n then gI xs k else gI data (32 * m + k) := by
  rw [gI_putL _ _ _ (by (first | lia | omega)), hx]
  by_cases q : m = n
  · subst q
    rw [if_pos (by (first | lia | omega)), if_pos rfl, show 32 * m + k - 32 * m = k by (first | lia | omega)]
  · rw [if_neg (by (first | lia | omega)), if_neg q]
theorem mB_congr {p r r' : List Int} {j : Nat} (h : gI r j = gI r' j) : mB p r j = mB p r' j := by unfold mB; rw [h]
theorem matchB_congr {p r r' : List Int} (h : ∀ j, j < 11 → gI r j = gI r' j) : matchB p r = matchB p r' := by
  unfold matchB
  congr 1
  exact List.map_congr_left fun j hj => mB_congr (h j (List.mem_range.mp hj))
theorem foundN_congr {data data' : List Int} {u : Int} {p : List Int} (h : ∀ m, m < 4 → ∀ k, k < 12 → gI data' (32 * m + k) = gI data (32 * m + k)) : foundN data' u p 4 = foundN data u p 4 := by
  unfold foundN
  refine List.filter_congr fun m hm => ?_
  have hm4 := List.mem_range.mp hm
  have e0 := h m hm4 0 (by (first | lia | omega))
  simp only [Nat.add_zero] at e0
  rw [e0, matchB_congr (r' := seg data (32 * m + 1) 11) fun j hj => ?_]
  rw [gI_seg hj, gI_seg hj, show 32 * m + 1 + j = 32 * m + (1 + j) by (first | lia | omega)]
  exact h m hm4 _ (by (first | lia | omega))
theorem foundN_entO {data : List Int} {n : Nat} {u s c : Int} {p mp : List Int} (hn : 32 * n + 32 ≤ data.length) (hm : mp.length = 16) :
    foundN (putL data (32 * n) (entO (gI data (32 * n)) (seg data (32 * n + 1) 11) s c mp)) u p 4 = foundN data u p 4 := by
  have sl : (seg data (32 * n + 1) 11).length = 11 := seg_len (by (first | lia | omega))
  refine foundN_congr fun m hm4 k hk => ?_
  rw [gI_ent (entO_len sl hm) hn (by (first | lia | omega))]
  by_cases q : m = n
  · subst q
    rw [if_pos rfl]
    rcases k with _ | k
    · rfl
    · rw [show k + 1 = 1 + k by (first | lia | omega), entO_raw sl (by (first | lia | omega)), gI_seg (by (first | lia | omega))]
      congr 1; (first | lia | omega)
  · rw [if_neg q]
theorem mapN_entO {data : List Int} {n : Nat} {u s c : Int} {raw mp : List Int} (hn : 32 * n + 32 ≤ data.length) (hr : raw.length = 11) (hm : mp.length = 16) : mapN (putL data (32 * n) (entO u raw s c mp)) n = mp := by
  refine list_congr (by rw [hm]; exact seg_len (by rw [putL_len]; (first | lia | omega))) fun j hj => ?_
  have hj' : j < 16 := by rwa [show (mapN (putL data (32 * n) (entO u raw s c mp)) n).length = 16 from seg_len (by rw [putL_len]; (first | lia | omega))] at hj
  rw [mapN, gI_seg hj', show 32 * n + 16 + j = 32 * n + (16 + j) by (first | lia | omega), gI_ent (entO_len hr hm) hn (by (first | lia | omega)), if_pos rfl, entO_map hr]
theorem foundN_hd {data : List Int} {u : Int} {p : List Int} {n : Nat} (h : (foundN data u p 4).head? = some n) : n < 4 ∧ gI data (32 * n) = u := by
  have hm := List.mem_of_mem_head? (by rw [h]; exact rfl : n ∈ (foundN data u p 4).head?)
  refine ⟨foundN_lt hm, ?_⟩
  unfold foundN at hm
  have := (List.mem_filter.mp hm).2
  simp at this
  exact this.1
/-! ## Plain: what always holds of the disk, the memory, the law's list -/
noncomputable def EOk (N : Nat) (G : List Int) (f : Nat → Int) : Prop := f 0 ≠ 229 → f 12 = 0 ∧ f 14 = 0 ∧ f 9 < 128 ∧ ∀ j, j < 16 → f (16 + j) = 0 ∨ (2 ≤ f (16 + j) ∧ f (16 + j) < N ∧ f (16 + j) ∉ G)
noncomputable def FOk (N : Nat) (f : Nat → Int) : Prop := f 12 = 0 ∧ f 14 % 64 = 0 ∧ f 9 < 128 ∧ ∀ j, j < 16 → f (16 + j) = 0 ∨ (2 ≤ f (16 + j) ∧ f (16 + j) < N)
structure LI (N : Nat) (data mem G : List Int) : Prop where
  n6 : 6 ≤ N
  n11 : N ≤ 11
  dl : data.length = 64 * N
  ml : mem.length = 256
  ent : ∀ n, n < 4 → EOk N G fun k => gI data (32 * n + k)
  fcb : ∀ s, s < 2 → FOk N fun k => gI mem (64 * s + k)
  giv : ∀ x ∈ G, 2 ≤ x ∧ x < N
theorem EOk.congr {N : Nat} {G : List Int} {f g : Nat → Int} (h : EOk N G g) (e : ∀ k, k < 32 → f k = g k) : EOk N G f := fun q => by
  rw [e 0 (by (first | lia | omega))] at q
  obtain ⟨h1, h2, h3, h4⟩ := h q
  refine ⟨by rw [e 12 (by (first | lia | omega))]; exact h1, by rw [e 14 (by (first | lia | omega))]; exact h2, by rw [e 9 (by (first | lia | omega))]; exact h3, fun j hj => ?_⟩
  rw [e (16 + j) (by (first | lia | omega))]; exact h4 j hj
theorem FOk.congr {N : Nat} {f g : Nat → Int} (h : FOk N g) (e : ∀ k, k < 32 → f k = g k) : FOk N f := by
  obtain ⟨h1, h2, h3, h4⟩ := h
  refine ⟨by rw [e 12 (by (first | lia | omega))]; exact h1, by rw [e 14 (by (first | lia | omega))]; exact h2, by rw [e 9 (by (first | lia | omega))]; exact h3, fun j hj => ?_⟩
  rw [e (16 + j) (by (first | lia | omega))]; exact h4 j hj
theorem EOk.sub {N : Nat} {G G' : List Int} {f : Nat → Int} (h : EOk N G f) (hs : ∀ x ∈ G', x ∈ G) : EOk N G' f := fun q => by
  obtain ⟨h1, h2, h3, h4⟩ := h q
  refine ⟨h1, h2, h3, fun j hj => ?_⟩
  rcases h4 j hj with z | ⟨a, b, c⟩
  · exact .inl z
  · exact .inr ⟨a, b, fun z => c (hs _ z)⟩
theorem EOk.free {N : Nat} {G : List Int} {f : Nat → Int} (h : f 0 = 229) : EOk N G f := fun q => absurd h q
theorem LI.dir {N : Nat} {data mem G : List Int} (L : LI N data mem G) : DirOk data := fun n hn h => ⟨(L.ent n hn h).1, (L.ent n hn h).2.1⟩
theorem LI.mem' {N : Nat} {data mem mem' G : List Int} {s₀ : Nat} (L : LI N data mem G) (hl : mem'.length = 256) (ho : ∀ s, s < 2 → s ≠ s₀ → ∀ k, k < 32 → gI mem' (64 * s + k) = gI mem (64 * s + k)) (h : FOk N fun k => gI mem' (64 * s₀ + k)) : LI N data mem' G :=
  ⟨L.n6, L.n11, L.dl, hl, L.ent, fun s hs => by
    by_cases q : s = s₀
    · subst q; exact h
    · exact (L.fcb s hs).congr (ho s hs q), L.giv⟩
theorem LI.given {N : Nat} {data mem G G' : List Int} (L : LI N data mem G) (h : ∀ x ∈ G', x ∈ G) : LI N data mem G' := ⟨L.n6, L.n11, L.dl, L.ml, fun n hn => (L.ent n hn).sub h, L.fcb, fun x hx => L.giv x (h x hx)⟩
/-- the directory changes, the rest keeps -/
theorem LI.dirTo {N : Nat} {data data' mem G G' : List Int} (L : LI N data mem G) (hl : data'.length = data.length) (he : ∀ m, m < 4 → EOk N G' fun k => gI data' (32 * m + k)) (hg : ∀ x ∈ G', 2 ≤ x ∧ x < N) : LI N data' mem G' := ⟨L.n6, L.n11, hl.trans L.dl, L.ml, he, L.fcb, hg⟩
/-- an entry is written: the others keep -/
theorem LI.entry {N : Nat} {data mem G G' xs : List Int} {n : Nat} (L : LI N data mem G) (hn : n < 4) (hx : xs.length = 32) (hsub : ∀ m, m < 4 → m ≠ n → EOk N G' fun k => gI data (32 * m + k)) (hg : ∀ x ∈ G', 2 ≤ x ∧ x < N) (h : EOk N G' (gI xs)) : LI N (putL data (32 * n) xs) mem G' := by
  have hd : 32 * n + 32 ≤ data.length := by have := L.dl; have := L.n6; (first | lia | omega)
  refine L.dirTo (putL_len _ _ _) (fun m hm => ?_) hg
  by_cases z : m = n
  · exact h.congr fun k hk => by rw [gI_ent hx hd hk, if_pos z]
  · exact (hsub m hm z).congr fun k hk => by rw [gI_ent hx hd hk, if_neg z]
/-- a record is written: its block holds no entry -/
theorem LI.record {N : Nat} {data mem G xs : List Int} {a : Nat} (L : LI N data mem G) (ha : 128 ≤ a) (hx : a + xs.length ≤ 64 * N) : LI N (putL data a xs) mem G :=
  L.dirTo (putL_len _ _ _) (fun m hm => (L.ent m hm).congr fun k hk => by rw [gI_putL _ _ _ (by rw [L.dl]; exact hx), if_neg (by (first | lia | omega))]) L.giv
theorem gI_rep0 {n j : Nat} : gI (List.replicate n (0 : Int)) j = 0 := by
  unfold gI
  rw [List.getD_eq_getElem?_getD, List.getElem?_replicate]
  by_cases q : j < n <;> simp [q]
/-! ### the deeds -/
section
variable {N : Nat} {data mem G : List Int} {s : Nat}
theorem LI.memset (L : LI N data mem G) (hs : s < 2) {i : Nat} {v : Int} (hi : i < 64) (h : FOk N fun k => if k = i then v else gI mem (64 * s + k)) : LI N data (mem.set (64 * s + i) v) G := by
  have hl := L.ml
  refine L.mem' (s₀ := s) (by simpa using hl) (fun t ht hne k hk => ?_) (h.congr fun k hk => ?_)
  · rw [gI_set (by (first | lia | omega)), if_neg (by (first | lia | omega))]
  · rw [gI_set (by (first | lia | omega))]
    by_cases q : k = i
    · subst q; simp
    · rw [if_neg (by (first | lia | omega)), if_neg q]
theorem LI.set14 (L : LI N data mem G) (hs : s < 2) {v : Int} (hv : v % 64 = 0) : LI N data (mem.set (64 * s + 14) v) G :=
  L.memset hs (by (first | lia | omega)) (by
    obtain ⟨h1, h2, h3, h4⟩ := L.fcb s hs
    exact ⟨by simpa using h1, by simpa using hv, by simpa using h3, fun j hj => by dsimp only; rw [if_neg (by (first | lia | omega))]; exact h4 j hj⟩)
theorem LI.set15 (L : LI N data mem G) (hs : s < 2) {v : Int} : LI N data (mem.set (64 * s + 15) v) G :=
  L.memset hs (by (first | lia | omega)) (by
    obtain ⟨h1, h2, h3, h4⟩ := L.fcb s hs
    exact ⟨by simpa using h1, by simpa using h2, by simpa using h3, fun j hj => by dsimp only; rw [if_neg (by (first | lia | omega))]; exact h4 j hj⟩)
theorem LI.set32 (L : LI N data mem G) (hs : s < 2) {v : Int} : LI N data (mem.set (64 * s + 32) v) G :=
  L.memset hs (by (first | lia | omega)) (by
    obtain ⟨h1, h2, h3, h4⟩ := L.fcb s hs
    exact ⟨by simpa using h1, by simpa using h2, by simpa using h3, fun j hj => by dsimp only; rw [if_neg (by (first | lia | omega))]; exact h4 j hj⟩)
theorem beginM_len {a : Nat} : (beginM mem a).length = mem.length := by simp [beginM, putM_len]
theorem gI_beginM {a j : Nat} (h : a + 36 ≤ mem.length) : gI (beginM mem a) j = if j = a + 12 ∨ j = a + 13 ∨ (a + 15 ≤ j ∧ j < a + 32) then 0 else if j = a + 14 then 128 else gI mem j := by
  unfold beginM
  rw [gI_putM _ _ _ (by rw [putM_len]; simp; (first | lia | omega)), gI_putM _ _ _ (by simp; (first | lia | omega)), gI_set (by simp; (first | lia | omega)), gI_set (by (first | lia | omega))]
  simp only [List.length_replicate, gI_rep0, List.length_cons, List.length_nil]
  by_cases q1 : a + 15 ≤ j ∧ j < a + 15 + 17
  · rw [if_pos q1, if_pos (by (first | lia | omega))]; rfl
  · rw [if_neg q1]
    by_cases q2 : a + 13 ≤ j ∧ j < a + 13 + (0 + 1)
    · have : j = a + 13 := by (first | lia | omega)
      subst this
      rw [if_pos q2, if_pos (by (first | lia | omega))]; simp [gI]
    · rw [if_neg q2]
      by_cases q3 : j = a + 14
      · rw [if_pos q3, if_neg (by (first | lia | omega)), if_pos q3]
      · rw [if_neg q3]
        by_cases q4 : j = a + 12
        · rw [if_pos q4, if_pos (by (first | lia | omega))]
        · rw [if_neg q4, if_neg (by (first | lia | omega)), if_neg q3]
theorem LI.begin (L : LI N data mem G) (hs : s < 2) : LI N data (beginM mem (64 * s)) G := by
  have hl := L.ml
  obtain ⟨h1, h2, h3, h4⟩ := L.fcb s hs
  have e : ∀ j, gI (beginM mem (64 * s)) j = _ := fun j => gI_beginM (by (first | lia | omega))
  refine L.mem' (s₀ := s) (by rw [beginM_len]; exact hl) (fun t ht hne k hk => ?_) ⟨?_, ?_, ?_, fun j hj => .inl ?_⟩
  · rw [e, if_neg (by (first | lia | omega)), if_neg (by (first | lia | omega))]
  · show gI _ _ = 0; rw [e, if_pos (by (first | lia | omega))]
  · show gI _ _ % 64 = 0; rw [e, if_neg (by (first | lia | omega)), if_pos rfl]; rfl
  · show gI _ _ < 128; rw [e, if_neg (by (first | lia | omega)), if_neg (by (first | lia | omega))]; exact h3
  · show gI _ _ = 0; rw [e, if_pos (by (first | lia | omega))]
theorem LI.make (L : LI N data mem G) (hs : s < 2) {n : Nat} (hn : n < 4) {u : Int} {raw : List Int} (hr : raw.length = 11) (h8 : gI raw 8 < 128) : LI N (putL data (32 * n) ([u] ++ raw ++ [0, 0, 0, 0] ++ List.replicate 16 0)) mem G := by
  refine L.entry hn (entO_len (s := 0) (c := 0) hr (by simp)) (fun m hm _ => L.ent m hm) L.giv fun _ => ?_
  show gI (entO u raw 0 0 _) 12 = 0 ∧ gI (entO u raw 0 0 _) 14 = 0 ∧ gI (entO u raw 0 0 _) 9 < 128 ∧ _
  refine ⟨entO_mid (j := 0) hr (by (first | lia | omega)), entO_mid (j := 2) hr (by (first | lia | omega)), ?_, fun j hj => .inl ?_⟩
  · rw [show 9 = 1 + 8 by (first | lia | omega), entO_raw hr (by (first | lia | omega))]; exact h8
  · exact (entO_map hr).trans gI_rep0
theorem LI.erase : ∀ (ns : List Nat) (data : List Int), LI N data mem G → (∀ n ∈ ns, n < 4) → LI N (eraseN data ns) mem G
  | [], _, L, _ => L
  | n :: ns, d, L, h => by
    have hn := h n List.mem_cons_self
    have hl := L.dl
    have h6 := L.n6
    refine LI.erase ns (d.set (32 * n) 229) (L.dirTo (by simp) (fun m hm => ?_) L.giv) fun m hm => h m (List.mem_cons_of_mem _ hm)
    by_cases q : m = n
    · subst q
      exact .free (by show gI _ _ = _; rw [gI_set (by (first | lia | omega))]; simp)
    · exact (L.ent m hm).congr fun k hk => by rw [gI_set (by (first | lia | omega)), if_neg (by (first | lia | omega))]
theorem bitOr_128 {x : Int} (h : x % 64 = 0) : (Builtin.bitOr (x % 128) 128 % 256) % 64 = 0 := by
  have : x % 128 = 0 ∨ x % 128 = 64 := by (first | lia | omega)
  rcases this with q | q <;> rw [q] <;> decide
theorem mergeN_len {a n : Nat} : (mergeN data mem a n).length = 16 := by simp [mergeN]
theorem gI_mergeN {a n j : Nat} (hj : j < 16) : gI (mergeN data mem a n) j = if gI mem (a + 16 + j) ≠ 0 then gI mem (a + 16 + j) else gI data (32 * n + 16 + j) := by
  have e : (mergeN data mem a n)[j]? = some (if gI (seg mem (a + 16) 16) j ≠ 0 then gI (seg mem (a + 16) 16) j else gI (mapN data n) j) := by
    unfold mergeN
    rw [List.getElem?_map, List.getElem?_range hj]; rfl
  rw [gI_get (by rw [mergeN_len]; exact hj)] at e
  rw [Option.some.inj e, gI_seg hj, mapN, gI_seg hj]
/-- the extent is closed -/
theorem LI.closed (L : LI N data mem G) (hs : s < 2) {n : Nat} (hn : n < 4) {c : Int} (hu : gI data (32 * n) ≠ 229) :
    LI N (putL data (32 * n) ([gI data (32 * n)] ++ seg data (32 * n + 1) 11 ++ [0, gI data (32 * n + 13), 0, c] ++ mergeN data mem (64 * s) n)) mem (G.filter fun x => !((mergeN data mem (64 * s) n).any (· == x))) := by
  have hd : 32 * n + 32 ≤ data.length := by have := L.dl; have := L.n6; (first | lia | omega)
  have sr : (seg data (32 * n + 1) 11).length = 11 := seg_len (by (first | lia | omega))
  obtain ⟨e1, e2, e3, e4⟩ := L.ent n hn hu
  obtain ⟨f1, f2, f3, f4⟩ := L.fcb s hs
  refine L.entry hn (entO_len sr mergeN_len) (fun m hm _ => (L.ent m hm).sub fun x hx => (List.mem_filter.mp hx).1) (fun x hx => L.giv x (List.mem_filter.mp hx).1) fun _ => ?_
  show gI (entO _ _ _ _ _) 12 = 0 ∧ gI (entO _ _ _ _ _) 14 = 0 ∧ gI (entO _ _ _ _ _) 9 < 128 ∧ ∀ j, j < 16 → gI (entO _ _ _ _ _) (16 + j) = 0 ∨ (2 ≤ gI (entO _ _ _ _ _) (16 + j) ∧ gI (entO _ _ _ _ _) (16 + j) < _ ∧ gI (entO _ _ _ _ _) (16 + j) ∉ _)
  refine ⟨entO_mid (j := 0) sr (by (first | lia | omega)), entO_mid (j := 2) sr (by (first | lia | omega)), ?_, fun j hj => ?_⟩
  · rw [show 9 = 1 + 8 by (first | lia | omega), entO_raw sr (by (first | lia | omega)), gI_seg (by (first | lia | omega))]; exact e3
  · rw [entO_map sr]
    have nin : gI (mergeN data mem (64 * s) n) j ∉ G.filter fun x => !((mergeN data mem (64 * s) n).any (· == x)) := fun hx => by
      have := (List.mem_filter.mp hx).2
      simp only [Bool.not_eq_true', List.any_eq_false, beq_iff_eq] at this
      exact this _ (gI_mem (by rw [mergeN_len]; exact hj)) rfl
    have hf : gI mem (64 * s + 16 + j) = 0 ∨ (2 ≤ gI mem (64 * s + 16 + j) ∧ gI mem (64 * s + 16 + j) < N) := by rw [Nat.add_assoc]; exact f4 j hj
    have he : gI data (32 * n + 16 + j) = 0 ∨ (2 ≤ gI data (32 * n + 16 + j) ∧ gI data (32 * n + 16 + j) < N ∧ gI data (32 * n + 16 + j) ∉ G) := by rw [Nat.add_assoc]; exact e4 j hj
    have r : gI (mergeN data mem (64 * s) n) j = 0 ∨ (2 ≤ gI (mergeN data mem (64 * s) n) j ∧ gI (mergeN data mem (64 * s) n) j < N) := by
      rw [gI_mergeN hj]
      by_cases q : gI mem (64 * s + 16 + j) = 0
      · rw [if_neg (by simp [q])]
        rcases he with z | ⟨z1, z2, _⟩
        · exact .inl z
        · exact .inr ⟨z1, z2⟩
      · rw [if_pos q]; exact hf
    rcases r with z | ⟨z1, z2⟩
    · exact .inl z
    · exact .inr ⟨z1, z2, nin⟩
/-! ### a block is placed -/
theorem usedB_false {b : Nat} (h : usedB data G b = false) : 2 ≤ b ∧ (b : Int) ∉ G ∧ ∀ n, n < 4 → gI data (32 * n) ≠ 229 → ∀ x ∈ mapN data n, x ≠ (b : Int) := by
  unfold usedB at h
  rw [Bool.or_eq_false_iff] at h
  obtain ⟨h1, h2⟩ := h
  unfold base at h1
  by_cases q : (b : Int) < 2
  · rw [if_pos q] at h1; cases h1
  · rw [if_neg q] at h1
    refine ⟨by (first | lia | omega), fun hm => ?_, fun n hn hl x hx e => ?_⟩
    · have := List.any_eq_false.mp h1 _ hm
      simp at this
    · unfold inMaps at h2
      have := List.any_eq_false.mp h2 n (by unfold liveN; simp [hn, hl])
      apply this
      exact List.any_eq_true.mpr ⟨x, hx, by simp [e]⟩
theorem usedB_true {b : Nat} (h : usedB data G b = true) : (b : Int) ∈ takenL data G (liveN data 4) := by
  unfold usedB at h
  unfold takenL
  rw [Bool.or_eq_true] at h
  rcases h with h | h
  · unfold base at h
    by_cases q : (b : Int) < 2
    · have : b = 0 ∨ b = 1 := by (first | lia | omega)
      rcases this with rfl | rfl <;> simp
    · rw [if_neg q] at h
      obtain ⟨x, hx, e⟩ := List.any_eq_true.mp h
      have : x = (b : Int) := by simpa using e
      subst this
      simp [hx]
  · by_cases q : (b : Int) < 2
    · have : b = 0 ∨ b = 1 := by (first | lia | omega)
      rcases this with rfl | rfl <;> simp
    · unfold inMaps at h
      obtain ⟨n, hn, h⟩ := List.any_eq_true.mp h
      obtain ⟨x, hx, e⟩ := List.any_eq_true.mp h
      have : x = (b : Int) := by simpa using e
      subst this
      refine List.mem_append_right _ (List.mem_flatMap.mpr ⟨n, hn, ?_⟩)
      unfold posL
      exact List.mem_filter.mpr ⟨hx, decide_eq_true (by (first | lia | omega))⟩
theorem taken_not {b : Nat} (h : usedB data G b = false) : (b : Int) ∉ takenL data G (liveN data 4) := by
  obtain ⟨h2, hg, hm⟩ := usedB_false h
  unfold takenL
  intro q
  rcases List.mem_append.mp q with q | q
  · rcases List.mem_append.mp q with q | q
    · simp at q; (first | lia | omega)
    · exact hg q
  · obtain ⟨n, hn, q⟩ := List.mem_flatMap.mp q
    unfold posL at q
    have hn' : n < 4 ∧ gI data (32 * n) ≠ 229 := by
      unfold liveN at hn
      have := List.mem_filter.mp hn
      exact ⟨List.mem_range.mp this.1, by simpa using this.2⟩
    exact hm n hn'.1 hn'.2 _ (List.mem_filter.mp q).1 rfl
noncomputable def freeL (N : Nat) (taken : List Int) (M : Int) : List Int := ((List.range N).map fun i : Nat => (i : Int)).filter fun x => !(taken.any (· == x)) && decide (x ≠ M)
theorem free_some {b M : Nat} (hb : b < N) (hm : b ≠ M) (h : usedB data G b = false) : freeL N (takenL data G (liveN data 4)) M ≠ [] := by
  intro e
  have : (b : Int) ∈ freeL N (takenL data G (liveN data 4)) M := by
    unfold freeL
    refine List.mem_filter.mpr ⟨List.mem_map.mpr ⟨b, List.mem_range.mpr hb, rfl⟩, ?_⟩
    have h1 := taken_not h
    rw [Bool.and_eq_true]
    refine ⟨?_, decide_eq_true (by (first | lia | omega))⟩
    rw [Bool.not_eq_true', List.any_eq_false]
    intro x hx e
    have : x = (b : Int) := by simpa using e
    exact h1 (this ▸ hx)
  rw [e] at this
  cases this
theorem free_none {M : Nat} (h : ∀ k, k < N → k ≠ M → usedB data G k = true) : freeL N (takenL data G (liveN data 4)) M = [] := by
  unfold freeL
  refine List.filter_eq_nil_iff.mpr fun x hx => ?_
  obtain ⟨k, hk, rfl⟩ := List.mem_map.mp hx
  have hk' := List.mem_range.mp hk
  by_cases q : k = M
  · simp [q]
  · have := usedB_true (h k hk' q)
    have : (takenL data G (liveN data 4)).any (· == (k : Int)) = true := List.any_eq_true.mpr ⟨_, this, by simp⟩
    simp [this]
theorem gI_putMap {m : List Int} (hl : m.length = 16) (hs : s < 2) (hm : mem.length = 256) {t k : Nat} (ht : t < 2) (hk : k < 36) (hb : ∀ x ∈ m, 0 ≤ x ∧ x < 256) : gI (putM mem (64 * s + 16) m) (64 * t + k) = if t = s ∧ 16 ≤ k ∧ k < 32 then gI m (k - 16) else gI mem (64 * t + k) := by
  rw [gI_putM _ _ _ (by (first | lia | omega)), hl]
  by_cases q : t = s ∧ 16 ≤ k ∧ k < 32
  · obtain ⟨rfl, q1, q2⟩ := q
    rw [if_pos (by (first | lia | omega)), if_pos ⟨rfl, q1, q2⟩, show 64 * t + k - (64 * t + 16) = k - 16 by (first | lia | omega)]
    have := hb _ (gI_mem (l := m) (j := k - 16) (by (first | lia | omega)))
    (first | lia | omega)
  · rw [if_neg (by (first | lia | omega)), if_neg q]
theorem LI.fmap (L : LI N data mem G) (hs : s < 2) {x : Int} (hx : x ∈ seg mem (64 * s + 16) 16) : x = 0 ∨ (2 ≤ x ∧ x < N) := by
  obtain ⟨j, hj, rfl⟩ := mem_seg (by have := L.ml; (first | lia | omega)) hx
  obtain ⟨_, _, _, h4⟩ := L.fcb s hs
  have := h4 j hj
  rwa [show 64 * s + 16 + j = 64 * s + (16 + j) by (first | lia | omega)]
theorem mem_set_or {l : List Int} {i : Nat} {v x : Int} (h : x ∈ l.set i v) : x = v ∨ x ∈ l := by
  rcases List.mem_or_eq_of_mem_set h with q | q
  · exact .inr q
  · exact .inl q
theorem LI.placed (L : LI N data mem G) (hs : s < 2) {slot b : Nat} (hslot : slot < 16) {user : Int} {data' G' mem' : List Int} (hu : user ≠ 229) (P : Placed N data G mem (64 * s) slot user b data' G' mem') :
    LI N data' mem' G' ∧ 2 ≤ b ∧ b < N ∧ gI (seg mem' (64 * s + 16) 16) slot = b := by
  have hl := L.ml
  have sl : (seg mem (64 * s + 16) 16).length = 16 := seg_len (by (first | lia | omega))
  rcases P with ⟨h0, hb, rfl, rfl, rfl⟩ | ⟨h0, M, hM, hbN, hbM, hub, rfl, h⟩
  · have := L.fmap hs (gI_mem (l := seg mem' (64 * s + 16) 16) (j := slot) (by (first | lia | omega)))
    rw [← hb] at this h0
    exact ⟨L, by (first | lia | omega), by (first | lia | omega), hb.symm⟩
  obtain ⟨hb2, hbG, hbm⟩ := usedB_false hub
  have hd : ∀ n, n < 4 → 32 * n + 32 ≤ data.length := fun n hn => by have := L.dl; have := L.n6; (first | lia | omega)
  have n11 := L.n11
  have bs : ∀ x ∈ (seg mem (64 * s + 16) 16).set slot (b : Int), 0 ≤ x ∧ x < 256 := fun x hx => by
    rcases mem_set_or hx with rfl | q
    · (first | lia | omega)
    · rcases L.fmap hs q with z | z <;> (first | lia | omega)
  have ls : ((seg mem (64 * s + 16) 16).set slot (b : Int)).length = 16 := by simpa using sl
  have gm : ∀ t k, t < 2 → k < 36 → gI (putM mem (64 * s + 16) ((seg mem (64 * s + 16) 16).set slot b)) (64 * t + k) = _ := fun t k ht hk => gI_putMap ls hs hl ht hk bs
  have Lm : LI N data (putM mem (64 * s + 16) ((seg mem (64 * s + 16) 16).set slot b)) G := by
    obtain ⟨f1, f2, f3, f4⟩ := L.fcb s hs
    refine L.mem' (s₀ := s) (by rw [putM_len]; exact hl) (fun t ht hne k hk => ?_) ⟨?_, ?_, ?_, fun j hj => ?_⟩
    · rw [gm t k ht (by (first | lia | omega)), if_neg (by (first | lia | omega))]
    · show gI _ _ = 0; rw [gm s 12 hs (by (first | lia | omega)), if_neg (by (first | lia | omega))]; exact f1
    · show gI _ _ % 64 = 0; rw [gm s 14 hs (by (first | lia | omega)), if_neg (by (first | lia | omega))]; exact f2
    · show gI _ _ < 128; rw [gm s 9 hs (by (first | lia | omega)), if_neg (by (first | lia | omega))]; exact f3
    · dsimp only
      rw [gm s (16 + j) hs (by (first | lia | omega)), if_pos (by (first | lia | omega)), show 16 + j - 16 = j by (first | lia | omega), gI_set (by (first | lia | omega))]
      by_cases q : j = slot
      · rw [if_pos q]; exact .inr ⟨by (first | lia | omega), by (first | lia | omega)⟩
      · rw [if_neg q, gI_seg hj, show 64 * s + 16 + j = 64 * s + (16 + j) by (first | lia | omega)]; exact f4 j hj
  have e4 : gI (seg (putM mem (64 * s + 16) ((seg mem (64 * s + 16) 16).set slot b)) (64 * s + 16) 16) slot = b := by
    rw [gI_seg hslot, show 64 * s + 16 + slot = 64 * s + (16 + slot) by (first | lia | omega), gm s _ hs (by (first | lia | omega)), if_pos (by (first | lia | omega)), show 16 + slot - 16 = slot by (first | lia | omega), gI_set (by (first | lia | omega)), if_pos rfl]
  refine ⟨?_, hb2, hbN, e4⟩
  rcases h with ⟨n, hh, hz, rfl, rfl⟩ | ⟨_, rfl, rfl⟩
  · obtain ⟨hn, hun⟩ := foundN_hd hh
    have sr : (seg data (32 * n + 1) 11).length = 11 := seg_len (by have := hd n hn; (first | lia | omega))
    have mlen : (mapN data n).length = 16 := seg_len (by have := hd n hn; (first | lia | omega))
    obtain ⟨e1, e2, e3, e4⟩ := L.ent n hn (by show gI data (32 * n) ≠ 229; rw [hun]; exact hu)
    refine Lm.entry hn (entO_len sr (by simpa using mlen)) (fun m hm _ => L.ent m hm) L.giv fun _ => ?_
    show gI (entO _ _ _ _ _) 12 = 0 ∧ gI (entO _ _ _ _ _) 14 = 0 ∧ gI (entO _ _ _ _ _) 9 < 128 ∧ ∀ j, j < 16 → gI (entO _ _ _ _ _) (16 + j) = 0 ∨ (2 ≤ gI (entO _ _ _ _ _) (16 + j) ∧ gI (entO _ _ _ _ _) (16 + j) < _ ∧ gI (entO _ _ _ _ _) (16 + j) ∉ _)
    refine ⟨entO_mid (j := 0) sr (by (first | lia | omega)), entO_mid (j := 2) sr (by (first | lia | omega)), ?_, fun j hj => ?_⟩
    · rw [show 9 = 1 + 8 by (first | lia | omega), entO_raw sr (by (first | lia | omega)), gI_seg (by (first | lia | omega))]; exact e3
    · rw [entO_map sr, gI_set (by (first | lia | omega))]
      by_cases q : j = slot
      · rw [if_pos q]; exact .inr ⟨by (first | lia | omega), by (first | lia | omega), hbG⟩
      · rw [if_neg q, mapN, gI_seg hj, show 32 * n + 16 + j = 32 * n + (16 + j) by (first | lia | omega)]; exact e4 j hj
  · refine Lm.dirTo rfl (fun m hm q => ?_) fun x hx => ?_
    · obtain ⟨e1, e2, e3, e4⟩ := L.ent m hm q
      refine ⟨e1, e2, e3, fun j hj => ?_⟩
      rcases e4 j hj with z | ⟨z1, z2, z3⟩
      · exact .inl z
      · refine .inr ⟨z1, z2, fun hx => ?_⟩
        rcases List.mem_append.mp hx with hx | hx
        · exact z3 hx
        · have ml : (mapN data' m).length = 16 := seg_len (by have := hd m hm; (first | lia | omega))
          refine hbm m hm q (gI (mapN data' m) j) (gI_mem (by (first | lia | omega))) ?_
          rw [mapN, gI_seg hj, show 32 * m + 16 + j = 32 * m + (16 + j) by (first | lia | omega)]
          simpa using hx
    · rcases List.mem_append.mp hx with hx | hx
      · exact L.giv x hx
      · have : x = (b : Int) := by simpa using hx
        (first | lia | omega)
theorem LI.f12 (L : LI N data mem G) (hs : s < 2) : gI mem (64 * s + 12) = 0 := (L.fcb s hs).1
theorem LI.f14 (L : LI N data mem G) (hs : s < 2) : gI mem (64 * s + 14) % 64 = 0 := (L.fcb s hs).2.1
theorem LI.f9 (L : LI N data mem G) (hs : s < 2) : gI mem (64 * s + 9) < 128 := (L.fcb s hs).2.2.1
theorem LI.e9 (L : LI N data mem G) {n : Nat} (hn : n < 4) (hu : gI data (32 * n) ≠ 229) : gI data (32 * n + 9) < 128 := (L.ent n hn hu).2.2.1
theorem LI.emap (L : LI N data mem G) {n : Nat} (hn : n < 4) (hu : gI data (32 * n) ≠ 229) {x : Int} (hx : x ∈ mapN data n) : x = 0 ∨ (2 ≤ x ∧ x < N ∧ x ∉ G) := by
  obtain ⟨j, hj, rfl⟩ := mem_seg (by have := L.dl; have := L.n6; (first | lia | omega)) hx
  obtain ⟨_, _, _, h4⟩ := L.ent n hn hu
  have := h4 j hj
  rwa [show 32 * n + 16 + j = 32 * n + (16 + j) by (first | lia | omega)]
theorem LI.fresh (L : LI N data mem G) {n : Nat} (hn : n < 4) (hu : gI data (32 * n) ≠ 229) {x : Int} (hx : x ∈ mapN data n) : x ∉ G := fun hg => by
  rcases L.emap hn hu hx with z | ⟨_, _, z⟩
  · have := (L.giv _ hg).1; (first | lia | omega)
  · exact z hg
end
end Mine
end
section
open PySem PySem.W PyProof.Rows PySem.Calls
set_option Elab.async false
set_option maxRecDepth 100000
set_option linter.unusedVariables false
namespace Mine
local macro_rules | `(tactic| walk_at "k") => `(tactic| (refine (?_ : _ = _); kernel_rfl!))
local macro_rules | `(tactic| walk_at "lk") => `(tactic| first | with_reducible exact lookup_here | (refine (?_ : LkAt 1 _ _); walk_at "k") | (refine (?_ : LkAt 2 _ _); walk_at "k") | (refine (?_ : LkAt 3 _ _); walk_at "k") | (refine (?_ : LkAt 4 _ _); walk_at "k") | (refine (?_ : LkAt 5 _ _); walk_at "k") | (refine (?_ : LkAt 6 _ _); walk_at "k") | (refine (?_ : LkAt 7 _ _); walk_at "k") | (refine (?_ : LkAt 8 _ _); walk_at "k") | (refine (?_ : LkAt 9 _ _); walk_at "k") | (refine (?_ : LkAt 10 _ _); walk_at "k") | (refine (?_ : LkAt 11 _ _); walk_at "k") | (refine (?_ : LkAt 12 _ _); walk_at "k") | (refine (?_ : LkAt 13 _ _); walk_at "k") | (refine (?_ : LkAt 14 _ _); walk_at "k") | (refine (?_ : LkAt 15 _ _); walk_at "k") | (refine (?_ : LkAt 16 _ _); walk_at "k"))
local macro_rules | `(tactic| walk_at "nm") => `(tactic| refine SE.name (by walk_at "lk") ?_ (by decide +kernel))
local macro_rules | `(tactic| walk_at "len") => `(tactic| refine SE.blt (id := "len") ((‹Kx _ _ _›).isB (‹Kx _ _ _›).F.b_len (by kernel_rfl) (by kernel_rfl)) ?_)
local macro_rules | `(tactic| walk_at "s") => `(tactic| first
  | ((with_reducible show SE _ _ (Expr.Name _ _) _ _ _); walk_at "nm")
  | with_reducible (first | refine SE.cInt ?_ | refine SE.cNone ?_ | refine SE.cBool ?_ | refine SE.binop ?_ | refine SE.cmp ?_ | refine SE.ifexp ?_ | refine SE.list ?_ | refine SE.tuple ?_ | refine SE.sub ?_ | refine SAs.nil ?_ | refine SAs.cons ?_ | refine SB.cmp ?_ | refine SB.not ?_ | refine SB.boolop ?_ | refine SAll.and ?_ | refine SAll.or ?_ | refine SAll.and_nil ?_ | refine SAll.or_nil ?_ | refine SS.ret ?_ | refine SS.ifs ?_ | refine SL.cons ?_)
  | ((with_reducible show SE _ _ (Expr.Call (Expr.Name (Str.ofString "len") _) _ _ _) _ _ _); walk_at "len"))
local macro_rules | `(tactic| walk_at "w") => `(tactic| ((try ((with_reducible show SL _ _ _ _ _ _ _); refine SL.cons ?_)); repeat walk_at "s"))

/-- the disk, the memory, the law's list in the store -/
structure LW (K : Frag) (S : St) (dk dd ld lg lm lv : Loc) (N : Nat) (data mem G : List Int) : Prop where
  D : Dk K S dk dd ld lg N data G
  m : S.σ lm = some (.list (IL mem))
  v : S.σ lv = some (.list (IL G))
  n1 : ld ≠ lm
  n2 : lg ≠ lm
  n3 : lv ≠ lm
  n4 : lv ≠ ld
  n5 : lv ≠ lg
section
variable {K : Frag} {S S' : St} {dk dd ld lg lm lv : Loc} {N : Nat} {data mem G : List Int}
theorem LW.ext (W : LW K S dk dd ld lg lm lv N data mem G) (x : Ext S S') : LW K S' dk dd ld lg lm lv N data mem G := ⟨W.D.ext x, x.2 _ _ W.m, x.2 _ _ W.v, W.n1, W.n2, W.n3, W.n4, W.n5⟩
end
/-- removing each in turn -/
theorem erases {p : Int → Bool} : ∀ (suf A : List Int), (∀ x ∈ A, p x = false) → (suf.filter p).foldl List.erase (A ++ suf) = A ++ suf.filter fun x => !p x
  | [], A, _ => by simp
  | x :: s, A, h => by
    cases q : p x with
    | true =>
      have na : x ∉ A := fun hx => by rw [h x hx] at q; cases q
      rw [List.filter_cons_of_pos (by simp [q]), List.filter_cons_of_neg (by simp [q])]
      show (s.filter p).foldl List.erase ((A ++ x :: s).erase x) = _
      rw [List.erase_append_right _ na, List.erase_cons_head]
      exact erases s A h
    | false =>
      rw [List.filter_cons_of_neg (by simp [q]), List.filter_cons_of_pos (by simp [q])]
      have := erases s (A ++ [x]) (fun y hy => by
        rcases List.mem_append.mp hy with hy | hy
        · exact h y hy
        · have : y = x := by simpa using hy
          rw [this]; exact q)
      simpa using this
theorem erases_mem {p : Int → Bool} (g : List Int) : ∀ (i : Nat) (x : Int), (g.filter p)[i]? = some x → x ∈ ((g.filter p).take i).foldl List.erase g := by
  have key : ∀ (suf A : List Int) (i : Nat) (x : Int), (∀ y ∈ A, p y = false) → (suf.filter p)[i]? = some x → x ∈ ((suf.filter p).take i).foldl List.erase (A ++ suf) := by
    intro suf
    induction suf with
    | nil => intro A i x _ e; simp at e
    | cons y s ih =>
      intro A i x h e
      cases q : p y with
      | true =>
        have na : y ∉ A := fun hx => by rw [h y hx] at q; cases q
        rw [List.filter_cons_of_pos (by simp [q])] at e ⊢
        cases i with
        | zero => simp at e; subst e; simp
        | succ i =>
          rw [List.take_succ_cons]
          show x ∈ ((s.filter p).take i).foldl List.erase ((A ++ y :: s).erase y)
          rw [List.erase_append_right _ na, List.erase_cons_head]
          exact ih A i x h (by simpa using e)
      | false =>
        rw [List.filter_cons_of_neg (by simp [q])] at e ⊢
        have := ih (A ++ [y]) i x (fun z hz => by
          rcases List.mem_append.mp hz with hz | hz
          · exact h z hz
          · have : z = y := by simpa using hz
            rw [this]; exact q) e
        simpa using this
  intro i x e
  have := key g [] i x (by simp) e
  simpa using this
theorem erases_len : ∀ (xs g : List Int), (xs.foldl List.erase g).length ≤ g.length
  | [], _ => Nat.le_refl _
  | x :: xs, g => Nat.le_trans (erases_len xs (g.erase x)) (List.length_erase_le)
section
variable {C : Cx} {S : St} {lm lv : Loc} {mem : List Int} {a : Int} {dk dd ld lg : Loc} {N s : Nat} {data G : List Int}
/-- once the extent is closed, the law's own list holds what the disk's holds -/
theorem close_right_sf {user : Int} (hF : Facts C.KF) (hn : 9 ≤ C.n) (W : LW C.KF S dk dd ld lg lm lv N data mem G) (L : LI N data mem G) (hgl : G.length ≤ 1000) (hu : user ≠ 229) (hs : s < 2) (ha : a = ((64 * s : Nat) : Int)) :
    SF C "_law_close_right" [.ref dk, .ref lm, .int a, .int user, .ref lv] S
      (fun v S' => v = .bool true ∧ Chg [lm, ld, dd, lv] S S' ∧ ∃ lg' data' mem' G', (lg' = lg ∨ S.nx ≤ lg') ∧ LW C.KF S' dk dd ld lg' lm lv N data' mem' G' ∧ LI N data' mem' G' ∧ G'.length ≤ G.length) noX := by
  refine SFA.run hF hF.f_law_close_right.fn hn [("disk", .ref dk), ("memory", .ref lm), ("at", .int a), ("user", .int user), ("given", .ref lv)] rfl rfl fun C' e1 kx e2 e3 hb => ?_
  rw [← e1] at W ⊢
  refine letPost ?_
  intro PR
  refine letFr ?_
  intro fr0
  have hlm := L.ml
  have hl : 128 ≤ data.length := by have := L.dl; have := L.n6; (first | lia | omega)
  have hz : data.length ≤ 1000 := by have := L.dl; have := L.n11; (first | lia | omega)
  have hN := L.n11
  have hta : a.toNat = 64 * s := by (first | lia | omega)
  have hlv : lv < S.nx := hb lv (by rw [W.v]; simp)
  refine SL.cons (SS.assign (SE.fn kx kx.F.f_find_extent (by kernel_rfl) ?_))
  walk_at "w"
  refine SE.fn kx kx.F.f_name_at (by kernel_rfl) ?_
  walk_at "w"
  refine (name_at_sf kx.F (kx.le (by decide)) W.m (by (first | lia | omega)) (by (first | lia | omega)) hlm).thnR ?_
  intro ln S₂ hln x2 e2'
  walk_at "w"
  refine (find_extent_sf kx.F (kx.le (by decide)) (W.D.ext x2) (by (first | lia | omega)) hl hz L.dir hu e2' (seg_len (by (first | lia | omega)))).thnA ?_
  intro v S₃ x3 hv
  have x13 := x2.trans x3
  refine ST.name (kx.isV (by kernel_rfl)) ?_
  refine SL.cons (SS.assign (SE.fn kx kx.F.f_close_file (by kernel_rfl) ?_))
  walk_at "w"
  have W3 := W.ext x13
  have f2' : gI mem (a.toNat + 14) % 64 = 0 := by rw [hta]; exact L.f14 hs
  have f1' : gI mem (a.toNat + 12) % 32 = 0 := by rw [hta, L.f12 hs]; rfl
  refine (close_file_sf kx.F (kx.le (by decide)) W3.D (by (first | lia | omega)) hl hz L.dir hgl hu W3.m (by (first | lia | omega)) (by (first | lia | omega)) hlm f1' f2' W.n1 W.n2).thnB ?_
  rw [hta] at hv ⊢
  have same : ∀ S', Ext S S' → AV.bool true = .bool true ∧ Chg [lm, ld, dd, lv] S S' ∧ ∃ lg' data' mem' G', (lg' = lg ∨ S.nx ≤ lg') ∧ LW C'.KF S' dk dd ld lg' lm lv N data' mem' G' ∧ LI N data' mem' G' ∧ G'.length ≤ G.length :=
    fun S' x => ⟨rfl, x.chg _, lg, data, mem, G, .inl rfl, W.ext x, L, Nat.le_refl _⟩
  -- the names of the found
  have nodup : ∀ n, (foundN data user (seg mem (64 * s + 1) 11) 4).head? = some n → ∀ x ∈ mapN data n, x ∉ G := fun n hh x hx => by
    obtain ⟨hn4, hun⟩ := foundN_hd hh
    exact L.fresh hn4 (by rw [hun]; exact hu) hx
  -- the end, once something is found: any disk where the entry holds the map mp
  have fin : ∀ (held : AV) (n : Nat) (fr : Frm) (S₄ : St) (lg' : Loc) (data' mem' G' mp : List Int), fr = ([("told", .int 0), ("held", held), ("disk", .ref dk), ("memory", .ref lm), ("at", .int a), ("user", .int user), ("given", .ref lv)] : Frm) → Bnd S₄ → Chg [lm, ld, dd, lv] S S₄ → (lg' = lg ∨ S.nx ≤ lg') →
      LI N data' mem' G' → Dk C'.KF S₄ dk dd ld lg' N data' G' → lg' ≠ lm → lg' ≠ lv → S₄.σ lm = some (.list (IL mem')) → S₄.σ lv = some (.list (IL G)) → seg mem' (64 * s + 1) 11 = seg mem (64 * s + 1) 11 → (foundN data' user (seg mem (64 * s + 1) 11) 4).head? = some n → mapN data' n = mp → G' = (G.filter fun x => !(mp.any (· == x))) → G'.length ≤ G.length →
      ∀ sts, sts = bd_law_close_right.drop 3 → SL C' fr sts S₄ (fun _ S' => AV.none = AV.bool true ∧ Chg [lm, ld, dd, lv] S S' ∧ ∃ lg' data' mem' G', (lg' = lg ∨ S.nx ≤ lg') ∧ LW C'.KF S' dk dd ld lg' lm lv N data' mem' G' ∧ LI N data' mem' G' ∧ G'.length ≤ G.length)
        (fun v S' => v = .bool true ∧ Chg [lm, ld, dd, lv] S S' ∧ ∃ lg' data' mem' G', (lg' = lg ∨ S.nx ≤ lg') ∧ LW C'.KF S' dk dd ld lg' lm lv N data' mem' G' ∧ LI N data' mem' G' ∧ G'.length ≤ G.length) noX := by
    rintro held n fr S₄ lg' data' mem' G' mp hfr hb4 c4 hlg' L' D' q1 q2 hm' hv' hnm hh hmp hG hGl sts rfl
    subst hfr
    have hd4 := L'.dl
    have hlm' := L'.ml
    have hn6 := L'.n6
    have hN' := L'.n11
    have hn4 := (foundN_hd hh).1
    refine SL.cons (SS.assign (SE.attr (SE.sub (SE.fn kx kx.F.f_find_extent (by kernel_rfl) ?_))))
    walk_at "w"
    refine SE.fn kx kx.F.f_name_at (by kernel_rfl) ?_
    walk_at "w"
    refine (name_at_sf kx.F (kx.le (by decide)) hm' (by (first | lia | omega)) (by (first | lia | omega)) hlm').thnR ?_
    intro ln S₅ hln x5 e5
    walk_at "w"
    refine (find_extent_sf kx.F (kx.le (by decide)) (D'.ext x5) (by (first | lia | omega)) (by (first | lia | omega)) (by (first | lia | omega)) L'.dir hu e5 (seg_len (by (first | lia | omega)))).thnAB ?_
    intro v S₆ hb6 x6 hv
    rw [hta, hnm, hh] at hv
    obtain ⟨lt, ve, rfl, hbt, et, le, de, lr, lp, rfl, E⟩ := hv
    rw [seg_map, hmp] at E
    have x46 := x5.trans x6
    walk_at "w"
    refine ⟨_, _, .inr et, by (first | lia | omega), by (first | lia | omega), rfl, ⟨le, _, de, _, _, rfl, E.hle, E.hde, kx.F.g_Entry_map, enD_map, ?_⟩⟩
    refine ST.name (.inr ⟨kx.g (by kernel_rfl), e3⟩) ?_
    have mlen : mp.length = 16 := by rw [← hmp]; exact seg_len (by (first | lia | omega))
    refine SL.cons (SS.for (kx.isV (by kernel_rfl)) (SI.list (.N _ _) ?_))
    refine SE.comp (frc := [("kept", .ref lp)]) (CompOk.of kx e2 ⟨by walk_at "lk", trivial⟩ (by kernel_rfl)) (fun C₂ ic => (kx.comp e2 ic).isV (by kernel_rfl)) (SI.list (.N _ _) (SE.name (by walk_at "lk") ⟨lv, _, rfl, x46.2 _ _ hv', ?_⟩ (by decide +kernel)))
    refine ⟨fun i ys => ys = IL ((G.take i).filter fun x => mp.any (· == x)), ⟨by simp, by rw [IL_len]; (first | lia | omega), ?_, ?_, ?_⟩, ?_⟩
    · rintro i S' fr₁ S₂ ⟨rfl, _, _, _, _, rfl⟩
      exact le_push (by kernel_rfl)
    · rintro C₂ ic i ys S' hi rfl ex
      have k2 := kx.comp e2 ic
      have E' := E.ext ex
      rw [IL_len] at hi
      have hvv := IL_get (l := G) (i := i) hi
      refine turnLNc (ex.2 _ _ (x46.2 _ _ hv')) rfl hvv ?_
      refine SB.cmp (SE.name lookup_here (SE.name (by walk_at "lk") ?_ (by decide +kernel)) (by decide +kernel))
      refine ⟨_, .inl E'.hlp, .inl ⟨rfl, .refl _, ?_⟩⟩
      have tk : G.take (i + 1) = G.take i ++ [gI G i] := take_snoc (gI_get hi)
      cases hq : mp.any (· == gI G i) with
      | true =>
        show SE _ _ _ _ _ _
        refine SE.name lookup_here ⟨.refl _, ?_⟩ (by decide +kernel)
        show IL ((G.take i).filter fun x => mp.any (· == x)) ++ [AV.int (gI G i)] = IL ((G.take (i + 1)).filter fun x => mp.any (· == x))
        rw [tk, List.filter_append]; simp [hq, IL]
      | false =>
        show IL ((G.take i).filter fun x => mp.any (· == x)) = IL ((G.take (i + 1)).filter fun x => mp.any (· == x))
        rw [tk, List.filter_append]; simp [hq, IL]
    · intro S' ex
      exact ⟨_, ex.2 _ _ (x46.2 _ _ hv'), rfl, fun q => absurd q (Nat.lt_irrefl _)⟩
    · rintro ys S₇ la rfl x7 hla ela
      rw [IL_len, List.take_length] at ela
      have x47 := x46.trans x7
      have hlv4 : lv < S₆.nx := Nat.lt_of_lt_of_le hlv (Nat.le_trans c4.1 x46.1)
      have nla : la ≠ lv := Nat.ne_of_gt (Nat.lt_of_lt_of_le hlv4 hla)
      refine ⟨la, _, rfl, ela, ?_⟩
      refine ⟨fun i fr' S' => fr' = ([("kept", .ref lp), ("told", .int 0), ("held", held), ("disk", .ref dk), ("memory", .ref lm), ("at", .int a), ("user", .int user), ("given", .ref lv)] : Frm) ∧ Chg [lv] S₇ S' ∧ S'.σ lv = some (.list (IL (((G.filter fun x => mp.any (· == x)).take i).foldl List.erase G))), ⟨?_, .refl _ _, x47.2 _ _ hv'⟩, ?_, ?_⟩
      · rfl
      · refine jT2 fun i S' ex ev hi => ?_
        rw [IL_len] at hi
        have ela' := ex.2 _ _ (by simpa using nla) ela
        have hvv := IL_get hi
        refine turnLN ela' rfl hvv ?_
        refine letPN ?_
        intro PN1
        refine letFr ?_
        intro fr1
        have hin := erases_mem G i _ (gI_get hi)
        refine SL.cons (SS.expr (SE.meth lm_remove (SE.name (by walk_at "lk") ⟨lv, _, rfl, ev, ?_⟩ (by decide +kernel))))
        walk_at "w"
        refine SC.remove ev hin (Nat.le_trans (erases_len _ _) (by (first | lia | omega))) ?_
        refine SL.nil ⟨_, _, le_push (by kernel_rfl), Sub.refl _, rfl, ex.put (by simp), ?_⟩
        rw [put_at, take_snoc (gI_get hi), List.foldl_append]; rfl
      · refine jE2 fun S' ex ev => ?_
        have ela' := ex.2 _ _ (by simpa using nla) ela
        refine ⟨⟨_, ela', rfl, fun q => absurd q (Nat.lt_irrefl _)⟩, ?_⟩
        rw [IL_len, List.take_length] at ev
        have ee := erases (p := fun x => mp.any (· == x)) G [] (by simp)
        rw [List.nil_append, List.nil_append] at ee
        rw [ee, ← hG] at ev
        walk_at "w"
        refine ⟨rfl, (c4.trans (x47.chg _)).trans (ex.mono (by simp)), lg', data', mem', G', hlg', ?_, L', hGl⟩
        have D7 := D'.ext x47
        refine ⟨⟨D7.ne, ?_, ?_, ?_, ?_⟩, ?_, ev, W.n1, q1, W.n3, W.n4, q2.symm⟩
        · exact ex.2 _ _ (by simpa using ne_of_ao D7.dk (x47.2 _ _ hv') (by first | exact ao_ld | exact ao_dl | exact ao_li | exact ao_il | exact ao_di | exact ao_id | exact ao_tl | exact ao_lt | (intro q; cases q))) D7.dk
        · exact ex.2 _ _ (by simpa using ne_of_ao D7.dd (x47.2 _ _ hv') (by first | exact ao_ld | exact ao_dl | exact ao_li | exact ao_il | exact ao_di | exact ao_id | exact ao_tl | exact ao_lt | (intro q; cases q))) D7.dd
        · exact ex.2 _ _ (by simpa using W.n4.symm) D7.ld
        · exact ex.2 _ _ (by simpa using q2) D7.lg
        · exact ex.2 _ _ (by simpa using W.n3.symm) (x47.2 _ _ hm')
  have hd3 : dd ≠ lv := ne_of_ao W.D.dd W.v (by first | exact ao_ld | exact ao_dl | exact ao_li | exact ao_il | exact ao_di | exact ao_id | exact ao_tl | exact ao_lt | (intro q; cases q))
  rintro v S₄ hb4 (⟨x4, hv4⟩ | ⟨rfl, c4, n, c, lg', hh, q1, q2, D4, m4⟩)
  · have x14 := x13.trans x4
    refine ST.name (kx.isV (by kernel_rfl)) ?_
    walk_at "w"
    rcases hv4 with rfl | rfl
    · refine ⟨false, rfl, ?_⟩
      show SAll _ _ _ _ _ _ _
      walk_at "w"
      cases hh : (foundN data user (seg mem (64 * s + 1) 11) 4).head? with
      | none =>
        rw [hh] at hv
        subst hv
        refine .inl ⟨rfl, ?_⟩
        show SL _ _ _ _ _ _ _
        walk_at "w"
        exact same _ x14
      | some n =>
        rw [hh] at hv
        obtain ⟨lt, ve, rfl, hbt, et, _⟩ := hv
        refine .inl ⟨rfl, ?_⟩
        show SAll _ _ _ _ _ _ _
        walk_at "w"
        refine SL.nil ?_
        have eG : G = G.filter fun x => !((mapN data n).any (· == x)) := by
          refine (List.filter_eq_self.mpr fun x hx => ?_).symm
          rw [Bool.not_eq_true', List.any_eq_false]
          intro y hy e
          have : y = x := by simpa using e
          exact nodup n hh y hy (this ▸ hx)
        have W4 := W.ext x14
        exact fin _ n _ S₄ lg data mem G (mapN data n) rfl hb4 (x14.chg _) (.inl rfl) L W4.D W.n2 W.n5.symm W4.m W4.v rfl hh rfl eG (Nat.le_refl _) _ rfl
    · refine ⟨true, rfl, ?_⟩
      show SL _ _ _ _ _ _ _
      walk_at "w"
      exact same _ x14
  · obtain ⟨hn4, hun⟩ := foundN_hd hh
    have hlive : gI data (32 * n) ≠ 229 := by rw [hun]; exact hu
    rw [hh] at hv
    obtain ⟨lt, ve, rfl, hbt, et, _⟩ := hv
    refine ST.name (kx.isV (by kernel_rfl)) ?_
    walk_at "w"
    refine ⟨false, rfl, ?_⟩
    show SAll _ _ _ _ _ _ _
    walk_at "w"
    refine .inl ⟨rfl, ?_⟩
    show SAll _ _ _ _ _ _ _
    walk_at "w"
    refine SL.nil ?_
    have c14 : Chg [lm, ld, dd, lv] S S₄ := (x13.chg _).trans (c4.mono (by simp))
    have hq2 : S.nx ≤ lg' := Nat.le_trans x13.1 q2
    have L4 := (L.closed hs hn4 (c := c) hlive).set14 hs (bitOr_128 (L.f14 hs))
    have hd : 32 * n + 32 ≤ data.length := by (first | lia | omega)
    have sr : (seg data (32 * n + 1) 11).length = 11 := seg_len (by (first | lia | omega))
    refine fin _ n _ S₄ lg' _ _ _ (mergeN data mem (64 * s) n) rfl hb4 c14 (.inr hq2) L4 D4 q1 (Nat.ne_of_gt (Nat.lt_of_lt_of_le hlv hq2)) m4 (c4.2 _ _ (by simp [W.n3, W.n4, hd3.symm]) W3.v) ?_ ?_ ?_ rfl (List.length_filter_le _ _) _ rfl
    · refine seg_congr (by simp; (first | lia | omega)) (by (first | lia | omega)) fun j hj => ?_
      rw [gI_set (by (first | lia | omega)), if_neg (by (first | lia | omega))]
    · exact (congrArg List.head? (foundN_entO hd mergeN_len)).trans hh
    · exact mapN_entO hd sr mergeN_len
end
end Mine
end
section
open PySem PySem.W PyProof.Rows PySem.Calls
set_option Elab.async false
set_option maxRecDepth 100000
set_option linter.unusedVariables false
namespace Mine
/-! ## Plain: what a write tells -/
noncomputable def WrRes (N : Nat) (data mem G : List Int) (s slot : Nat) (user told : Int) (data2 mem2 G2 : List Int) : Prop :=
  (told = 0 ∧ gI (seg mem (64 * s + 16) 16) slot ≠ 0 ∧ gI (seg mem2 (64 * s + 16) 16) slot = gI (seg mem (64 * s + 16) 16) slot ∧ G2 = G) ∨
  (gI (seg mem (64 * s + 16) 16) slot = 0 ∧ ∃ M : Nat, Max (seg mem (64 * s + 16) 16) M ∧
    ((told = 2 ∧ gI (seg mem2 (64 * s + 16) 16) slot = 0 ∧ freeL N (takenL data G (liveN data 4)) M = [] ∧ G2 = G) ∨
     (told = 0 ∧ freeL N (takenL data G (liveN data 4)) M ≠ [] ∧ ∃ b : Nat, gI (seg mem2 (64 * s + 16) 16) slot = b ∧ 2 ≤ b ∧ b < N ∧ (b : Int) ∉ takenL data G (liveN data 4) ∧
       (((foundN data user (seg mem (64 * s + 1) 11) 4).head? = none ∧ (foundN data2 user (seg mem2 (64 * s + 1) 11) 4).head? = none ∧ G2 = G ++ [(b : Int)]) ∨
        ∃ n, (foundN data user (seg mem (64 * s + 1) 11) 4).head? = some n ∧ (foundN data2 user (seg mem2 (64 * s + 1) 11) 4).head? = some n ∧
          ((gI (mapN data n) slot = 0 ∧ gI (mapN data2 n) slot = b ∧ G2 = G) ∨ (0 < gI (mapN data n) slot ∧ gI (mapN data2 n) slot = gI (mapN data n) slot ∧ G2 = G ++ [(b : Int)]))))))
section
variable {N : Nat} {data mem G : List Int} {s : Nat}
theorem wr_full (L : LI N data mem G) {slot : Nat} {user : Int} (F : Full N data G mem (64 * s) slot) : WrRes N data mem G s slot user 2 data mem G := by
  obtain ⟨h0, M, hM, h⟩ := F
  exact .inr ⟨h0, M, hM, .inl ⟨rfl, h0, free_none h, rfl⟩⟩
theorem foundN_record {data xs : List Int} {u : Int} {p : List Int} {a : Nat} (h : 128 ≤ a) (hl : a + xs.length ≤ data.length) : foundN (putL data a xs) u p 4 = foundN data u p 4 :=
  foundN_congr fun m hm k hk => by rw [gI_putL _ _ _ hl, if_neg (by (first | lia | omega))]
theorem mapN_record {data xs : List Int} {a n : Nat} (h : 128 ≤ a) (hl : a + xs.length ≤ data.length) (hn : n < 4) : mapN (putL data a xs) n = mapN data n := by
  unfold mapN
  exact seg_congr (by rw [putL_len]; (first | lia | omega)) (by (first | lia | omega)) fun j hj => by rw [gI_putL _ _ _ hl, if_neg (by (first | lia | omega))]
theorem wr_placed (L : LI N data mem G) (hs : s < 2) {slot b : Nat} (hslot : slot < 16) {user : Int} {data' G' mem' xs : List Int} {i : Nat} {v1 v2 v3 : Int} (hu : user ≠ 229) (hxs : xs.length = 32) (hi : i < 2) (hv2 : v2 = gI mem' (64 * s + 14) % 128 % 256) (P : Placed N data G mem (64 * s) slot user b data' G' mem') :
    LI N (putL data' (64 * b + 32 * i) xs) (((mem'.set (64 * s + 15) v1).set (64 * s + 14) v2).set (64 * s + 32) v3) G' ∧
    WrRes N data mem G s slot user 0 (putL data' (64 * b + 32 * i) xs) (((mem'.set (64 * s + 15) v1).set (64 * s + 14) v2).set (64 * s + 32) v3) G' := by
  obtain ⟨L', hb2, hbN, e4⟩ := L.placed hs hslot hu P
  have hl' := L'.ml
  have hl := L.ml
  have hd' := L'.dl
  have h6 := L.n6
  have hd := L.dl
  have L2 : LI N (putL data' (64 * b + 32 * i) xs) (((mem'.set (64 * s + 15) v1).set (64 * s + 14) v2).set (64 * s + 32) v3) G' :=
    (((L'.record (a := 64 * b + 32 * i) (xs := xs) (by (first | lia | omega)) (by (first | lia | omega))).set15 hs).set14 hs (by rw [hv2]; have := L'.f14 hs; (first | lia | omega))).set32 hs
  refine ⟨L2, ?_⟩
  have gm : ∀ k, k < 32 → k ≠ 14 → k ≠ 15 → gI (((mem'.set (64 * s + 15) v1).set (64 * s + 14) v2).set (64 * s + 32) v3) (64 * s + k) = gI mem' (64 * s + k) := fun k h1 h2 h3 => by
    rw [gI_set (by simp; (first | lia | omega)), if_neg (by (first | lia | omega)), gI_set (by simp; (first | lia | omega)), if_neg (by (first | lia | omega)), gI_set (by (first | lia | omega)), if_neg (by (first | lia | omega))]
  have es : seg (((mem'.set (64 * s + 15) v1).set (64 * s + 14) v2).set (64 * s + 32) v3) (64 * s + 16) 16 = seg mem' (64 * s + 16) 16 :=
    seg_congr (by simp; (first | lia | omega)) (by (first | lia | omega)) fun j hj => by rw [Nat.add_assoc]; exact gm _ (by (first | lia | omega)) (by (first | lia | omega)) (by (first | lia | omega))
  have en : seg (((mem'.set (64 * s + 15) v1).set (64 * s + 14) v2).set (64 * s + 32) v3) (64 * s + 1) 11 = seg mem' (64 * s + 1) 11 :=
    seg_congr (by simp; (first | lia | omega)) (by (first | lia | omega)) fun j hj => by rw [Nat.add_assoc]; exact gm _ (by (first | lia | omega)) (by (first | lia | omega)) (by (first | lia | omega))
  rcases P with ⟨h0, hb, rfl, rfl, rfl⟩ | ⟨h0, M, hM, hbN', hbM, hub, rfl, h⟩
  · exact .inl ⟨rfl, h0, by rw [es], rfl⟩
  refine .inr ⟨h0, M, hM, .inr ⟨rfl, free_some hbN hbM hub, b, by rw [es, e4], hb2, hbN, taken_not hub, ?_⟩⟩
  have em : seg (putM mem (64 * s + 16) ((seg mem (64 * s + 16) 16).set slot ↑b)) (64 * s + 1) 11 = seg mem (64 * s + 1) 11 :=
    seg_congr (by rw [putM_len]; (first | lia | omega)) (by (first | lia | omega)) fun j hj => gI_putM_off _ _ _ (.inl (by (first | lia | omega)))
  rw [en, em, foundN_record (by (first | lia | omega)) (by (first | lia | omega))]
  rcases h with ⟨n, hh, hz, rfl, rfl⟩ | ⟨hh, rfl, rfl⟩
  · obtain ⟨hn, hun⟩ := foundN_hd hh
    have sr : (seg data (32 * n + 1) 11).length = 11 := seg_len (by (first | lia | omega))
    have mlen : (mapN data n).length = 16 := seg_len (by (first | lia | omega))
    refine .inr ⟨n, hh, ?_, .inl ⟨hz, ?_, rfl⟩⟩
    · exact (congrArg List.head? (foundN_entO (by (first | lia | omega)) (by simpa using mlen))).trans hh
    · rw [mapN_record (by (first | lia | omega)) (by (first | lia | omega)) hn]
      have := mapN_entO (u := gI data (32 * n)) (s := gI data (32 * n + 13)) (c := gI data (32 * n + 15)) (raw := seg data (32 * n + 1) 11) (mp := (mapN data n).set slot ↑b) (data := data) (n := n) (by (first | lia | omega)) sr (by simpa using mlen)
      exact (congrArg (gI · slot) this).trans (by rw [gI_set (by (first | lia | omega)), if_pos rfl])
  · rcases hh with hh | ⟨n, hh, hz⟩
    · exact .inl ⟨hh, hh, rfl⟩
    · obtain ⟨hn, hun⟩ := foundN_hd hh
      have mlen : (mapN data' n).length = 16 := seg_len (by (first | lia | omega))
      refine .inr ⟨n, hh, hh, .inr ⟨?_, by rw [mapN_record (by (first | lia | omega)) (by (first | lia | omega)) hn], rfl⟩⟩
      rcases L.emap hn (by rw [hun]; exact hu) (gI_mem (l := mapN data' n) (j := slot) (by (first | lia | omega))) with z | ⟨z, _, _⟩
      · exact absurd z hz
      · (first | lia | omega)
theorem freeL_succ {t : List Int} {M : Int} {i : Nat} : freeL (i + 1) t M = freeL i t M ++ (if (!(t.any (· == (i : Int))) && decide ((i : Int) ≠ M)) = true then [(i : Int)] else []) := by
  unfold freeL
  rw [List.range_succ, List.map_append, List.filter_append]
  congr 1
  by_cases q : (!(t.any (· == (i : Int))) && decide ((i : Int) ≠ M)) = true
  · rw [if_pos q]; exact List.filter_cons_of_pos q
  · rw [if_neg q]; exact List.filter_cons_of_neg q
end
end Mine
end
section
open PySem PySem.W PyProof.Rows PySem.Calls
set_option Elab.async false
set_option maxRecDepth 100000
set_option linter.unusedVariables false
namespace Mine
local macro_rules | `(tactic| walk_at "k") => `(tactic| (refine (?_ : _ = _); kernel_rfl!))
local macro_rules | `(tactic| walk_at "lk") => `(tactic| first | with_reducible exact lookup_here | (refine (?_ : LkAt 1 _ _); walk_at "k") | (refine (?_ : LkAt 2 _ _); walk_at "k") | (refine (?_ : LkAt 3 _ _); walk_at "k") | (refine (?_ : LkAt 4 _ _); walk_at "k") | (refine (?_ : LkAt 5 _ _); walk_at "k") | (refine (?_ : LkAt 6 _ _); walk_at "k") | (refine (?_ : LkAt 7 _ _); walk_at "k") | (refine (?_ : LkAt 8 _ _); walk_at "k") | (refine (?_ : LkAt 9 _ _); walk_at "k") | (refine (?_ : LkAt 10 _ _); walk_at "k") | (refine (?_ : LkAt 11 _ _); walk_at "k") | (refine (?_ : LkAt 12 _ _); walk_at "k") | (refine (?_ : LkAt 13 _ _); walk_at "k") | (refine (?_ : LkAt 14 _ _); walk_at "k") | (refine (?_ : LkAt 15 _ _); walk_at "k") | (refine (?_ : LkAt 16 _ _); walk_at "k"))
local macro_rules | `(tactic| walk_at "nm") => `(tactic| refine SE.name (by walk_at "lk") ?_ (by decide +kernel))
local macro_rules | `(tactic| walk_at "len") => `(tactic| refine SE.blt (id := "len") ((‹Kx _ _ _›).isB (‹Kx _ _ _›).F.b_len (by kernel_rfl) (by kernel_rfl)) ?_)
local macro_rules | `(tactic| walk_at "s") => `(tactic| first
  | ((with_reducible show SE _ _ (Expr.Name _ _) _ _ _); walk_at "nm")
  | with_reducible (first | refine SE.cInt ?_ | refine SE.cNone ?_ | refine SE.cBool ?_ | refine SE.binop ?_ | refine SE.cmp ?_ | refine SE.ifexp ?_ | refine SE.list ?_ | refine SE.tuple ?_ | refine SE.sub ?_ | refine SAs.nil ?_ | refine SAs.cons ?_ | refine SB.cmp ?_ | refine SB.not ?_ | refine SB.boolop ?_ | refine SAll.and ?_ | refine SAll.or ?_ | refine SAll.and_nil ?_ | refine SAll.or_nil ?_ | refine SS.ret ?_ | refine SS.ifs ?_ | refine SL.cons ?_)
  | ((with_reducible show SE _ _ (Expr.Call (Expr.Name (Str.ofString "len") _) _ _ _) _ _ _); walk_at "len"))
local macro_rules | `(tactic| walk_at "w") => `(tactic| ((try ((with_reducible show SL _ _ _ _ _ _ _); refine SL.cons ?_)); repeat walk_at "s"))

theorem SS.assignE {C : Cx} {fr : Frm} {S : St} {PN : Frm → St → Prop} {PR : AV → St → Prop} {X : St → Prop} {t value : Expr} {pos : Pos} (h : SE C fr value S (fun v S' => ST C fr t v S' PN X) X) (hw : swappedStores [t] value C.env = pure none) (hs : ∀ env, swapsWithSole [t] value pos.line env = pure false := by intro _; rfl)
    (ht : ∀ env, assignEach [t] env = [(false, PySem.assign t env)] := by intro _; rfl) : SS C fr (.Assign [t] value pos) S PN PR X :=
  fun c ρe Se he ρ s Q E hb ow G I F kn kr kx => by
  refine wpAny_Assign_stores (h c ρ s _ E I F (fun v S₁ ρ₁ h₁ t₁ y p G₁ I₁ r₁ => ?_) (kx.x hb G)) (hs _) hw
  rw [ht]
  exact p c ρe Se he ρ₁ { s with heap := h₁, toks := t₁ } _ E y hb ow (Go.trans hb G G₁) I₁ (F.go I G₁) r₁ (fun fr' S' ρ' h' tk' p' g => kn fr' S' ρ' h' tk' p' (G₁.gr.trans g)) kx
/-- the pail of draws in the store -/
structure PW (S : St) (lp lb : Loc) (bs : List Int) (k : Nat) : Prop where
  p : S.σ lp = some (.list [.ref lb, .int k])
  b : S.σ lb = some (.list (IL bs))
theorem pail_IL {xs : List Int} {lb : Loc} {k : Int} : AO.list [.ref lb, .int k] ≠ .list (IL xs) := by
  intro q
  cases xs <;> simp [IL] at q
theorem PW.ne {S : St} {lp lb : Loc} {bs : List Int} {k : Nat} (p : PW S lp lb bs k) : lb ≠ lp := fun e => by
  have h1 := p.p
  have h2 := p.b
  rw [e, h1] at h2
  exact pail_IL (Option.some.inj h2)
theorem PW.off {S : St} {lp lb l : Loc} {bs xs : List Int} {k : Nat} (p : PW S lp lb bs k) (e : S.σ l = some (.list (IL xs))) : lp ≠ l := fun q => by
  rw [← q, p.p] at e
  exact pail_IL (Option.some.inj e)
theorem PW.ext {S S' : St} {lp lb : Loc} {bs : List Int} {k : Nat} (p : PW S lp lb bs k) (x : Ext S S') : PW S' lp lb bs k := ⟨x.2 _ _ p.p, x.2 _ _ p.b⟩
theorem freeL_len {N : Nat} {t : List Int} {M : Int} : (freeL N t M).length ≤ N := by
  unfold freeL
  exact Nat.le_trans (List.length_filter_le _ _) (by simp)
theorem any_not {t : List Int} {x : Int} (h : x ∉ t) : t.any (· == x) = false := by
  rw [List.any_eq_false]
  intro y hy e
  exact h ((by simpa using e : y = x) ▸ hy)
abbrev WRP (K : Frag) (S : St) (dk dd ld lg lm lv lp lb : Loc) (N : Nat) (bs G : List Int) (k : Nat) (v : AV) (S' : St) : Prop :=
  v = .bool true ∧ Chg [lp, lm, ld, lg, lv] S S' ∧ ∃ data' mem' G', LW K S' dk dd ld lg lm lv N data' mem' G' ∧ LI N data' mem' G' ∧ G'.length ≤ G.length + 1 ∧ PW S' lp lb bs (k + 2)
section
variable {C : Cx} {S : St} {lm lv lp lb : Loc} {mem bs : List Int} {a : Int} {dk dd ld lg : Loc} {N s k : Nat} {data G : List Int}
theorem LW.pail (W : LW C.KF S dk dd ld lg lm lv N data mem G) (p : PW S lp lb bs k) {S' : St} (c : Chg [lp] S S') : LW C.KF S' dk dd ld lg lm lv N data mem G :=
  ⟨⟨W.D.ne, c.2 _ _ (by simpa using ne_of_ao W.D.dk p.p (by first | exact ao_ld | exact ao_dl | exact ao_li | exact ao_il | exact ao_di | exact ao_id | exact ao_tl | exact ao_lt | (intro q; cases q))) W.D.dk, c.2 _ _ (by simpa using ne_of_ao W.D.dd p.p (by first | exact ao_ld | exact ao_dl | exact ao_li | exact ao_il | exact ao_di | exact ao_id | exact ao_tl | exact ao_lt | (intro q; cases q))) W.D.dd, c.2 _ _ (by simpa using (p.off W.D.ld).symm) W.D.ld, c.2 _ _ (by simpa using (p.off W.D.lg).symm) W.D.lg⟩,
    c.2 _ _ (by simpa using (p.off W.m).symm) W.m, c.2 _ _ (by simpa using (p.off W.v).symm) W.v, W.n1, W.n2, W.n3, W.n4, W.n5⟩
theorem PW.draw (p : PW S lp lb bs k) {S' : St} (c : Chg [lp] S S') (e : S'.σ lp = some (.list [.ref lb, .int (k + 1 : Nat)])) : PW S' lp lb bs (k + 1) := ⟨e, c.2 _ _ (by simpa using p.ne) p.b⟩
set_option maxHeartbeats 4000000 in
theorem write_right_sf {user : Int} (hF : Facts C.KF) (hn : 11 ≤ C.n) (W : LW C.KF S dk dd ld lg lm lv N data mem G) (p : PW S lp lb bs k) (hz : bs.length ≤ 1000) (hk : k ≤ 1000) (b1 : lb ≠ lm) (b2 : lb ≠ ld) (b3 : lb ≠ lg) (b4 : lb ≠ lv) (L : LI N data mem G) (hgl : G.length ≤ 900) (hu : user ≠ 229) (hs : s < 2) (ha : a = ((64 * s : Nat) : Int)) :
    SF C "_law_write_right" [.ref lp, .ref dk, .ref lm, .int a, .int user, .ref lv] S
      (WRP C.KF S dk dd ld lg lm lv lp lb N bs G k) noX := by
  refine SFA.run hF hF.f_law_write_right.fn hn [("pail", .ref lp), ("disk", .ref dk), ("memory", .ref lm), ("at", .int a), ("user", .int user), ("given", .ref lv)] rfl rfl fun C' e1 kx e2 e3 hb => ?_
  rw [← e1] at W ⊢
  refine letPost ?_
  intro PR
  refine letFr ?_
  intro fr0
  have hlm := L.ml
  have hl : 128 ≤ data.length := by have := L.dl; have := L.n6; (first | lia | omega)
  have hz' : data.length ≤ 1000 := by have := L.dl; have := L.n11; (first | lia | omega)
  have hN := L.n11
  have hN6 := L.n6
  have hta : a.toNat = 64 * s := by (first | lia | omega)
  have fpb := kx.F.b_max
  refine SL.cons (SS.assign (SE.fn kx kx.F.f_law_scooped (by kernel_rfl) ?_))
  walk_at "w"
  refine (scooped_sf kx.F (kx.le (by decide)) p.p p.b p.ne hz (by (first | lia | omega)) (by (first | lia | omega))).thn ?_
  rintro v S₁ ⟨⟨slot, rfl, hslot⟩, c1, p1⟩
  replace p1 := p.draw c1 p1
  have W1 := W.pail p c1
  refine ST.name (kx.isV (by kernel_rfl)) ?_
  refine SL.cons (SS.expr (SE.fn kx kx.F.f_set_current (by kernel_rfl) ?_))
  walk_at "w"
  refine .mul (SE.fn kx kx.F.f_law_scooped (by kernel_rfl) ?_) (by (first | lia | omega)) (by (first | lia | omega))
  walk_at "w"
  refine (scooped_sf kx.F (kx.le (by decide)) p1.p p1.b p1.ne hz (by (first | lia | omega)) (by (first | lia | omega))).thn ?_
  rintro v S₂ ⟨⟨y, rfl, hy⟩, c2, p2⟩
  replace p2 := p1.draw c2 p2
  have W2 := W1.pail p1 c2
  refine .add ?_
  walk_at "w"
  refine (set_current_sf kx.F (kx.le (by decide)) W2.m (by (first | lia | omega)) (by (first | lia | omega)) hlm).thnEB2 ?_
  intro S₃ hb3 c3 m3
  rw [hta] at m3
  have hix : (2 * (slot : Int) + y) % 256 = ((2 * slot + y : Nat) : Int) := by (first | lia | omega)
  rw [hix] at m3
  have L3 := L.set32 hs (v := ((2 * slot + y : Nat) : Int))
  have p3 : PW S₃ lp lb bs (k + 1 + 1) := ⟨c3.2 _ _ (by simpa using p2.off W2.m) p2.p, c3.2 _ _ (by simpa using b1) p2.b⟩
  have W3 : LW C'.KF S₃ dk dd ld lg lm lv N data (mem.set (64 * s + 32) ((2 * slot + y : Nat) : Int)) G :=
    ⟨W2.D.toMem c3 W2.m W.n1 W.n2, m3, c3.2 _ _ (by simpa using W.n3) W2.v, W.n1, W.n2, W.n3, W.n4, W.n5⟩
  have hcur : gI (mem.set (64 * s + 32) ((2 * slot + y : Nat) : Int)) (64 * s + 32) = ((2 * slot + y : Nat) : Int) := by rw [gI_set (by (first | lia | omega)), if_pos rfl]
  have ch3 : Chg [lp, lm, ld, lg, lv] S S₃ := ((c1.mono (by simp)).trans (c2.mono (by simp))).trans (c3.mono (by simp))
  generalize mem.set (64 * s + 32) ((2 * slot + y : Nat) : Int) = mem₁ at L3 W3 hcur m3
  clear m3
  have hlm1 := L3.ml
  have sl : (seg mem₁ (64 * s + 16) 16).length = 16 := seg_len (by (first | lia | omega))
  -- ahead, taken
  refine SL.cons (SS.assignE (SE.tuple (SAs.cons (SE.fn kx kx.F.f_blocks_at (by kernel_rfl) ?_))) ?_ (by intro _; rfl))
  · walk_at "w"
    refine (blocks_at_sf kx.F (kx.le (by decide)) W3.D (by (first | lia | omega)) W3.m (by (first | lia | omega)) (by (first | lia | omega)) hlm1).thnR ?_
    intro la S₄ hla x4 ea
    rw [hta] at ea
    refine SAs.cons (SE.fn kx kx.F.f_law_taken (by kernel_rfl) ?_)
    walk_at "w"
    have W4 := W3.ext x4
    refine (taken_sf kx.F (kx.le (by decide)) W4.D (by (first | lia | omega)) hl hz' L3.dir W4.v (by (first | lia | omega))).thnRB ?_
    intro lt S₅ hb5 hlt x5 et
    refine SAs.nil ⟨by simp, ?_⟩
    have x6 : Ext S₅ (S₅.add (.tuple [.ref la, .ref lt])) := (Ext.refl _).add hb5
    refine ST.tup add_at rfl (STs.cons (ST.name (.inr ⟨kx.g (by kernel_rfl), e3⟩) (STs.cons (ST.name (.inr ⟨kx.g (by kernel_rfl), e3⟩) (STs.nil ?_)))))
    have ea := (x5.trans x6).2 _ _ ea
    have et := x6.2 _ _ et
    have x36 := x4.trans (x5.trans x6)
    have hla3 : S₃.nx ≤ la := hla
    have hlt3 : S₃.nx ≤ lt := Nat.le_trans x4.1 hlt
    generalize S₅.add (.tuple [.ref la, .ref lt]) = S₆ at x36 ea et ⊢
    clear x4 x5 x6
    have W6 := W3.ext x36
    have p6 := p3.ext x36
    -- held, known
    refine SL.cons (SS.assign (SE.fn kx kx.F.f_find_extent (by kernel_rfl) ?_))
    walk_at "w"
    refine SE.fn kx kx.F.f_name_at (by kernel_rfl) ?_
    walk_at "w"
    refine (name_at_sf kx.F (kx.le (by decide)) W6.m (by (first | lia | omega)) (by (first | lia | omega)) hlm1).thnR ?_
    intro ln S₇ hln x7 e7
    rw [hta] at e7
    walk_at "w"
    refine (find_extent_sf kx.F (kx.le (by decide)) (W6.D.ext x7) (by (first | lia | omega)) hl hz' L3.dir hu e7 (seg_len (by (first | lia | omega)))).thnAB ?_
    intro v S₈ hb8 x8 hv
    have x38 := x36.trans (x7.trans x8)
    have W8 := W3.ext x38
    have p8 := p3.ext x38
    have ea := (x7.trans x8).2 _ _ ea
    have et := (x7.trans x8).2 _ _ et
    refine ST.name (kx.isV (by kernel_rfl)) ?_
    refine SL.cons (SS.assign ?_)
    refine SE.mono (P' := fun v S' => ∃ kn : Int, v = .int kn ∧ Ext S₈ S' ∧ (((foundN data user (seg mem₁ (64 * s + 1) 11) 4).head? = none ∧ kn = 0) ∨ (∃ n, (foundN data user (seg mem₁ (64 * s + 1) 11) 4).head? = some n ∧ kn = gI (mapN data n) slot))) ?_ ?_
    · walk_at "w"
      cases hh : (foundN data user (seg mem₁ (64 * s + 1) 11) 4).head? with
      | none =>
        rw [hh] at hv
        subst hv
        refine .inl ⟨rfl, ?_⟩
        show SE _ _ _ _ _ _
        walk_at "w"
        exact ⟨0, rfl, .refl _, .inl ⟨rfl, rfl⟩⟩
      | some n =>
        rw [hh] at hv
        have hn4 := (foundN_hd hh).1
        obtain ⟨ltp, ve, rfl, hbt, etp, le, de, lr, lq, rfl, E⟩ := hv
        rw [seg_map] at E
        refine .inl ⟨rfl, ?_⟩
        show SE _ _ _ _ _ _
        walk_at "w"
        refine SE.attr (SE.tupAt (by walk_at "lk") etp (by (first | lia | omega)) (by (first | lia | omega)) rfl ⟨le, _, de, _, _, rfl, E.hle, E.hde, kx.F.g_Entry_map, enD_map, ?_⟩)
        walk_at "w"
        have ml : (mapN data n).length = 16 := seg_len (by (first | lia | omega))
        refine ⟨_, _, .inl E.hlp, by (first | lia | omega), by (first | lia | omega), IL_get (by rw [ml]; (first | lia | omega)), ?_⟩
        rw [show (slot : Int).toNat = slot by (first | lia | omega)]
        exact ⟨_, rfl, .refl _, .inr ⟨n, rfl, rfl⟩⟩
    rintro v' S₉ ⟨kn, rfl, x9, hkn⟩
    have x39 := x38.trans x9
    have W9 := W3.ext x39
    have p9 := p3.ext x39
    have ea := x9.2 _ _ ea
    have et := x9.2 _ _ et
    refine ST.name (kx.isV (by kernel_rfl)) ?_
    clear W8 p8 x38 x36 W6 p6 hv
    -- the write
    refine SL.cons (SS.assign (SE.fn kx kx.F.f_write_next (by kernel_rfl) ?_))
    walk_at "w"
    have hnn : ∀ x ∈ seg mem₁ (64 * s + 16) 16, 0 ≤ x ∧ x < N := fun x hx => by rcases L3.fmap hs hx with z | z <;> (first | lia | omega)
    refine (write_next_sf (ix := 2 * slot + y) (mem := mem₁) (data := data) (given := G) (user := user) (a := a) kx.F (kx.le (by decide)) W9.D (by (first | lia | omega)) (by (first | lia | omega)) L.dl L3.dir (by (first | lia | omega)) hu W9.m (by (first | lia | omega)) (by (first | lia | omega)) hlm1 (by rw [hta, L3.f12 hs]; rfl) (by rw [hta]; exact L3.f14 hs) (by rw [hta]; exact L3.f9 hs) (by rw [hta]; exact hcur) (by (first | lia | omega)) (by rw [hta]; exact hnn) W.n1 W.n2).mono (P' := fun v S' => ∃ (told : Int) (data2 mem2 G2 : List Int), v = .int told ∧ Chg [lm, ld, lg] S₉ S' ∧ Dk C'.KF S' dk dd ld lg N data2 G2 ∧ S'.σ lm = some (.list (IL mem2)) ∧ LI N data2 mem2 G2 ∧ WrRes N data mem₁ G s slot user told data2 mem2 G2) ?_ ?_ |>.thnB ?_
    · rintro v S' (⟨rfl, x, hf⟩ | ⟨rfl, c, b, data', given', mem', xs, cc, d, hpl, hbN, hxs, D', m'⟩)
      · rw [hta, show (2 * slot + y) / 2 = slot by (first | lia | omega)] at hf
        exact ⟨2, data, mem₁, G, rfl, x.chg _, W9.D.ext x, x.2 _ _ W9.m, L3, wr_full L3 hf⟩
      · rw [hta, show (2 * slot + y) / 2 = slot by (first | lia | omega)] at hpl
        rw [hta] at m'
        obtain ⟨q1, q2⟩ := wr_placed (v1 := cc % 256) (v3 := d % 256) (i := (2 * slot + y) % 2) L3 hs (by (first | lia | omega)) hu hxs (by (first | lia | omega)) rfl hpl
        exact ⟨0, _, _, _, rfl, c, D', m', q1, q2⟩
    · exact fun _ h => h
    rintro v S₁₀ hb10 ⟨told, data2, mem2, G2, rfl, c10, D10, m10, L10, hw⟩
    have hlm2 := L10.ml
    have hl2 := L10.dl
    have p10 : PW S₁₀ lp lb bs (k + 1 + 1) := ⟨c10.2 _ _ (by simp [p9.off W9.m, p9.off W9.D.ld, p9.off W9.D.lg]) p9.p, c10.2 _ _ (by simp [b1, b2, b3]) p9.b⟩
    have v10 : S₁₀.σ lv = some (.list (IL G)) := c10.2 _ _ (by simp [W.n3, W.n4, W.n5]) W9.v
    have off3 : ∀ l, S₃.nx ≤ l → l ∉ [lm, ld, lg] := fun l hl => by
      have h1 : lm < S₃.nx := hb3 lm (by rw [W3.m]; simp)
      have h2 : ld < S₃.nx := hb3 ld (by rw [W3.D.ld]; simp)
      have h3 : lg < S₃.nx := hb3 lg (by rw [W3.D.lg]; simp)
      simp only [List.mem_cons, List.not_mem_nil, or_false, not_or]
      exact ⟨Nat.ne_of_gt (Nat.lt_of_lt_of_le h1 hl), Nat.ne_of_gt (Nat.lt_of_lt_of_le h2 hl), Nat.ne_of_gt (Nat.lt_of_lt_of_le h3 hl)⟩
    have ea := c10.2 _ _ (off3 _ hla3) ea
    have et := c10.2 _ _ (off3 _ hlt3) et
    have ch10 : Chg [lp, lm, ld, lg, lv] S S₁₀ := ch3.trans ((x39.chg _).trans (c10.mono (by simp)))
    refine ST.name (kx.isV (by kernel_rfl)) ?_
    clear W9 p9 x39 x9 W1 W2 p1 p2 p3 c1 c2 c3
    refine SL.cons (SS.assign (SE.sub (SE.fn kx kx.F.f_blocks_at (by kernel_rfl) ?_)))
    walk_at "w"
    refine (blocks_at_sf kx.F (kx.le (by decide)) D10 (by (first | lia | omega)) m10 (by (first | lia | omega)) (by (first | lia | omega)) hlm2).thnR ?_
    intro lb2 S₁₁ hlb2 x11 eb
    rw [hta] at eb
    have sl2 : (seg mem2 (64 * s + 16) 16).length = 16 := seg_len (by (first | lia | omega))
    walk_at "w"
    refine ⟨_, _, .inl eb, by (first | lia | omega), by (first | lia | omega), IL_get (by rw [sl2]; (first | lia | omega)), ?_⟩
    rw [show (slot : Int).toNat = slot by (first | lia | omega)]
    refine ST.name (kx.isV (by kernel_rfl)) ?_
    have ea := x11.2 _ _ ea
    have et := x11.2 _ _ et
    refine SL.cons (SS.ifs ?_)
    walk_at "w"
    refine ⟨_, _, .inl ea, by (first | lia | omega), by (first | lia | omega), IL_get (by rw [sl]; (first | lia | omega)), ?_⟩
    rw [show (slot : Int).toNat = slot by (first | lia | omega)]
    walk_at "w"
    have p11 := p10.ext x11
    rcases hw with ⟨rfl, h0, hblk, rfl⟩ | ⟨h0, M, hM, hw⟩
    · have hge : 0 < gI (seg mem₁ (64 * s + 16) 16) slot := by
        rcases L3.fmap hs (gI_mem (l := seg mem₁ (64 * s + 16) 16) (j := slot) (by (first | lia | omega))) with z | z <;> (first | lia | omega)
      refine ⟨true, congrArg some (decide_eq_true hge), ?_⟩
      show SL _ _ _ _ _ _ _
      refine SL.cons (SS.ret (SE.and2 ?_))
      walk_at "w"
      refine ⟨true, rfl, ?_⟩
      show SE _ _ _ _ _ _
      walk_at "w"
      refine ⟨_, _, .inl ea, by (first | lia | omega), by (first | lia | omega), IL_get (by rw [sl]; (first | lia | omega)), ?_⟩
      rw [show (slot : Int).toNat = slot by (first | lia | omega), hblk]
      refine ⟨true, congrArg some (decide_eq_true rfl), rfl, ch10.trans (x11.chg _), data2, mem2, G2, ⟨D10.ext x11, x11.2 _ _ m10, x11.2 _ _ v10, W.n1, W.n2, W.n3, W.n4, W.n5⟩, L10, by (first | lia | omega), p11⟩
    rw [h0]
    refine ⟨false, rfl, ?_⟩
    refine SL.nil ?_
    -- is there a free one?
    refine SL.cons (SS.ifs (SB.cmp ?_))
    refine SE.comp (frc := [("taken", .ref lt), ("ahead", .ref la)]) (CompOk.of kx e2 ⟨by walk_at "lk", by walk_at "lk", trivial⟩ (by kernel_rfl)) (fun C₂ ic => (kx.comp e2 ic).isV (by kernel_rfl)) (SI.range1 (kx.isB kx.F.b_range (by kernel_rfl) (by kernel_rfl)) (SE.dBlocks kx (by walk_at "lk") (D10.ext x11) ⟨N, rfl, by (first | lia | omega), by (first | lia | omega), ?_⟩))
    refine ⟨fun i ys => ys = IL (freeL i (takenL data G (liveN data 4)) M), ⟨rfl, by (first | lia | omega), ?_, ?_, ?_⟩, ?_⟩
    · rintro i S' fr₁ S₂ ⟨rfl, rfl⟩
      exact le_push (by kernel_rfl)
    · rintro C₂ ic i ys S' hi rfl ex
      have k2 := kx.comp e2 ic
      refine ⟨trivial, fun fr₁ it => ?_⟩
      obtain ⟨_, rfl⟩ := it
      have ea' := ex.2 _ _ ea
      have et' := ex.2 _ _ et
      have fs : freeL (i + 1) (takenL data G (liveN data 4)) M = _ := freeL_succ
      refine SB.boolop (SAll.and (SB.cmp (SE.name lookup_here (SE.name (by walk_at "lk") ?_ (by decide +kernel)) (by decide +kernel))))
      refine ⟨_, .inl et', .inr ⟨rfl, ?_⟩⟩
      rw [show (0 + (i : Int)) = (i : Int) by (first | lia | omega)]
      cases q1 : (takenL data G (liveN data 4)).any (· == (i : Int)) with
      | true =>
        show _ ∧ _
        refine ⟨.refl _, ?_⟩
        rw [if_neg (by simp)]
        show IL _ = IL _
        rw [fs, q1]; simp
      | false =>
        show SAll _ _ _ _ _ _ _
        refine SAll.and (SB.cmp (SE.name lookup_here ?_ (by decide +kernel)))
        refine SE.blt (id := "max") (k2.isB k2.F.b_max (by kernel_rfl) (by kernel_rfl)) (SAs.cons (SE.name (by walk_at "lk") (SAs.nil (SC.maxL ea' (by (first | lia | omega)) fun M' hm1 hm2 => ?_)) (by decide +kernel)))
        have hMM : M' = (M : Int) := Int.le_antisymm (hM.2 _ hm1) (hm2 _ hM.1)
        subst hMM
        by_cases q2 : (i : Int) = M
        · refine ⟨false, congrArg some (by simp [q2]), ?_⟩
          show _ ∧ _
          refine ⟨.refl _, ?_⟩
          rw [if_neg (by simp)]
          show IL _ = IL _
          rw [fs, q1]; simp [q2]
        · refine ⟨true, congrArg some (by simp [q2]), ?_⟩
          show SAll _ _ _ _ _ _ _
          refine SAll.and_nil ⟨.refl _, ?_⟩
          rw [if_pos rfl]
          refine SE.name lookup_here ⟨.refl _, ?_⟩ (by decide +kernel)
          show IL _ ++ _ = IL _
          rw [fs, q1]; simp [q2, IL]
    · intro S' ex; trivial
    · rintro ys S₁₂ lf rfl x12 hlf elf
      rw [show ((N : Int)).toNat = N by (first | lia | omega)] at elf
      refine SE.bnd fun hb12 => ?_
      refine SE.list (SAs.nil ⟨by simp, ?_⟩)
      have x13 : Ext S₁₂ (S₁₂.add (.list [])) := (Ext.refl _).add hb12
      have elf := x13.2 _ _ elf
      have e0 : (S₁₂.add (.list [])).σ S₁₂.nx = some (.list (IL [])) := add_at
      have x1013 := x11.trans (x12.trans x13)
      have et := (x12.trans x13).2 _ _ et
      generalize S₁₂.add (.list []) = S₁₃ at x1013 elf e0 et ⊢
      clear x12 x13
      generalize S₁₂.nx = lnil at e0 ⊢
      have W13 : Dk C'.KF S₁₃ dk dd ld lg N data2 G2 := D10.ext x1013
      have m13 := x1013.2 _ _ m10
      have v13 := x1013.2 _ _ v10
      have p13 := p10.ext x1013
      have ch13 : Chg [lp, lm, ld, lg, lv] S S₁₃ := ch10.trans (x1013.chg _)
      refine ⟨_, _, elf, e0, Nat.le_trans (freeL_len (N := N)) (by (first | lia | omega)), by simp, .inl ⟨rfl, ?_⟩⟩
      rcases hw with ⟨rfl, hblk, hfr, rfl⟩ | ⟨rfl, hfr, b, hblk, hb2, hbN, hbt, hw⟩
      · rw [decide_eq_true hfr]
        show SL _ _ _ _ _ _ _
        refine SL.cons (SS.ret (SE.and2 ?_))
        walk_at "w"
        refine ⟨true, rfl, ?_⟩
        show SE _ _ _ _ _ _
        walk_at "w"
        rw [hblk]
        exact ⟨true, rfl, rfl, ch13, data2, mem2, G2, ⟨W13, m13, v13, W.n1, W.n2, W.n3, W.n4, W.n5⟩, L10, by (first | lia | omega), p13⟩
      rw [decide_eq_false hfr]
      refine SL.nil ?_
      rw [hblk]
      refine SL.cons (SS.ifs ?_)
      walk_at "w"
      refine ⟨false, rfl, ?_⟩
      show SAll _ _ _ _ _ _ _
      walk_at "w"
      refine ⟨_, .inl et, .inl ⟨rfl, ?_⟩⟩
      rw [any_not hbt]
      show SAll _ _ _ _ _ _ _
      walk_at "w"
      refine SB.chain ?_
      walk_at "w"
      refine ⟨true, congrArg some (decide_eq_true (by (first | lia | omega))), ?_⟩
      show SE _ _ _ _ _ _
      refine SE.dBlocks kx (by walk_at "lk") W13 ?_
      refine ⟨true, congrArg some (decide_eq_true (by (first | lia | omega))), ?_⟩
      show SAll _ _ _ _ _ _ _
      walk_at "w"
      refine SL.nil ?_
      refine SL.cons (SS.assign (SE.fn kx kx.F.f_find_extent (by kernel_rfl) ?_))
      walk_at "w"
      refine SE.fn kx kx.F.f_name_at (by kernel_rfl) ?_
      walk_at "w"
      refine (name_at_sf kx.F (kx.le (by decide)) m13 (by (first | lia | omega)) (by (first | lia | omega)) hlm2).thnRB ?_
      intro ln2 S₁₄ hb14 hln2 x14 e14
      rw [hta] at e14
      walk_at "w"
      refine (find_extent_sf kx.F (kx.le (by decide)) (W13.ext x14) (by (first | lia | omega)) (by (first | lia | omega)) (by (first | lia | omega)) L10.dir hu e14 (seg_len (by (first | lia | omega)))).thnAB ?_
      intro v S₁₅ hb15 x15 hv
      have x1315 := x14.trans x15
      refine ST.name (kx.isV (by kernel_rfl)) ?_
      have D15 := W13.ext x1315
      have m15 := x1315.2 _ _ m13
      have v15 := x1315.2 _ _ v13
      have p15 := p13.ext x1315
      have ch15 : Chg [lp, lm, ld, lg, lv] S S₁₅ := ch13.trans (x1315.chg _)
      have hlv14 : lv < S₁₄.nx := hb14 lv (by rw [x14.2 _ _ v13]; simp)
      -- the state once the law's list has the block
      have app : G2 = G ++ [(b : Int)] → Chg [lp, lm, ld, lg, lv] S (S₁₅.put lv (.list (IL G ++ [.int b]))) ∧ LW C'.KF (S₁₅.put lv (.list (IL G ++ [.int b]))) dk dd ld lg lm lv N data2 mem2 G2 ∧ G2.length ≤ G.length + 1 ∧ PW (S₁₅.put lv (.list (IL G ++ [.int b]))) lp lb bs (k + 1 + 1) := fun hG => by
        have cp : Chg [lv] S₁₅ (S₁₅.put lv (.list (IL G ++ [.int b]))) := (Chg.refl _ _).put (by simp)
        refine ⟨ch15.trans (cp.mono (by simp)), ⟨⟨D15.ne, cp.2 _ _ (by simpa using ne_of_ao D15.dk v15 (by first | exact ao_ld | exact ao_dl | exact ao_li | exact ao_il | exact ao_di | exact ao_id | exact ao_tl | exact ao_lt | (intro q; cases q))) D15.dk, cp.2 _ _ (by simpa using ne_of_ao D15.dd v15 (by first | exact ao_ld | exact ao_dl | exact ao_li | exact ao_il | exact ao_di | exact ao_id | exact ao_tl | exact ao_lt | (intro q; cases q))) D15.dd, cp.2 _ _ (by simpa using W.n4.symm) D15.ld, cp.2 _ _ (by simpa using W.n5.symm) D15.lg⟩, cp.2 _ _ (by simpa using W.n3.symm) m15, ?_, W.n1, W.n2, W.n3, W.n4, W.n5⟩, ?_, ⟨cp.2 _ _ (by simpa using p15.off v15) p15.p, cp.2 _ _ (by simpa using b4) p15.b⟩⟩
        · rw [put_at, hG]; simp [IL]
        · rw [hG]; simp
      refine SL.cons (SS.ifs ?_)
      walk_at "w"
      rcases hw with ⟨hh, hh2, hG⟩ | ⟨n, hh, hh2, hw⟩
      · rw [hh2] at hv
        subst hv
        refine .inl ⟨rfl, ?_⟩
        show SL _ _ _ _ _ _ _
        refine SL.cons (SS.expr (SE.meth lm_append (SE.name (by walk_at "lk") ⟨lv, _, rfl, v15, ?_⟩ (by decide +kernel))))
        walk_at "w"
        refine SC.append v15 (by rw [IL_len]; (first | lia | omega)) ?_
        obtain ⟨q1, q2, q3, q4⟩ := app hG
        refine SL.nil (SL.cons (SS.ret (SE.or2 ?_)))
        walk_at "w"
        refine .inl ⟨rfl, ?_⟩
        exact ⟨rfl, q1, data2, mem2, G2, q2, L10, q3, q4⟩
      obtain ⟨hn4, hun⟩ := foundN_hd hh2
      have ml : (mapN data2 n).length = 16 := seg_len (by (first | lia | omega))
      have hkn' : kn = gI (mapN data n) slot := by
        rcases hkn with ⟨e, _⟩ | ⟨n', e, hk'⟩
        · rw [hh] at e; cases e
        · rw [hh] at e; cases e; exact hk'
      rw [hh2] at hv
      subst hkn'
      -- the last test
      have fin : ∀ (S₁₆ : St) (fr : Frm), (∃ ltp, v = .ref ltp) → PairAt C'.KF S₁₆ S₁₄.nx data2 v n → fr.lookup ("held" : Str) = some v → fr.lookup ("slot" : Str) = some (.int slot) → fr.lookup ("known" : Str) = some (.int (gI (mapN data n) slot)) → fr.lookup ("block" : Str) = some (.int b) →
          gI (mapN data2 n) slot = (if 0 < gI (mapN data n) slot then gI (mapN data n) slot else (b : Int)) → Chg [lp, lm, ld, lg, lv] S S₁₆ → LW C'.KF S₁₆ dk dd ld lg lm lv N data2 mem2 G2 → G2.length ≤ G.length + 1 → PW S₁₆ lp lb bs (k + 1 + 1) →
          ∀ sts, sts = bd_law_write_right.drop 12 → SL C' fr sts S₁₆ (fun _ S' => WRP C'.KF S dk dd ld lg lm lv lp lb N bs G k .none S')
            (WRP C'.KF S dk dd ld lg lm lv lp lb N bs G k) noX := by
        rintro S₁₆ fr ⟨ltp, rfl⟩ hv g1 g2 g3 g4 hm q1 q2 q3 q4 sts rfl
        obtain ⟨lt', ve, e, hbt', etp, le, de, lr, lq, rfl, E⟩ := hv
        cases e
        rw [seg_map] at E
        refine SL.cons (SS.ret (SE.or2 (SE.cmp (SE.name g1 (SE.cNone ?_) (by decide +kernel)))))
        refine .inl ⟨rfl, ?_⟩
        show SE _ _ _ _ _ _
        refine SE.cmp (SE.sub (SE.attr (SE.tupAt g1 etp (by (first | lia | omega)) (by (first | lia | omega)) rfl ⟨le, _, de, _, _, rfl, E.hle, E.hde, kx.F.g_Entry_map, enD_map, ?_⟩)))
        refine SE.name g2 ?_ (by decide +kernel)
        refine ⟨_, _, .inl E.hlp, by (first | lia | omega), by (first | lia | omega), IL_get (by rw [ml]; (first | lia | omega)), ?_⟩
        rw [show (slot : Int).toNat = slot by (first | lia | omega)]
        refine SE.ifexp (SB.cmp (SE.name g3 (SE.cInt ⟨decide (0 < gI (mapN data n) slot), rfl, ?_⟩) (by decide +kernel)))
        by_cases hp : 0 < gI (mapN data n) slot
        · rw [if_pos hp] at hm
          rw [decide_eq_true hp]
          show SE _ _ _ _ _ _
          refine SE.name g3 ⟨true, congrArg some (decide_eq_true hm), ?_⟩ (by decide +kernel)
          exact ⟨rfl, q1, data2, mem2, G2, q2, L10, q3, q4⟩
        · rw [if_neg hp] at hm
          rw [decide_eq_false hp]
          show SE _ _ _ _ _ _
          refine SE.name g4 ⟨true, congrArg some (decide_eq_true hm), ?_⟩ (by decide +kernel)
          exact ⟨rfl, q1, data2, mem2, G2, q2, L10, q3, q4⟩
      have hr : ∃ ltp, v = .ref ltp := by
        obtain ⟨lt', ve, e, _⟩ := hv
        exact ⟨lt', e⟩
      obtain ⟨ltp, rfl⟩ := id hr
      refine .inl ⟨rfl, ?_⟩
      show SAll _ _ _ _ _ _ _
      walk_at "w"
      rcases hw with ⟨hz0, hbm, hG⟩ | ⟨hpos, hbm, hG⟩
      · refine ⟨false, congrArg some (decide_eq_false (by (first | lia | omega))), ?_⟩
        show SAll _ _ _ _ _ _ _
        walk_at "w"
        refine SL.nil ?_
        refine fin S₁₅ _ hr hv (by walk_at "lk") (by walk_at "lk") (by walk_at "lk") (by walk_at "lk") (by rw [if_neg (by (first | lia | omega))]; exact hbm) ch15 ?_ (by rw [hG]; (first | lia | omega)) p15 _ rfl
        exact ⟨D15, m15, by rw [hG]; exact v15, W.n1, W.n2, W.n3, W.n4, W.n5⟩
      · refine ⟨true, congrArg some (decide_eq_true hpos), ?_⟩
        show SL _ _ _ _ _ _ _
        refine SL.cons (SS.expr (SE.meth lm_append (SE.name (by walk_at "lk") ⟨lv, _, rfl, v15, ?_⟩ (by decide +kernel))))
        walk_at "w"
        refine SC.append v15 (by rw [IL_len]; (first | lia | omega)) ?_
        obtain ⟨q1, q2, q3, q4⟩ := app hG
        refine SL.nil ?_
        exact fin _ _ hr (hv.put hlv14) (by walk_at "lk") (by walk_at "lk") (by walk_at "lk") (by walk_at "lk") (by rw [if_pos hpos]; exact hbm) q1 q2 q3 q4 _ rfl
  · have key : ∀ env : Env, env.scope = sc_law_write_right → swappedStores (asgT (bd_law_write_right.drop 2)) (asgV (bd_law_write_right.drop 2)) env = (pure none : Sem (Option (List Str))) := by
      rintro ⟨sc, b, c, d, e, f, g, h, i⟩ he
      dsimp only at he
      subst he
      kernel_rfl
    exact key _ e2
end
end Mine
end
section
open PySem PySem.W PyProof.Rows PySem.Calls
set_option Elab.async false
set_option maxRecDepth 100000
set_option linter.unusedVariables false
namespace Mine
local macro_rules | `(tactic| walk_at "k") => `(tactic| (refine (?_ : _ = _); kernel_rfl!))
local macro_rules | `(tactic| walk_at "lk") => `(tactic| first | with_reducible exact lookup_here | (refine (?_ : LkAt 1 _ _); walk_at "k") | (refine (?_ : LkAt 2 _ _); walk_at "k") | (refine (?_ : LkAt 3 _ _); walk_at "k") | (refine (?_ : LkAt 4 _ _); walk_at "k") | (refine (?_ : LkAt 5 _ _); walk_at "k") | (refine (?_ : LkAt 6 _ _); walk_at "k") | (refine (?_ : LkAt 7 _ _); walk_at "k") | (refine (?_ : LkAt 8 _ _); walk_at "k") | (refine (?_ : LkAt 9 _ _); walk_at "k") | (refine (?_ : LkAt 10 _ _); walk_at "k") | (refine (?_ : LkAt 11 _ _); walk_at "k") | (refine (?_ : LkAt 12 _ _); walk_at "k") | (refine (?_ : LkAt 13 _ _); walk_at "k") | (refine (?_ : LkAt 14 _ _); walk_at "k") | (refine (?_ : LkAt 15 _ _); walk_at "k") | (refine (?_ : LkAt 16 _ _); walk_at "k"))
local macro_rules | `(tactic| walk_at "nm") => `(tactic| refine SE.name (by walk_at "lk") ?_ (by decide +kernel))
local macro_rules | `(tactic| walk_at "len") => `(tactic| refine SE.blt (id := "len") ((‹Kx _ _ _›).isB (‹Kx _ _ _›).F.b_len (by kernel_rfl) (by kernel_rfl)) ?_)
local macro_rules | `(tactic| walk_at "s") => `(tactic| first
  | ((with_reducible show SE _ _ (Expr.Name _ _) _ _ _); walk_at "nm")
  | with_reducible (first | refine SE.cInt ?_ | refine SE.cNone ?_ | refine SE.cBool ?_ | refine SE.binop ?_ | refine SE.cmp ?_ | refine SE.ifexp ?_ | refine SE.list ?_ | refine SE.tuple ?_ | refine SE.sub ?_ | refine SAs.nil ?_ | refine SAs.cons ?_ | refine SB.cmp ?_ | refine SB.not ?_ | refine SB.boolop ?_ | refine SAll.and ?_ | refine SAll.or ?_ | refine SAll.and_nil ?_ | refine SAll.or_nil ?_ | refine SS.ret ?_ | refine SS.ifs ?_ | refine SL.cons ?_)
  | ((with_reducible show SE _ _ (Expr.Call (Expr.Name (Str.ofString "len") _) _ _ _) _ _ _); walk_at "len"))
local macro_rules | `(tactic| walk_at "w") => `(tactic| ((try ((with_reducible show SL _ _ _ _ _ _ _); refine SL.cons ?_)); repeat walk_at "s"))

noncomputable def bd_law : List Stmt := bdOf (stOf 96)
noncomputable def sc_law : Scope := scOf (stOf 96)
noncomputable def absI (a : Int) : Int := if a < 0 then -a else a
noncomputable def fcb0 (sign : Int) : List Int := [0] ++ ([sign] ++ List.replicate 10 32) ++ List.replicate 24 0
noncomputable def mem0 : List Int := List.replicate 256 0
noncomputable def mem1 : List Int := putM mem0 0 (fcb0 65)
noncomputable def mem2 : List Int := putM mem1 64 (fcb0 66)
theorem mem2_ok : ∀ s, s < 2 → gI mem2 (64 * s + 12) = 0 ∧ gI mem2 (64 * s + 14) % 64 = 0 ∧ gI mem2 (64 * s + 9) < 128 ∧ ∀ j, j < 16 → gI mem2 (64 * s + (16 + j)) = 0 := by decide +kernel
theorem gI_rep {n j : Nat} {v : Int} (h : j < n) : gI (List.replicate n v) j = v := by
  unfold gI
  rw [List.getD_eq_getElem?_getD, List.getElem?_replicate, if_pos h]; rfl
theorem LI.start {N : Nat} (h6 : 6 ≤ N) (h11 : N ≤ 11) : LI N (List.replicate (64 * N) 229) mem2 [] where
  n6 := h6
  n11 := h11
  dl := by simp
  ml := by simp [mem2, mem1, mem0, putM_len]
  ent := fun n hn => .free (gI_rep (by (first | lia | omega)))
  fcb := fun s hs => by
    obtain ⟨a, b, c, d⟩ := mem2_ok s hs
    exact ⟨a, b, c, fun j hj => .inl (d j hj)⟩
  giv := fun x hx => by cases hx
theorem VRs.ints {ρ : Loc → Addr} {nx : Nat} {vs : List Value} {ns : List Int} (h : IntsAre vs ns) : VRs ρ nx (IL ns) vs := by
  induction h with
  | nil => exact .nil
  | cons n t _ ih => exact .cons ⟨t, rfl⟩ ih
theorem SE.sliceToRaw {C : Cx} {fr : Frm} {S : St} {P : AV → St → Prop} {X : St → Prop} {e hi : Expr} {pp pos : Pos} (h : SE C fr e S (fun a S₁ => SE C fr hi S₁ (fun d S₃ => ∃ l j ws ns, a = .ref l ∧ d = .int j ∧ S₃.σ l = some (.raw ws) ∧ IntsAre ws ns ∧ ns.length ≤ 100000 ∧ 0 ≤ j ∧
    P (.ref S₃.nx) (S₃.add (.list ((IL ns).take j.toNat)))) X) X) : SE C fr (.Subscript e (.Slice none (some hi) none pp) pos) S P X := fun c ρ s Q E I F k kx => by
  refine Subscript_ (h c ρ s _ E I F (fun a S₁ ρ₁ h₁ t₁ x p₁ G₁ I₁ r₁ => ?_) kx)
  refine wpAny_Slice (wpAny_evalPart_none (wpAny_evalPart_some (p₁ c ρ₁ _ _ E I₁ (F.go I G₁) (fun d S₃ ρ₃ h₃ t₃ z p₃ G₃ I₃ r₃ => ?_) (kx.step I G₁))))
  refine wpAny_evalPart_none ?_
  obtain ⟨l, j, vws, ns, rfl, rfl, e, hI, hz, h0, p⟩ := p₃
  obtain ⟨hl, rfl⟩ := r₁
  obtain ⟨u2, rfl⟩ := r₃
  have k₃ := (k.step (t₁ := t₁) I G₁).step (t₁ := t₃) I₁ G₃
  rw [← G₃.agree l hl]
  obtain ⟨ob, eo, ho⟩ := I₃.rep l _ e
  have ho : ob = { cls := .type "list", data := .seq vws.toArray } := ho
  subst ho
  have L : h₃.IsList (ρ₃ l) vws.toArray := ⟨_, eo, rfl, _, rfl⟩
  have r : VRs ρ₃ S₃.nx (IL ns) vws.toArray.toList := VRs.ints hI
  have hlen := r.length
  rw [IL_len] at hlen
  have hsz : vws.toArray.size = ns.length := by simpa using hlen
  refine tail_any (L.push _).typeIs list_getitem_lookup (wpAny_getItem_list_slice (L.push _) (Heap.IsSliceOf.new ..) .none (.int j u2) .none (by simp) ?_ (by rw [sizeLine_eq]; (first | lia | omega))) rfl
  have ej : j = ((j.toNat : Nat) : Int) := by (first | lia | omega)
  have hp : slicePick vws.toArray none (some j) none = (vws.toArray.toList.take j.toNat).toArray := by
    rw [ej, slicePick_upto' vws.toArray j.toNat]; rfl
  rw [hp]
  refine k₃.made I₃ (o := .list ((IL ns).take j.toNat)) (ob := { cls := .type "list", data := .seq (vws.toArray.toList.take j.toNat).toArray }) (tk := t₃) ((Kept.push _ _).trans (Kept.push _ _)) ?_ (Heap.get?_push_size _ rfl) ⟨⟨rfl, rfl, rfl⟩, _, _, rfl, ?_⟩ p
  · rw [Heap.size_push]
    cases q : h₃.get? (h₃.objs.size + 1) with
    | none => rfl
    | some o => exact absurd (Heap.lt_size q) (Nat.not_lt.mpr (Nat.le_succ _))
  · show VRs _ _ _ (vws.toArray.toList.take j.toNat)
    refine .ofGet (by simp only [List.length_take, IL_len]; rw [hlen]) fun q x y e1 e2 => ?_
    rw [List.getElem?_take] at e1 e2
    split at e1
    · rename_i hq
      rw [if_pos hq] at e2
      obtain ⟨z, e3, rz⟩ := r.get e1
      rw [e2] at e3; cases e3; exact rz
    · cases e1
theorem SAs.bnd {C : Cx} {fr : Frm} {es : List Expr} {S : St} {PL : List AV → St → Prop} {X : St → Prop} (h : Bnd S → SAs C fr es S PL X) : SAs C fr es S PL X := fun c ρ s Q E pos I F k kx => h I.bnd c ρ s Q E pos I F k kx
section
variable {C : Cx} {S : St}
noncomputable def forB : Stmt → List Stmt | .For _ _ b _ _ => b | _ => []
noncomputable def LJ (K : Frag) (dk dd ld lm lv lp lb : Loc) (N : Nat) (bs : List Int) (ls : Loc) (rw : List Value) (i : Nat) (fr : Frm) (S : St) : Prop :=
  fr = ([("disk", .ref dk), ("memory", .ref lm), ("given", .ref lv), ("pail", .ref lp)] : Frm) ∧ ∃ lg data mem G k, LW K S dk dd ld lg lm lv N data mem G ∧ LI N data mem G ∧ PW S lp lb bs k ∧ k ≤ 2 + 5 * i ∧ G.length ≤ i ∧ lb ≠ lg ∧ S.σ ls = some (.raw rw)
theorem sorted_eq {l a b : List Int} (h1 : a.Perm l) (h2 : b.Perm l) (s1 : a.Pairwise (· ≤ ·)) (s2 : b.Pairwise (· ≤ ·)) : a = b :=
  List.Perm.eq_of_pairwise (fun x y _ _ p q => Int.le_antisymm p q) s1 s2 (h1.trans h2.symm)
theorem turn_sl {m i : Nat} {dk dd ld lm lv lp lb ls : Loc} {rw : List Value} {N : Nat} {bs : List Int} {fr : Frm} (kx : Kx C sc_law.names m) (hm : 11 ≤ m) (e2 : C.env.scope = sc_law) (hb : Bnd S) (hbs : bs.length ≤ 1000) (hi : i < 13) (J : LJ C.KF dk dd ld lm lv lp lb N bs ls rw i fr S) (b1 : lb ≠ lm) (b2 : lb ≠ ld) (b4 : lb ≠ lv) :
    SL C (("turn", .int i) :: fr) (forB (h1 (bd_law.drop 3))) S (fun fr₃ S₃ => ∃ fr₄ S₄, Le fr₄ fr₃ ∧ Sub S₄ S₃ ∧ LJ C.KF dk dd ld lm lv lp lb N bs ls rw (i + 1) fr₄ S₄) (fun v S' => v = .bool true ∧ S'.σ ls = some (.raw rw)) noX := by
  have hn : 11 ≤ C.n := Nat.le_trans hm kx.n
  obtain ⟨rfl, lg, data, mem, G, k, W, L, p, hk, hG, b3, r0⟩ := J
  have hN6 := L.n6
  have hN11 := L.n11
  have hlm := L.ml
  have hdl := L.dl
  -- the deed, the place, the user
  refine SL.cons (SS.swap (xs := ["form", "at", "user"]) ?_ (SE.tuple (SAs.cons ?_)) (by intro _; rfl) ?_)
  · intro x hx
    rcases List.mem_cons.mp hx with rfl | hx
    · exact kx.g (by kernel_rfl)
    · rcases List.mem_cons.mp hx with rfl | hx
      · exact kx.g (by kernel_rfl)
      · rcases List.mem_cons.mp hx with rfl | hx
        · exact kx.g (by kernel_rfl)
        · cases hx
  · refine SE.fn kx kx.F.f_law_scooped (by kernel_rfl) ?_
    walk_at "w"
    refine (scooped_sf kx.F (by (first | lia | omega)) p.p p.b p.ne hbs (by (first | lia | omega)) (by (first | lia | omega))).thn ?_
    rintro v S₁ ⟨⟨form, rfl, hform⟩, c1, p1⟩
    replace p1 := p.draw c1 p1
    have W1 := W.pail p c1
    have r1 := c1.2 _ _ (by simpa using ne_of_ao r0 p.p (by first | exact ao_ld | exact ao_dl | exact ao_li | exact ao_il | exact ao_di | exact ao_id | exact ao_tl | exact ao_lt | (intro q; cases q))) r0
    walk_at "w"
    refine SE.fn kx kx.F.f_law_scooped (by kernel_rfl) ?_
    walk_at "w"
    refine (scooped_sf kx.F (by (first | lia | omega)) p1.p p1.b p1.ne hbs (by (first | lia | omega)) (by (first | lia | omega))).thn ?_
    rintro v S₂ ⟨⟨s, rfl, hs⟩, c2, p2⟩
    replace p2 := p1.draw c2 p2
    have W2 := W1.pail p1 c2
    have r2 := c2.2 _ _ (by simpa using ne_of_ao r1 p1.p (by first | exact ao_ld | exact ao_dl | exact ao_li | exact ao_il | exact ao_di | exact ao_id | exact ao_tl | exact ao_lt | (intro q; cases q))) r1
    refine Bop.mul ?_ (by (first | lia | omega)) (by (first | lia | omega))
    refine SAs.cons (SE.fn kx kx.F.f_law_scooped (by kernel_rfl) ?_)
    walk_at "w"
    refine (scooped_sf kx.F (by (first | lia | omega)) p2.p p2.b p2.ne hbs (by (first | lia | omega)) (by (first | lia | omega))).thnB ?_
    rintro v S₃ hb3 ⟨⟨us, rfl, hus⟩, c3, p3⟩
    replace p3 := p2.draw c3 p3
    have W3 := W2.pail p2 c3
    have r3 := c3.2 _ _ (by simpa using ne_of_ao r2 p2.p (by first | exact ao_ld | exact ao_dl | exact ao_li | exact ao_il | exact ao_di | exact ao_id | exact ao_tl | exact ao_lt | (intro q; cases q))) r2
    refine SAs.nil ⟨by simp, S₃.nx, _, rfl, add_at, rfl, ?_⟩
    have x4 : Ext S₃ (S₃.add (.tuple [.int form, .int (64 * s), .int us])) := (Ext.refl _).add hb3
    have hb4 : Bnd (S₃.add (.tuple [.int form, .int (64 * s), .int us])) := hb3.add
    have W4 := W3.ext x4
    have p4 := p3.ext x4
    have r4 := x4.2 _ _ r3
    generalize S₃.add (.tuple [.int form, .int (64 * s), .int us]) = S₄ at hb4 W4 p4 r4 ⊢
    clear W1 W2 W3 W p1 p2 p3 p x4 hb3 c1 c2 c3 r0 r1 r2 r3
    have rl : ∀ l xs, S₄.σ l = some (.list xs) → ls ≠ l := fun l xs e => ne_of_ao r4 e (by first | exact ao_ld | exact ao_dl | exact ao_li | exact ao_il | exact ao_di | exact ao_id | exact ao_tl | exact ao_lt | (intro q; cases q))
    have rd : ls ≠ dd := ne_of_ao r4 W4.D.dd (by first | exact ao_ld | exact ao_dl | exact ao_li | exact ao_il | exact ao_di | exact ao_id | exact ao_tl | exact ao_lt | (intro q; cases q))
    have hs2 : s < 2 := by (first | lia | omega)
    have ha : (64 * (s : Int)) = ((64 * s : Nat) : Int) := by (first | lia | omega)
    have hu : (us : Int) ≠ 229 := by (first | lia | omega)
    generalize hat : (64 * (s : Int)) = a at ha
    have hta : a.toNat = 64 * s := by (first | lia | omega)
    have hlv : lv < S₄.nx := hb4 lv (by rw [W4.v]; simp)
    have hlbn : lb < S₄.nx := hb4 lb (by rw [p4.b]; simp)
    have dne : ∀ l xs, S₄.σ l = some (.list (IL xs)) → l ≠ dd := fun l xs e => ne_of_ao e W4.D.dd (by first | exact ao_ld | exact ao_dl | exact ao_li | exact ao_il | exact ao_di | exact ao_id | exact ao_tl | exact ao_lt | (intro q; cases q))
    have pdd : lp ≠ dd := ne_of_ao p4.p W4.D.dd (by first | exact ao_ld | exact ao_dl | exact ao_li | exact ao_il | exact ao_di | exact ao_id | exact ao_tl | exact ao_lt | (intro q; cases q))
    -- the end of the turn
    have fin : ∀ (fr : Frm) (S₅ : St) (lg : Loc) (data mem G : List Int) (k : Nat), fr.lookup ("disk" : Str) = some (.ref dk) → fr.lookup ("given" : Str) = some (.ref lv) → Le ([("disk", .ref dk), ("memory", .ref lm), ("given", .ref lv), ("pail", .ref lp)] : Frm) fr →
        LW C.KF S₅ dk dd ld lg lm lv N data mem G → LI N data mem G → PW S₅ lp lb bs k → k ≤ 2 + 5 * (i + 1) → G.length ≤ i + 1 → lb ≠ lg → S₅.σ ls = some (.raw rw) → ∀ sts, sts = (forB (h1 (bd_law.drop 3))).drop 2 →
        SL C fr sts S₅ (fun fr₃ S₃ => ∃ fr₄ S₄, Le fr₄ fr₃ ∧ Sub S₄ S₃ ∧ LJ C.KF dk dd ld lm lv lp lb N bs ls rw (i + 1) fr₄ S₄) (fun v S' => v = .bool true ∧ S'.σ ls = some (.raw rw)) noX := by
      rintro fr S₅ lg data mem G k g1 g2 gle W L p hk hG b3 r5 sts rfl
      refine SL.bnd fun hb5 => ?_
      refine SL.cons (SS.ifs (SB.cmp ?_))
      refine SE.blt (id := "sorted") (kx.isB kx.F.b_sorted (by kernel_rfl) (by kernel_rfl)) (SAs.cons (SE.dGiven kx g1 W.D (SAs.nil (SC.sorted W.D.lg (by (first | lia | omega)) fun o1 q1 q2 => ?_))))
      have hb6 : Bnd (S₅.add (.list (IL o1))) := hb5.add
      have x6 : Ext S₅ (S₅.add (.list (IL o1))) := (Ext.refl _).add hb5
      have l6 : (S₅.add (.list (IL o1))).σ S₅.nx = some (.list (IL o1)) := add_at
      generalize S₅.add (.list (IL o1)) = S₆ at hb6 x6 l6 ⊢
      refine SE.blt (id := "sorted") (kx.isB kx.F.b_sorted (by kernel_rfl) (by kernel_rfl)) (SAs.cons (SE.name g2 (SAs.nil (SC.sorted (x6.2 _ _ W.v) (by (first | lia | omega)) fun o2 r1 r2 => ?_)) (by decide +kernel)))
      have x7 : Ext S₆ (S₆.add (.list (IL o2))) := (Ext.refl _).add hb6
      have l7 : (S₆.add (.list (IL o2))).σ S₆.nx = some (.list (IL o2)) := add_at
      generalize S₆.add (.list (IL o2)) = S₇ at x7 l7 ⊢
      refine ⟨o1, o2, x7.2 _ _ l6, l7, by rw [q1.length_eq]; (first | lia | omega), by rw [r1.length_eq]; (first | lia | omega), .inr ⟨rfl, ?_⟩⟩
      rw [sorted_eq q1 r1 q2 r2, decide_eq_true rfl]
      show SL _ _ _ _ _ _ _
      exact SL.nil (SL.nil ⟨_, _, gle, Sub.refl _, rfl, lg, data, mem, G, k, W.ext (x6.trans x7), L, p.ext (x6.trans x7), hk, hG, b3, (x6.trans x7).2 _ _ r5⟩)
    have gle : Le ([("disk", .ref dk), ("memory", .ref lm), ("given", .ref lv), ("pail", .ref lp)] : Frm) ([("form", .int form), ("at", .int a), ("user", .int us), ("turn", .int i), ("disk", .ref dk), ("memory", .ref lm), ("given", .ref lv), ("pail", .ref lp)] : Frm) :=
      .cons (by walk_at "lk") (.cons (by walk_at "lk") (.cons (by walk_at "lk") (.cons (by walk_at "lk") (.nil _))))
    have hN15 : N ≤ 15 := by (first | lia | omega)
    have h128 : 128 ≤ data.length := by (first | lia | omega)
    have h1000 : data.length ≤ 1000 := by (first | lia | omega)
    show SL C ([("form", .int form), ("at", .int a), ("user", .int us), ("turn", .int i), ("disk", .ref dk), ("memory", .ref lm), ("given", .ref lv), ("pail", .ref lp)] : Frm) _ _ _ _ _
    refine SL.cons (SS.ifs ?_)
    walk_at "w"
    by_cases f0 : form = 0
    · subst f0
      refine ⟨true, rfl, ?_⟩
      show SL _ _ _ _ _ _ _
      refine SL.cons (SS.ifs (SB.cmp (SE.fn kx kx.F.f_make_file (by kernel_rfl) ?_)))
      walk_at "w"
      refine (make_file_sf kx.F (by (first | lia | omega)) W4.D hN15 h128 h1000 W4.m (by (first | lia | omega)) (by (first | lia | omega)) hlm (by rw [hta]; exact L.f12 hs2) W4.n1 W4.n2).thnB ?_
      have h14 : LI N data (mem.set (64 * s + 14) 0) G := L.set14 hs2 rfl
      have key : ∀ S₅, Bnd S₅ → ∀ data' mem', Chg [lm, ld] S₄ S₅ → S₅.σ lm = some (.list (IL mem')) → S₅.σ ld = some (.list (IL data')) → LI N data' mem' G → LW C.KF S₅ dk dd ld lg lm lv N data' mem' G ∧ PW S₅ lp lb bs (k + 1 + 1 + 1) := fun S₅ _ data' mem' c5 m5 e5 L5 => by
        refine ⟨⟨⟨W4.D.ne, c5.2 _ _ ?_ W4.D.dk, c5.2 _ _ ?_ W4.D.dd, e5, c5.2 _ _ ?_ W4.D.lg⟩, m5, c5.2 _ _ ?_ W4.v, W4.n1, W4.n2, W4.n3, W4.n4, W4.n5⟩, ⟨c5.2 _ _ ?_ p4.p, c5.2 _ _ ?_ p4.b⟩⟩
        · simp [ne_of_ao W4.D.dk W4.m (by first | exact ao_ld | exact ao_dl | exact ao_li | exact ao_il | exact ao_di | exact ao_id | exact ao_tl | exact ao_lt | (intro q; cases q)), ne_of_ao W4.D.dk W4.D.ld (by first | exact ao_ld | exact ao_dl | exact ao_li | exact ao_il | exact ao_di | exact ao_id | exact ao_tl | exact ao_lt | (intro q; cases q))]
        · simp [ne_of_ao W4.D.dd W4.m (by first | exact ao_ld | exact ao_dl | exact ao_li | exact ao_il | exact ao_di | exact ao_id | exact ao_tl | exact ao_lt | (intro q; cases q)), ne_of_ao W4.D.dd W4.D.ld (by first | exact ao_ld | exact ao_dl | exact ao_li | exact ao_il | exact ao_di | exact ao_id | exact ao_tl | exact ao_lt | (intro q; cases q))]
        · simp [W4.n2, W4.D.ne]
        · simp [W4.n3, W4.n4]
        · simp [p4.off W4.m, p4.off W4.D.ld]
        · simp [b1, b2]
      rintro v S₅ hb5 ⟨c5, alt⟩
      have r5 := c5.2 _ _ (by simp [rl _ _ W4.m, rl _ _ W4.D.ld]) r4
      have alt' : ∃ (x : Int) (data' mem' : List Int), v = .int x ∧ (x = 255 ∨ x = 0) ∧ LW C.KF S₅ dk dd ld lg lm lv N data' mem' G ∧ PW S₅ lp lb bs (k + 1 + 1 + 1) ∧ LI N data' mem' G := by
        rcases alt with ⟨rfl, m5, e5⟩ | ⟨rfl, n, hn4, hfree, e5, m5⟩
        · rw [hta] at m5
          obtain ⟨q1, q2⟩ := key S₅ hb5 _ _ c5 m5 e5 h14
          exact ⟨255, _, _, rfl, .inl rfl, q1, q2, h14⟩
        · rw [hta] at m5 e5
          have hlm' := h14.ml
          have L5 : LI N _ _ G := (h14.begin hs2).make hs2 hn4 (u := us) (raw := seg (mem.set (64 * s + 14) 0) (64 * s + 1) 11) (seg_len (by (first | lia | omega))) (by rw [gI_seg (by (first | lia | omega))]; exact h14.f9 hs2)
          obtain ⟨q1, q2⟩ := key S₅ hb5 _ _ c5 m5 e5 L5
          exact ⟨0, _, _, rfl, .inr rfl, q1, q2, L5⟩
      obtain ⟨x, data', mem', rfl, hx, W5, p5, L5⟩ := alt'
      refine SE.tuple (SAs.cons (SE.cInt (SAs.cons (SE.cInt (SAs.cons (SE.cInt (SAs.cons (SE.cInt (SAs.cons (SE.cInt (SAs.nil ⟨by simp, ?_⟩)))))))))))
      have x6 : Ext S₅ (S₅.add (.tuple [.int 0, .int 1, .int 2, .int 3, .int 255])) := (Ext.refl _).add hb5
      refine ⟨[0, 1, 2, 3, 255], .inr add_at, .inr ⟨rfl, ?_⟩⟩
      have hany : ([0, 1, 2, 3, 255] : List Int).any (· == x) = true := by rcases hx with rfl | rfl <;> rfl
      rw [hany]
      show SL _ _ _ _ _ _ _
      refine SL.nil (SL.nil ?_)
      exact fin _ _ lg data' mem' G _ (by walk_at "lk") (by walk_at "lk") gle (W5.ext x6) L5 (p5.ext x6) (by (first | lia | omega)) (by (first | lia | omega)) b3 (x6.2 _ _ r5) _ rfl
    refine ⟨false, congrArg some (decide_eq_false (by (first | lia | omega))), ?_⟩
    show SL _ _ _ _ _ _ _
    refine SL.cons (SS.ifs ?_)
    walk_at "w"
    by_cases f1 : form = 1
    · subst f1
      refine ⟨true, rfl, ?_⟩
      show SL _ _ _ _ _ _ _
      refine SL.cons (SS.expr (SE.fn kx kx.F.f_delete_file (by kernel_rfl) ?_))
      walk_at "w"
      refine (delete_file_sf kx.F (by (first | lia | omega)) W4.D (by (first | lia | omega)) h128 h1000 L.dir hu W4.m (by (first | lia | omega)) (by (first | lia | omega)) hlm ?_).thn ?_
      · intro n hn
        obtain ⟨q1, q2⟩ : n < 4 ∧ gI data (32 * n) = us := by
          refine ⟨foundN_lt hn, ?_⟩
          unfold foundN at hn
          have := (List.mem_filter.mp hn).2
          simp at this
          exact this.1
        exact L.e9 q1 (by rw [q2]; exact hu)
      rintro v S₅ ⟨c5, e5⟩
      refine SL.nil (SL.nil ?_)
      refine fin _ S₅ lg _ mem G _ (by walk_at "lk") (by walk_at "lk") gle ⟨W4.D.toData c5 e5, c5.2 _ _ (by simpa using W4.n1.symm) W4.m, c5.2 _ _ (by simpa using W4.n4) W4.v, W4.n1, W4.n2, W4.n3, W4.n4, W4.n5⟩ (L.erase _ _ fun n hn => foundN_lt hn) ⟨c5.2 _ _ (by simpa using p4.off W4.D.ld) p4.p, c5.2 _ _ (by simpa using b2) p4.b⟩ (by (first | lia | omega)) (by (first | lia | omega)) b3 (c5.2 _ _ (by simpa using rl _ _ W4.D.ld) r4) _ rfl
    refine ⟨false, congrArg some (decide_eq_false (by (first | lia | omega))), ?_⟩
    show SL _ _ _ _ _ _ _
    refine SL.cons (SS.ifs ?_)
    walk_at "w"
    by_cases f6 : form = 6
    · subst f6
      refine ⟨true, rfl, ?_⟩
      show SL _ _ _ _ _ _ _
      refine SL.cons (SS.expr (SE.fn kx kx.F.f_forget_given (by kernel_rfl) ?_))
      walk_at "w"
      refine (forget_given_sf kx.F (by (first | lia | omega)) W4.D).thn ?_
      rintro v S₅ ⟨c5, lg', hlg', D5⟩
      have v5 := c5.2 _ _ (by simpa using dne _ _ W4.v) W4.v
      have m5 := c5.2 _ _ (by simpa using dne _ _ W4.m) W4.m
      have p5 : PW S₅ lp lb bs (k + 1 + 1 + 1) := ⟨c5.2 _ _ (by simpa using pdd) p4.p, c5.2 _ _ (by simpa using dne _ _ p4.b) p4.b⟩
      refine SL.cons (SS.expr (SE.meth lm_clear (SE.name (by walk_at "lk") ⟨lv, _, rfl, v5, ?_⟩ (by decide +kernel)) (hsh := fun _ => sh_no rfl)))
      refine SAs.nil (SC.clear v5 (by rw [IL_len]; (first | lia | omega)) ?_)
      have c6 : Chg [lv] S₅ (S₅.put lv (.list [])) := (Chg.refl _ _).put (by simp)
      have e6 : (S₅.put lv (.list [])).σ lv = some (.list (IL [])) := put_at
      generalize S₅.put lv (.list []) = S₆ at c6 e6 ⊢
      have nlg : lg' ≠ lm := fun z => absurd (hb4 lm (by rw [W4.m]; simp)) (by rw [← z]; exact Nat.not_lt.mpr hlg')
      have nlv : lv ≠ lg' := Nat.ne_of_lt (Nat.lt_of_lt_of_le hlv hlg')
      refine SL.nil (SL.nil (SL.nil ?_))
      refine fin _ S₆ lg' data mem [] _ (by walk_at "lk") (by walk_at "lk") gle ⟨⟨D5.ne, c6.2 _ _ (by simpa using ne_of_ao D5.dk v5 (by first | exact ao_ld | exact ao_dl | exact ao_li | exact ao_il | exact ao_di | exact ao_id | exact ao_tl | exact ao_lt | (intro q; cases q))) D5.dk, c6.2 _ _ (by simpa using ne_of_ao D5.dd v5 (by first | exact ao_ld | exact ao_dl | exact ao_li | exact ao_il | exact ao_di | exact ao_id | exact ao_tl | exact ao_lt | (intro q; cases q))) D5.dd, c6.2 _ _ (by simpa using W4.n4.symm) D5.ld, c6.2 _ _ (by simpa using nlv.symm) D5.lg⟩, c6.2 _ _ (by simpa using W4.n3.symm) m5, e6, W4.n1, nlg, W4.n3, W4.n4, nlv⟩ (L.given fun x hx => by cases hx) ⟨c6.2 _ _ (by simpa using p5.off v5) p5.p, c6.2 _ _ (by simpa using b4) p5.b⟩ (by (first | lia | omega)) (by simp) (Nat.ne_of_lt (Nat.lt_of_lt_of_le hlbn hlg')) (c6.2 _ _ (by simpa using rl _ _ W4.v) (c5.2 _ _ (by simpa using rd) r4)) _ rfl
    refine ⟨false, congrArg some (decide_eq_false (by (first | lia | omega))), ?_⟩
    show SL _ _ _ _ _ _ _
    refine SL.cons (SS.ifs ?_)
    walk_at "w"
    by_cases f2 : form = 2
    · subst f2
      refine ⟨true, rfl, ?_⟩
      show SL _ _ _ _ _ _ _
      refine SL.cons (SS.ifs (SB.not (SB.val (by intro _ _; rfl) (SE.fn kx kx.F.f_law_close_right (by kernel_rfl) ?_))))
      walk_at "w"
      refine (close_right_sf (s := s) kx.F (by (first | lia | omega)) W4 L (by (first | lia | omega)) hu hs2 ha).thn ?_
      rintro v S₅ ⟨rfl, c5, lg', data', mem', G', hlg', W5, L5, hG'⟩
      show SL _ _ _ _ _ _ _
      refine SL.nil (SL.nil (SL.nil (SL.nil (SL.nil ?_))))
      refine fin _ S₅ lg' data' mem' G' _ (by walk_at "lk") (by walk_at "lk") gle W5 L5 ⟨c5.2 _ _ ?_ p4.p, c5.2 _ _ ?_ p4.b⟩ (by (first | lia | omega)) (by (first | lia | omega)) ?_ (c5.2 _ _ (by simp [rl _ _ W4.m, rl _ _ W4.D.ld, rl _ _ W4.v, rd]) r4) _ rfl
      · simp [p4.off W4.m, p4.off W4.D.ld, p4.off W4.v, pdd]
      · simp [b1, b2, b4, dne _ _ p4.b]
      · rcases hlg' with rfl | z
        · exact b3
        · exact Nat.ne_of_lt (Nat.lt_of_lt_of_le hlbn z)
    refine ⟨false, congrArg some (decide_eq_false (by (first | lia | omega))), ?_⟩
    show SL _ _ _ _ _ _ _
    refine SL.cons (SS.ifs (SB.not (SB.val (by intro _ _; rfl) (SE.fn kx kx.F.f_law_write_right (by kernel_rfl) ?_))))
    walk_at "w"
    refine (write_right_sf (s := s) kx.F hn W4 p4 hbs (by (first | lia | omega)) b1 b2 b3 b4 L (by (first | lia | omega)) hu hs2 ha).thn ?_
    rintro v S₅ ⟨rfl, c5, data', mem', G', W5, L5, hG', p5⟩
    show SL _ _ _ _ _ _ _
    refine SL.nil (SL.nil (SL.nil (SL.nil (SL.nil ?_))))
    exact fin _ S₅ lg data' mem' G' _ (by walk_at "lk") (by walk_at "lk") gle W5 L5 p5 (by (first | lia | omega)) (by (first | lia | omega)) b3 (c5.2 _ _ (by simp [rl _ _ p4.p, rl _ _ W4.m, rl _ _ W4.D.ld, rl _ _ W4.D.lg, rl _ _ W4.v]) r4) _ rfl
  · have key : ∀ env : Env, env.scope = sc_law → swappedStores (asgT (forB (h1 (bd_law.drop 3)))) (asgV (forB (h1 (bd_law.drop 3)))) env = (pure (some ["form", "at", "user"]) : Sem (Option (List Str))) := by
      rintro ⟨sc, b, c, d, e, f, g, h, i⟩ he
      dsimp only at he
      subst he
      kernel_rfl
    exact key _ e2
end
end Mine
end
section
open PySem PySem.W PyProof.Rows PySem.Calls
set_option Elab.async false
set_option maxRecDepth 100000
set_option linter.unusedVariables false
namespace Mine
local macro_rules | `(tactic| walk_at "k") => `(tactic| (refine (?_ : _ = _); kernel_rfl!))
local macro_rules | `(tactic| walk_at "lk") => `(tactic| first | with_reducible exact lookup_here | (refine (?_ : LkAt 1 _ _); walk_at "k") | (refine (?_ : LkAt 2 _ _); walk_at "k") | (refine (?_ : LkAt 3 _ _); walk_at "k") | (refine (?_ : LkAt 4 _ _); walk_at "k") | (refine (?_ : LkAt 5 _ _); walk_at "k") | (refine (?_ : LkAt 6 _ _); walk_at "k") | (refine (?_ : LkAt 7 _ _); walk_at "k") | (refine (?_ : LkAt 8 _ _); walk_at "k") | (refine (?_ : LkAt 9 _ _); walk_at "k") | (refine (?_ : LkAt 10 _ _); walk_at "k") | (refine (?_ : LkAt 11 _ _); walk_at "k") | (refine (?_ : LkAt 12 _ _); walk_at "k") | (refine (?_ : LkAt 13 _ _); walk_at "k") | (refine (?_ : LkAt 14 _ _); walk_at "k") | (refine (?_ : LkAt 15 _ _); walk_at "k") | (refine (?_ : LkAt 16 _ _); walk_at "k"))
local macro_rules | `(tactic| walk_at "nm") => `(tactic| refine SE.name (by walk_at "lk") ?_ (by decide +kernel))
local macro_rules | `(tactic| walk_at "len") => `(tactic| refine SE.blt (id := "len") ((‹Kx _ _ _›).isB (‹Kx _ _ _›).F.b_len (by kernel_rfl) (by kernel_rfl)) ?_)
local macro_rules | `(tactic| walk_at "s") => `(tactic| first
  | ((with_reducible show SE _ _ (Expr.Name _ _) _ _ _); walk_at "nm")
  | with_reducible (first | refine SE.cInt ?_ | refine SE.cNone ?_ | refine SE.cBool ?_ | refine SE.binop ?_ | refine SE.cmp ?_ | refine SE.ifexp ?_ | refine SE.list ?_ | refine SE.tuple ?_ | refine SE.sub ?_ | refine SAs.nil ?_ | refine SAs.cons ?_ | refine SB.cmp ?_ | refine SB.not ?_ | refine SB.boolop ?_ | refine SAll.and ?_ | refine SAll.or ?_ | refine SAll.and_nil ?_ | refine SAll.or_nil ?_ | refine SS.ret ?_ | refine SS.ifs ?_ | refine SL.cons ?_)
  | ((with_reducible show SE _ _ (Expr.Call (Expr.Name (Str.ofString "len") _) _ _ _) _ _ _); walk_at "len"))
local macro_rules | `(tactic| walk_at "w") => `(tactic| ((try ((with_reducible show SL _ _ _ _ _ _ _); refine SL.cons ?_)); repeat walk_at "s"))

theorem turnTT {l lt : Loc} {i n : Nat} {us : List AV} {a b : AV} {S' : St} {fr : Frm} {x y : Str} {G : Frm → St → Prop} (e : S'.σ l = some (.tuple us)) (hn : us.length = n) (hv : us[i]? = some (.ref lt)) (et : S'.σ lt = some (.tuple [a, b])) (h : G ((y, b) :: (x, a) :: fr) S') : avT l n (bT x y) i S' ∧ ∀ fr₁ S₂, itT l (bT x y) i fr S' fr₁ S₂ → G fr₁ S₂ := by
  refine ⟨⟨us, e, hn, fun _ => ⟨_, hv, fun fr => ⟨_, lt, _, _, rfl, et, rfl⟩⟩⟩, ?_⟩
  rintro _ _ ⟨rfl, us', v', a1, a2, lt', u1, u2, rfl, et', rfl⟩
  rw [e] at a1; cases a1
  rw [hv] at a2; cases a2
  rw [et] at et'; cases et'
  exact h
section
variable {C : Cx} {S : St}
theorem law_go {m : Nat} {rw : List Value} {ls dk dd ld lg lm lv lp lb : Loc} {N : Nat} {bs : List Int} (kx : Kx C sc_law.names m) (hm : 11 ≤ m) (e2 : C.env.scope = sc_law) (hb : Bnd S) (hbs : bs.length ≤ 1000) (W : LW C.KF S dk dd ld lg lm lv N (List.replicate (64 * N) 229) mem0 []) (p : PW S lp lb bs 1) (b1 : lb ≠ lm) (b2 : lb ≠ ld) (b3 : lb ≠ lg) (b4 : lb ≠ lv) (h6 : 6 ≤ N) (h11 : N ≤ 11) (r : S.σ ls = some (.raw rw)) :
    SL C [("disk", .ref dk), ("memory", .ref lm), ("given", .ref lv), ("pail", .ref lp), ("script", .ref ls)] (bd_law.drop 2) S (fun _ _ => False) (fun v S' => v = .bool true ∧ S'.σ ls = some (.raw rw)) noX := by
  have hn : 11 ≤ C.n := Nat.le_trans hm kx.n
  refine SL.less (S' := S) (fr' := [("disk", .ref dk), ("memory", .ref lm), ("given", .ref lv), ("pail", .ref lp)]) (.cons (by walk_at "lk") (.cons (by walk_at "lk") (.cons (by walk_at "lk") (.cons (by walk_at "lk") (.nil _))))) (Sub.refl _) ?_
  refine SL.cons (SS.for ⟨kx.isV (by kernel_rfl), kx.isV (by kernel_rfl)⟩ (SI.tuple (.T _ _ _ _ _ _) (SE.tuple (SAs.cons (SE.tuple (SAs.cons (SE.cInt (SAs.cons (SE.cInt (SAs.nil ⟨by simp, ?_⟩))))))))))
  have hb1 : Bnd (S.add (.tuple [.int 0, .int 65])) := hb.add
  have x1 : Ext S (S.add (.tuple [.int 0, .int 65])) := (Ext.refl _).add hb
  have l1 : (S.add (.tuple [.int 0, .int 65])).σ S.nx = some (.tuple [.int 0, .int 65]) := add_at
  generalize S.add (.tuple [.int 0, .int 65]) = S₁ at hb1 x1 l1 ⊢
  refine SAs.cons (SE.tuple (SAs.cons (SE.cInt (SAs.cons (SE.cInt (SAs.nil ⟨by simp, ?_⟩))))))
  have hb2 : Bnd (S₁.add (.tuple [.int 64, .int 66])) := hb1.add
  have x2 : Ext S₁ (S₁.add (.tuple [.int 64, .int 66])) := (Ext.refl _).add hb1
  have l2 : (S₁.add (.tuple [.int 64, .int 66])).σ S₁.nx = some (.tuple [.int 64, .int 66]) := add_at
  generalize S₁.add (.tuple [.int 64, .int 66]) = S₂ at hb2 x2 l2 ⊢
  refine SAs.nil ⟨by simp, ?_⟩
  have hb3 : Bnd (S₂.add (.tuple [.ref S.nx, .ref S₁.nx])) := hb2.add
  have x3 : Ext S₂ (S₂.add (.tuple [.ref S.nx, .ref S₁.nx])) := (Ext.refl _).add hb2
  have l3 : (S₂.add (.tuple [.ref S.nx, .ref S₁.nx])).σ S₂.nx = some (.tuple [.ref S.nx, .ref S₁.nx]) := add_at
  have m1 := (x2.trans x3).2 _ _ l1
  have m2 := x3.2 _ _ l2
  have x13 := x1.trans (x2.trans x3)
  generalize S₂.add (.tuple [.ref S.nx, .ref S₁.nx]) = S₃ at hb3 x13 m1 m2 l3 ⊢
  clear x1 x2 x3 l1 l2 hb1 hb2
  generalize S₂.nx = l3' at l3 ⊢
  generalize S₁.nx = l2' at l3 m2 ⊢
  generalize S.nx = l1' at l3 m1 ⊢
  refine ⟨l3', _, rfl, l3, ?_⟩
  have W3 := W.ext x13
  have p3 := p.ext x13
  have r3 := x13.2 _ _ r
  have offm : ∀ l o, S₃.σ l = some (.tuple o) → l ≠ lm := fun l o e => ne_of_ao e W3.m (by first | exact ao_ld | exact ao_dl | exact ao_li | exact ao_il | exact ao_di | exact ao_id | exact ao_tl | exact ao_lt | (intro q; cases q))
  refine ⟨fun i fr' S' => fr' = ([("disk", .ref dk), ("memory", .ref lm), ("given", .ref lv), ("pail", .ref lp)] : Frm) ∧ Chg [lm] S₃ S' ∧ S'.σ lm = some (.list (IL (if i = 0 then mem0 else if i = 1 then mem1 else mem2))), ⟨?_, .refl _ _, W3.m⟩, ?_, ?_⟩
  · rfl
  · refine jT2 fun i S' c em hi => ?_
    have l3a := c.2 _ _ (by simpa using offm _ _ l3) l3
    have m1a := c.2 _ _ (by simpa using offm _ _ m1) m1
    have m2a := c.2 _ _ (by simpa using offm _ _ m2) m2
    have step : ∀ (sg a : Int) (mm : List Int) (fr₁ : Frm) (sts : List Stmt), sts = forB (h1 (bd_law.drop 2)) → fr₁.lookup ("at" : Str) = some (.int a) → fr₁.lookup ("sign" : Str) = some (.int sg) → fr₁.lookup ("memory" : Str) = some (.ref lm) → Le ([("disk", .ref dk), ("memory", .ref lm), ("given", .ref lv), ("pail", .ref lp)] : Frm) fr₁ →
        0 ≤ a → a + 36 ≤ 256 → S'.σ lm = some (.list (IL mm)) → mm.length = 256 →
        SL C fr₁ sts S' (fun fr₃ S₃' => ∃ fr₄ S₄, Le fr₄ fr₃ ∧ Sub S₄ S₃' ∧ fr₄ = ([("disk", .ref dk), ("memory", .ref lm), ("given", .ref lv), ("pail", .ref lp)] : Frm) ∧ Chg [lm] S₃ S₄ ∧ S₄.σ lm = some (.list (IL (putM mm a.toNat (fcb0 sg))))) (fun v S' => v = .bool true ∧ S'.σ ls = some (.raw rw)) noX := by
      rintro sg a mm fr₁ sts rfl g1 g2 g3 gle h0 h36 emm hmm
      refine SL.cons (SS.expr (SE.fn kx kx.F.f_put_octets (by kernel_rfl) (SAs.cons (SE.name g3 (SAs.cons (SE.name g1 (SAs.cons (SE.fn kx kx.F.f_new_fcb (by kernel_rfl) (SAs.cons (SE.cInt (SAs.cons ?_)))) ) (by decide +kernel))) (by decide +kernel)))))
      refine SE.bnd fun hb4 => SE.binop (SE.list (SAs.cons (SE.name g2 (SAs.nil ⟨by simp, ?_⟩) (by decide +kernel))))
      have hb5 : Bnd (S'.add (.list [.int sg])) := hb4.add
      have x5 : Ext S' (S'.add (.list [.int sg])) := (Ext.refl _).add hb4
      have l5 : (S'.add (.list [.int sg])).σ S'.nx = some (.list (IL [sg])) := add_at
      generalize S'.add (.list [.int sg]) = S₅ at hb5 x5 l5 ⊢
      refine SE.binop (SE.list (SAs.cons (SE.cInt (SAs.nil ⟨by simp, ?_⟩))))
      have hb6 : Bnd (S₅.add (.list [.int 32])) := hb5.add
      have x6 : Ext S₅ (S₅.add (.list [.int 32])) := (Ext.refl _).add hb5
      have l6 : (S₅.add (.list [.int 32])).σ S₅.nx = some (.list [.int 32]) := add_at
      generalize S₅.add (.list [.int 32]) = S₆ at hb6 x6 l6 ⊢
      refine SE.cInt (Bop.rep l6 (by (first | lia | omega)) (by (first | lia | omega)) ?_)
      rw [show (10 : Int).toNat = 10 by rfl]
      have hb7 : Bnd (S₆.add (.list (IL (List.replicate 10 32)))) := hb6.add
      have x7 : Ext S₆ (S₆.add (.list (IL (List.replicate 10 32)))) := (Ext.refl _).add hb6
      have l7 : (S₆.add (.list (IL (List.replicate 10 32)))).σ S₆.nx = some (.list (IL (List.replicate 10 32))) := add_at
      generalize S₆.add (.list (IL (List.replicate 10 32))) = S₇ at hb7 x7 l7 ⊢
      refine Bop.cat ((x6.trans x7).2 _ _ l5) l7 (by rw [IL_len, IL_len]; simp) ?_
      have x8 : Ext S₇ (S₇.add (.list (IL [sg] ++ IL (List.replicate 10 32)))) := (Ext.refl _).add hb7
      have l8 : (S₇.add (.list (IL [sg] ++ IL (List.replicate 10 32)))).σ S₇.nx = some (.list (IL ([sg] ++ List.replicate 10 32))) := by rw [add_at]; simp [IL]
      generalize S₇.add (.list (IL [sg] ++ IL (List.replicate 10 32))) = S₈ at x8 l8 ⊢
      have x48 := x5.trans (x6.trans (x7.trans x8))
      refine SAs.nil ((new_fcb_sf kx.F (by (first | lia | omega)) l8 (by simp)).thn ?_)
      rintro v S₉ ⟨ln, rfl, hln, x9, l9⟩
      have x49 := x48.trans x9
      have lmb : lm < S'.nx := hb4 lm (by rw [emm]; simp)
      refine SAs.nil ((put_octets_sf kx.F (by (first | lia | omega)) (x49.2 _ _ emm) l9 (Nat.ne_of_gt (Nat.lt_of_lt_of_le lmb (Nat.le_trans x48.1 hln))) h0 (by simp; (first | lia | omega)) hmm).thn ?_)
      rintro v S₁₀ ⟨rfl, c10, m10⟩
      exact SL.nil ⟨_, _, gle, Sub.refl _, rfl, c.trans ((x49.chg _).trans c10), m10⟩
    have hi2 : i = 0 ∨ i = 1 := by simp at hi; (first | lia | omega)
    rcases hi2 with rfl | rfl
    · refine turnTT l3a rfl rfl m1a ?_
      exact step 65 0 mem0 _ _ rfl (by walk_at "lk") (by walk_at "lk") (by walk_at "lk") (.cons (by walk_at "lk") (.cons (by walk_at "lk") (.cons (by walk_at "lk") (.cons (by walk_at "lk") (.nil _))))) (by (first | lia | omega)) (by (first | lia | omega)) em rfl
    · refine turnTT l3a rfl rfl m2a ?_
      exact step 66 64 mem1 _ _ rfl (by walk_at "lk") (by walk_at "lk") (by walk_at "lk") (.cons (by walk_at "lk") (.cons (by walk_at "lk") (.cons (by walk_at "lk") (.cons (by walk_at "lk") (.nil _))))) (by (first | lia | omega)) (by (first | lia | omega)) em (by simp [mem1, mem0, putM_len])
  · refine jE2 fun S' c em => ?_
    refine ⟨⟨_, c.2 _ _ (by simpa using offm _ _ l3) l3, rfl, fun q => absurd q (Nat.lt_irrefl _)⟩, ?_⟩
    have em : S'.σ lm = some (.list (IL mem2)) := em
    have W4 : LW C.KF S' dk dd ld lg lm lv N (List.replicate (64 * N) 229) mem2 [] := ⟨W3.D.toMem c W3.m W.n1 W.n2, em, c.2 _ _ (by simpa using W.n3) W3.v, W.n1, W.n2, W.n3, W.n4, W.n5⟩
    have r4 := c.2 _ _ (by simpa using ne_of_ao r3 W3.m (by first | exact ao_ld | exact ao_dl | exact ao_li | exact ao_il | exact ao_di | exact ao_id | exact ao_tl | exact ao_lt | (intro q; cases q))) r3
    have p4 : PW S' lp lb bs 1 := ⟨c.2 _ _ (by simpa using p3.off W3.m) p3.p, c.2 _ _ (by simpa using b1) p3.b⟩
    refine SL.cons (SS.for (kx.isV (by kernel_rfl)) (SI.range1 (kx.isB kx.F.b_range (by kernel_rfl) (by kernel_rfl)) ?_))
    walk_at "w"
    refine SE.fn kx kx.F.f_law_scooped (by kernel_rfl) ?_
    walk_at "w"
    refine (scooped_sf kx.F (by (first | lia | omega)) p4.p p4.b p4.ne hbs (by (first | lia | omega)) (by (first | lia | omega))).thnB ?_
    rintro v S₅ hb5 ⟨⟨n1, rfl, hn1⟩, c5, p5⟩
    replace p5 := p4.draw c5 p5
    have W5 := W4.pail p4 c5
    have r5 := c5.2 _ _ (by simpa using ne_of_ao r4 p4.p (by first | exact ao_ld | exact ao_dl | exact ao_li | exact ao_il | exact ao_di | exact ao_id | exact ao_tl | exact ao_lt | (intro q; cases q))) r4
    refine Bop.add ⟨_, rfl, by (first | lia | omega), by (first | lia | omega), ?_⟩
    refine ⟨fun i fr' S' => LJ C.KF dk dd ld lm lv lp lb N bs ls rw i fr' S', ?_, ?_, ?_⟩
    · refine ⟨rfl, lg, _, _, [], 2, W5, LI.start h6 h11, p5, by (first | lia | omega), by simp, b3, r5⟩
    · rintro i fr' S'' J hi
      refine ⟨trivial, ?_⟩
      rintro fr₁ S₂ ⟨rfl, rfl⟩
      refine SL.bnd fun hbb => ?_
      rw [show (0 + (i : Int)) = (i : Int) by (first | lia | omega)]
      exact turn_sl kx hm e2 hbb hbs (by (first | lia | omega)) J b1 b2 b4
    · rintro fr' S'' ⟨_, _, _, _, _, _, _, _, _, _, _, _, r9⟩
      refine ⟨trivial, ?_⟩
      walk_at "w"
      exact ⟨rfl, r9⟩
theorem law_sl {m : Nat} {ls : Loc} {vs : List Int} (kx : Kx C sc_law.names m) (hm : 11 ≤ m) (e2 : C.env.scope = sc_law) (e3 : C.env.func.isSome = true) (hb : Bnd S) {rw : List Value} (hls : S.σ ls = some (.raw rw)) (hI : IntsAre rw vs) (hlen : vs.length ≤ 63) :
    SL C [("script", .ref ls)] bd_law S (fun _ _ => False) (fun v S' => v = .bool true ∧ S'.σ ls = some (.raw rw)) noX := by
  have hn : 11 ≤ C.n := Nat.le_trans hm kx.n
  -- the pail
  refine SL.cons (SS.assign (SE.list (SAs.cons ?_)))
  refine SE.comp (frc := []) (CompOk.of kx e2 trivial (by kernel_rfl)) (fun C₂ ic => (kx.comp e2 ic).isV (by kernel_rfl)) (SI.list (.N _ _) (SE.sliceToRaw (SE.name (by walk_at "lk") (SE.cInt ⟨ls, 60, _, _, rfl, rfl, hls, hI, by (first | lia | omega), by (first | lia | omega), ?_⟩) (by decide +kernel))))
  have hb1 : Bnd (S.add (.list ((IL vs).take (60 : Int).toNat))) := hb.add
  have x1 : Ext S (S.add (.list ((IL vs).take (60 : Int).toNat))) := (Ext.refl _).add hb
  have l1 : (S.add (.list ((IL vs).take (60 : Int).toNat))).σ S.nx = some (.list (IL (vs.take 60))) := by rw [add_at]; simp [IL]
  generalize S.add (.list ((IL vs).take (60 : Int).toNat)) = S₁ at hb1 x1 l1 ⊢
  refine ⟨S.nx, _, rfl, l1, ?_⟩
  have hl60 : (vs.take 60).length ≤ 60 := by simp; (first | lia | omega)
  generalize vs.take 60 = us at l1 hl60 ⊢
  refine ⟨fun i ys => ys = IL ((us.take i).map absI), ⟨by simp, by rw [IL_len]; (first | lia | omega), ?_, ?_, ?_⟩, ?_⟩
  · intro i S' fr₁ S₂ _; exact Le.nil _
  · rintro C₂ ic i ys S' hi rfl ex
    have k2 := kx.comp e2 ic
    rw [IL_len] at hi
    have hvv := IL_get (l := us) (i := i) hi
    refine turnLNc (ex.2 _ _ l1) rfl hvv ?_
    have tk : us.take (i + 1) = us.take i ++ [gI us i] := take_snoc (gI_get hi)
    refine ⟨.refl _, ?_⟩
    rw [if_pos rfl]
    refine SE.blt (id := "abs") (k2.isB k2.F.b_abs (by kernel_rfl) (by kernel_rfl)) (SAs.cons (SE.typ (T := "int") (k2.isB k2.F.b_int (by kernel_rfl) (by kernel_rfl)) (SAs.cons (SE.name lookup_here (SAs.nil (SC.int (SAs.nil (SC.abs ⟨.refl _, ?_⟩)))) (by decide +kernel)))))
    show IL ((us.take i).map absI) ++ [AV.int (absI (gI us i))] = IL ((us.take (i + 1)).map absI)
    rw [tk]; simp [IL]
  · intro S' ex; exact ⟨_, ex.2 _ _ l1, rfl, fun q => absurd q (Nat.lt_irrefl _)⟩
  rintro ys S₂ lb rfl x2 hlb elb
  rw [IL_len, List.take_length] at elb
  have hbs : (us.map absI).length ≤ 1000 := by simp; (first | lia | omega)
  generalize us.map absI = bs at elb hbs
  refine SAs.bnd fun hb2 => ?_
  refine SAs.cons (SE.cInt (SAs.nil ⟨by simp, ?_⟩))
  have r2 := (x1.trans x2).2 _ _ hls
  have r3 : (S₂.add (.list [.ref lb, .int 0])).σ ls = some (.raw rw) := add_off hb2 r2
  have p3 : PW (S₂.add (.list [.ref lb, .int 0])) S₂.nx lb bs 0 := ⟨add_at, add_off hb2 elb⟩
  have hb3 : Bnd (S₂.add (.list [.ref lb, .int 0])) := hb2.add
  generalize S₂.add (.list [.ref lb, .int 0]) = S₃ at p3 hb3 r3 ⊢
  generalize S₂.nx = lp at p3 ⊢
  clear x1 x2 hb1 hb2 elb l1 hlb
  refine ST.name (kx.isV (by kernel_rfl)) ?_
  -- the disk, the memory, the list
  refine SL.cons (SS.swap (xs := ["disk", "memory", "given"]) ?_ (SE.tuple (SAs.cons ?_)) (by intro _; rfl) ?_)
  · intro x hx
    rcases List.mem_cons.mp hx with rfl | hx
    · exact kx.g (by kernel_rfl)
    · rcases List.mem_cons.mp hx with rfl | hx
      · exact kx.g (by kernel_rfl)
      · rcases List.mem_cons.mp hx with rfl | hx
        · exact kx.g (by kernel_rfl)
        · cases hx
  · refine SE.new (kx.g (by kernel_rfl)) kx.F.c_Disk.glob kx.F.c_Disk.keep ?_
    walk_at "w"
    refine SE.fn kx kx.F.f_law_scooped (by kernel_rfl) ?_
    walk_at "w"
    refine (scooped_sf kx.F (by (first | lia | omega)) p3.p p3.b p3.ne hbs (by (first | lia | omega)) (by (first | lia | omega))).thn ?_
    rintro v S₄ ⟨⟨n0, rfl, hn0⟩, c4, p4⟩
    replace p4 := p3.draw c4 p4
    refine Bop.add ?_
    rw [show (6 : Int) + n0 = ((6 + n0 : Nat) : Int) by (first | lia | omega)]
    have hN6 : 6 ≤ 6 + n0 := by (first | lia | omega)
    have hN11 : 6 + n0 ≤ 11 := by (first | lia | omega)
    generalize 6 + n0 = N at hN6 hN11 ⊢
    walk_at "w"
    refine (disk_new kx.F (by (first | lia | omega)) (by (first | lia | omega)) (by (first | lia | omega))).thnB ?_
    rintro v S₅ hb5 ⟨x5, dk, dd, ld, lg, rfl, hdd, hdk, hld, hlg, D5⟩
    have p5 := p4.ext x5
    walk_at "w"
    refine ⟨by simp, ?_⟩
    have hb6 : Bnd (S₅.add (.list [.int 0])) := hb5.add
    have x6 : Ext S₅ (S₅.add (.list [.int 0])) := (Ext.refl _).add hb5
    have l6 : (S₅.add (.list [.int 0])).σ S₅.nx = some (.list [.int 0]) := add_at
    generalize S₅.add (.list [.int 0]) = S₆ at hb6 x6 l6 ⊢
    walk_at "w"
    refine Bop.rep l6 (by (first | lia | omega)) (by (first | lia | omega)) ?_
    rw [show (256 : Int).toNat = 256 by rfl]
    have hb7 : Bnd (S₆.add (.list (IL (List.replicate 256 0)))) := hb6.add
    have x7 : Ext S₆ (S₆.add (.list (IL (List.replicate 256 0)))) := (Ext.refl _).add hb6
    have l7 : (S₆.add (.list (IL (List.replicate 256 0)))).σ S₆.nx = some (.list (IL mem0)) := add_at
    have n67 : (S₆.add (.list (IL (List.replicate 256 0)))).nx = S₆.nx + 1 := rfl
    generalize S₆.add (.list (IL (List.replicate 256 0))) = S₇ at hb7 x7 l7 n67 ⊢
    refine SAs.cons (SE.list (SAs.nil ⟨by simp, ?_⟩))
    have hb8 : Bnd (S₇.add (.list [])) := hb7.add
    have x8 : Ext S₇ (S₇.add (.list [])) := (Ext.refl _).add hb7
    have l8 : (S₇.add (.list [])).σ S₇.nx = some (.list (IL [])) := add_at
    generalize S₇.add (.list []) = S₈ at hb8 x8 l8 ⊢
    refine SAs.nil ⟨by simp, S₈.nx, _, rfl, add_at, rfl, ?_⟩
    have hb9 : Bnd (S₈.add (.tuple [.ref dk, .ref S₆.nx, .ref S₇.nx])) := hb8.add
    have x9 : Ext S₈ (S₈.add (.tuple [.ref dk, .ref S₆.nx, .ref S₇.nx])) := (Ext.refl _).add hb8
    generalize S₈.add (.tuple [.ref dk, .ref S₆.nx, .ref S₇.nx]) = S₉ at hb9 x9 ⊢
    have hld5 : ld < S₅.nx := hb5 ld (by rw [D5.ld]; simp)
    have hlg5 : lg < S₅.nx := hb5 lg (by rw [D5.lg]; simp)
    have hlb5 : lb < S₅.nx := hb5 lb (by rw [p5.b]; simp)
    have h56 : S₅.nx ≤ S₆.nx := x6.1
    have h67 : S₆.nx < S₇.nx := by rw [n67]; exact Nat.lt_succ_self _
    have n1 : ld ≠ S₆.nx := Nat.ne_of_lt (Nat.lt_of_lt_of_le hld5 h56)
    have n2 : lg ≠ S₆.nx := Nat.ne_of_lt (Nat.lt_of_lt_of_le hlg5 h56)
    have n3 : S₇.nx ≠ S₆.nx := Nat.ne_of_gt h67
    have n4 : S₇.nx ≠ ld := Nat.ne_of_gt (Nat.lt_trans (Nat.lt_of_lt_of_le hld5 h56) h67)
    have n5 : S₇.nx ≠ lg := Nat.ne_of_gt (Nat.lt_trans (Nat.lt_of_lt_of_le hlg5 h56) h67)
    have b1 : lb ≠ S₆.nx := Nat.ne_of_lt (Nat.lt_of_lt_of_le hlb5 h56)
    have b4 : lb ≠ S₇.nx := Nat.ne_of_lt (Nat.lt_trans (Nat.lt_of_lt_of_le hlb5 h56) h67)
    have hlb3 : lb < S₃.nx := hb3 lb (by rw [p3.b]; simp)
    have b2 : lb ≠ ld := Nat.ne_of_lt (Nat.lt_of_lt_of_le hlb3 (Nat.le_trans c4.1 hld))
    have b3 : lb ≠ lg := Nat.ne_of_lt (Nat.lt_of_lt_of_le hlb3 (Nat.le_trans c4.1 hlg))
    have W9 : LW C.KF S₉ dk dd ld lg S₆.nx S₇.nx N (List.replicate (64 * N) 229) mem0 [] :=
      ⟨D5.ext (x6.trans (x7.trans (x8.trans x9))), (x8.trans x9).2 _ _ l7, x9.2 _ _ l8, n1, n2, n3, n4, n5⟩
    have r9 := (x5.trans (x6.trans (x7.trans (x8.trans x9)))).2 _ _ (c4.2 _ _ (by simpa using ne_of_ao r3 p3.p (by first | exact ao_ld | exact ao_dl | exact ao_li | exact ao_il | exact ao_di | exact ao_id | exact ao_tl | exact ao_lt | (intro q; cases q))) r3)
    have p9 := p5.ext (x6.trans (x7.trans (x8.trans x9)))
    exact law_go kx hm e2 hb9 hbs W9 p9 b1 b2 b3 b4 hN6 hN11 r9
  · have key : ∀ env : Env, env.scope = sc_law → swappedStores (asgT (bd_law.drop 1)) (asgV (bd_law.drop 1)) env = (pure (some ["disk", "memory", "given"]) : Sem (Option (List Str))) := by
      rintro ⟨sc, b, c, d, e, f, g, h, i⟩ he
      dsimp only at he
      subst he
      kernel_rfl
    exact key _ e2
end
end Mine
end
section
open PySem PySem.W PyProof.Rows PySem.Calls
set_option Elab.async false
set_option maxRecDepth 100000
set_option linter.unusedVariables false
namespace Mine
theorem ns_hide {h : Heap} {a b : Addr} {m : Str → Option Value} {o : Obj} {xs : Array Value} {n : Nat} (x : h.Ns b m) (e : h.get? a = some o) (d : o.data = .seq xs n) : (hideAll h [a]).Ns b m := by
  obtain ⟨ob, es, ep, e1, hd, r⟩ := x
  refine ⟨ob, es, ep, hideAll_get _ e1 ?_, hd, r⟩
  intro q
  rw [List.mem_singleton.mp q, e] at e1
  cases e1
  rw [d] at hd
  cases hd
noncomputable def noList (K : Frag) : Bool := K.all fun p => p.2.cls != .type "list"
theorem noList_at {a : Addr} {o : Obj} : ∀ {K : Frag}, noList K = true → K.lookup a = some o → (o.cls != .type "list") = true
  | [], _, e => by cases e
  | (b, ob) :: r, h, e => by
    unfold noList at h
    rw [List.all_cons, Bool.and_eq_true] at h
    rw [List.lookup_cons] at e
    split at e
    · cases e; exact h.1
    · exact noList_at (K := r) h.2 e
theorem law_entry {K : Frag} {w : World} {prog : Program} {p : Program} {loose : List Str} {mg mb : Str → Option Value} {h₀ h₁ : Heap} {fa a : Addr} {cd : Value} {name : Str} {xs : List Value} {ns : List Int} {m : Str → Option Value} {Q : Flow → Shared → Prop} {E : Value → Shared → Prop} {g : Array GenState} {d : PySem.Drawn} {t : Nat} {os : OsState}
    (KX : K.In h₀) (HF : Facts K) (hN : noList K = true) (T : TopRead p loose mg mb h₀) (F : Fr h₀ h₀.objs.size h₁ m) (hm : m "script" = some (.ref a)) (ha : h₀.get? a = some { cls := .type "list", data := .seq xs.toArray }) (hI : IntsAre xs ns) (hlen : ns.length ≤ 63)
    (hfile : prog.main.file = PySem.Challenge.pw_rh0272_01.main.file) (htop : (prog.main.scope.names.lookup ("super" : Str)).isSome = false)
    (hq : ∀ h' tk, (∀ b o, h₀.get? b = some o → h'.get? b = some o) → Q (.ret (.bool true)) ⟨h', g, d, tk, os⟩) :
    wpAny (model prog w) (callerA.deeper (envOf name sc_law h₀.objs.size fa cd)) (execs bd_law (envOf name sc_law h₀.objs.size fa cd)) Q E ⟨h₁, g, d, t, os⟩ := by
  generalize hL : h₀.objs.size = L at F ⊢
  have hLn : h₀.get? L = none := by rw [← hL]; exact fresh_size
  have haL : a ≠ L := fun z => by rw [z, hLn] at ha; cases ha
  have hh : ∀ b o, (hideAll h₀ [a]).get? b = some o → h₀.get? b = some o := fun b o e => of_hideAll _ e
  have hhn : ∀ b, h₀.get? b = none → (hideAll h₀ [a]).get? b = none := fun b e => by
    cases q : (hideAll h₀ [a]).get? b with
    | none => rfl
    | some o => rw [hh b o q] at e; cases e
  let C : Cx := { KF := K, prog := prog, w := w, h₀ := hideAll h₀ [a], n := 20, A := callerA.deeper (envOf name sc_law L fa cd), env := envOf name sc_law L fa cd, envs := [envOf name sc_law L fa cd] }
  have c : COk C := by
    refine ⟨⟨hfile, htop, ?_, ?_⟩, ?_, rfl, ?_, ?_, ?_, rfl, rfl⟩
    · intro b o e
      refine hideAll_get _ (KX b o e) fun q => ?_
      rw [List.mem_singleton.mp q] at e
      have e1 := KX _ _ e
      rw [ha] at e1
      cases e1
      exact absurd (noList_at hN e) (by show ¬ ((Value.type "list" != Value.type "list") = true); decide)
    · obtain ⟨mc, q1, q2⟩ := T.nolimit
      exact ⟨p, loose, mg, mb, ns_hide T.g ha rfl, ns_hide T.b ha rfl, ⟨mc, ns_hide q1 ha rfl, q2⟩, T.builtins, T.free⟩
    · exact Around.frames_deeper rfl
    · show callerA.depth + 1 + 20 < recursionLimit; decide +kernel
    · show callerA.units + 3 + 8 * 20 + 64 < cLine; decide +kernel
    · rfl
  have kx : Kx C sc_law.names 11 := ⟨HF, fun x => rfl, by show 11 ≤ 20; decide⟩
  let S : St := ⟨fun l => if l = 0 then some (.raw xs) else none, 1⟩
  have s0 : S.σ 0 = some (.raw xs) := rfl
  have sn : ∀ l, S.σ l ≠ none → l = 0 := fun l hl => by
    by_cases q : l = 0
    · exact q
    · exact absurd (if_neg q) hl
  have hb : Bnd S := fun l hl => by rw [sn l hl]; exact Nat.zero_lt_one
  obtain ⟨oL, eL, dL, _⟩ := Ns.ob F.ns
  have img : ∀ b, Img (fun _ => a) S b → b = a := fun b ⟨l, _, e⟩ => e.symm
  have I : Inv C.h₀ C.envs (fun _ => a) S h₁ := by
    refine ⟨fun b o e => F.keep b o (hh b o e), hb, fun l o e => ?_, fun l l' e e' _ => by rw [sn l e, sn l' e'], fun l _ => hideAll_none _ (List.mem_singleton.mpr rfl), fun env he => ?_, fun l _ q => ?_⟩
    · have hl := sn l (by rw [e]; simp)
      subst hl
      rw [s0] at e
      cases e
      exact ⟨_, F.keep _ _ ha, rfl⟩
    · rw [List.mem_singleton.mp he]
      exact ⟨by show sc_law.kind ≠ _; decide +kernel, L, oL, rfl, hhn L hLn, eL, dL⟩
    · exact haL (List.mem_singleton.mp q)
  have FR : FrR C.h₀ C.env [("script", .ref 0)] (fun _ => a) S h₁ := by
    refine ⟨fun x v e => ?_, ⟨_, F.ns⟩, fun x hx => ?_, (fun x cc e => by cases e), (fun x y cc e => by cases e), fun q => haL (img _ q).symm, hhn L hLn, (fun x cc e => by cases e)⟩
    · rw [List.lookup_cons] at e
      split at e
      · rename_i hx
        cases e
        rw [beq_iff_eq.mp hx]
        exact .inl ⟨by show sc_law.names.lookup _ = _; kernel_rfl, _, .ref a, F.ns, hm, Nat.zero_lt_one, rfl⟩
      · cases e
    · exfalso
      have hx : sc_law.names.lookup x = some .cell := hx
      have := mem_of_lookup hx
      revert this
      have hall : sc_law.names.all (fun p => p.2 != .cell) = true := by decide +kernel
      intro hmem
      have := List.all_eq_true.mp hall _ hmem
      exact absurd this (by show ¬ ((NameKind.cell != NameKind.cell) = true); decide)
  refine (law_sl kx (by decide) rfl rfl hb s0 hI hlen) c (fun _ => a) S h₀ (fun _ => a) ⟨h₁, g, d, t, os⟩ Q E hb ⟨hLn, fun _ x cc e => by cases e⟩ (Go.kept hb F.keep) I FR (fun _ _ _ _ _ q => q.elim) (fun v S' ρ' h' tk v' q G I' rv => ?_) (fun _ _ _ _ _ q => q.elim)
  obtain ⟨rfl, r⟩ := q
  cases rv
  refine hq h' tk fun b o e => ?_
  by_cases z : b = a
  · subst z
    rw [ha] at e
    cases e
    obtain ⟨ob, eo, ho⟩ := I'.rep 0 _ r
    have ho : ob = { cls := .type "list", data := .seq xs.toArray } := ho
    rw [G.agree 0 Nat.zero_lt_one] at eo
    rw [eo, ho]
  · refine G.keep b o e (fun q => z (img _ q)) fun q => ?_
    rw [List.mem_singleton.mp q, hLn] at e
    cases e
end Mine
end
section
open PySem PySem.W PyProof.Rows
set_option maxRecDepth 100000
namespace Mine
theorem len0 {P : List Value → Prop} (h : P []) : ∀ vs : List Value, vs.length = 0 → P vs := fun vs e => (List.eq_nil_of_length_eq_zero e) ▸ h
theorem lenS {P : List Value → Prop} {n : Nat} (h : ∀ a, ∀ vs : List Value, vs.length = n → P (a :: vs)) : ∀ vs : List Value, vs.length = n + 1 → P vs := fun vs => by
  cases vs with
  | nil => exact fun e => nomatch e
  | cons a vs => exact fun e => h a vs (Nat.succ.inj e)
theorem len1 {P : List Value → Prop} (h : ∀ a0, P [a0]) : ∀ vs : List Value, vs.length = 1 → P vs := lenS fun a => len0 (P := fun vs => P (a :: vs)) (h a)
theorem len2 {P : List Value → Prop} (h : ∀ a0 a1, P [a0, a1]) : ∀ vs : List Value, vs.length = 2 → P vs := lenS fun a => len1 (P := fun vs => P (a :: vs)) (h a)
theorem len3 {P : List Value → Prop} (h : ∀ a0 a1 a2, P [a0, a1, a2]) : ∀ vs : List Value, vs.length = 3 → P vs := lenS fun a => len2 (P := fun vs => P (a :: vs)) (h a)
theorem len4 {P : List Value → Prop} (h : ∀ a0 a1 a2 a3, P [a0, a1, a2, a3]) : ∀ vs : List Value, vs.length = 4 → P vs := lenS fun a => len3 (P := fun vs => P (a :: vs)) (h a)
theorem len5 {P : List Value → Prop} (h : ∀ a0 a1 a2 a3 a4, P [a0, a1, a2, a3, a4]) : ∀ vs : List Value, vs.length = 5 → P vs := lenS fun a => len4 (P := fun vs => P (a :: vs)) (h a)
theorem len6 {P : List Value → Prop} (h : ∀ a0 a1 a2 a3 a4 a5, P [a0, a1, a2, a3, a4, a5]) : ∀ vs : List Value, vs.length = 6 → P vs := lenS fun a => len5 (P := fun vs => P (a :: vs)) (h a)
/-! Where these names stand, the head makes no copies of its constants: the compiled file stays small. -/
theorem holds.tw8944343764007091065 : True := trivial
theorem holds.tw10876536743886354276 : True := trivial
theorem holds.tw5471403574791894133 : True := trivial
theorem holds.tw8260078842695283502 : True := trivial
theorem holds.tw18145382148040430673 : True := trivial
theorem holds.tw2156681307112010326 : True := trivial
theorem holds.tw14012497318314112844 : True := trivial
theorem holds.tw16568243084613897719 : True := trivial
theorem holds.tw8239031253751857358 : True := trivial
theorem holds.tw4876135695594978501 : True := trivial
theorem holds.tw6606875086121380550 : True := trivial
theorem holds.tw5959074840488112208 : True := trivial
theorem holds.tw12160635655254385198 : True := trivial
theorem holds.tw185807328385624810 : True := trivial
theorem holds.tw14062913937729191461 : True := trivial
theorem holds.tw8086972369959518483 : True := trivial
theorem holds.tw63030109126827207 : True := trivial
theorem holds.tw4496467784121089108 : True := trivial
theorem holds.tw6278366128872770721 : True := trivial
theorem holds.tw11341941285841758863 : True := trivial
theorem holds.tw18115977956848870043 : True := trivial
theorem holds.tw9784731065822230439 : True := trivial
theorem holds.tw13373784697917265674 : True := trivial
theorem holds.tw8393340031374782525 : True := trivial
theorem holds.tw2207817973478938216 : True := trivial
theorem holds.tw12947342387834907416 : True := trivial
theorem holds.tw1986877004247180340 : True := trivial
theorem holds.tw960582308587345451 : True := trivial
theorem holds.tw13602253286356535353 : True := trivial
theorem holds.tw13942211991455542721 : True := trivial
theorem holds.tw6654929391614583909 : True := trivial
theorem holds.tw14040500308302212198 : True := trivial
theorem holds.tw14411328915609312922 : True := trivial
theorem holds.tw3231313371199022194 : True := trivial
theorem holds.tw11776738428433476704 : True := trivial
theorem holds.tw11311999394344832113 : True := trivial
theorem holds.tw143733397751180983 : True := trivial
theorem holds.tw3117193011312037209 : True := trivial
theorem holds.tw16569799976186059295 : True := trivial
theorem holds.tw7221694943082674061 : True := trivial
theorem holds.tw7365562674294520451 : True := trivial
theorem holds.tw3378624336152846145 : True := trivial
theorem holds.tw17822619038779606285 : True := trivial
theorem holds.tw8067858942452583622 : True := trivial
theorem holds.tw12542415522573167287 : True := trivial
theorem holds.tw6216033271563703469 : True := trivial
theorem holds.tw1508545211966159021 : True := trivial
theorem holds.tw14438757958421221462 : True := trivial
theorem holds.tw4137054072099604216 : True := trivial
theorem holds.tw9569093901706499007 : True := trivial
theorem holds.tw2929439407932294337 : True := trivial
theorem holds.tw16034146489351607153 : True := trivial
theorem holds.tw1882270145967814011 : True := trivial
theorem holds.tw949623864930693503 : True := trivial
theorem holds.tw17779192219718171531 : True := trivial
theorem holds.tw150268843892594924 : True := trivial
theorem holds.tw15566814792845459997 : True := trivial
theorem holds.tw9732041140710341944 : True := trivial
theorem holds.tw3393808461323943489 : True := trivial
theorem holds.tw13130249910395747862 : True := trivial
theorem holds.tw17254660705983429885 : True := trivial
theorem holds.tw11750193621415288269 : True := trivial
theorem holds.tw12135579543755162760 : True := trivial
theorem holds.tw17631178891982236634 : True := trivial
theorem holds.tw4079574721724423606 : True := trivial
theorem holds.tw4065146272016792997 : True := trivial
theorem holds.tw17417429595627488627 : True := trivial
theorem holds.tw8451429660923938374 : True := trivial
theorem holds.tw2661161477798328453 : True := trivial
theorem holds.tw9160814584890018001 : True := trivial
theorem holds.tw17087466662150396210 : True := trivial
theorem holds.tw3864012138097595758 : True := trivial
theorem holds.tw13334661261001831826 : True := trivial
theorem holds.tw15814798929938293467 : True := trivial
theorem holds.tw15785218014132313688 : True := trivial
theorem holds.tw17453241218497372113 : True := trivial
theorem holds.tw16315053957116525436 : True := trivial
theorem holds.tw3579776383272448420 : True := trivial
theorem holds.tw15773771547523477324 : True := trivial
theorem holds.tw13002204667660113580 : True := trivial
theorem holds.tw16141144775947785660 : True := trivial
theorem holds.tw7798976556582896058 : True := trivial
theorem holds.tw8115153917610635543 : True := trivial
theorem holds.tw11223116819087169764 : True := trivial
theorem holds.tw2752272122444995253 : True := trivial
theorem holds.tw8323465864499181419 : True := trivial
theorem holds.tw15305512045591798990 : True := trivial
theorem holds.tw8827755016177155863 : True := trivial
theorem holds.tw17027350548333183925 : True := trivial
theorem holds.tw14400433609042604536 : True := trivial
theorem holds.tw1569810199879761147 : True := trivial
theorem holds.tw3083665863380995925 : True := trivial
theorem holds.tw10238092577321643331 : True := trivial
theorem holds.tw6330134614895140133 : True := trivial
theorem holds.tw4302478151189881795 : True := trivial
theorem holds.tw15969937429085165904 : True := trivial
theorem holds.tw2667925813562934949 : True := trivial
theorem holds.tw14571696787620697854 : True := trivial
theorem holds.tw8564859838321607590 : True := trivial
theorem holds.tw10973056549479156102 : True := trivial
theorem holds.tw18224010420261798391 : True := trivial
theorem holds.tw4408763645494598628 : True := trivial
theorem holds.tw14947864908287233490 : True := trivial
theorem holds.tw12004703523718567385 : True := trivial
theorem holds.tw14456359579513077766 : True := trivial
theorem holds.tw17148229171239856432 : True := trivial
theorem holds.tw5031978486770369989 : True := trivial
theorem holds.tw3081346186701454755 : True := trivial
theorem holds.tw4954732016240277505 : True := trivial
theorem holds.tw11413208387583891290 : True := trivial
theorem holds.tw8035951141280138642 : True := trivial
theorem holds.tw15659084048362614264 : True := trivial
theorem holds.tw2296293446034493066 : True := trivial
theorem holds.tw15942494369296127945 : True := trivial
theorem holds.tw10066566674380323332 : True := trivial
theorem holds.tw4529002996912422141 : True := trivial
theorem holds.tw10859938921441162988 : True := trivial
theorem holds.tw8868040359437915812 : True := trivial
theorem holds.tw16887932952891968693 : True := trivial
theorem holds.tw7122917452565745793 : True := trivial
theorem holds.tw1974762919298152056 : True := trivial
theorem holds.tw9188266559522036927 : True := trivial
theorem holds.tw12461706298059298081 : True := trivial
theorem holds.tw17294395744611713098 : True := trivial
theorem holds.tw12870647732520690006 : True := trivial
theorem holds.tw8102643725754146565 : True := trivial
theorem holds.tw9250495785965993271 : True := trivial
theorem holds.tw4252685499439207924 : True := trivial
theorem holds.tw6735552807121987811 : True := trivial
theorem holds.tw12629177860411813126 : True := trivial
theorem holds.tw6307330118970589470 : True := trivial
theorem holds.tw9855210162650666830 : True := trivial
theorem holds.tw8324913547053779211 : True := trivial
theorem holds.tw11319453509113102234 : True := trivial
theorem holds.tw1382383790286775375 : True := trivial
theorem holds.tw2697976716319701033 : True := trivial
theorem holds.tw8789113547377566482 : True := trivial
theorem holds.tw4475622257904601326 : True := trivial
theorem holds.tw14786868411472786527 : True := trivial
theorem holds.tw18078616723997116376 : True := trivial
theorem holds.tw5099458221760260784 : True := trivial
theorem holds.tw4624323801304008105 : True := trivial
theorem holds.tw4043779546988386903 : True := trivial
theorem holds.tw14387954076880322906 : True := trivial
theorem holds.tw15043986215568586124 : True := trivial
theorem holds.tw2562329033357795767 : True := trivial
theorem holds.tw17094759248423572775 : True := trivial
theorem holds.tw15228004617427520810 : True := trivial
theorem holds.tw13564983018704479910 : True := trivial
theorem holds.tw4374827463496512255 : True := trivial
theorem holds.tw13757568721421367004 : True := trivial
theorem holds.tw17642598502550569490 : True := trivial
theorem holds.tw2936799095737714382 : True := trivial
theorem holds.tw10677865647760817919 : True := trivial
theorem holds.tw5565848844497943877 : True := trivial
theorem holds.tw13384883100587833847 : True := trivial
theorem holds.tw9327718836232418737 : True := trivial
theorem holds.tw10531532615022067580 : True := trivial
theorem holds.tw10274680400919065884 : True := trivial
theorem holds.tw6396523623945614605 : True := trivial
theorem holds.tw1552857426587298226 : True := trivial
theorem holds.tw11040456503202229835 : True := trivial
theorem holds.tw142377125942736700 : True := trivial
theorem holds.tw17500814259130102135 : True := trivial
theorem holds.tw17591727778206626035 : True := trivial
theorem holds.tw1489006101445925000 : True := trivial
theorem holds.tw6674158366018852832 : True := trivial
theorem holds.tw11866763835798034582 : True := trivial
theorem holds.tw1095465085569150570 : True := trivial
theorem holds.tw15216533652830951187 : True := trivial
theorem holds.tw5926597645957970899 : True := trivial
theorem holds.tw10520202591518659360 : True := trivial
theorem holds.tw7877780744568003191 : True := trivial
theorem holds.tw12910314834324506706 : True := trivial
theorem holds.tw13208604148985916543 : True := trivial
theorem holds.tw2003794701753356343 : True := trivial
theorem holds.tw12306811582311103309 : True := trivial
theorem holds.tw1092734292537931370 : True := trivial
theorem holds.tw5791938023122869331 : True := trivial
theorem holds.tw15383290158734973844 : True := trivial
theorem holds.tw4659233104850659043 : True := trivial
theorem holds.tw5915465848944024539 : True := trivial
theorem holds.tw4772410448533662562 : True := trivial
theorem holds.tw16939745714101447976 : True := trivial
theorem holds.tw4695128735345963622 : True := trivial
theorem holds.tw8351548024695214574 : True := trivial
theorem holds.tw13926404443759844560 : True := trivial
theorem holds.tw9072656965561520583 : True := trivial
theorem holds.tw4132201380793018340 : True := trivial
theorem holds.tw12633084752571091873 : True := trivial
theorem holds.tw17450472940649059298 : True := trivial
theorem holds.tw3279077582325829838 : True := trivial
theorem holds.tw18020473825885896052 : True := trivial
theorem holds.tw7399101569421298396 : True := trivial
theorem holds.tw8105830805119860317 : True := trivial
theorem holds.tw4500180452004054980 : True := trivial
theorem holds.tw576298715544257586 : True := trivial
theorem holds.tw1833173380454153921 : True := trivial
theorem holds.tw9232459349045140238 : True := trivial
theorem holds.tw2041457743892144894 : True := trivial
theorem holds.tw16451975095625300501 : True := trivial
theorem holds.tw17533166617710000329 : True := trivial
theorem holds.tw2946744036017948005 : True := trivial
theorem holds.tw3906943341852370832 : True := trivial
theorem holds.tw10494946348260405530 : True := trivial
theorem holds.tw16478504620199068264 : True := trivial
theorem holds.tw4636335402390110268 : True := trivial
theorem holds.tw11379536335273661636 : True := trivial
theorem holds.tw13222035019132090745 : True := trivial
theorem holds.tw2395109189467087578 : True := trivial
theorem holds.tw759334954848157859 : True := trivial
theorem holds.tw13860560629476652642 : True := trivial
theorem holds.tw17856180979147524769 : True := trivial
theorem holds.tw17647985033660283594 : True := trivial
theorem holds.tw15573729904360925794 : True := trivial
theorem holds.tw2976685253332725484 : True := trivial
theorem holds.tw9370115536473471133 : True := trivial
theorem holds.tw4753448620645791293 : True := trivial
theorem holds.tw12467034654032377186 : True := trivial
theorem holds.tw4381346726385406224 : True := trivial
theorem holds.tw8575535491628544125 : True := trivial
theorem holds.tw16740147826971877517 : True := trivial
theorem holds.tw3101148707280403237 : True := trivial
theorem holds.tw17476224472650253806 : True := trivial
theorem holds.tw10684964147190113176 : True := trivial
theorem holds.tw11566098377363298415 : True := trivial
theorem holds.tw1639197193820686003 : True := trivial
theorem holds.tw8070350036930755802 : True := trivial
theorem holds.tw4046193847619289583 : True := trivial
theorem holds.tw9430090754398894584 : True := trivial
theorem holds.tw11450275943994455990 : True := trivial
theorem holds.tw4921510776622977656 : True := trivial
theorem holds.tw3930379177928381544 : True := trivial
theorem holds.tw14747351113905286367 : True := trivial
theorem holds.tw15663057623668237757 : True := trivial
theorem holds.tw16035096773351161327 : True := trivial
theorem holds.tw99148262030102190 : True := trivial
theorem holds.tw9367411864662104596 : True := trivial
theorem holds.tw6099975724469302500 : True := trivial
theorem holds.tw154871700347349385 : True := trivial
theorem holds.tw10698829266838348154 : True := trivial
theorem holds.tw11569915684508697678 : True := trivial
theorem holds.tw10595842591828190984 : True := trivial
theorem holds.tw9160933379109621080 : True := trivial
theorem holds.tw4197124852483764760 : True := trivial
theorem holds.tw12158838097934144204 : True := trivial
theorem holds.tw14085268106739128817 : True := trivial
theorem holds.tw12553914923479104506 : True := trivial
theorem holds.tw3589964763223657672 : True := trivial
theorem holds.tw4480811336153992742 : True := trivial
theorem holds.tw5747684920607356772 : True := trivial
theorem holds.tw9638990691586225099 : True := trivial
theorem holds.tw7580357766596436714 : True := trivial
theorem holds.tw17714467908841036005 : True := trivial
theorem holds.tw14149781006570564392 : True := trivial
theorem holds.tw8006095370074002437 : True := trivial
theorem holds.tw1316056555746827224 : True := trivial
theorem holds.tw9518972631687950247 : True := trivial
theorem holds.tw5078402968320093544 : True := trivial
theorem holds.tw10491065262344570346 : True := trivial
theorem holds.tw13980644296350529377 : True := trivial
theorem holds.tw1466284255255076664 : True := trivial
theorem holds.tw7145057240379410032 : True := trivial
theorem holds.tw7405762614669717487 : True := trivial
theorem holds.tw7258431392514884226 : True := trivial
theorem holds.tw17096001632197288867 : True := trivial
theorem holds.tw6816380694822836728 : True := trivial
theorem holds.tw10705619171732726748 : True := trivial
theorem holds.tw10645105620128953169 : True := trivial
theorem holds.tw16878984735049331645 : True := trivial
theorem holds.tw10828986214106111531 : True := trivial
theorem holds.tw2490583276235294983 : True := trivial
theorem holds.tw13563289320671947111 : True := trivial
theorem holds.tw14533596452844920548 : True := trivial
theorem holds.tw1876284267304334591 : True := trivial
theorem holds.tw17267533910804182387 : True := trivial
theorem holds.tw2720468260678641542 : True := trivial
theorem holds.tw17573868527537768009 : True := trivial
theorem holds.tw11322816463052944642 : True := trivial
theorem holds.tw151567797773009622 : True := trivial
theorem holds.tw7058599786907716777 : True := trivial
theorem holds.tw3093010850272755244 : True := trivial
theorem holds.tw5857794014393010482 : True := trivial
theorem holds.tw16500857126356320474 : True := trivial
theorem holds.tw8217837808669207805 : True := trivial
theorem holds.tw12698916279152862973 : True := trivial
theorem holds.tw7128263983605330059 : True := trivial
theorem holds.tw13341946137322399123 : True := trivial
theorem holds.tw9309047703646887916 : True := trivial
theorem holds.tw11502601298335438083 : True := trivial
theorem holds.tw4796666493748621973 : True := trivial
theorem holds.tw12736823529576279204 : True := trivial
theorem holds.tw15985840036639034899 : True := trivial
theorem holds.tw7350330377624401328 : True := trivial
theorem holds.tw11037822914523747621 : True := trivial
theorem holds.tw11612728935029869629 : True := trivial
theorem holds.tw9523873602847724419 : True := trivial
theorem holds.tw4905061745869718969 : True := trivial
theorem holds.tw7873036012977236159 : True := trivial
theorem holds.tw2160012875989923789 : True := trivial
theorem holds.tw13338651292558784369 : True := trivial
theorem holds.tw16179787414501680475 : True := trivial
theorem holds.tw5583946556138506119 : True := trivial
theorem holds.tw14691085348537605332 : True := trivial
theorem holds.tw2682973687022302978 : True := trivial
theorem holds.tw6424660084863691381 : True := trivial
theorem holds.tw6159885450047824267 : True := trivial
theorem holds.tw8571184235532366510 : True := trivial
theorem holds.tw6545324650690627985 : True := trivial
theorem holds.tw7791430327242384495 : True := trivial
theorem holds.tw18193256452927958525 : True := trivial
theorem holds.tw14314133134477209284 : True := trivial
theorem holds.tw3811385743445658432 : True := trivial
theorem holds.tw10726778698580467152 : True := trivial
theorem holds.tw2335221107431800076 : True := trivial
theorem holds.tw12540800736699631050 : True := trivial
theorem holds.tw96072713605637463 : True := trivial
theorem holds.tw3280128972450656526 : True := trivial
theorem holds.tw4583756282420477746 : True := trivial
theorem holds.tw16461013251600362008 : True := trivial
theorem holds.tw14856189802965030758 : True := trivial
theorem holds.tw2972900019843275892 : True := trivial
theorem holds.tw16049930973857864354 : True := trivial
theorem holds.tw10637851664137882224 : True := trivial
theorem holds.tw1477864382951527211 : True := trivial
theorem holds.tw14642846902033847964 : True := trivial
theorem holds.tw13758948915013449397 : True := trivial
theorem holds.tw3680520941232440410 : True := trivial
theorem holds.tw7074641181814816541 : True := trivial
theorem holds.tw8087799500789234286 : True := trivial
theorem holds.tw13281364814482169325 : True := trivial
theorem holds.tw3937267528351423324 : True := trivial
theorem holds.tw820627826665183454 : True := trivial
theorem holds.tw8801499457356032720 : True := trivial
theorem holds.tw5016061194280584464 : True := trivial
theorem holds.tw13200177327426563521 : True := trivial
theorem holds.tw10009079374300302072 : True := trivial
theorem holds.tw12941468149822085856 : True := trivial
theorem holds.tw10705761992013847755 : True := trivial
theorem holds.tw13306226422529918579 : True := trivial
theorem holds.tw4998001990490953706 : True := trivial
theorem holds.tw4485590747672999114 : True := trivial
theorem holds.tw3969078344035082030 : True := trivial
theorem holds.tw10953125311028157021 : True := trivial
theorem holds.tw12091882185175152326 : True := trivial
theorem holds.tw10840139340582571922 : True := trivial
theorem holds.tw2167384251425162797 : True := trivial
theorem holds.tw14027143162585244968 : True := trivial
theorem holds.tw11822188140940861840 : True := trivial
theorem holds.tw8384454562569082317 : True := trivial
theorem holds.tw13219762378693318442 : True := trivial
theorem holds.tw7923702915469573346 : True := trivial
theorem holds.tw9458989268892848673 : True := trivial
theorem holds.tw2451063411067222376 : True := trivial
theorem holds.tw15864543535133235901 : True := trivial
theorem holds.tw3232270311777372273 : True := trivial
theorem holds.tw1672651397029140864 : True := trivial
theorem holds.tw3626213265524300766 : True := trivial
theorem holds.tw14432740918813763817 : True := trivial
theorem holds.tw5932082505621288647 : True := trivial
theorem holds.tw12788872388335264594 : True := trivial
theorem holds.tw1213666046027356511 : True := trivial
theorem holds.tw13370180491053348 : True := trivial
theorem holds.tw2963349702327202441 : True := trivial
theorem holds.tw4422276619278600727 : True := trivial
theorem holds.tw16908646185380475329 : True := trivial
theorem holds.tw9107170298555381705 : True := trivial
theorem holds.tw10981351503976158137 : True := trivial
theorem holds.tw10587580826675096554 : True := trivial
theorem holds.tw2781561513384061212 : True := trivial
theorem holds.tw17779774989671706653 : True := trivial
theorem holds.tw4702539438339769474 : True := trivial
theorem holds.tw8218819101457601776 : True := trivial
theorem holds.tw5619803957841784048 : True := trivial
theorem holds.tw11678648848394549240 : True := trivial
theorem holds.tw13108245259352980691 : True := trivial
theorem holds.tw16260029586006496120 : True := trivial
theorem holds.tw14083834280242248106 : True := trivial
theorem holds.tw244668840739839672 : True := trivial
theorem holds.tw303617358959260456 : True := trivial
theorem holds.tw1692041494862269998 : True := trivial
theorem holds.tw8143335708233088440 : True := trivial
theorem holds.tw13651502964188933756 : True := trivial
theorem holds.tw5981487413272766262 : True := trivial
theorem holds.tw4021013208564600997 : True := trivial
theorem holds.tw12657093848384798476 : True := trivial
theorem holds.tw10894570999934473159 : True := trivial
theorem holds.tw4952593789767209597 : True := trivial
theorem holds.tw14271935136423247726 : True := trivial
theorem holds.tw8664812251140827045 : True := trivial
theorem holds.tw16307742377514257941 : True := trivial
theorem holds.tw18202751451028033538 : True := trivial
theorem holds.tw14777700561071354170 : True := trivial
theorem holds.tw14205006904943715905 : True := trivial
theorem holds.tw8413133151647880539 : True := trivial
theorem holds.tw15750308709622187472 : True := trivial
theorem holds.tw9143120035062812437 : True := trivial
theorem holds.tw12733908048491186811 : True := trivial
theorem holds.tw9245723823536211039 : True := trivial
theorem holds.tw16725066886706607050 : True := trivial
theorem holds.tw14374762386000251392 : True := trivial
theorem holds.tw10853043219271619230 : True := trivial
theorem holds.tw945861476033566700 : True := trivial
theorem holds.tw8868445881999480663 : True := trivial
theorem holds.tw7548614866355832645 : True := trivial
theorem holds.tw13207259376416783048 : True := trivial
theorem holds.tw2642592217982111355 : True := trivial
theorem holds.tw9321796208036801940 : True := trivial
theorem holds.tw6166532556598395850 : True := trivial
theorem holds.tw17858152450515298520 : True := trivial
theorem holds.tw5878047611234877577 : True := trivial
theorem holds.tw14977296931134136204 : True := trivial
theorem holds.tw15326264675407861456 : True := trivial
theorem holds.tw9866653766423218390 : True := trivial
theorem holds.tw6460966521098074893 : True := trivial
theorem holds.tw2277698456845511444 : True := trivial
theorem holds.tw15580662879708500073 : True := trivial
theorem holds.tw13150661809386230508 : True := trivial
theorem holds.tw5295917329084666069 : True := trivial
theorem holds.tw4381757428849502282 : True := trivial
theorem holds.tw16617498834693519143 : True := trivial
theorem holds.tw4532548537324856634 : True := trivial
theorem holds.tw16697607604324151607 : True := trivial
theorem holds.tw17040301576142915119 : True := trivial
theorem holds.tw707885073954110949 : True := trivial
theorem holds.tw7366336091430424897 : True := trivial
theorem holds.tw1438057683635843531 : True := trivial
theorem holds.tw17597196502641442581 : True := trivial
theorem holds.tw16497969686579978388 : True := trivial
theorem holds.tw11723004889028688699 : True := trivial
theorem holds.tw9576113518927592713 : True := trivial
theorem holds.tw5274829272982666545 : True := trivial
theorem holds.tw14054693376921006050 : True := trivial
theorem holds.tw16281141667863336784 : True := trivial
theorem holds.tw18173914834931495973 : True := trivial
theorem holds.tw14247145606103189434 : True := trivial
theorem holds.tw9766128667603022514 : True := trivial
theorem holds.tw10817008591213730988 : True := trivial
theorem holds.tw5121551351278408462 : True := trivial
theorem holds.tw8253004272172430988 : True := trivial
theorem holds.tw12762722769849151566 : True := trivial
theorem holds.tw13899955331829678731 : True := trivial
theorem holds.tw4717937361131159733 : True := trivial
theorem holds.tw5323918697378788693 : True := trivial
theorem holds.tw7840918076549728228 : True := trivial
theorem holds.tw12563481999192008768 : True := trivial
theorem holds.tw11619669790576578751 : True := trivial
theorem holds.tw10009309266167291388 : True := trivial
theorem holds.tw13676757877788619591 : True := trivial
theorem holds.tw17551835440721493442 : True := trivial
theorem holds.tw5763553328388235881 : True := trivial
theorem holds.tw10824115321126796680 : True := trivial
theorem holds.tw16796854770986717008 : True := trivial
theorem holds.tw9441326970708011783 : True := trivial
theorem holds.tw8903297777125119442 : True := trivial
theorem holds.tw5112738896828158680 : True := trivial
theorem holds.tw11021402016762074336 : True := trivial
theorem holds.tw2084331650109322480 : True := trivial
theorem holds.tw16801115162389100519 : True := trivial
theorem holds.tw14786066558164337950 : True := trivial
theorem holds.tw12632932662738783937 : True := trivial
theorem holds.tw12587492473230399910 : True := trivial
theorem holds.tw11568272619759294016 : True := trivial
theorem holds.tw9647410926604887880 : True := trivial
theorem holds.tw1357463484097335404 : True := trivial
theorem holds.tw5531990279233569197 : True := trivial
theorem holds.tw15356600547250028879 : True := trivial
set_option Elab.async true in
set_option maxHeartbeats 8000000 in
theorem holds : PySem.Challenge.rw_rh0272_01.Holds := by
  w_on
  o_law
  k_head
  case hw => w_witness2
  k_go0
  rename Well _ _ _ _ => hW
  rename IntsAre _ _ => hI
  rename Heap.IsList _ _ _ => hL
  rename (Top _ _ _ _ _ _) => hT
  rename PyProof.Rows.Fr _ _ _ _ => hF
  rename Frag.In _ _ => hK
  rename ¬ ((63 : Int) < _) => hc
  have hW' : Well _ _ (Value.ref _) (WData.list _) := hW
  clear hW
  cases hW' with
  | list hget _ =>
  obtain ⟨o, e1, _, n, d⟩ := hL
  rw [hget] at e1
  cases e1
  have hvs := (Data.seq.inj d).1
  rw [hvs] at hget
  refine law_entry hK ⟨
    ⟨by kernel_rfl, ⟨by kernel_rfl, by kernel_rfl, by kernel_rfl, by kernel_rfl, ⟨by kernel_rfl, by kernel_rfl, by kernel_rfl⟩, len1 fun v0 => by kernel_rfl, by decide +kernel, by decide +kernel, ⟨by kernel_rfl, by kernel_rfl, by kernel_rfl⟩⟩⟩,
    ⟨by kernel_rfl, ⟨by kernel_rfl, by kernel_rfl, by kernel_rfl, by kernel_rfl, ⟨by kernel_rfl, by kernel_rfl, by kernel_rfl⟩, len1 fun v0 => by kernel_rfl, by decide +kernel, by decide +kernel, ⟨by kernel_rfl, by kernel_rfl, by kernel_rfl⟩⟩⟩,
    ⟨by kernel_rfl, ⟨by kernel_rfl, by kernel_rfl, by kernel_rfl, by kernel_rfl, ⟨by kernel_rfl, by kernel_rfl, by kernel_rfl⟩, len1 fun v0 => by kernel_rfl, by decide +kernel, by decide +kernel, ⟨by kernel_rfl, by kernel_rfl, by kernel_rfl⟩⟩⟩,
    ⟨by kernel_rfl, ⟨by kernel_rfl, by kernel_rfl, by kernel_rfl, by kernel_rfl, ⟨by kernel_rfl, by kernel_rfl, by kernel_rfl⟩, len1 fun v0 => by kernel_rfl, by decide +kernel, by decide +kernel, ⟨by kernel_rfl, by kernel_rfl, by kernel_rfl⟩⟩⟩,
    ⟨by kernel_rfl, ⟨by kernel_rfl, by kernel_rfl, by kernel_rfl, by kernel_rfl, ⟨by kernel_rfl, by kernel_rfl, by kernel_rfl⟩, len1 fun v0 => by kernel_rfl, by decide +kernel, by decide +kernel, ⟨by kernel_rfl, by kernel_rfl, by kernel_rfl⟩⟩⟩,
    ⟨by kernel_rfl, ⟨by kernel_rfl, by kernel_rfl, by kernel_rfl, by kernel_rfl, ⟨by kernel_rfl, by kernel_rfl, by kernel_rfl⟩, len4 fun v0 v1 v2 v3 => by kernel_rfl, by decide +kernel, by decide +kernel, ⟨by kernel_rfl, by kernel_rfl, by kernel_rfl⟩⟩⟩,
    ⟨by kernel_rfl, ⟨by kernel_rfl, by kernel_rfl, by kernel_rfl, by kernel_rfl, ⟨by kernel_rfl, by kernel_rfl, by kernel_rfl⟩, len2 fun v0 v1 => by kernel_rfl, by decide +kernel, by decide +kernel, ⟨by kernel_rfl, by kernel_rfl, by kernel_rfl⟩⟩⟩,
    ⟨by kernel_rfl, ⟨by kernel_rfl, by kernel_rfl, by kernel_rfl, by kernel_rfl, ⟨by kernel_rfl, by kernel_rfl, by kernel_rfl⟩, len2 fun v0 v1 => by kernel_rfl, by decide +kernel, by decide +kernel, ⟨by kernel_rfl, by kernel_rfl, by kernel_rfl⟩⟩⟩,
    ⟨by kernel_rfl, ⟨by kernel_rfl, by kernel_rfl, by kernel_rfl, by kernel_rfl, ⟨by kernel_rfl, by kernel_rfl, by kernel_rfl⟩, len2 fun v0 v1 => by kernel_rfl, by decide +kernel, by decide +kernel, ⟨by kernel_rfl, by kernel_rfl, by kernel_rfl⟩⟩⟩,
    ⟨by kernel_rfl, ⟨by kernel_rfl, by kernel_rfl, by kernel_rfl, by kernel_rfl, ⟨by kernel_rfl, by kernel_rfl, by kernel_rfl⟩, len2 fun v0 v1 => by kernel_rfl, by decide +kernel, by decide +kernel, ⟨by kernel_rfl, by kernel_rfl, by kernel_rfl⟩⟩⟩,
    ⟨by kernel_rfl, ⟨by kernel_rfl, by kernel_rfl, by kernel_rfl, by kernel_rfl, ⟨by kernel_rfl, by kernel_rfl, by kernel_rfl⟩, len3 fun v0 v1 v2 => by kernel_rfl, by decide +kernel, by decide +kernel, ⟨by kernel_rfl, by kernel_rfl, by kernel_rfl⟩⟩⟩,
    ⟨by kernel_rfl, ⟨by kernel_rfl, by kernel_rfl, by kernel_rfl, by kernel_rfl, ⟨by kernel_rfl, by kernel_rfl, by kernel_rfl⟩, len2 fun v0 v1 => by kernel_rfl, by decide +kernel, by decide +kernel, ⟨by kernel_rfl, by kernel_rfl, by kernel_rfl⟩⟩⟩,
    ⟨by kernel_rfl, ⟨by kernel_rfl, by kernel_rfl, by kernel_rfl, by kernel_rfl, ⟨by kernel_rfl, by kernel_rfl, by kernel_rfl⟩, len1 fun v0 => by kernel_rfl, by decide +kernel, by decide +kernel, ⟨by kernel_rfl, by kernel_rfl, by kernel_rfl⟩⟩⟩,
    ⟨by kernel_rfl, ⟨by kernel_rfl, by kernel_rfl, by kernel_rfl, by kernel_rfl, ⟨by kernel_rfl, by kernel_rfl, by kernel_rfl⟩, len1 fun v0 => by kernel_rfl, by decide +kernel, by decide +kernel, ⟨by kernel_rfl, by kernel_rfl, by kernel_rfl⟩⟩⟩,
    ⟨by kernel_rfl, ⟨by kernel_rfl, by kernel_rfl, by kernel_rfl, by kernel_rfl, ⟨by kernel_rfl, by kernel_rfl, by kernel_rfl⟩, len1 fun v0 => by kernel_rfl, by decide +kernel, by decide +kernel, ⟨by kernel_rfl, by kernel_rfl, by kernel_rfl⟩⟩⟩,
    ⟨by kernel_rfl, ⟨by kernel_rfl, by kernel_rfl, by kernel_rfl, by kernel_rfl, ⟨by kernel_rfl, by kernel_rfl, by kernel_rfl⟩, len1 fun v0 => by kernel_rfl, by decide +kernel, by decide +kernel, ⟨by kernel_rfl, by kernel_rfl, by kernel_rfl⟩⟩⟩,
    ⟨by kernel_rfl, ⟨by kernel_rfl, by kernel_rfl, by kernel_rfl, by kernel_rfl, ⟨by kernel_rfl, by kernel_rfl, by kernel_rfl⟩, len2 fun v0 v1 => by kernel_rfl, by decide +kernel, by decide +kernel, ⟨by kernel_rfl, by kernel_rfl, by kernel_rfl⟩⟩⟩,
    ⟨by kernel_rfl, ⟨by kernel_rfl, by kernel_rfl, by kernel_rfl, by kernel_rfl, ⟨by kernel_rfl, by kernel_rfl, by kernel_rfl⟩, len2 fun v0 v1 => by kernel_rfl, by decide +kernel, by decide +kernel, ⟨by kernel_rfl, by kernel_rfl, by kernel_rfl⟩⟩⟩,
    ⟨by kernel_rfl, ⟨by kernel_rfl, by kernel_rfl, by kernel_rfl, by kernel_rfl, ⟨by kernel_rfl, by kernel_rfl, by kernel_rfl⟩, len2 fun v0 v1 => by kernel_rfl, by decide +kernel, by decide +kernel, ⟨by kernel_rfl, by kernel_rfl, by kernel_rfl⟩⟩⟩,
    ⟨by kernel_rfl, ⟨by kernel_rfl, by kernel_rfl, by kernel_rfl, by kernel_rfl, ⟨by kernel_rfl, by kernel_rfl, by kernel_rfl⟩, len2 fun v0 v1 => by kernel_rfl, by decide +kernel, by decide +kernel, ⟨by kernel_rfl, by kernel_rfl, by kernel_rfl⟩⟩⟩,
    ⟨by kernel_rfl, ⟨by kernel_rfl, by kernel_rfl, by kernel_rfl, by kernel_rfl, ⟨by kernel_rfl, by kernel_rfl, by kernel_rfl⟩, len3 fun v0 v1 v2 => by kernel_rfl, by decide +kernel, by decide +kernel, ⟨by kernel_rfl, by kernel_rfl, by kernel_rfl⟩⟩⟩,
    ⟨by kernel_rfl, ⟨by kernel_rfl, by kernel_rfl, by kernel_rfl, by kernel_rfl, ⟨by kernel_rfl, by kernel_rfl, by kernel_rfl⟩, len4 fun v0 v1 v2 v3 => by kernel_rfl, by decide +kernel, by decide +kernel, ⟨by kernel_rfl, by kernel_rfl, by kernel_rfl⟩⟩⟩,
    ⟨by kernel_rfl, ⟨by kernel_rfl, by kernel_rfl, by kernel_rfl, by kernel_rfl, ⟨by kernel_rfl, by kernel_rfl, by kernel_rfl⟩, len2 fun v0 v1 => by kernel_rfl, by decide +kernel, by decide +kernel, ⟨by kernel_rfl, by kernel_rfl, by kernel_rfl⟩⟩⟩,
    ⟨by kernel_rfl, ⟨by kernel_rfl, by kernel_rfl, by kernel_rfl, by kernel_rfl, ⟨by kernel_rfl, by kernel_rfl, by kernel_rfl⟩, len3 fun v0 v1 v2 => by kernel_rfl, by decide +kernel, by decide +kernel, ⟨by kernel_rfl, by kernel_rfl, by kernel_rfl⟩⟩⟩,
    ⟨by kernel_rfl, ⟨by kernel_rfl, by kernel_rfl, by kernel_rfl, by kernel_rfl, ⟨by kernel_rfl, by kernel_rfl, by kernel_rfl⟩, len3 fun v0 v1 v2 => by kernel_rfl, by decide +kernel, by decide +kernel, ⟨by kernel_rfl, by kernel_rfl, by kernel_rfl⟩⟩⟩,
    ⟨by kernel_rfl, ⟨by kernel_rfl, by kernel_rfl, by kernel_rfl, by kernel_rfl, ⟨by kernel_rfl, by kernel_rfl, by kernel_rfl⟩, len3 fun v0 v1 v2 => by kernel_rfl, by decide +kernel, by decide +kernel, ⟨by kernel_rfl, by kernel_rfl, by kernel_rfl⟩⟩⟩,
    ⟨by kernel_rfl, ⟨by kernel_rfl, by kernel_rfl, by kernel_rfl, by kernel_rfl, ⟨by kernel_rfl, by kernel_rfl, by kernel_rfl⟩, len2 fun v0 v1 => by kernel_rfl, by decide +kernel, by decide +kernel, ⟨by kernel_rfl, by kernel_rfl, by kernel_rfl⟩⟩⟩,
    ⟨by kernel_rfl, ⟨by kernel_rfl, by kernel_rfl, by kernel_rfl, by kernel_rfl, ⟨by kernel_rfl, by kernel_rfl, by kernel_rfl⟩, len2 fun v0 v1 => by kernel_rfl, by decide +kernel, by decide +kernel, ⟨by kernel_rfl, by kernel_rfl, by kernel_rfl⟩⟩⟩,
    ⟨by kernel_rfl, ⟨by kernel_rfl, by kernel_rfl, by kernel_rfl, by kernel_rfl, ⟨by kernel_rfl, by kernel_rfl, by kernel_rfl⟩, len3 fun v0 v1 v2 => by kernel_rfl, by decide +kernel, by decide +kernel, ⟨by kernel_rfl, by kernel_rfl, by kernel_rfl⟩⟩⟩,
    ⟨by kernel_rfl, ⟨by kernel_rfl, by kernel_rfl, by kernel_rfl, by kernel_rfl, ⟨by kernel_rfl, by kernel_rfl, by kernel_rfl⟩, len2 fun v0 v1 => by kernel_rfl, by decide +kernel, by decide +kernel, ⟨by kernel_rfl, by kernel_rfl, by kernel_rfl⟩⟩⟩,
    ⟨by kernel_rfl, ⟨by kernel_rfl, by kernel_rfl, by kernel_rfl, by kernel_rfl, ⟨by kernel_rfl, by kernel_rfl, by kernel_rfl⟩, len3 fun v0 v1 v2 => by kernel_rfl, by decide +kernel, by decide +kernel, ⟨by kernel_rfl, by kernel_rfl, by kernel_rfl⟩⟩⟩,
    ⟨by kernel_rfl, ⟨by kernel_rfl, by kernel_rfl, by kernel_rfl, by kernel_rfl, ⟨by kernel_rfl, by kernel_rfl, by kernel_rfl⟩, len2 fun v0 v1 => by kernel_rfl, by decide +kernel, by decide +kernel, ⟨by kernel_rfl, by kernel_rfl, by kernel_rfl⟩⟩⟩,
    ⟨by kernel_rfl, ⟨by kernel_rfl, by kernel_rfl, by kernel_rfl, by kernel_rfl, ⟨by kernel_rfl, by kernel_rfl, by kernel_rfl⟩, len3 fun v0 v1 v2 => by kernel_rfl, by decide +kernel, by decide +kernel, ⟨by kernel_rfl, by kernel_rfl, by kernel_rfl⟩⟩⟩,
    ⟨by kernel_rfl, ⟨by kernel_rfl, by kernel_rfl, by kernel_rfl, by kernel_rfl, ⟨by kernel_rfl, by kernel_rfl, by kernel_rfl⟩, len2 fun v0 v1 => by kernel_rfl, by decide +kernel, by decide +kernel, ⟨by kernel_rfl, by kernel_rfl, by kernel_rfl⟩⟩⟩,
    ⟨by kernel_rfl, ⟨by kernel_rfl, by kernel_rfl, by kernel_rfl, by kernel_rfl, ⟨by kernel_rfl, by kernel_rfl, by kernel_rfl⟩, len3 fun v0 v1 v2 => by kernel_rfl, by decide +kernel, by decide +kernel, ⟨by kernel_rfl, by kernel_rfl, by kernel_rfl⟩⟩⟩,
    ⟨by kernel_rfl, ⟨by kernel_rfl, by kernel_rfl, by kernel_rfl, by kernel_rfl, ⟨by kernel_rfl, by kernel_rfl, by kernel_rfl⟩, len3 fun v0 v1 v2 => by kernel_rfl, by decide +kernel, by decide +kernel, ⟨by kernel_rfl, by kernel_rfl, by kernel_rfl⟩⟩⟩,
    ⟨by kernel_rfl, ⟨by kernel_rfl, by kernel_rfl, by kernel_rfl, by kernel_rfl, ⟨by kernel_rfl, by kernel_rfl, by kernel_rfl⟩, len5 fun v0 v1 v2 v3 v4 => by kernel_rfl, by decide +kernel, by decide +kernel, ⟨by kernel_rfl, by kernel_rfl, by kernel_rfl⟩⟩⟩,
    ⟨by kernel_rfl, ⟨by kernel_rfl, by kernel_rfl, by kernel_rfl, by kernel_rfl, ⟨by kernel_rfl, by kernel_rfl, by kernel_rfl⟩, len3 fun v0 v1 v2 => by kernel_rfl, by decide +kernel, by decide +kernel, ⟨by kernel_rfl, by kernel_rfl, by kernel_rfl⟩⟩⟩,
    ⟨by kernel_rfl, ⟨by kernel_rfl, by kernel_rfl, by kernel_rfl, by kernel_rfl, ⟨by kernel_rfl, by kernel_rfl, by kernel_rfl⟩, len2 fun v0 v1 => by kernel_rfl, by decide +kernel, by decide +kernel, ⟨by kernel_rfl, by kernel_rfl, by kernel_rfl⟩⟩⟩,
    ⟨by kernel_rfl, ⟨by kernel_rfl, by kernel_rfl, by kernel_rfl, by kernel_rfl, ⟨by kernel_rfl, by kernel_rfl, by kernel_rfl⟩, len2 fun v0 v1 => by kernel_rfl, by decide +kernel, by decide +kernel, ⟨by kernel_rfl, by kernel_rfl, by kernel_rfl⟩⟩⟩,
    ⟨by kernel_rfl, ⟨by kernel_rfl, by kernel_rfl, by kernel_rfl, by kernel_rfl, ⟨by kernel_rfl, by kernel_rfl, by kernel_rfl⟩, len2 fun v0 v1 => by kernel_rfl, by decide +kernel, by decide +kernel, ⟨by kernel_rfl, by kernel_rfl, by kernel_rfl⟩⟩⟩,
    ⟨by kernel_rfl, ⟨by kernel_rfl, by kernel_rfl, by kernel_rfl, by kernel_rfl, ⟨by kernel_rfl, by kernel_rfl, by kernel_rfl⟩, len3 fun v0 v1 v2 => by kernel_rfl, by decide +kernel, by decide +kernel, ⟨by kernel_rfl, by kernel_rfl, by kernel_rfl⟩⟩⟩,
    ⟨by kernel_rfl, ⟨by kernel_rfl, by kernel_rfl, by kernel_rfl, by kernel_rfl, ⟨by kernel_rfl, by kernel_rfl, by kernel_rfl⟩, len4 fun v0 v1 v2 v3 => by kernel_rfl, by decide +kernel, by decide +kernel, ⟨by kernel_rfl, by kernel_rfl, by kernel_rfl⟩⟩⟩,
    ⟨by kernel_rfl, ⟨by kernel_rfl, by kernel_rfl, by kernel_rfl, by kernel_rfl, ⟨by kernel_rfl, by kernel_rfl, by kernel_rfl⟩, len1 fun v0 => by kernel_rfl, by decide +kernel, by decide +kernel, ⟨by kernel_rfl, by kernel_rfl, by kernel_rfl⟩⟩⟩,
    ⟨by kernel_rfl, ⟨by kernel_rfl, by kernel_rfl, by kernel_rfl, by kernel_rfl, ⟨by kernel_rfl, by kernel_rfl, by kernel_rfl⟩, len3 fun v0 v1 v2 => by kernel_rfl, by decide +kernel, by decide +kernel, ⟨by kernel_rfl, by kernel_rfl, by kernel_rfl⟩⟩⟩,
    ⟨by kernel_rfl, ⟨by kernel_rfl, by kernel_rfl, by kernel_rfl, by kernel_rfl, ⟨by kernel_rfl, by kernel_rfl, by kernel_rfl⟩, len2 fun v0 v1 => by kernel_rfl, by decide +kernel, by decide +kernel, ⟨by kernel_rfl, by kernel_rfl, by kernel_rfl⟩⟩⟩,
    ⟨by kernel_rfl, ⟨by kernel_rfl, by kernel_rfl, by kernel_rfl, by kernel_rfl, ⟨by kernel_rfl, by kernel_rfl, by kernel_rfl⟩, len1 fun v0 => by kernel_rfl, by decide +kernel, by decide +kernel, ⟨by kernel_rfl, by kernel_rfl, by kernel_rfl⟩⟩⟩,
    ⟨by kernel_rfl, ⟨by kernel_rfl, by kernel_rfl, by kernel_rfl, by kernel_rfl, ⟨by kernel_rfl, by kernel_rfl, by kernel_rfl⟩, len1 fun v0 => by kernel_rfl, by decide +kernel, by decide +kernel, ⟨by kernel_rfl, by kernel_rfl, by kernel_rfl⟩⟩⟩,
    ⟨by kernel_rfl, ⟨by kernel_rfl, by kernel_rfl, by kernel_rfl, by kernel_rfl, ⟨by kernel_rfl, by kernel_rfl, by kernel_rfl⟩, len2 fun v0 v1 => by kernel_rfl, by decide +kernel, by decide +kernel, ⟨by kernel_rfl, by kernel_rfl, by kernel_rfl⟩⟩⟩,
    ⟨by kernel_rfl, ⟨by kernel_rfl, by kernel_rfl, by kernel_rfl, by kernel_rfl, ⟨by kernel_rfl, by kernel_rfl, by kernel_rfl⟩, len4 fun v0 v1 v2 v3 => by kernel_rfl, by decide +kernel, by decide +kernel, ⟨by kernel_rfl, by kernel_rfl, by kernel_rfl⟩⟩⟩,
    ⟨by kernel_rfl, ⟨by kernel_rfl, by kernel_rfl, by kernel_rfl, by kernel_rfl, ⟨by kernel_rfl, by kernel_rfl, by kernel_rfl⟩, len4 fun v0 v1 v2 v3 => by kernel_rfl, by decide +kernel, by decide +kernel, ⟨by kernel_rfl, by kernel_rfl, by kernel_rfl⟩⟩⟩,
    ⟨by kernel_rfl, ⟨by kernel_rfl, by kernel_rfl, by kernel_rfl, by kernel_rfl, ⟨by kernel_rfl, by kernel_rfl, by kernel_rfl⟩, len1 fun v0 => by kernel_rfl, by decide +kernel, by decide +kernel, ⟨by kernel_rfl, by kernel_rfl, by kernel_rfl⟩⟩⟩,
    ⟨by kernel_rfl, ⟨by kernel_rfl, by kernel_rfl, by kernel_rfl, by kernel_rfl, ⟨by kernel_rfl, by kernel_rfl, by kernel_rfl⟩, len4 fun v0 v1 v2 v3 => by kernel_rfl, by decide +kernel, by decide +kernel, ⟨by kernel_rfl, by kernel_rfl, by kernel_rfl⟩⟩⟩,
    ⟨by kernel_rfl, ⟨by kernel_rfl, by kernel_rfl, by kernel_rfl, by kernel_rfl, ⟨by kernel_rfl, by kernel_rfl, by kernel_rfl⟩, len6 fun v0 v1 v2 v3 v4 v5 => by kernel_rfl, by decide +kernel, by decide +kernel, ⟨by kernel_rfl, by kernel_rfl, by kernel_rfl⟩⟩⟩,
    ⟨by kernel_rfl, ⟨by kernel_rfl, by kernel_rfl, by kernel_rfl, by kernel_rfl, ⟨by kernel_rfl, by kernel_rfl, by kernel_rfl⟩, len6 fun v0 v1 v2 v3 v4 v5 => by kernel_rfl, by decide +kernel, by decide +kernel, ⟨by kernel_rfl, by kernel_rfl, by kernel_rfl⟩⟩⟩,
    ⟨by kernel_rfl, ⟨by kernel_rfl, by kernel_rfl, by kernel_rfl, by kernel_rfl, ⟨by kernel_rfl, by kernel_rfl, by kernel_rfl⟩, len5 fun v0 v1 v2 v3 v4 => by kernel_rfl, by decide +kernel, by decide +kernel, ⟨by kernel_rfl, by kernel_rfl, by kernel_rfl⟩⟩⟩,
    ⟨by kernel_rfl, ⟨by kernel_rfl, by kernel_rfl, by kernel_rfl, by kernel_rfl, ⟨by kernel_rfl, by kernel_rfl, by kernel_rfl⟩, len5 fun v0 v1 v2 v3 v4 => by kernel_rfl, by decide +kernel, by decide +kernel, ⟨by kernel_rfl, by kernel_rfl, by kernel_rfl⟩⟩⟩,
    ⟨by kernel_rfl, ⟨by kernel_rfl, by kernel_rfl, by kernel_rfl, by kernel_rfl, ⟨by kernel_rfl, by kernel_rfl, by kernel_rfl⟩, len2 fun v0 v1 => by kernel_rfl, by decide +kernel, by decide +kernel, ⟨by kernel_rfl, by kernel_rfl, by kernel_rfl⟩⟩⟩,
    ⟨by kernel_rfl, ⟨by kernel_rfl, by kernel_rfl, by kernel_rfl, by kernel_rfl, ⟨by kernel_rfl, by kernel_rfl, by kernel_rfl⟩, len2 fun v0 v1 => by kernel_rfl, by decide +kernel, by decide +kernel, ⟨by kernel_rfl, by kernel_rfl, by kernel_rfl⟩⟩⟩,
    ⟨by kernel_rfl, ⟨by kernel_rfl, by kernel_rfl, by kernel_rfl, by kernel_rfl, ⟨by kernel_rfl, by kernel_rfl, by kernel_rfl⟩, len6 fun v0 v1 v2 v3 v4 v5 => by kernel_rfl, by decide +kernel, by decide +kernel, ⟨by kernel_rfl, by kernel_rfl, by kernel_rfl⟩⟩⟩,
    ⟨by kernel_rfl, ⟨by kernel_rfl, by kernel_rfl, by kernel_rfl, by kernel_rfl, ⟨by kernel_rfl, by kernel_rfl, by kernel_rfl⟩, len5 fun v0 v1 v2 v3 v4 => by kernel_rfl, by decide +kernel, by decide +kernel, ⟨by kernel_rfl, by kernel_rfl, by kernel_rfl⟩⟩⟩,
    ⟨by kernel_rfl, by kernel_rfl, by kernel_rfl, by kernel_rfl, by kernel_rfl, ⟨by kernel_rfl, by kernel_rfl, by kernel_rfl, by kernel_rfl, ⟨by kernel_rfl, by kernel_rfl, by kernel_rfl⟩, len5 fun v0 v1 v2 v3 v4 => by kernel_rfl, by decide +kernel, by decide +kernel, ⟨by kernel_rfl, by kernel_rfl, by kernel_rfl⟩⟩⟩,
    by kernel_rfl, by kernel_rfl,
    by kernel_rfl, by kernel_rfl,
    by kernel_rfl, by kernel_rfl,
    by kernel_rfl, by kernel_rfl,
    by kernel_rfl, by kernel_rfl,
    by kernel_rfl, by kernel_rfl,
    by kernel_rfl, by kernel_rfl,
    ⟨by kernel_rfl, by kernel_rfl, by kernel_rfl, by kernel_rfl, by kernel_rfl, ⟨by kernel_rfl, by kernel_rfl, by kernel_rfl, by kernel_rfl, ⟨by kernel_rfl, by kernel_rfl, by kernel_rfl⟩, len4 fun v0 v1 v2 v3 => by kernel_rfl, by decide +kernel, by decide +kernel, ⟨by kernel_rfl, by kernel_rfl, by kernel_rfl⟩⟩⟩,
    by kernel_rfl, by kernel_rfl,
    by kernel_rfl, by kernel_rfl,
    by kernel_rfl, by kernel_rfl,
    by kernel_rfl, by kernel_rfl,
    by kernel_rfl, by kernel_rfl,
    by kernel_rfl, by kernel_rfl,
    by kernel_rfl,
    by kernel_rfl,
    by kernel_rfl,
    by kernel_rfl,
    by kernel_rfl,
    by kernel_rfl,
    by kernel_rfl,
    by kernel_rfl,
    by kernel_rfl,
    by kernel_rfl,
    by kernel_rfl,
    by kernel_rfl,
    by kernel_rfl,
    by kernel_rfl,
    by kernel_rfl,
    by kernel_rfl,
    by kernel_rfl,
    by kernel_rfl,
    by kernel_rfl,
    by kernel_rfl,
    by kernel_rfl,
    by kernel_rfl,
    by kernel_rfl,
    by kernel_rfl,
    by kernel_rfl,
    by kernel_rfl,
    by kernel_rfl,
    by kernel_rfl,
    by kernel_rfl,
    ⟨by kernel_rfl, by kernel_rfl, by kernel_rfl, by kernel_rfl, "DiskError", "DiskError", 32, [.type "Exception"], [], [], false, none, none, some (.ref 15), none, some (.str "DiskError" 201), some (.str "DiskError" 209), some (.bool true), 30, by kernel_rfl, by kernel_rfl, by kernel_rfl, by kernel_rfl, by kernel_rfl,
      ⟨by kernel_rfl, by kernel_rfl, by kernel_rfl, by kernel_rfl, by kernel_rfl, ⟨by kernel_rfl, by kernel_rfl⟩, fun a b => by kernel_rfl, ⟨{ arg := "self", annotation := none, pos := ⟨10, 17, 10, 21⟩ }, by kernel_rfl, rfl⟩, ⟨29, PySem.Challenge.pw_rh0272_01.main.file, by kernel_rfl, by kernel_rfl, by kernel_rfl⟩, ⟨18, by kernel_rfl, by kernel_rfl⟩⟩⟩⟩ (by kernel_rfl) (topRead_of hT) hF rfl hget hI (by omega) (by kernel_rfl) (by kernel_rfl) (fun h' tk hkeep => ?_)
  refine ⟨.inl ⟨.bool true, .bool true, [], rfl, raisesW_false (by wrow_none_raised), .bool true, ?_, unshared_nil⟩, hkeep, rfl, by assumption⟩
  first | rfl | kernel_rfl | wrow_post
end Mine
theorem PySem.Challenge.cw_rh0272_01_holds : PySem.Challenge.rw_rh0272_01.Holds :=
  Mine.holds
end
