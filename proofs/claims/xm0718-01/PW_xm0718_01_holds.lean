import PyProof.Rows.All
import Wide.All
import OpenK.AllK
import Wide.FinOn
import PySem.Challenge.RW_xm0718_01
open PySem PySem.W PyProof.Rows PySem.Calls PySem.Spec
set_option Elab.async false
set_option linter.unusedVariables false
set_option maxRecDepth 100000
set_option maxHeartbeats 8000000
namespace Mine
/-! the written part of the state, as a constant of its own: the head is run beside a small theorem, which keeps nothing of it but that constant -/
noncomputable def tagA : Nat := 0
theorem tag_of (_ : PySem.Challenge.rw_xm0718_01.row.Holds) : tagA = 0 := rfl
set_option Elab.async true in
theorem kk : tagA = 0 ∧ (1 : Nat) = 1 := by
  simp (disch := (w_on; k_head; fail)) only [tag_of, and_true]
  rfl
end Mine
namespace Mine

abbrev Led := List (Addr × Obj)
abbrev Fs := List (PySem.Str × Value)

/-- a pure value: frozen lists by their items, objects that turn by their number in the store -/
inductive PV where
  | none
  | bool (b : Bool)
  | int (i : Int)
  | str (x : PySem.Str)
  | tup (l : List PV)
  | lst (l : List PV)
  | ref (i : Nat)
  | base (a : Nat)

/-- an object that turns -/
inductive PO where
  | list (l : List PV)
  | inst (C d : Nat)
  | dict (fs : List (PySem.Str × PV))

abbrev Fl' := List (PySem.Str × PV)
abbrev Sto := List PO

mutual
inductive VR (K : Frag) (news : Led) (ρ : List Addr) : Value → PV → Prop
  | none : VR K news ρ Value.none PV.none
  | bool (b : Bool) : VR K news ρ (Value.bool b) (PV.bool b)
  | int (i : Int) (t : Tok) : VR K news ρ (Value.int i t) (PV.int i)
  | str (x : PySem.Str) (t : Tok) : VR K news ρ (Value.str x t) (PV.str x)
  | tup {a : Addr} {vs : List Value} {n : Nat} {l : List PV} : (a, ({ cls := .type "tuple", data := .seq vs.toArray n } : Obj)) ∈ news → VRs K news ρ vs l → VR K news ρ (Value.ref a) (PV.tup l)
  | tupK {a : Addr} {vs : List Value} {n : Nat} {dd : Option Addr} {sl : Array (Option Value)} {l : List PV} : K.lookup a = some ⟨.type "tuple", dd, .seq vs.toArray n, sl⟩ → VRs K news ρ vs l → VR K news ρ (Value.ref a) (PV.tup l)
  | lst {a : Addr} {vs : List Value} {n : Nat} {l : List PV} : (a, listOf vs.toArray n) ∈ news → a ∉ ρ → VRs K news ρ vs l → VR K news ρ (Value.ref a) (PV.lst l)
  | ref {a : Addr} {i : Nat} : ρ[i]? = some a → VR K news ρ (Value.ref a) (PV.ref i)
  | base (a : Nat) : VR K news ρ (Value.ref a) (PV.base a)
inductive VRs (K : Frag) (news : Led) (ρ : List Addr) : List Value → List PV → Prop
  | nil : VRs K news ρ [] []
  | cons {v : Value} {vs : List Value} {d : PV} {l : List PV} : VR K news ρ v d → VRs K news ρ vs l → VRs K news ρ (v :: vs) (d :: l)
end

structure Ext (ex : List Addr) (news : Led) (ρ : List Addr) (news' : Led) (ρ' : List Addr) : Prop where
  tup : ∀ a vs n, (a, ({ cls := .type "tuple", data := .seq vs n } : Obj)) ∈ news → (a, ({ cls := .type "tuple", data := .seq vs n } : Obj)) ∈ news'
  lst : ∀ a vs n, (a, listOf vs n) ∈ news → a ∉ ρ → (a, listOf vs n) ∈ news' ∧ a ∉ ρ'
  ref : ∀ (i : Nat) (a : Addr), ρ[i]? = some a → ρ'[i]? = some a
  own : ∀ (a : Addr) (ob : Obj), (a, ob) ∈ news → a ∉ ρ → a ∉ ex → (a, ob) ∈ news' ∧ a ∉ ρ'
theorem Ext.refl (ex : List Addr) (news : Led) (ρ : List Addr) : Ext ex news ρ news ρ := ⟨fun _ _ _ h => h, fun _ _ _ h k => ⟨h, k⟩, fun _ _ h => h, fun _ _ h k _ => ⟨h, k⟩⟩
theorem Ext.trans {ex : List Addr} {n1 n2 n3 : Led} {r1 r2 r3 : List Addr} (x : Ext ex n1 r1 n2 r2) (y : Ext ex n2 r2 n3 r3) : Ext ex n1 r1 n3 r3 :=
  ⟨fun a vs n h => y.tup _ _ _ (x.tup _ _ _ h), fun a vs n h k => let ⟨p, q⟩ := x.lst a vs n h k; y.lst a vs n p q, fun i a h => y.ref _ _ (x.ref _ _ h),
   fun a ob h k e => let ⟨p, q⟩ := x.own a ob h k e; y.own a ob p q e⟩
theorem Ext.weak {ex : List Addr} {n1 n2 : Led} {r1 r2 : List Addr} (x : Ext [] n1 r1 n2 r2) : Ext ex n1 r1 n2 r2 := ⟨x.tup, x.lst, x.ref, fun a ob h k _ => x.own a ob h k List.not_mem_nil⟩
section
variable {K : Frag} {ex : List Addr} {news news' : Led} {ρ ρ' : List Addr}
mutual
theorem VR.ext (e : Ext ex news ρ news' ρ') : ∀ {v : Value} {d : PV}, VR K news ρ v d → VR K news' ρ' v d
  | _, _, .none => .none
  | _, _, .bool b => .bool b
  | _, _, .int i t => .int i t
  | _, _, .str x t => .str x t
  | _, _, .tup h r => .tup (e.tup _ _ _ h) (VRs.ext e r)
  | _, _, .tupK h r => .tupK h (VRs.ext e r)
  | _, _, .lst h k r => .lst (e.lst _ _ _ h k).1 (e.lst _ _ _ h k).2 (VRs.ext e r)
  | _, _, .ref h => .ref (e.ref _ _ h)
  | _, _, .base a => .base a
theorem VRs.ext (e : Ext ex news ρ news' ρ') : ∀ {vs : List Value} {l : List PV}, VRs K news ρ vs l → VRs K news' ρ' vs l
  | _, _, .nil => .nil
  | _, _, .cons h r => .cons (VR.ext e h) (VRs.ext e r)
end
theorem VRs.length {vs : List Value} {l : List PV} (h : VRs K news ρ vs l) : vs.length = l.length := by
  induction vs generalizing l with
  | nil => cases h; rfl
  | cons v vs ih => cases h with | cons _ r => simp [ih r]
theorem VRs.append {vs ws : List Value} {l k : List PV} (h : VRs K news ρ vs l) (h' : VRs K news ρ ws k) : VRs K news ρ (vs ++ ws) (l ++ k) := by
  induction vs generalizing l with
  | nil => cases h; exact h'
  | cons v vs ih => cases h with | cons h r => exact .cons h (ih r)
theorem VRs.get {vs : List Value} {l : List PV} (h : VRs K news ρ vs l) {i : Nat} {d : PV} (e : l[i]? = some d) : ∃ v, vs[i]? = some v ∧ VR K news ρ v d := by
  induction vs generalizing l i with
  | nil => cases h; cases e
  | cons v vs ih =>
    cases h with
    | cons h r =>
      cases i with
      | zero => cases e; exact ⟨v, rfl, h⟩
      | succ i => exact ih r e
theorem VRs.drop {vs : List Value} {l : List PV} (h : VRs K news ρ vs l) (n : Nat) : VRs K news ρ (vs.drop n) (l.drop n) := by
  induction vs generalizing l n with
  | nil => cases h; simp; exact .nil
  | cons v vs ih =>
    cases h with
    | cons h r =>
      cases n with
      | zero => exact .cons h r
      | succ n => exact ih r n
theorem VRs.take {vs : List Value} {l : List PV} (h : VRs K news ρ vs l) (n : Nat) : VRs K news ρ (vs.take n) (l.take n) := by
  induction vs generalizing l n with
  | nil => cases h; simp; exact .nil
  | cons v vs ih =>
    cases h with
    | cons h r =>
      cases n with
      | zero => exact .nil
      | succ n => exact .cons h (ih r n)
theorem VRs.set {vs : List Value} {l : List PV} (h : VRs K news ρ vs l) {v : Value} {d : PV} (hv : VR K news ρ v d) (i : Nat) : VRs K news ρ (vs.set i v) (l.set i d) := by
  induction vs generalizing l i with
  | nil => cases h; exact .nil
  | cons v vs ih =>
    cases h with
    | cons h r =>
      cases i with
      | zero => exact .cons hv r
      | succ i => exact .cons h (ih r i)
end

inductive FRs (K : Frag) (news : Led) (ρ : List Addr) : List DictEntry → List (PySem.Str × PV) → Prop
  | nil : FRs K news ρ [] []
  | cons {h : Int} {x : PySem.Str} {t : Tok} {v : Value} {d : PV} {es : List DictEntry} {fs : List (PySem.Str × PV)} : VR K news ρ v d → FRs K news ρ es fs → FRs K news ρ (⟨h, .str x t, v⟩ :: es) ((x, d) :: fs)
theorem FRs.ext {K : Frag} {ex : List Addr} {news news' : Led} {ρ ρ' : List Addr} (e : Ext ex news ρ news' ρ') {es : List DictEntry} {fs : List (PySem.Str × PV)} (h : FRs K news ρ es fs) : FRs K news' ρ' es fs := by
  induction h with
  | nil => exact .nil
  | cons h _ ih => exact .cons (h.ext e) ih
noncomputable def putF (x : PySem.Str) (d : PV) : List (PySem.Str × PV) → List (PySem.Str × PV)
  | [] => [(x, d)]
  | e :: r => if x == e.1 then (e.1, d) :: r else e :: putF x d r
theorem isStr_eq (x y : PySem.Str) (t : Tok) : (Value.str y t).isStr x = (x == y) := by
  show (y == x) = (x == y)
  by_cases h : x = y
  · subst h; rfl
  · have h' : ¬ y = x := fun e => h e.symm
    rw [beq_eq_false_iff_ne.mpr h, beq_eq_false_iff_ne.mpr h']
section
variable {K : Frag} {news : Led} {ρ : List Addr}
theorem FRs.noRef {es : List DictEntry} {fs : List (PySem.Str × PV)} (h : FRs K news ρ es fs) : es.any (·.refKey) = false := by
  induction h with
  | nil => rfl
  | cons _ _ ih => rw [List.any_cons, ih]; rfl
theorem FRs.find {es : List DictEntry} {fs : List (PySem.Str × PV)} (h : FRs K news ρ es fs) {x : PySem.Str} {d : PV} (e : fs.lookup x = some d) : ∃ v, getL x es = some (some v) ∧ VR K news ρ v d := by
  unfold getL
  induction h with
  | nil => cases e
  | @cons h y t v d' es fs hv _ ih =>
    rw [List.lookup_cons] at e
    rw [List.find?_cons]
    dsimp only
    rw [isStr_eq]
    cases q : (x == y) with
    | true => rw [q] at e; cases e; exact ⟨v, rfl, hv⟩
    | false =>
      rw [q] at e
      obtain ⟨w, hw, r⟩ := ih e
      refine ⟨w, ?_, r⟩
      split at hw
      · rename_i e' he; rw [he]; exact hw
      · split at hw <;> cases hw
theorem FRs.none {es : List DictEntry} {fs : List (PySem.Str × PV)} (h : FRs K news ρ es fs) {x : PySem.Str} (e : fs.lookup x = .none) : getL x es = some .none := by
  have n := h.noRef
  unfold getL
  have f : es.find? (fun y => y.key.isStr x) = .none := by
    clear n
    induction h with
    | nil => rfl
    | @cons h y t v d' es fs hv _ ih =>
      rw [List.lookup_cons] at e
      rw [List.find?_cons]
      dsimp only
      rw [isStr_eq]
      cases q : (x == y) with
      | true => rw [q] at e; cases e
      | false => rw [q] at e; exact ih e
  rw [f]
  dsimp only
  rw [n]
  rfl
theorem FRs.put {es : List DictEntry} {fs : List (PySem.Str × PV)} (h : FRs K news ρ es fs) {x : PySem.Str} {hsh : Int} {t : Tok} {v : Value} {d : PV} (hv : VR K news ρ v d) : FRs K news ρ (putL x hsh (.str x t) v es) (putF x d fs) := by
  induction h with
  | nil => exact .cons hv .nil
  | @cons h' y t' v' d' es fs hv' r ih =>
    unfold putL putF
    dsimp only
    rw [isStr_eq]
    cases q : (x == y) with
    | true => exact .cons hv r
    | false => exact .cons hv' ih
theorem FRs.putLen {es : List DictEntry} {fs : List (PySem.Str × PV)} (h : FRs K news ρ es fs) (x : PySem.Str) (hsh : Int) (t : Tok) (v : Value) : (putL x hsh (.str x t) v es).length ≤ fs.length + 1 := by
  induction h with
  | nil => exact Nat.le_refl _
  | @cons h' y t' v' d' es fs hv' r ih =>
    unfold putL
    dsimp only
    split <;> simp only [List.length_cons] <;> first | omega | skip
    have : es.length = fs.length := by
      clear ih hv'
      induction r with
      | nil => rfl
      | cons _ _ ih => simp [ih]
    omega
end

inductive OR (K : Frag) (news : Led) (ρ : List Addr) : Obj → PO → Prop
  | list {vs : List Value} {n : Nat} {l : List PV} : VRs K news ρ vs l → OR K news ρ (listOf vs.toArray n) (.list l)
  | inst {C d dx : Nat} : ρ[d]? = some dx → OR K news ρ (instObj C dx) (.inst C d)
  | dict {es : List DictEntry} {n : Nat} {fs : List (PySem.Str × PV)} : FRs K news ρ es fs → OR K news ρ (dictOf es n) (.dict fs)
theorem OR.ext {K : Frag} {ex : List Addr} {news news' : Led} {ρ ρ' : List Addr} (e : Ext ex news ρ news' ρ') {ob : Obj} {o : PO} (h : OR K news ρ ob o) : OR K news' ρ' ob o := by
  cases h with
  | list h => exact .list (h.ext e)
  | inst h => exact .inst (e.ref _ _ h)
  | dict h => exact .dict (h.ext e)

structure SR (K : Frag) (news : Led) (ρ : List Addr) (σ : Sto) : Prop where
  len : ρ.length = σ.length
  nd : ρ.Nodup
  here : ∀ a ∈ ρ, ∃ ob, (a, ob) ∈ news
  at_ : ∀ (i : Nat) (o : PO), σ[i]? = some o → ∃ (a : Addr) (ob : Obj), ρ[i]? = some a ∧ (a, ob) ∈ news ∧ OR K news ρ ob o

/-- a frame; md: a comprehension's block that is under way in it -/
structure Fm where
  cn : PySem.Str
  cs : Scope
  L : Addr
  a : Addr
  ccd : Value
  cl : List (PySem.Str × Addr)
  A : Around
  outer : List Env
  A₀ : Around
  base : Heap
  h₀ : Heap
  md : Option (Scope × List (PySem.Str × Addr) × Addr)
  /-- objects that the text can't get at: iterators under way and the like -/
  hid : Led
abbrev Fm.env (f : Fm) : Env := envX f.cn f.cs f.L f.a f.ccd f.cl
noncomputable def Fm.ee (f : Fm) : Env := match f.md with
  | none => f.env
  | some p => compEnvC p.1 p.2.1 p.2.2 f.env
structure Sc where
  cs : Scope
  md : Option Scope
  /-- what is known of the heap below -/
  bs : Heap → Prop
structure Fm.Is (f : Fm) (S : Sc) : Prop where
  cs : f.cs = S.cs
  md : f.md.map (·.1) = S.md
  bs : S.bs f.h₀
noncomputable def Fm.exs (f : Fm) : List Addr := f.cl.map (·.2)

structure Fm.Ok (K : Frag) (f : Fm) (lv : Nat) : Prop where
  bel : Below f.A₀ f.base f.outer f.h₀
  hA : f.A.frames = some (f.env :: f.outer)
  hh : f.A.handled = none
  dep : f.A.depth + 3 * lv + 110 < recursionLimit
  uni : f.A.units + 16 * lv + 128 < cLine
  fn : f.cs.kind = .function
  gen : f.cs.isGenerator = false
  co : f.cs.isCoroutine = false
  kin : K.In f.h₀
  top : ∃ p loose mean mg mb, Top p loose mean mg mb f.h₀ ∧ importsNone p = true
  inj : ∀ (x y : PySem.Str) (c : Addr), f.cl.lookup x = some c → f.cl.lookup y = some c → x = y
  cok : ∀ (x : PySem.Str), f.cs.names.lookup x = some .cell → ∃ c, f.cl.lookup x = some c
theorem Fm.Ok.less {K : Frag} {f : Fm} {lv lv' : Nat} (h : f.Ok K lv) (l : lv' ≤ lv) : f.Ok K lv' :=
  ⟨h.bel, h.hA, h.hh, by have := h.dep; omega, by have := h.uni; omega, h.fn, h.gen, h.co, h.kin, h.top, h.inj, h.cok⟩

/-- the name x holds v -/
noncomputable def Acc (f : Fm) (m : PySem.Str → Option Value) (news : Led) (ρ : List Addr) (x : PySem.Str) (v : Value) : Prop := (x == ("__debug__" : PySem.Str)) = false ∧ match f.md with
  | none => (f.env.kindOf x = some .local ∧ m x = some v) ∨ (f.env.kindOf x = some .cell ∧ ∃ c o, f.cl.lookup x = some c ∧ (c, o) ∈ news ∧ c ∉ ρ ∧ o.data = .cell (some v))
  | some p => (compEnvC p.1 p.2.1 p.2.2 f.env).scope.kind = .function ∧ (((compEnvC p.1 p.2.1 p.2.2 f.env).kindOf x = some .local ∧ ∃ oC m₂, (p.2.2, oC) ∈ f.hid ∧ LCg.NsObj oC m₂ ∧ m₂ x = some v)
      ∨ ((compEnvC p.1 p.2.1 p.2.2 f.env).kindOf x = some .cell ∧ ∃ c o, p.2.1.lookup x = some c ∧ (c, o) ∈ news ∧ c ∉ ρ ∧ o.data = .cell (some v)))
theorem Acc.ext {f : Fm} {m : PySem.Str → Option Value} {news news' : Led} {ρ ρ' : List Addr} {x : PySem.Str} {v : Value} (h : Acc f m news ρ x v) (e : Ext [] news ρ news' ρ') : Acc f m news' ρ' x v := by
  unfold Acc at h ⊢
  refine ⟨h.1, ?_⟩
  have h2 := h.2
  split at h2
  · rcases h2 with h2 | ⟨k, c, o, a1, a2, a3, a4⟩
    · exact .inl h2
    · exact .inr ⟨k, c, o, a1, (e.own _ _ a2 a3 List.not_mem_nil).1, (e.own _ _ a2 a3 List.not_mem_nil).2, a4⟩
  · refine ⟨h2.1, ?_⟩
    rcases h2.2 with h3 | ⟨k, c, o, a1, a2, a3, a4⟩
    · exact .inl h3
    · exact .inr ⟨k, c, o, a1, (e.own _ _ a2 a3 List.not_mem_nil).1, (e.own _ _ a2 a3 List.not_mem_nil).2, a4⟩
noncomputable def FR (K : Frag) (f : Fm) (m : PySem.Str → Option Value) (news : Led) (ρ : List Addr) (φ : Fl') : Prop := ∀ x d, φ.lookup x = some d → ∃ v, Acc f m news ρ x v ∧ VR K news ρ v d
theorem FR.ext {K : Frag} {f : Fm} {news news' : Led} {ρ ρ' : List Addr} {m : PySem.Str → Option Value} {φ : Fl'} (h : FR K f m news ρ φ) (e : Ext [] news ρ news' ρ') : FR K f m news' ρ' φ := fun x d q => let ⟨v, a, b⟩ := h x d q; ⟨v, a.ext e, b.ext e⟩
noncomputable def CellsIn (f : Fm) (news : Led) (ρ : List Addr) : Prop := ∀ c ∈ f.exs, ∃ o v₀, (c, o) ∈ news ∧ c ∉ ρ ∧ o.data = .cell v₀
theorem CellsIn.ext {f : Fm} {news news' : Led} {ρ ρ' : List Addr} (h : CellsIn f news ρ) (e : Ext [] news ρ news' ρ') : CellsIn f news' ρ' := fun c hc =>
  let ⟨o, v₀, a, b, d⟩ := h c hc; ⟨o, v₀, (e.own _ _ a b List.not_mem_nil).1, (e.own _ _ a b List.not_mem_nil).2, d⟩

structure Dy (K : Frag) (f : Fm) (m : PySem.Str → Option Value) (φ : Fl') (σ : Sto) (h : Heap) (news : Led) (ρ : List Addr) : Prop where
  fr : Fr f.h₀ f.L h m
  rel : FR K f m news ρ φ
  nw : News f.h₀ f.L h (f.hid ++ news)
  sr : SR K news ρ σ
  ce : CellsIn f news ρ
  off : ∀ p ∈ f.hid, ∀ q ∈ news, p.1 ≠ q.1
theorem Dy.nwv {K : Frag} {f : Fm} {m : PySem.Str → Option Value} {φ : Fl'} {σ : Sto} {h : Heap} {news : Led} {ρ : List Addr} (D : Dy K f m φ σ h news ρ) : News f.h₀ f.L h news := fun p hp => D.nw p (List.mem_append_right _ hp)
theorem News.mid {h₀ h : Heap} {L : Addr} {hid news : Led} {p : Addr × Obj} (N : News h₀ L h (p :: (hid ++ news))) : News h₀ L h (hid ++ p :: news) := fun q hq => by
  rcases List.mem_append.mp hq with hq | hq
  · exact N q (.tail _ (List.mem_append_left _ hq))
  · rcases List.mem_cons.mp hq with rfl | hq
    · exact N _ (.head _)
    · exact N q (.tail _ (List.mem_append_right _ hq))

section
variable (prog : Program) (w : World) (K : Frag)
/-- from the frame φ and the store σ the tree ends in the store σ' with a result that R knows -/
structure T {α : Type} (S : Sc) (lv : Nat) (φ : Fl') (σ : Sto) (t : Fm → Sem α) (σ' : Sto) (R : Led → List Addr → α → Prop) : Prop where
  run :
  ∀ (f : Fm) (s : Shared) (m : PySem.Str → Option Value) (news : Led) (ρ : List Addr) (Q : α → Shared → Prop) (E : Value → Shared → Prop), f.Is S → f.Ok K lv → Dy K f m φ σ s.heap news ρ →
    (∀ a h' tk' news' ρ', Dy K f m φ σ' h' news' ρ' → Ext [] news ρ news' ρ' → R news' ρ' a → Q a { s with heap := h', toks := tk' }) → wpAny (model prog w) f.A (t f) Q E s
structure Ev (S : Sc) (lv : Nat) (φ : Fl') (σ : Sto) (e : PySem.Expr) (d : PV) (σ' : Sto) : Prop where
  run : ∀ (f : Fm) (s : Shared) (m : PySem.Str → Option Value) (news : Led) (ρ : List Addr) (Q : Value → Shared → Prop) (E : Value → Shared → Prop), f.Is S → f.Ok K lv → Dy K f m φ σ s.heap news ρ →
    (∀ a h' tk' news' ρ', Dy K f m φ σ' h' news' ρ' → Ext [] news ρ news' ρ' → VR K news' ρ' a d → Q a { s with heap := h', toks := tk' }) → wpAny (model prog w) f.A (eval e f.ee) Q E s
structure Evs (S : Sc) (lv : Nat) (φ : Fl') (σ : Sto) (es : List PySem.Expr) (pos : Pos) (ds : List PV) (σ' : Sto) : Prop where
  run : ∀ (f : Fm) (s : Shared) (m : PySem.Str → Option Value) (news : Led) (ρ : List Addr) (Q : List Value → Shared → Prop) (E : Value → Shared → Prop), f.Is S → f.Ok K lv → Dy K f m φ σ s.heap news ρ →
    (∀ a h' tk' news' ρ', Dy K f m φ σ' h' news' ρ' → Ext [] news ρ news' ρ' → VRs K news' ρ' a ds → Q a { s with heap := h', toks := tk' }) → wpAny (model prog w) f.A (spliced (backTo pos (starEach es f.ee))) Q E s
structure Tr (S : Sc) (lv : Nat) (φ : Fl') (σ : Sto) (e : PySem.Expr) (b : Bool) (σ' : Sto) : Prop where
  run : ∀ (f : Fm) (s : Shared) (m : PySem.Str → Option Value) (news : Led) (ρ : List Addr) (Q : Bool → Shared → Prop) (E : Value → Shared → Prop), f.Is S → f.Ok K lv → Dy K f m φ σ s.heap news ρ →
    (∀ a h' tk' news' ρ', Dy K f m φ σ' h' news' ρ' → Ext [] news ρ news' ρ' → a = b → Q a { s with heap := h', toks := tk' }) → wpAny (model prog w) f.A (isTrue e f.ee (eval e f.ee)) Q E s
inductive Fw where
  | next
  | ret (d : PV)
noncomputable def FlR (news : Led) (ρ : List Addr) (fl : Flow) (g : Fw) : Prop := match g with
  | .next => fl = .next
  | .ret d => ∃ v, fl = .ret v ∧ VR K news ρ v d
structure Ex (S : Sc) (lv : Nat) (φ : Fl') (σ : Sto) (st : PySem.Stmt) (g : Fw) (φ' : Fl') (σ' : Sto) : Prop where
  run : ∀ (f : Fm) (s : Shared) (m : PySem.Str → Option Value) (news : Led) (ρ : List Addr) (Q : Flow → Shared → Prop) (E : Value → Shared → Prop), f.Is S → f.md = none → f.Ok K lv → Dy K f m φ σ s.heap news ρ →
    (∀ a h' tk' m' news' ρ', Dy K f m' φ' σ' h' news' ρ' → Ext f.exs news ρ news' ρ' → FlR K news' ρ' a g → Q a { s with heap := h', toks := tk' }) → wpAny (model prog w) f.A (exec st f.ee) Q E s
structure Exs (S : Sc) (lv : Nat) (φ : Fl') (σ : Sto) (sts : List PySem.Stmt) (g : Fw) (φ' : Fl') (σ' : Sto) : Prop where
  run : ∀ (f : Fm) (s : Shared) (m : PySem.Str → Option Value) (news : Led) (ρ : List Addr) (Q : Flow → Shared → Prop) (E : Value → Shared → Prop), f.Is S → f.md = none → f.Ok K lv → Dy K f m φ σ s.heap news ρ →
    (∀ a h' tk' m' news' ρ', Dy K f m' φ' σ' h' news' ρ' → Ext f.exs news ρ news' ρ' → FlR K news' ρ' a g → Q a { s with heap := h', toks := tk' }) → wpAny (model prog w) f.A (execs sts f.ee) Q E s
/-- an operation on values, whatever the frame -/
structure Op1 (lv : Nat) (σ : Sto) (op : Value → Sem Value) (d1 : PV) (d : PV) (σ' : Sto) : Prop where
  run :
  ∀ (f : Fm) (s : Shared) (m : PySem.Str → Option Value) (news : Led) (ρ : List Addr) (φ : Fl') (Q : Value → Shared → Prop) (E : Value → Shared → Prop) v1, f.Ok K lv → Dy K f m φ σ s.heap news ρ → VR K news ρ v1 d1 →
    (∀ a h' tk' news' ρ', Dy K f m φ σ' h' news' ρ' → Ext [] news ρ news' ρ' → VR K news' ρ' a d → Q a { s with heap := h', toks := tk' }) → wpAny (model prog w) f.A (op v1) Q E s
structure Op2 (lv : Nat) (σ : Sto) (op : Value → Value → Sem Value) (d1 d2 : PV) (d : PV) (σ' : Sto) : Prop where
  run :
  ∀ (f : Fm) (s : Shared) (m : PySem.Str → Option Value) (news : Led) (ρ : List Addr) (φ : Fl') (Q : Value → Shared → Prop) (E : Value → Shared → Prop) v1 v2, f.Ok K lv → Dy K f m φ σ s.heap news ρ → VR K news ρ v1 d1 → VR K news ρ v2 d2 →
    (∀ a h' tk' news' ρ', Dy K f m φ σ' h' news' ρ' → Ext [] news ρ news' ρ' → VR K news' ρ' a d → Q a { s with heap := h', toks := tk' }) → wpAny (model prog w) f.A (op v1 v2) Q E s
structure Ca (lv : Nat) (fv : Value) (ds : List PV) (σ : Sto) (d : PV) (σ' : Sto) : Prop where
  run :
  ∀ (f : Fm) (s : Shared) (m : PySem.Str → Option Value) (news : Led) (ρ : List Addr) (φ : Fl') (Q : Value → Shared → Prop) (E : Value → Shared → Prop) vs, f.Ok K lv → Dy K f m φ σ s.heap news ρ → VRs K news ρ vs ds →
    (∀ a h' tk' news' ρ', Dy K f m φ σ' h' news' ρ' → Ext [] news ρ news' ρ' → VR K news' ρ' a d → Q a { s with heap := h', toks := tk' }) → wpAny (model prog w) f.A (call fv vs) Q E s
end
end Mine
namespace Mine
section
variable {prog : Program} {w : World} {K : Frag} {S : Sc} {lv : Nat} {φ φ' φ'' : Fl'} {σ σ' σ'' : Sto}

theorem ev_int {i : Int} {k pos} : Ev prog w K S lv φ σ (.Constant (.int i) k pos) (.int i) σ :=
  ⟨fun f s m news ρ Q E _ _ D k => wpAny_Constant_int (k _ _ _ _ _ D (.refl _ _ _) (.int _ _))⟩
theorem ev_bool {b : Bool} {k pos} : Ev prog w K S lv φ σ (.Constant (.bool b) k pos) (.bool b) σ :=
  ⟨fun f s m news ρ Q E _ _ D k => Constant_bool (k _ s.heap s.toks _ _ D (.refl _ _ _) (.bool _))⟩
theorem ev_none {k pos} : Ev prog w K S lv φ σ (.Constant .none k pos) .none σ :=
  ⟨fun f s m news ρ Q E _ _ D k => Constant_none (k _ s.heap s.toks _ _ D (.refl _ _ _) .none)⟩
theorem ev_str {x : PySem.Str} {k pos} : Ev prog w K S lv φ σ (.Constant (.str x) k pos) (.str x) σ :=
  ⟨fun f s m news ρ Q E _ _ D k => wpAny_mkText (x := x) (k _ _ _ _ _ D (.refl _ _ _) (.str _ _))⟩
/-- a name of the top, seen from the frame or from a block in it -/
noncomputable def GlobX (S : Sc) (x : PySem.Str) : Prop := (x == ("__debug__" : PySem.Str)) = false ∧ ∀ f : Fm, f.Is S → f.ee.kindOf x = some .globalImplicit ∧ (f.cs.kind = .function → f.ee.scope.kind = .function)
theorem gx_fn {cs : Scope} {bs : Heap → Prop} {x : PySem.Str} (hd : (x == ("__debug__" : PySem.Str)) = false) (h : cs.names.lookup x = some .globalImplicit) : GlobX ⟨cs, none, bs⟩ x := by
  refine ⟨hd, fun f hf => ?_⟩
  have h1 := hf.cs
  have h2 := hf.md
  unfold Fm.ee
  split
  · exact ⟨by show f.cs.names.lookup x = _; rw [h1]; exact h, id⟩
  · rename_i q; rw [q] at h2; cases h2
theorem relabel_global {env : Env} {x : PySem.Str} : ∀ {names : List (PySem.Str × NameKind)}, names.lookup x = some .globalImplicit →
    (names.map fun (n, k) => if (k == NameKind.free && env.scope.kind == .function && env.kindOf n == some .cell) then (n, NameKind.cell) else (n, k)).lookup x = some .globalImplicit
  | [], h => by cases h
  | (n, k) :: r, h => by
    rw [List.lookup_cons] at h
    rw [List.map_cons]
    split at h
    · rename_i q
      cases h
      dsimp only
      rw [if_neg (by simp), List.lookup_cons, q]
    · rename_i q
      have ih := relabel_global (env := env) h
      dsimp only
      split <;> (rw [List.lookup_cons, q]; exact ih)
theorem gx_comp {cs sc : Scope} {bs : Heap → Prop} {x : PySem.Str} (hd : (x == ("__debug__" : PySem.Str)) = false) (h : sc.names.lookup x = some .globalImplicit) (hk : sc.kind = .function) : GlobX ⟨cs, some sc, bs⟩ x := by
  refine ⟨hd, fun f hf => ?_⟩
  have h2 := hf.md
  unfold Fm.ee
  split
  · rename_i q; rw [q] at h2; cases h2
  · rename_i p q
    rw [q] at h2
    have h3 : p.1 = sc := Option.some.inj h2
    refine ⟨?_, fun _ => by show (relabel p.1 f.env).kind = _; rw [h3]; exact hk⟩
    show (relabel p.1 f.env).names.lookup x = _
    rw [h3]
    exact relabel_global h
theorem ee_globals (f : Fm) : f.ee.globals = mainGlobals ∧ f.ee.builtins = builtinsNs := by
  unfold Fm.ee
  split <;> exact ⟨rfl, rfl⟩
theorem ee_none {f : Fm} (h : f.md = none) : f.ee = f.env := by unfold Fm.ee; rw [h]
theorem ee_some {f : Fm} {p : Scope × List (PySem.Str × Addr) × Addr} (h : f.md = some p) : f.ee = compEnvC p.1 p.2.1 p.2.2 f.env := by unfold Fm.ee; rw [h]
theorem glob_val {f : Fm} {s : Shared} {m : PySem.Str → Option Value} {news : Led} {ρ : List Addr} {x : PySem.Str} {pos} {v : Value} {Q : Value → Shared → Prop} {E : Value → Shared → Prop} (hS : f.Is S) (ok : f.Ok K lv) (D : Dy K f m φ σ s.heap news ρ) (g : GlobX S x) (h : nsIn K mainGlobals x = some (some v)) (k : Q v s) :
    wpAny (model prog w) f.A (eval (.Name x pos) f.ee) Q E s := by
  obtain ⟨p, loose, mean, mg, mb, T, _⟩ := ok.top
  have F := D.fr
  refine Name_function_global ((g.2 f hS).2 ok.fn) (g.2 f hS).1 (loadGlobal_global (mg := mg) ?_ (mg_of ok.kin T.g h) k) g.1
  rw [(ee_globals f).1]
  exact (T.keeps F.keep).g
theorem glob_built {f : Fm} {s : Shared} {m : PySem.Str → Option Value} {news : Led} {ρ : List Addr} {x : PySem.Str} {pos} {v : Value} {Q : Value → Shared → Prop} {E : Value → Shared → Prop} (hS : f.Is S) (ok : f.Ok K lv) (D : Dy K f m φ σ s.heap news ρ) (g : GlobX S x) (h : nsIn K mainGlobals x = some .none) (hv : bootBuiltins x = some v) (hn : x ≠ "__name__") (k : Q v s) :
    wpAny (model prog w) f.A (eval (.Name x pos) f.ee) Q E s := by
  obtain ⟨p, loose, mean, mg, mb, T, _⟩ := ok.top
  have F := D.fr
  refine Name_function_global ((g.2 f hS).2 ok.fn) (g.2 f hS).1 (loadGlobal_builtin (mg := mg) (mb := mb) ?_ (mg_none_of ok.kin T.g h) ?_ ((T.builtins x hn).trans hv) k) g.1
  · rw [(ee_globals f).1]; exact (T.keeps F.keep).g
  · rw [(ee_globals f).2]; exact (T.keeps F.keep).b
theorem ev_name {x : PySem.Str} {pos} {d : PV} (h : φ.lookup x = some d) : Ev prog w K S lv φ σ (.Name x pos) d σ := by
  refine ⟨fun f s m news ρ Q E hS ok D k => ?_⟩
  obtain ⟨v, acc, r⟩ := D.rel x d h
  have fin : Q v s := k _ s.heap s.toks _ _ D (.refl _ _ _) r
  obtain ⟨hd, acc⟩ := acc
  show wpAny (model prog w) f.A (eval (.Name x pos) f.ee) Q E s
  cases q : f.md with
  | none =>
    rw [ee_none q]
    rw [q] at acc
    rcases acc with ⟨k1, hv⟩ | ⟨k1, c, o, a1, a2, a3, a4⟩
    · exact nameX_L D.fr hv fin ok.fn k1 hd
    · exact nameX_C D.nwv a1 a2 a4 fin ok.fn k1 hd
  | some p =>
    rw [ee_some q]
    rw [q] at acc
    obtain ⟨kf, acc⟩ := acc
    rcases acc with ⟨k1, oC, m₂, a1, a3, a4⟩ | ⟨k1, c, o, a1, a2, a3, a4⟩
    · exact LCgL.ld_own D.nw (List.mem_append_left _ a1) a3 a4 fin kf k1 hd
    · exact lcf_cell D.nwv a1 a2 a4 fin kf k1 hd
/-- a tuple of the top -/
theorem ev_topTup {x : PySem.Str} {pos} {a n : Nat} {vs : List Value} {l : List PV} {dd : Option Addr} {sl : Array (Option Value)} (g : GlobX S x) (h : nsIn K mainGlobals x = some (some (.ref a))) (hk : K.lookup a = some ⟨.type "tuple", dd, .seq vs.toArray n, sl⟩) (hv : VRs K [] [] vs l) : Ev prog w K S lv φ σ (.Name x pos) (.tup l) σ := by
  refine ⟨fun f s m news ρ Q E hS ok D k => ?_⟩
  exact glob_val hS ok D g h (k _ s.heap s.toks _ _ D (.refl _ _ _) (.tupK hk (hv.ext (ex := []) ⟨fun _ _ _ h => absurd h List.not_mem_nil, fun _ _ _ h => absurd h List.not_mem_nil, fun _ _ h => (by cases h), fun _ _ h => absurd h List.not_mem_nil⟩)))

theorem ev_binop {l op r pos} {d1 d2 d : PV} (h1 : Ev prog w K S lv φ σ l d1 σ') (h2 : Ev prog w K S lv φ σ' r d2 σ'') {σ3 : Sto} (h3 : Op2 prog w K lv σ'' (binaryOp op) d1 d2 d σ3) : Ev prog w K S lv φ σ (.BinOp l op r pos) d σ3 := by
  refine ⟨fun f s m news ρ Q E hS ok D k => ?_⟩
  refine wpAny_BinOp (h1.run f s m news ρ _ _ hS ok D fun v1 g1 t1 n1 r1 D1 e1 R1 => ?_)
  refine h2.run f _ m n1 r1 _ _ hS ok D1 fun v2 g2 t2 n2 r2 D2 e2 R2 => ?_
  exact h3.run f _ m n2 r2 φ _ _ v1 v2 ok D2 (R1.ext e2) R2 fun v3 g3 t3 n3 r3 D3 e3 R3 => k v3 g3 t3 n3 r3 D3 (e1.trans (e2.trans e3)) R3
theorem ev_unop {op e pos} {d1 d : PV} (h1 : Ev prog w K S lv φ σ e d1 σ') (h3 : Op1 prog w K lv σ' (unaryOp op) d1 d σ'') : Ev prog w K S lv φ σ (.UnaryOp op e pos) d σ'' := by
  refine ⟨fun f s m news ρ Q E hS ok D k => ?_⟩
  refine UnaryOp_ (h1.run f s m news ρ _ _ hS ok D fun v1 g1 t1 n1 r1 D1 e1 R1 => ?_)
  exact h3.run f _ m n1 r1 φ _ _ v1 ok D1 R1 fun v3 g3 t3 n3 r3 D3 e3 R3 => k v3 g3 t3 n3 r3 D3 (e1.trans e3) R3
theorem ev_cmp {l op r pos} {d1 d2 d : PV} (h1 : Ev prog w K S lv φ σ l d1 σ') (h2 : Ev prog w K S lv φ σ' r d2 σ'') {σ3 : Sto} (h3 : Op2 prog w K lv σ'' (compareOp op) d1 d2 d σ3)
    (hm : behindInMarks op r = false := by with_unfolding_all rfl) : Ev prog w K S lv φ σ (.Compare l [op] [r] pos) d σ3 := by
  refine ⟨fun f s m news ρ Q E hS ok D k => ?_⟩
  refine wpAny_Compare1 (h1.run f s m news ρ _ _ hS ok D fun v1 g1 t1 n1 r1 D1 e1 R1 => ?_) hm
  refine h2.run f _ m n1 r1 _ _ hS ok D1 fun v2 g2 t2 n2 r2 D2 e2 R2 => ?_
  exact h3.run f _ m n2 r2 φ _ _ v1 v2 ok D2 (R1.ext e2) R2 fun v3 g3 t3 n3 r3 D3 e3 R3 => k v3 g3 t3 n3 r3 D3 (e1.trans (e2.trans e3)) R3

/-! truth -/
/-- the truth of a value that the store does not know -/
inductive TV : PV → Bool → Prop
  | none : TV .none false
  | bool (b : Bool) : TV (.bool b) b
theorem truthy_TV {f : Fm} {s : Shared} {news : Led} {ρ : List Addr} {v : Value} {d : PV} {b : Bool} {Q : Bool → Shared → Prop} {E : Value → Shared → Prop} {A : Around} (hv : VR K news ρ v d) (ht : TV d b) (h : Q b s) : wpAny (model prog w) A (truthy v) Q E s := by
  cases ht with
  | none => cases hv; exact truthy_none h
  | bool => cases hv; exact wpAny_truthy_bool h

theorem tr_cmp {l op r pos} {d1 d2 : PV} {b : Bool} (h1 : Ev prog w K S lv φ σ l d1 σ') (h2 : Ev prog w K S lv φ σ' r d2 σ'') {σ3 : Sto} (h3 : Op2 prog w K lv σ'' (compareOp op) d1 d2 (.bool b) σ3)
    (hm : behindInMarks op r = false := by with_unfolding_all rfl) : Tr prog w K S lv φ σ (.Compare l [op] [r] pos) b σ3 := by
  refine ⟨fun f s m news ρ Q E hS ok D k => ?_⟩
  refine wpAny_isTrue_Compare1 (h1.run f s m news ρ _ _ hS ok D fun v1 g1 t1 n1 r1 D1 e1 R1 => ?_) hm
  refine h2.run f _ m n1 r1 _ _ hS ok D1 fun v2 g2 t2 n2 r2 D2 e2 R2 => ?_
  exact h3.run f _ m n2 r2 φ _ _ v1 v2 ok D2 (R1.ext e2) R2 fun v3 g3 t3 n3 r3 D3 e3 R3 => by
    cases R3
    exact wpAny_truthy_bool (k b g3 t3 n3 r3 D3 (e1.trans (e2.trans e3)) rfl)
theorem tr_plain {e : PySem.Expr} {d : PV} {b : Bool} (h1 : Ev prog w K S lv φ σ e d σ') (ht : TV d b)
    (he : ∀ env whole, isTrue e env whole = (do let v ← whole; standAt e.pos; holding [v] (truthy v)) := by intros; rfl) : Tr prog w K S lv φ σ e b σ' := by
  refine ⟨fun f s m news ρ Q E hS ok D k => ?_⟩
  refine isTrue_plain (h1.run f s m news ρ _ _ hS ok D fun v1 g1 t1 n1 r1 D1 e1 R1 => ?_) (he _ _)
  cases ht with
  | none => cases R1; exact truthy_none (k _ g1 t1 n1 r1 D1 e1 rfl)
  | bool => cases R1; exact wpAny_truthy_bool (k _ g1 t1 n1 r1 D1 e1 rfl)
/-- the parts of an and | or, by their truth -/
theorem tr_and_nil {pos} : Tr prog w K S lv φ σ (.BoolOp .And [] pos) true σ := ⟨fun f s m news ρ Q E _ _ D k => isTrue_and_nil (k _ s.heap s.toks _ _ D (.refl _ _ _) rfl)⟩
theorem tr_or_nil {pos} : Tr prog w K S lv φ σ (.BoolOp .Or [] pos) false σ := ⟨fun f s m news ρ Q E _ _ D k => isTrue_or_nil (k _ s.heap s.toks _ _ D (.refl _ _ _) rfl)⟩
theorem whole_free_and {rest : List PySem.Expr} {pos env} (w1 w2 : Sem Value) : isTrue (.BoolOp .And rest pos) env w1 = isTrue (.BoolOp .And rest pos) env w2 := rfl
theorem tr_and_true {x rest pos} {b : Bool} (h1 : Tr prog w K S lv φ σ x true σ') (h2 : Tr prog w K S lv φ σ' (.BoolOp .And rest pos) b σ'') : Tr prog w K S lv φ σ (.BoolOp .And (x :: rest) pos) b σ'' := by
  refine ⟨fun f s m news ρ Q E hS ok D k => ?_⟩
  refine isTrue_and (h1.run f s m news ρ _ _ hS ok D fun c g1 t1 n1 r1 D1 e1 R1 => ?_)
  subst R1
  exact h2.run f _ m n1 r1 _ _ hS ok D1 fun c g2 t2 n2 r2 D2 e2 R2 => k c g2 t2 n2 r2 D2 (e1.trans e2) R2
theorem tr_and_false {x rest pos} (h1 : Tr prog w K S lv φ σ x false σ') : Tr prog w K S lv φ σ (.BoolOp .And (x :: rest) pos) false σ' := by
  refine ⟨fun f s m news ρ Q E hS ok D k => ?_⟩
  refine isTrue_and (h1.run f s m news ρ _ _ hS ok D fun c g1 t1 n1 r1 D1 e1 R1 => ?_)
  subst R1
  exact k _ g1 t1 n1 r1 D1 e1 rfl
theorem tr_or_false {x rest pos} {b : Bool} (h1 : Tr prog w K S lv φ σ x false σ') (h2 : Tr prog w K S lv φ σ' (.BoolOp .Or rest pos) b σ'') : Tr prog w K S lv φ σ (.BoolOp .Or (x :: rest) pos) b σ'' := by
  refine ⟨fun f s m news ρ Q E hS ok D k => ?_⟩
  refine isTrue_or (h1.run f s m news ρ _ _ hS ok D fun c g1 t1 n1 r1 D1 e1 R1 => ?_)
  subst R1
  exact h2.run f _ m n1 r1 _ _ hS ok D1 fun c g2 t2 n2 r2 D2 e2 R2 => k c g2 t2 n2 r2 D2 (e1.trans e2) R2
theorem tr_or_true {x rest pos} (h1 : Tr prog w K S lv φ σ x true σ') : Tr prog w K S lv φ σ (.BoolOp .Or (x :: rest) pos) true σ' := by
  refine ⟨fun f s m news ρ Q E hS ok D k => ?_⟩
  refine isTrue_or (h1.run f s m news ρ _ _ hS ok D fun c g1 t1 n1 r1 D1 e1 R1 => ?_)
  subst R1
  exact k _ g1 t1 n1 r1 D1 e1 rfl
theorem ev_ifT {c a b pos} {d : PV} (h1 : Tr prog w K S lv φ σ c true σ') (h2 : Ev prog w K S lv φ σ' a d σ'') : Ev prog w K S lv φ σ (.IfExp c a b pos) d σ'' := by
  refine ⟨fun f s m news ρ Q E hS ok D k => ?_⟩
  refine IfExp_ (h1.run f s m news ρ _ _ hS ok D fun c g1 t1 n1 r1 D1 e1 R1 => ?_)
  subst R1
  exact h2.run f _ m n1 r1 _ _ hS ok D1 fun c g2 t2 n2 r2 D2 e2 R2 => k c g2 t2 n2 r2 D2 (e1.trans e2) R2
theorem ev_ifF {c a b pos} {d : PV} (h1 : Tr prog w K S lv φ σ c false σ') (h2 : Ev prog w K S lv φ σ' b d σ'') : Ev prog w K S lv φ σ (.IfExp c a b pos) d σ'' := by
  refine ⟨fun f s m news ρ Q E hS ok D k => ?_⟩
  refine IfExp_ (h1.run f s m news ρ _ _ hS ok D fun c g1 t1 n1 r1 D1 e1 R1 => ?_)
  subst R1
  exact h2.run f _ m n1 r1 _ _ hS ok D1 fun c g2 t2 n2 r2 D2 e2 R2 => k c g2 t2 n2 r2 D2 (e1.trans e2) R2
/-- and | or as values, of bools -/
theorem ev_and_one {op e pos} {d : PV} (h1 : Ev prog w K S lv φ σ e d σ') : Ev prog w K S lv φ σ (.BoolOp op [e] pos) d σ' := ⟨fun f s m news ρ Q E hS ok D k => BoolOp_one (h1.run f s m news ρ Q E hS ok D k)⟩
theorem ev_and_false {e₁ e₂ rest pos} (h1 : Ev prog w K S lv φ σ e₁ (.bool false) σ') : Ev prog w K S lv φ σ (.BoolOp .And (e₁ :: e₂ :: rest) pos) (.bool false) σ' := by
  refine ⟨fun f s m news ρ Q E hS ok D k => ?_⟩
  refine BoolOp_and (h1.run f s m news ρ _ _ hS ok D fun c g1 t1 n1 r1 D1 e1 R1 => ?_)
  cases R1
  exact wpAny_truthy_bool (k _ g1 t1 n1 r1 D1 e1 (.bool _))
theorem ev_and_true {e₁ e₂ rest pos} {d : PV} (h1 : Ev prog w K S lv φ σ e₁ (.bool true) σ') (h2 : Ev prog w K S lv φ σ' (.BoolOp .And (e₂ :: rest) pos) d σ'') : Ev prog w K S lv φ σ (.BoolOp .And (e₁ :: e₂ :: rest) pos) d σ'' := by
  refine ⟨fun f s m news ρ Q E hS ok D k => ?_⟩
  refine BoolOp_and (h1.run f s m news ρ _ _ hS ok D fun c g1 t1 n1 r1 D1 e1 R1 => ?_)
  cases R1
  exact wpAny_truthy_bool (h2.run f _ m n1 r1 _ _ hS ok D1 fun c g2 t2 n2 r2 D2 e2 R2 => k c g2 t2 n2 r2 D2 (e1.trans e2) R2)
theorem ev_or_true {e₁ e₂ rest pos} (h1 : Ev prog w K S lv φ σ e₁ (.bool true) σ') : Ev prog w K S lv φ σ (.BoolOp .Or (e₁ :: e₂ :: rest) pos) (.bool true) σ' := by
  refine ⟨fun f s m news ρ Q E hS ok D k => ?_⟩
  refine BoolOp_or (h1.run f s m news ρ _ _ hS ok D fun c g1 t1 n1 r1 D1 e1 R1 => ?_)
  cases R1
  exact wpAny_truthy_bool (k _ g1 t1 n1 r1 D1 e1 (.bool _))
theorem ev_or_false {e₁ e₂ rest pos} {d : PV} (h1 : Ev prog w K S lv φ σ e₁ (.bool false) σ') (h2 : Ev prog w K S lv φ σ' (.BoolOp .Or (e₂ :: rest) pos) d σ'') : Ev prog w K S lv φ σ (.BoolOp .Or (e₁ :: e₂ :: rest) pos) d σ'' := by
  refine ⟨fun f s m news ρ Q E hS ok D k => ?_⟩
  refine BoolOp_or (h1.run f s m news ρ _ _ hS ok D fun c g1 t1 n1 r1 D1 e1 R1 => ?_)
  cases R1
  exact wpAny_truthy_bool (h2.run f _ m n1 r1 _ _ hS ok D1 fun c g2 t2 n2 r2 D2 e2 R2 => k c g2 t2 n2 r2 D2 (e1.trans e2) R2)

/-! items in a row -/
theorem evs_nil {pos} : Evs prog w K S lv φ σ [] pos [] σ := ⟨fun f s m news ρ Q E _ _ D k => spliced_none (k _ s.heap s.toks _ _ D (.refl _ _ _) .nil)⟩
theorem evs_cons {e rest pos} {d : PV} {ds : List PV} (h1 : Ev prog w K S lv φ σ e d σ') (h2 : Evs prog w K S lv φ σ' rest pos ds σ'')
    (he : ∀ env, starEach (e :: rest) env = (false, eval e env) :: starEach rest env := by intro _; rfl) : Evs prog w K S lv φ σ (e :: rest) pos (d :: ds) σ'' := by
  refine ⟨fun f s m news ρ Q E hS ok D k => ?_⟩
  refine spliced_more ?_ (he _)
  refine h1.run f s m news ρ _ _ hS ok D fun v g1 t1 n1 r1 D1 e1 R1 => ?_
  exact h2.run f _ m n1 r1 _ _ hS ok D1 fun vs g2 t2 n2 r2 D2 e2 R2 => k _ g2 t2 n2 r2 D2 (e1.trans e2) (.cons (R1.ext e2) R2)

theorem Ext.push {news : Led} {ρ : List Addr} (p : Addr × Obj) : Ext [] news ρ (p :: news) ρ := ⟨fun _ _ _ h => .tail _ h, fun _ _ _ h k => ⟨.tail _ h, k⟩, fun _ _ h => h, fun _ _ h k _ => ⟨.tail _ h, k⟩⟩
theorem SR.ext {ex : List Addr} {news news' : Led} {ρ : List Addr} (S : SR K news ρ σ) (e : Ext ex news ρ news' ρ) (k : ∀ p ∈ news, p ∈ news') : SR K news' ρ σ :=
  ⟨S.len, S.nd, fun a h => let ⟨ob, q⟩ := S.here a h; ⟨ob, k _ q⟩, fun i o h => let ⟨a, ob, x, y, z⟩ := S.at_ i o h; ⟨a, ob, x, k _ y, z.ext e⟩⟩
theorem Dy.push {f : Fm} {h h' : Heap} {m : PySem.Str → Option Value} {news : Led} {ρ : List Addr} {p : Addr × Obj} (D : Dy K f m φ σ h news ρ) (F : Fr f.h₀ f.L h' m) (N : News f.h₀ f.L h' (p :: (f.hid ++ news))) (l : ∀ q ∈ f.hid ++ news, q.1 < p.1) : Dy K f m φ σ h' (p :: news) ρ :=
  ⟨F, D.rel.ext (.push p), News.mid N, D.sr.ext (ex := []) (.push p) fun _ h => .tail _ h, D.ce.ext (.push p), fun q hq r hr => by
    rcases List.mem_cons.mp hr with rfl | hr
    · exact Nat.ne_of_lt (l q (List.mem_append_left _ hq))
    · exact D.off q hq r hr⟩
theorem Dy.size {f : Fm} {h : Heap} {m : PySem.Str → Option Value} {news : Led} {ρ : List Addr} (D : Dy K f m φ σ h news ρ) : ∀ q ∈ f.hid ++ news, q.1 < h.objs.size := fun q hq => Heap.lt_size (D.nw q hq).1
theorem Dy.same {f : Fm} {h h' : Heap} {m : PySem.Str → Option Value} {news : Led} {ρ : List Addr} (D : Dy K f m φ σ h news ρ) (F : Fr f.h₀ f.L h' m) (N : News f.h₀ f.L h' (f.hid ++ news)) : Dy K f m φ σ h' news ρ := ⟨F, D.rel, N, D.sr, D.ce, D.off⟩
theorem ev_tuple {elts k pos} {ds : List PV} (h1 : Evs prog w K S lv φ σ elts pos ds σ') (hsz : ds.length ≤ 1000 := by decide) : Ev prog w K S lv φ σ (.Tuple elts k pos) (.tup ds) σ' := by
  refine ⟨fun f s m news ρ Q E hS ok D k => ?_⟩
  refine Tuple_ (h1.run f s m news ρ _ _ hS ok D fun vs g1 t1 n1 r1 D1 e1 R1 => ?_)
  refine newTuple_N D1.fr D1.nw (fun h' F' N' => ?_) (by rw [R1.length, sizeLine_eq]; omega)
  exact k _ _ _ _ _ (D1.push F' N' D1.size) (e1.trans (.push _)) (.tup (.head _) (R1.ext (.push _)))
/-- a list that nothing turns -/
theorem newList_frozen {f : Fm} {s : Shared} {m : PySem.Str → Option Value} {news : Led} {ρ : List Addr} {vs : List Value} {ds : List PV} {Q : Value → Shared → Prop} {E : Value → Shared → Prop} (D : Dy K f m φ σ s.heap news ρ) (R1 : VRs K news ρ vs ds) (hsz : ds.length ≤ 100000)
    (k : ∀ a h' tk' news' ρ', Dy K f m φ σ h' news' ρ' → Ext [] news ρ news' ρ' → VR K news' ρ' a (.lst ds) → Q a { s with heap := h', toks := tk' }) : wpAny (model prog w) f.A (newList vs) Q E s := by
  refine newList_K D.fr D.nw (fun l h' F' N' hl => ?_) (by rw [R1.length, sizeLine_eq]; omega)
  refine k _ _ s.toks _ _ (D.push F' N' hl) (.push _) (.lst (.head _) (fun hm => ?_) (R1.ext (.push _)))
  obtain ⟨ob, hq⟩ := D.sr.here _ hm
  exact Nat.lt_irrefl _ (hl _ (List.mem_append_right _ hq))
theorem ev_list {elts pos} {ds : List PV} (h1 : Evs prog w K S lv φ σ elts pos ds σ') (hsz : ds.length ≤ 1000 := by decide) : Ev prog w K S lv φ σ (.List elts pos) (.lst ds) σ' := by
  refine ⟨fun f s m news ρ Q E hS ok D k => ?_⟩
  refine List_ (h1.run f s m news ρ _ _ hS ok D fun vs g1 t1 n1 r1 D1 e1 R1 => ?_)
  exact newList_frozen D1 R1 (by omega) fun a g2 t2 n2 r2 D2 e2 R2 => k a g2 t2 n2 r2 D2 (e1.trans e2) R2
/-- a list that turns: the next number of the store -/
theorem newList_turning {f : Fm} {s : Shared} {m : PySem.Str → Option Value} {news : Led} {ρ : List Addr} {vs : List Value} {ds : List PV} {Q : Value → Shared → Prop} {E : Value → Shared → Prop} (D : Dy K f m φ σ s.heap news ρ) (R1 : VRs K news ρ vs ds) (hsz : ds.length ≤ 100000)
    (k : ∀ a h' tk' news' ρ', Dy K f m φ (σ ++ [.list ds]) h' news' ρ' → Ext [] news ρ news' ρ' → VR K news' ρ' a (.ref σ.length) → Q a { s with heap := h', toks := tk' }) : wpAny (model prog w) f.A (newList vs) Q E s := by
  refine newList_K D.fr D.nw (fun l h' F' N' hl => ?_) (by rw [R1.length, sizeLine_eq]; omega)
  have off : l ∉ ρ := fun hm => by
    obtain ⟨ob, hq⟩ := D.sr.here _ hm
    exact Nat.lt_irrefl _ (hl _ (List.mem_append_right _ hq))
  have keep : ∀ (a : Addr) (ob : Obj), (a, ob) ∈ news → a ∉ ρ → (a, ob) ∈ (l, listOf vs.toArray 0) :: news ∧ a ∉ ρ ++ [l] := fun a _ h q => ⟨.tail _ h, fun z => by
    rcases List.mem_append.mp z with z | z
    · exact q z
    · have z' := List.mem_singleton.mp z
      subst z'
      exact Nat.lt_irrefl _ (hl _ (List.mem_append_right _ h))⟩
  have e : Ext [] news ρ ((l, listOf vs.toArray 0) :: news) (ρ ++ [l]) := by
    refine ⟨fun _ _ _ h => .tail _ h, fun a _ _ h q => keep _ _ h q, fun i a h => ?_, fun a _ h q _ => keep _ _ h q⟩
    rw [List.getElem?_append_left (List.getElem?_eq_some_iff.mp h).1]; exact h
  have S : SR K ((l, listOf vs.toArray 0) :: news) (ρ ++ [l]) (σ ++ [.list ds]) := by
    refine ⟨by simp [D.sr.len], ?_, fun a hm => ?_, fun i o h => ?_⟩
    · rw [List.nodup_append]
      refine ⟨D.sr.nd, by simp, fun a ha b hb => ?_⟩
      rw [List.mem_singleton.mp hb]
      intro q; exact off (q ▸ ha)
    · rcases List.mem_append.mp hm with hm | hm
      · obtain ⟨ob, q⟩ := D.sr.here a hm; exact ⟨ob, .tail _ q⟩
      · rw [List.mem_singleton.mp hm]; exact ⟨_, .head _⟩
    · by_cases hi : i < σ.length
      · rw [List.getElem?_append_left hi] at h
        obtain ⟨a, ob, x, y, z⟩ := D.sr.at_ i o h
        exact ⟨a, ob, e.ref _ _ x, .tail _ y, z.ext e⟩
      · have hi' : i = σ.length := by
          have := (List.getElem?_eq_some_iff.mp h).1
          simp at this; omega
        subst hi'
        simp at h
        subst h
        exact ⟨l, _, by rw [← D.sr.len]; simp, .head _, .list (R1.ext e)⟩
  refine k _ _ s.toks _ _ ⟨F', D.rel.ext e, News.mid N', S, D.ce.ext e, fun q hq r hr => by
    rcases List.mem_cons.mp hr with rfl | hr
    · exact Nat.ne_of_lt (hl q (List.mem_append_left _ hq))
    · exact D.off q hq r hr⟩ e (.ref (by rw [← D.sr.len]; simp))
theorem ev_listT {elts pos} {ds : List PV} (h1 : Evs prog w K S lv φ σ elts pos ds σ') (hsz : ds.length ≤ 1000 := by decide) : Ev prog w K S lv φ σ (.List elts pos) (.ref σ'.length) (σ' ++ [.list ds]) := by
  refine ⟨fun f s m news ρ Q E hS ok D k => ?_⟩
  refine List_ (h1.run f s m news ρ _ _ hS ok D fun vs g1 t1 n1 r1 D1 e1 R1 => ?_)
  exact newList_turning D1 R1 (by omega) fun a g2 t2 n2 r2 D2 e2 R2 => k a g2 t2 n2 r2 D2 (e1.trans e2) R2
end
end Mine
namespace Mine
section
variable {prog : Program} {w : World} {K : Frag} {S : Sc} {lv : Nat} {φ φ' φ'' : Fl'} {σ σ' σ'' : Sto}

/-! ints -/
theorem op_add {a b : Int} : Op2 prog w K lv σ (binaryOp .Add) (.int a) (.int b) (.int (a + b)) σ := by
  refine ⟨fun f s m news ρ φ Q E v1 v2 ok D h1 h2 k => ?_⟩
  cases h1; cases h2
  exact P.add_int (k _ s.heap _ _ _ D (.refl _ _ _) (.int _ _))
theorem op_sub {a b : Int} : Op2 prog w K lv σ (binaryOp .Sub) (.int a) (.int b) (.int (a - b)) σ := by
  refine ⟨fun f s m news ρ φ Q E v1 v2 ok D h1 h2 k => ?_⟩
  cases h1; cases h2
  exact P.sub_int (k _ s.heap _ _ _ D (.refl _ _ _) (.int _ _))
theorem op_mul {a b : Int} (h : -(2 ^ 64) < a ∧ a < 2 ^ 64 ∨ -(2 ^ 64) < b ∧ b < 2 ^ 64) : Op2 prog w K lv σ (binaryOp .Mult) (.int a) (.int b) (.int (a * b)) σ := by
  refine ⟨fun f s m news ρ φ Q E v1 v2 ok D h1 h2 k => ?_⟩
  cases h1; cases h2
  refine P.mul_int (k _ s.heap _ _ _ D (.refl _ _ _) (.int _ _)) ?_
  rcases h with h | h
  · exact IntMulOk.of_left (intBits_le_64 h.1 h.2)
  · exact IntMulOk.of_right (intBits_le_64 h.1 h.2)
theorem op_mod {a b : Int} (hb : b ≠ 0) : Op2 prog w K lv σ (binaryOp .Mod) (.int a) (.int b) (.int (a.fmod b)) σ := by
  refine ⟨fun f s m news ρ φ Q E v1 v2 ok D h1 h2 k => ?_⟩
  cases h1; cases h2
  exact mod_int' hb (k _ s.heap _ _ _ D (.refl _ _ _) (.int _ _))
theorem op_div {a b : Int} (hb : b ≠ 0) (ht : prog.given.tree = .none) : Op2 prog w K lv σ (binaryOp .FloorDiv) (.int a) (.int b) (.int (a.fdiv b)) σ := by
  refine ⟨fun f s m news ρ φ Q E v1 v2 ok D h1 h2 k => ?_⟩
  cases h1; cases h2
  have F := D.fr
  obtain ⟨p, loose, mean, mg, mb, T, hp⟩ := ok.top
  refine floordiv_int hb (k _ s.heap _ _ _ D (.refl _ _ _) (.int _ _)) (.inr ?_)
  refine PylongRoom.of (T.nolimit.keeps F.keep) ?_ (SeerAt.of ((T.seer hp).keeps F.keep) ht ok.hA ok.gen ok.co rfl rfl)
  have := ok.dep
  show f.A.depth + 100 < recursionLimit
  omega
theorem op_pow {a n : Int} (hn : 0 ≤ n) (hn2 : n ≤ 1000000) (ha : a.natAbs < 2 ^ 64) : Op2 prog w K lv σ (binaryOp .Pow) (.int a) (.int n) (.int (a ^ n.toNat)) σ := by
  refine ⟨fun f s m news ρ φ Q E v1 v2 ok D h1 h2 k => ?_⟩
  cases h1; cases h2
  exact pow_int_small hn hn2 ha (k _ s.heap _ _ _ D (.refl _ _ _) (.int _ _))
theorem op_neg {a : Int} : Op1 prog w K lv σ (unaryOp .USub) (.int a) (.int (-a)) σ := by
  refine ⟨fun f s m news ρ φ Q E v1 ok D h1 k => ?_⟩
  cases h1
  exact P.neg_int (k _ s.heap _ _ _ D (.refl _ _ _) (.int _ _))
theorem op_eqI {a b : Int} : Op2 prog w K lv σ (compareOp .Eq) (.int a) (.int b) (.bool (a == b)) σ := by
  refine ⟨fun f s m news ρ φ Q E v1 v2 ok D h1 h2 k => ?_⟩
  cases h1; cases h2
  exact P.eq_int (k _ s.heap s.toks _ _ D (.refl _ _ _) (.bool _))
theorem op_ltI {a b : Int} : Op2 prog w K lv σ (compareOp .Lt) (.int a) (.int b) (.bool (decide (a < b))) σ := by
  refine ⟨fun f s m news ρ φ Q E v1 v2 ok D h1 h2 k => ?_⟩
  cases h1; cases h2
  exact P.lt_int (k _ s.heap s.toks _ _ D (.refl _ _ _) (.bool _))
theorem op_gtI {a b : Int} : Op2 prog w K lv σ (compareOp .Gt) (.int a) (.int b) (.bool (decide (a > b))) σ := by
  refine ⟨fun f s m news ρ φ Q E v1 v2 ok D h1 h2 k => ?_⟩
  cases h1; cases h2
  exact P.gt_int (k _ s.heap s.toks _ _ D (.refl _ _ _) (.bool _))
theorem op_geI {a b : Int} : Op2 prog w K lv σ (compareOp .GtE) (.int a) (.int b) (.bool (decide (a ≥ b))) σ := by
  refine ⟨fun f s m news ρ φ Q E v1 v2 ok D h1 h2 k => ?_⟩
  cases h1; cases h2
  exact P.ge_int (k _ s.heap s.toks _ _ D (.refl _ _ _) (.bool _))
/-! texts -/
theorem op_eqS {a b : PySem.Str} : Op2 prog w K lv σ (compareOp .Eq) (.str a) (.str b) (.bool (a == b)) σ := by
  refine ⟨fun f s m news ρ φ Q E v1 v2 ok D h1 h2 k => ?_⟩
  cases h1; cases h2
  exact PyProof.Rows.eq_str (k _ s.heap s.toks _ _ D (.refl _ _ _) (.bool _))
theorem op_neS {a b : PySem.Str} : Op2 prog w K lv σ (compareOp .NotEq) (.str a) (.str b) (.bool (a != b)) σ := by
  refine ⟨fun f s m news ρ φ Q E v1 v2 ok D h1 h2 k => ?_⟩
  cases h1; cases h2
  exact PyProof.Rows.ne_str (k _ s.heap s.toks _ _ D (.refl _ _ _) (.bool _))
theorem op_inS {y x : PySem.Str} {b : Bool} (hb : (!(Builtin.Str.occurrences x y 0 x.length 1).isEmpty) = b) : Op2 prog w K lv σ (compareOp .In) (.str y) (.str x) (.bool b) σ := by
  refine ⟨fun f s m news ρ φ Q E v1 v2 ok D h1 h2 k => ?_⟩
  cases h1; cases h2
  refine PyProof.Rows.in_str ?_
  rw [hb]
  exact k _ s.heap s.toks _ _ D (.refl _ _ _) (.bool _)

/-! items -/
theorem VR.isTup {f : Fm} {h : Heap} {m : PySem.Str → Option Value} {news : Led} {ρ : List Addr} {v : Value} {l : List PV} (ok : f.Ok K lv) (D : Dy K f m φ σ h news ρ) (hv : VR K news ρ v (.tup l)) : ∃ a vs, v = .ref a ∧ IsTup h a vs.toArray ∧ VRs K news ρ vs l := by
  have F := D.fr
  cases hv with
  | tup hm r => exact ⟨_, _, rfl, D.nwv.isTup hm, r⟩
  | tupK hk r => exact ⟨_, _, rfl, ⟨_, F.keep _ _ (ok.kin _ _ hk), rfl, _, rfl⟩, r⟩
theorem VR.isLst {f : Fm} {h : Heap} {m : PySem.Str → Option Value} {news : Led} {ρ : List Addr} {v : Value} {l : List PV} (D : Dy K f m φ σ h news ρ) (hv : VR K news ρ v (.lst l)) : ∃ a vs n, v = .ref a ∧ h.get? a = some (listOf (List.toArray vs) n) ∧ VRs K news ρ vs l := by
  cases hv with
  | lst hm _ r => exact ⟨_, _, _, rfl, (D.nwv _ hm).1, r⟩
theorem getItem_listJ {A : Around} {E : Value → Shared → Prop} {s : Shared} {a : Addr} {vs : List Value} {k : Int} {t : Tok} {j : Nat} {x : Value} {Q : Value → Shared → Prop} (hl : s.heap.IsList a vs.toArray) (hlo : -(2 ^ 63) ≤ k) (hhi : k < 2 ^ 63) (hj : seqIndex? k vs.length = some j) (hx : vs[j]? = some x) (h : Q x s) :
    wpAny (model prog w) A (getItem (.ref a) (.int k t)) Q E s := by
  unfold seqIndex? at hj
  by_cases hk : k < 0
  · rw [if_pos hk] at hj
    dsimp only at hj
    split at hj
    · rename_i q
      cases hj
      simp only [Bool.and_eq_true, decide_eq_true_eq] at q
      exact wpAny_getItem_list_neg hl hk (by simp; omega) hlo (by simpa using hx) h
    · cases hj
  · rw [if_neg hk] at hj
    dsimp only at hj
    split at hj
    · rename_i q
      cases hj
      exact wpAny_getItem_list hl (by omega) hhi (by simpa using hx) h
    · cases hj
theorem sub_ref {o i : Value} {slice : PySem.Expr} (e : ∀ b, subscripted slice b = subscripted (.Constant .none 0 ⟨0, 0, 0, 0⟩) b) : subscripted slice false o i = operate [o, i] (getItem o i) := by
  rw [e]; rfl
theorem ev_subT {value slice pos} {l : List PV} {k : Int} {j : Nat} {d : PV} (h1 : Ev prog w K S lv φ σ value (.tup l) σ') (h2 : Ev prog w K S lv φ σ' slice (.int k) σ'') (hj : seqIndex? k l.length = some j) (hd : l[j]? = some d) (hlo : -(2 ^ 63) ≤ k := by decide) (hhi : k < 2 ^ 63 := by decide)
    (hs : ∀ o i, subscripted slice false o i = operate [o, i] (getItem o i) := by intro _ _; rfl) : Ev prog w K S lv φ σ (.Subscript value slice pos) d σ'' := by
  refine ⟨fun f s m news ρ Q E hS ok D kk => ?_⟩
  refine Subscript_ (h1.run f s m news ρ _ _ hS ok D fun v1 g1 t1 n1 r1 D1 e1 R1 => ?_)
  refine h2.run f _ m n1 r1 _ _ hS ok D1 fun v2 g2 t2 n2 r2 D2 e2 R2 => ?_
  cases R2
  obtain ⟨a, vs, rfl, ht, r⟩ := (R1.ext e2).isTup ok D2
  obtain ⟨x, hx, rx⟩ := r.get hd
  exact item_tupleT ht hlo hhi (by rw [r.length]; exact hj) hx (kk x g2 t2 n2 r2 D2 (e1.trans e2) rx) (hs _ _)
theorem ev_subL {value slice pos} {l : List PV} {k : Int} {j : Nat} {d : PV} (h1 : Ev prog w K S lv φ σ value (.lst l) σ') (h2 : Ev prog w K S lv φ σ' slice (.int k) σ'') (hj : seqIndex? k l.length = some j) (hd : l[j]? = some d) (hlo : -(2 ^ 63) ≤ k := by decide) (hhi : k < 2 ^ 63 := by decide)
    (hs : ∀ o i, subscripted slice false o i = operate [o, i] (getItem o i) := by intro _ _; rfl) : Ev prog w K S lv φ σ (.Subscript value slice pos) d σ'' := by
  refine ⟨fun f s m news ρ Q E hS ok D kk => ?_⟩
  refine Subscript_ (h1.run f s m news ρ _ _ hS ok D fun v1 g1 t1 n1 r1 D1 e1 R1 => ?_)
  refine h2.run f _ m n1 r1 _ _ hS ok D1 fun v2 g2 t2 n2 r2 D2 e2 R2 => ?_
  cases R2
  obtain ⟨a, vs, n, rfl, ht, r⟩ := (R1.ext e2).isLst D2
  obtain ⟨x, hx, rx⟩ := r.get hd
  have hl : g2.IsList a vs.toArray := PySem.IsL.isList (n := n) ht
  exact tail_any hl.typeIs slot_list_getitem.lookup (getItem_listJ hl hlo hhi (by rw [r.length]; exact hj) hx (kk x g2 t2 n2 r2 D2 (e1.trans e2) rx)) (hs _ _)
/-- a list that turns, read -/
theorem ev_subR {value slice pos} {i : Nat} {l : List PV} {k : Int} {j : Nat} {d : PV} (h1 : Ev prog w K S lv φ σ value (.ref i) σ') (h2 : Ev prog w K S lv φ σ' slice (.int k) σ'') (hi : σ''[i]? = some (.list l)) (hj : seqIndex? k l.length = some j) (hd : l[j]? = some d) (hlo : -(2 ^ 63) ≤ k := by decide) (hhi : k < 2 ^ 63 := by decide)
    (hs : ∀ o i, subscripted slice false o i = operate [o, i] (getItem o i) := by intro _ _; rfl) : Ev prog w K S lv φ σ (.Subscript value slice pos) d σ'' := by
  refine ⟨fun f s m news ρ Q E hS ok D kk => ?_⟩
  refine Subscript_ (h1.run f s m news ρ _ _ hS ok D fun v1 g1 t1 n1 r1 D1 e1 R1 => ?_)
  refine h2.run f _ m n1 r1 _ _ hS ok D1 fun v2 g2 t2 n2 r2 D2 e2 R2 => ?_
  cases R2
  have R1' := R1.ext e2
  obtain ⟨b, ob, hb, hm, ho⟩ := D2.sr.at_ i _ hi
  cases R1' with
  | ref q =>
    rw [hb] at q
    cases q
    cases ho with
    | @list vs n _ r =>
      obtain ⟨x, hx, rx⟩ := r.get hd
      have hl : g2.IsList b vs.toArray := PySem.IsL.isList (n := n) (D2.nwv _ hm).1
      exact tail_any hl.typeIs slot_list_getitem.lookup (getItem_listJ hl hlo hhi (by rw [r.length]; exact hj) hx (kk x g2 t2 n2 r2 D2 (e1.trans e2) rx)) (hs _ _)

/-! an object of the store turns -/
noncomputable def upd (a : Addr) (ob : Obj) (news : Led) : Led := (a, ob) :: news.filter fun p => p.1 != a
theorem upd_off (a : Addr) (news : Led) : ∀ p ∈ news.filter (fun p => p.1 != a), p.1 ≠ a := fun p hp => by
  have := (List.mem_filter.mp hp).2
  simpa using this
theorem mem_upd {a : Addr} {ob : Obj} {news : Led} {p : Addr × Obj} (h : p ∈ news) (n : p.1 ≠ a) : p ∈ upd a ob news := .tail _ (List.mem_filter.mpr ⟨h, by simpa using n⟩)
theorem News.upd {h₀ h : Heap} {L a : Addr} {ob : Obj} {news : Led} (N : News h₀ L h news) (hm : (a, ob) ∈ news) : News h₀ L h (upd a ob news) := fun p hp => by
  rcases List.mem_cons.mp hp with rfl | hp
  · exact N _ hm
  · exact N _ (List.mem_filter.mp hp).1
theorem upd_hid {a : Addr} {ob : Obj} {hid news : Led} (h : ∀ p ∈ hid, p.1 ≠ a) : ∀ p ∈ hid ++ upd a ob news, p ∈ upd a ob (hid ++ news) := fun p hp => by
  rcases List.mem_append.mp hp with hp | hp
  · exact mem_upd (List.mem_append_left _ hp) (h p hp)
  · rcases List.mem_cons.mp hp with rfl | hp
    · exact .head _
    · exact mem_upd (List.mem_append_right _ (List.mem_filter.mp hp).1) (upd_off a news p hp)
theorem upd_apart {a : Addr} {ob : Obj} {hid news : Led} (h : ∀ p ∈ hid, p.1 ≠ a) (o : ∀ p ∈ hid, ∀ q ∈ news, p.1 ≠ q.1) : ∀ p ∈ hid, ∀ q ∈ upd a ob news, p.1 ≠ q.1 := fun p hp q hq => by
  rcases List.mem_cons.mp hq with rfl | hq
  · exact h p hp
  · exact o p hp q (List.mem_filter.mp hq).1
theorem upd_upd (a : Addr) (ob ob' : Obj) (news : Led) : Upd a ob ob' (upd a ob news) (upd a ob' news) := .head (upd_off a news)
theorem nodup_idx {a : Addr} : ∀ {l : List Addr} {i j : Nat}, l.Nodup → l[i]? = some a → l[j]? = some a → i = j
  | [], _, _, _, h, _ => by simp at h
  | x :: r, 0, 0, _, _, _ => rfl
  | x :: r, 0, j + 1, n, h, h' => by
    have h1 : x = a := by simpa using h
    have h2 : r[j]? = some a := by simpa using h'
    exact absurd (List.mem_of_getElem? h2) (by rw [← h1]; exact (List.nodup_cons.mp n).1)
  | x :: r, i + 1, 0, n, h, h' => by
    have h1 : x = a := by simpa using h'
    have h2 : r[i]? = some a := by simpa using h
    exact absurd (List.mem_of_getElem? h2) (by rw [← h1]; exact (List.nodup_cons.mp n).1)
  | x :: r, i + 1, j + 1, n, h, h' => congrArg (· + 1) (nodup_idx (List.nodup_cons.mp n).2 (by simpa using h) (by simpa using h'))
noncomputable def tupO (vs : Array Value) (n : Nat) : Obj := { cls := .type "tuple", data := .seq vs n }
theorem Dy.turn {f : Fm} {h h' : Heap} {m : PySem.Str → Option Value} {news : Led} {ρ : List Addr} {i : Nat} {o o' : PO} {a : Addr} {ob ob' : Obj} (D : Dy K f m φ σ h news ρ) (ho : σ[i]? = some o) (ha : ρ[i]? = some a) (hm : (a, ob) ∈ news) (hk : ∀ vs n, ob ≠ tupO vs n)
    (R : OR K news ρ ob' o') (F' : Fr f.h₀ f.L h' m) (N' : News f.h₀ f.L h' (upd a ob' (f.hid ++ news))) : Dy K f m φ (σ.set i o') h' (upd a ob' news) ρ ∧ Ext [] news ρ (upd a ob' news) ρ := by
  have ain : a ∈ ρ := List.mem_of_getElem? ha
  have e : Ext [] news ρ (upd a ob' news) ρ := by
    refine ⟨fun b vs n q => mem_upd q fun z => ?_, fun b vs n q z => ⟨mem_upd q fun z' => z (by rw [show b = a from z']; exact ain), z⟩, fun _ _ q => q, fun b _ q z _ => ⟨mem_upd q fun z' => z (by rw [show b = a from z']; exact ain), z⟩⟩
    have z' : b = a := z
    subst z'
    have x1 := (D.nwv _ hm).1
    have x2 := (D.nwv _ q).1
    rw [x1] at x2
    exact hk vs n (Option.some.inj x2)
  have hh : ∀ p ∈ f.hid, p.1 ≠ a := fun p hp => D.off p hp _ hm
  refine ⟨⟨F', D.rel.ext e, fun p hp => N' p (upd_hid hh p hp), ⟨by rw [D.sr.len, List.length_set], D.sr.nd, fun b hb => ?_, fun j x hx => ?_⟩, D.ce.ext e, upd_apart hh D.off⟩, e⟩
  · by_cases q : b = a
    · subst q; exact ⟨_, .head _⟩
    · obtain ⟨ob1, z⟩ := D.sr.here b hb
      exact ⟨ob1, mem_upd z q⟩
  · by_cases q : i = j
    · subst q
      have hlt : i < σ.length := (List.getElem?_eq_some_iff.mp ho).1
      rw [List.getElem?_set_self hlt] at hx
      cases hx
      exact ⟨a, ob', ha, .head _, R.ext e⟩
    · rw [List.getElem?_set_ne q] at hx
      obtain ⟨b, ob1, y1, y2, y3⟩ := D.sr.at_ j x hx
      refine ⟨b, ob1, y1, mem_upd y2 fun z => ?_, y3.ext e⟩
      have z' : b = a := z
      subst z'
      exact q (nodup_idx D.sr.nd ha y1)
theorem kind_list {vs : Array Value} {n : Nat} : ∀ ws k, listOf vs n ≠ tupO ws k := fun ws k h => by
  have := congrArg Obj.cls h
  simp [tupO] at this
theorem kind_dict {es : List DictEntry} {n : Nat} : ∀ ws k, dictOf es n ≠ tupO ws k := fun ws k h => by
  have := congrArg Obj.cls h
  simp [tupO] at this

/-- append on a list that turns -/
theorem append_turn {f : Fm} {s : Shared} {m : PySem.Str → Option Value} {news : Led} {ρ : List Addr} {i : Nat} {l : List PV} {v x : Value} {d : PV} {Q : Value → Shared → Prop} {E : Value → Shared → Prop} (D : Dy K f m φ σ s.heap news ρ) (hi : σ[i]? = some (.list l)) (hsz : l.length ≤ 100000) (hv : VR K news ρ v (.ref i)) (hx : VR K news ρ x d)
    (k : ∀ h' tk' news' ρ', Dy K f m φ (σ.set i (.list (l ++ [d]))) h' news' ρ' → Ext [] news ρ news' ρ' → Q .none { s with heap := h', toks := tk' }) : wpAny (model prog w) f.A (call (.builtin "list.append") [v, x]) Q E s := by
  obtain ⟨b, ob, hb, hm, ho⟩ := D.sr.at_ i _ hi
  have F := D.fr
  cases hv with
  | ref q =>
    rw [hb] at q
    cases q
    cases ho with
    | @list vs n _ r =>
      have z := D.nwv _ hm
      refine append_at (n := n) (its := vs.toArray) z.1 (fun h' hs ho' => ?_) (by simp only [List.size_toArray]; rw [r.length, sizeLine_eq]; omega)
      have N' : News f.h₀ f.L h' (Mine.upd b (listOf (vs ++ [x]).toArray (n + 1)) (f.hid ++ news)) := by
        have := news_set (pre := []) (News.upd D.nw (List.mem_append_right _ hm)) (fun _ h => absurd h List.not_mem_nil) (upd_off b (f.hid ++ news)) hs ho'
        have e9 : vs.toArray.push x = (vs ++ [x]).toArray := by simp
        rw [e9] at this
        exact this
      obtain ⟨D', e⟩ := D.turn hi hb hm kind_list (.list (r.append (.cons hx .nil))) (F.change hs z.2.1 z.2.2) N'
      exact k _ s.toks _ _ D' e
/-- a store into a list that turns -/
theorem setItem_turn {f : Fm} {s : Shared} {m : PySem.Str → Option Value} {news : Led} {ρ : List Addr} {i : Nat} {l : List PV} {v x : Value} {d : PV} {j : Int} {t : Tok} {Q : Unit → Shared → Prop} {E : Value → Shared → Prop} (D : Dy K f m φ σ s.heap news ρ) (hi : σ[i]? = some (.list l)) (hv : VR K news ρ v (.ref i)) (hx : VR K news ρ x d) (h0 : 0 ≤ j) (h1 : j < l.length) (hfit : j < 2 ^ 63)
    (k : ∀ h' tk' news' ρ', Dy K f m φ (σ.set i (.list (l.set j.toNat d))) h' news' ρ' → Ext [] news ρ news' ρ' → Q () { s with heap := h', toks := tk' }) : wpAny (model prog w) f.A (setItem v (.int j t) x) Q E s := by
  obtain ⟨b, ob, hb, hm, ho⟩ := D.sr.at_ i _ hi
  have F := D.fr
  cases hv with
  | ref q =>
    rw [hb] at q
    cases q
    cases ho with
    | @list vs n _ r =>
      have z := D.nwv _ hm
      refine ki_setAt z.1 h0 hfit (by simp only [List.size_toArray]; rw [r.length]; exact h1) ?_
      have N' := ki_turn (its := vs.toArray) (its' := (vs.set j.toNat x).toArray) (n := n) (n' := n) (·.setIfInBounds j.toNat x) (pre := []) (News.upd D.nw (List.mem_append_right _ hm)) (fun _ h => absurd h List.not_mem_nil) (upd_off b (f.hid ++ news)) (by apply Array.toList_inj.mp; simp) (by simp)
      obtain ⟨D', e⟩ := D.turn hi hb hm kind_list (.list (r.set hx j.toNat)) (F.change (Heap.SameBut.update ..) z.2.1 z.2.2) N'
      exact k _ s.toks _ _ D' e
/-! fields -/
structure Cls (K : Frag) (C : Nat) : Prop where
  hg : plainGet K C ("" : PySem.Str) = true
  hh : hasDictIn K C = true
  hs : findIn K (.ref C) "__setattr__" = some (some (.builtin "object.__setattr__"))
  hp : plainOver K C = true
theorem inst_at {f : Fm} {h : Heap} {m : PySem.Str → Option Value} {news : Led} {ρ : List Addr} {i dn C : Nat} {fs : List (PySem.Str × PV)} {v : Value} (D : Dy K f m φ σ h news ρ) (hi : σ[i]? = some (.inst C dn)) (hd : σ[dn]? = some (.dict fs)) (hv : VR K news ρ v (.ref i)) :
    ∃ x dx es n, v = .ref x ∧ (x, instObj C dx) ∈ news ∧ (dx, dictOf es n) ∈ news ∧ FRs K news ρ es fs ∧ ρ[dn]? = some dx := by
  obtain ⟨b, ob, hb, hm, ho⟩ := D.sr.at_ i _ hi
  obtain ⟨b2, ob2, hb2, hm2, ho2⟩ := D.sr.at_ dn _ hd
  cases hv with
  | ref q =>
    rw [hb] at q
    cases q
    cases ho with
    | inst hdx =>
      rw [hb2] at hdx
      cases hdx
      cases ho2 with
      | dict r => exact ⟨_, _, _, _, rfl, hm, hm2, r, hb2⟩
theorem getAttr_field {f : Fm} {s : Shared} {m : PySem.Str → Option Value} {news : Led} {ρ : List Addr} {i dn C : Nat} {fs : List (PySem.Str × PV)} {v : Value} {x : PySem.Str} {d : PV} {b : Bool} {Q : Value → Shared → Prop} {E : Value → Shared → Prop} (ok : f.Ok K lv) (D : Dy K f m φ σ s.heap news ρ) (hC : Cls K C) (hi : σ[i]? = some (.inst C dn)) (hd : σ[dn]? = some (.dict fs))
    (hv : VR K news ρ v (.ref i)) (hx : fs.lookup x = some d) (ha : findIn K (.ref C) x = some .none)
    (k : ∀ a h' tk' news' ρ', Dy K f m φ σ h' news' ρ' → Ext [] news ρ news' ρ' → VR K news' ρ' a d → Q a { s with heap := h', toks := tk' }) : wpAny (model prog w) f.A (getAttr v x b) Q E s := by
  have F := D.fr
  obtain ⟨y, dx, es, n, rfl, m1, m2, r, _⟩ := inst_at D hi hd hv
  obtain ⟨u, hu, ru⟩ := r.find hx
  exact get_own F ok.kin (InstAt.of_news D.nwv m1 m2) hC.hg hC.hh ha rfl hu (by cases ru <;> rfl) (k u s.heap _ _ _ D (.refl _ _ _) ru)
theorem setAttr_field {f : Fm} {s : Shared} {m : PySem.Str → Option Value} {news : Led} {ρ : List Addr} {i dn C : Nat} {fs : List (PySem.Str × PV)} {v u : Value} {x : PySem.Str} {d : PV} {Q : Unit → Shared → Prop} {E : Value → Shared → Prop} (ok : f.Ok K lv) (D : Dy K f m φ σ s.heap news ρ) (hC : Cls K C) (hi : σ[i]? = some (.inst C dn)) (hd : σ[dn]? = some (.dict fs))
    (hv : VR K news ρ v (.ref i)) (hu : VR K news ρ u d) (ht : takerIn K C x = some .none) (hsz : fs.length ≤ 900)
    (k : ∀ h' tk' news' ρ', Dy K f m φ (σ.set dn (.dict (putF x d fs))) h' news' ρ' → Ext [] news ρ news' ρ' → Q () { s with heap := h', toks := tk' }) : wpAny (model prog w) f.A (setAttr v x u) Q E s := by
  have F := D.fr
  obtain ⟨y, dx, es, n, rfl, m1, m2, r, hdx⟩ := inst_at D hi hd hv
  have nxt : y ≠ dx := fun q => by
    subst q
    have x1 := (D.nwv _ m1).1
    have x2 := (D.nwv _ m2).1
    rw [x1] at x2
    have := congrArg Obj.data (Option.some.inj x2)
    simp at this
  have hl : (getL x es).isSome = true := by
    cases q : fs.lookup x with
    | none => rw [r.none q]; rfl
    | some d' => obtain ⟨w', hw, _⟩ := r.find q; rw [hw]; rfl
  have m2' : (dx, dictOf es n) ∈ f.hid ++ news := List.mem_append_right _ m2
  refine set_dict F ok.kin (News.upd D.nw m2') (InstAt.of_news (dx := dx) (News.upd D.nw m2') (mem_upd (List.mem_append_right _ m1) nxt) (.head _)) rfl hC.hs hC.hp ht hC.hh hl rfl (upd_upd dx _ _ (f.hid ++ news)) ?_ fun h' F' N' => ?_
  · exact Nat.le_trans (r.putLen _ _ _ _) (by omega)
  · have z := D.nwv _ m2
    obtain ⟨D', e⟩ := D.turn (σ := σ) hd hdx m2 kind_dict (.dict (r.put (hsh := PyData.keyHash w.params x) (t := s.toks + 1) hu)) (h' := h') (ob' := dictOf (putL x (PyData.keyHash w.params x) (.str x (s.toks + 1)) u es) (putN x es n))
      F' N'
    exact k _ _ _ _ D' e
end
end Mine
namespace Mine
section
variable {prog : Program} {w : World} {K : Frag} {S : Sc} {lv lv' : Nat} {φ φ' φ'' : Fl'} {σ σ' σ'' σ3 : Sto}

/-! statements -/
theorem FR.bind {f : Fm} {news : Led} {ρ : List Addr} {m : PySem.Str → Option Value} {x : PySem.Str} {v : Value} {d : PV} (hmd : f.md = none) (R : FR K f m news ρ φ) (r : VR K news ρ v d) (hl : f.env.kindOf x = some .local) (hd : (x == ("__debug__" : PySem.Str)) = false) :
    FR K f (fun y => if y = x then some v else m y) news ρ ((x, d) :: φ) := by
  intro y e h
  rw [List.lookup_cons] at h
  unfold Acc
  rw [hmd]
  by_cases q : y = x
  · subst q
    rw [show (y == y) = true from by simp] at h
    cases h
    exact ⟨v, ⟨hd, .inl ⟨hl, by simp⟩⟩, r⟩
  · rw [show (y == x) = false from by simp [q]] at h
    obtain ⟨u, hu, ru⟩ := R y e h
    unfold Acc at hu
    rw [hmd] at hu
    refine ⟨u, ⟨hu.1, ?_⟩, ru⟩
    rcases hu.2 with ⟨a1, a2⟩ | a
    · exact .inl ⟨a1, by simp [q, a2]⟩
    · exact .inr a
theorem store_ {f : Fm} {s : Shared} {m : PySem.Str → Option Value} {news : Led} {ρ : List Addr} {x : PySem.Str} {v : Value} {d : PV} {Q : Unit → Shared → Prop} {E : Value → Shared → Prop} (hmd : f.md = none) (ok : f.Ok K lv) (D : Dy K f m φ σ s.heap news ρ) (r : VR K news ρ v d) (hl : f.cs.names.lookup x = some .local) (hd : (x == ("__debug__" : PySem.Str)) = false)
    (k : ∀ h' tk' m', Dy K f m' ((x, d) :: φ) σ h' news ρ → Q () { s with heap := h', toks := tk' }) : wpAny (model prog w) f.A (storeName f.ee x v) Q E s := by
  rw [ee_none hmd]
  exact storeX_L D.fr D.nw (fun h' F' N' => k h' _ _ ⟨F', D.rel.bind hmd r hl hd, N', D.sr, D.ce, D.off⟩) ok.fn hl
theorem storeC_ {f : Fm} {s : Shared} {m : PySem.Str → Option Value} {news : Led} {ρ : List Addr} {x : PySem.Str} {v : Value} {d : PV} {c : Addr} {Q : Unit → Shared → Prop} {E : Value → Shared → Prop} (hmd : f.md = none) (ok : f.Ok K lv) (D : Dy K f m φ σ s.heap news ρ) (r : VR K news ρ v d) (hl : f.cs.names.lookup x = some .cell) (hc : f.cl.lookup x = some c) (hd : (x == ("__debug__" : PySem.Str)) = false)
    (k : ∀ h' tk' news', Dy K f m ((x, d) :: φ) σ h' news' ρ → Ext f.exs news ρ news' ρ → Q () { s with heap := h', toks := tk' }) : wpAny (model prog w) f.A (storeName f.ee x v) Q E s := by
  rw [ee_none hmd]
  have cin : c ∈ f.exs := by
    have aux : ∀ {l : List (PySem.Str × Addr)}, l.lookup x = some c → c ∈ l.map (·.2) := by
      intro l
      induction l with
      | nil => intro h; cases h
      | cons p l ih =>
        intro h
        rw [List.lookup_cons] at h
        split at h
        · cases h; exact .head _
        · exact .tail _ (ih h)
    exact aux hc
  obtain ⟨o, v₀, hm, hρ, hda⟩ := D.ce c cin
  have hh : ∀ p ∈ f.hid, p.1 ≠ c := fun p hp => D.off p hp _ hm
  refine storeX_C D.fr (News.upd D.nw (List.mem_append_right _ hm)) hc (g := fun o' => upd c o' (f.hid ++ news)) (.head (upd_off c (f.hid ++ news))) hda (fun h' o' F' N' hda' => ?_) ok.fn hl
  have e : Ext f.exs news ρ (upd c o' news) ρ := by
    have ne : ∀ (b : Addr) (ob : Obj), (b, ob) ∈ news → (∀ u, ob.data ≠ .cell u) → b ≠ c := fun b ob q z q' => by
      have q'' : b = c := q'
      subst q''
      have x1 := (D.nwv _ hm).1
      have x2 := (D.nwv _ q).1
      rw [x1] at x2
      have := Option.some.inj x2
      subst this
      exact z _ hda
    refine ⟨fun b vs n q => mem_upd q (ne _ _ q fun u => by simp), fun b vs n q z => ⟨mem_upd q (ne _ _ q fun u => by simp), z⟩, fun _ _ q => q, fun b ob q z y => ⟨mem_upd q fun (q' : b = c) => y (by rw [q']; exact cin), z⟩⟩
  have e0 : ∀ {v : Value} {d : PV}, VR K news ρ v d → VR K (upd c o' news) ρ v d := fun r => r.ext e
  refine k h' s.toks _ ⟨F', ?_, fun p hp => N' p (upd_hid hh p hp), ⟨D.sr.len, D.sr.nd, fun a ha => ?_, fun i ob h => ?_⟩, fun c' hc' => ?_, upd_apart hh D.off⟩ e
  · intro y d' h
    rw [List.lookup_cons] at h
    unfold Acc
    rw [hmd]
    by_cases q : y = x
    · subst q
      rw [show (y == y) = true from by simp] at h
      cases h
      exact ⟨v, ⟨hd, .inr ⟨hl, c, o', hc, .head _, hρ, hda'⟩⟩, e0 r⟩
    · rw [show (y == x) = false from by simp [q]] at h
      obtain ⟨u, hu, ru⟩ := D.rel y d' h
      unfold Acc at hu
      rw [hmd] at hu
      refine ⟨u, ⟨hu.1, ?_⟩, e0 ru⟩
      rcases hu.2 with a | ⟨k1, c1, o1, a1, a2, a3, a4⟩
      · exact .inl a
      · refine .inr ⟨k1, c1, o1, a1, mem_upd a2 fun z => ?_, a3, a4⟩
        have z' : c1 = c := z
        subst z'
        exact q (ok.inj _ _ _ a1 hc)
  · obtain ⟨ob, z⟩ := D.sr.here a ha
    exact ⟨ob, mem_upd z fun q => hρ (by rw [← show a = c from q]; exact ha)⟩
  · obtain ⟨a, ob', y1, y2, y3⟩ := D.sr.at_ i ob h
    exact ⟨a, ob', y1, mem_upd y2 fun q => hρ (by rw [← show a = c from q]; exact List.mem_of_getElem? y1), y3.ext e⟩
  · by_cases q : c' = c
    · subst q; exact ⟨o', _, .head _, hρ, hda'⟩
    · obtain ⟨o1, v1, z1, z2, z3⟩ := D.ce c' hc'
      exact ⟨o1, v1, mem_upd z1 q, z2, z3⟩
theorem ex_assign {x : PySem.Str} {pos' value pos} {d : PV} (h1 : Ev prog w K S lv φ σ value d σ') (hl : S.cs.names.lookup x = some .local := by rfl) (hd : (x == ("__debug__" : PySem.Str)) = false := by decide)
    (hs : ∀ env, swapsWith value (some (.Name x pos')) pos.line env = pure false := by intro _; rfl) : Ex prog w K S lv φ σ (.Assign [.Name x pos'] value pos) .next ((x, d) :: φ) σ' := by
  refine ⟨fun f s m news ρ Q E hS hmd ok D k => ?_⟩
  refine wpAny_Assign_Name (h1.run f s m news ρ _ _ hS ok D fun v g1 t1 n1 r1 D1 e1 R1 => ?_) (hs _)
  exact store_ hmd ok D1 R1 (by rw [hS.cs]; exact hl) hd fun h' tk' m' D' => k _ _ _ _ _ _ D' e1.weak rfl
theorem ex_assignC {x : PySem.Str} {pos' value pos} {d : PV} (h1 : Ev prog w K S lv φ σ value d σ') (hl : S.cs.names.lookup x = some .cell := by rfl) (hd : (x == ("__debug__" : PySem.Str)) = false := by decide)
    (hs : ∀ env, swapsWith value (some (.Name x pos')) pos.line env = pure false := by intro _; rfl) : Ex prog w K S lv φ σ (.Assign [.Name x pos'] value pos) .next ((x, d) :: φ) σ' := by
  refine ⟨fun f s m news ρ Q E hS hmd ok D k => ?_⟩
  refine wpAny_Assign_Name (h1.run f s m news ρ _ _ hS ok D fun v g1 t1 n1 r1 D1 e1 R1 => ?_) (hs _)
  have hl' : f.cs.names.lookup x = some .cell := by rw [hS.cs]; exact hl
  obtain ⟨c, hc⟩ := ok.cok _ hl'
  exact storeC_ hmd ok D1 R1 hl' hc hd fun h' tk' n2 D' e2 => k _ _ _ _ _ _ D' (e1.weak.trans e2) rfl
theorem ex_ret {e pos} {d : PV} (h1 : Ev prog w K S lv φ σ e d σ') : Ex prog w K S lv φ σ (.Return (some e) pos) (.ret d) φ σ' := by
  refine ⟨fun f s m news ρ Q E hS hmd ok D k => ?_⟩
  exact wpAny_Return_some (h1.run f s m news ρ _ _ hS ok D fun v g1 t1 n1 r1 D1 e1 R1 => k _ g1 t1 m n1 r1 D1 e1.weak ⟨v, rfl, R1⟩)
theorem ex_ret0 {pos} : Ex prog w K S lv φ σ (.Return .none pos) (.ret .none) φ σ := by
  refine ⟨fun f s m news ρ Q E hS hmd ok D k => ?_⟩
  exact wpAny_Return_none (k _ s.heap s.toks m _ _ D (.refl _ _ _) ⟨_, rfl, .none⟩)
theorem ex_expr {e pos} {d : PV} (h1 : Ev prog w K S lv φ σ e d σ') (hi : ∀ cn L a ccd cl, interactive (envX cn S.cs L a ccd cl) = false := by intros; rfl) (hs : ∀ env, swapsWith e .none pos.line env = pure false := by intro _; rfl) : Ex prog w K S lv φ σ (.Expr e pos) .next φ σ' := by
  refine ⟨fun f s m news ρ Q E hS hmd ok D k => ?_⟩
  refine wpAny_Expr_any (h1.run f s m news ρ _ _ hS ok D fun v g1 t1 n1 r1 D1 e1 R1 => k _ g1 t1 m n1 r1 D1 e1.weak rfl) ?_ (hs _)
  rw [ee_none hmd]
  have := hi f.cn f.L f.a f.ccd f.cl
  rw [← hS.cs] at this
  exact this
theorem ex_ifT {test body orelse pos} {g : Fw} (h1 : Tr prog w K S lv φ σ test true σ') (h2 : Exs prog w K S lv φ σ' body g φ' σ'') : Ex prog w K S lv φ σ (.If test body orelse pos) g φ' σ'' := by
  refine ⟨fun f s m news ρ Q E hS hmd ok D k => ?_⟩
  refine wpAny_If (h1.run f s m news ρ _ _ hS ok D fun v g1 t1 n1 r1 D1 e1 R1 => ?_)
  subst R1
  exact h2.run f _ m n1 r1 _ _ hS hmd ok D1 fun v g2 t2 m2 n2 r2 D2 e2 R2 => k v g2 t2 m2 n2 r2 D2 (e1.weak.trans e2) R2
theorem ex_ifF {test body orelse pos} {g : Fw} (h1 : Tr prog w K S lv φ σ test false σ') (h2 : Exs prog w K S lv φ σ' orelse g φ' σ'') : Ex prog w K S lv φ σ (.If test body orelse pos) g φ' σ'' := by
  refine ⟨fun f s m news ρ Q E hS hmd ok D k => ?_⟩
  refine wpAny_If (h1.run f s m news ρ _ _ hS ok D fun v g1 t1 n1 r1 D1 e1 R1 => ?_)
  subst R1
  exact h2.run f _ m n1 r1 _ _ hS hmd ok D1 fun v g2 t2 m2 n2 r2 D2 e2 R2 => k v g2 t2 m2 n2 r2 D2 (e1.weak.trans e2) R2
theorem exs_nil : Exs prog w K S lv φ σ [] .next φ σ := ⟨fun f s m news ρ Q E hS hmd ok D k => wpAny_execs_nil (k _ s.heap s.toks m _ _ D (.refl _ _ _) rfl)⟩
theorem exs_cons {st rest} {g : Fw} (h1 : Ex prog w K S lv φ σ st .next φ' σ') (h2 : Exs prog w K S lv φ' σ' rest g φ'' σ'') : Exs prog w K S lv φ σ (st :: rest) g φ'' σ'' := by
  refine ⟨fun f s m news ρ Q E hS hmd ok D k => ?_⟩
  refine wpAny_execs_cons (h1.run f s m news ρ _ _ hS hmd ok D fun v g1 t1 m1 n1 r1 D1 e1 R1 => ?_)
  have R1' : v = .next := R1
  subst R1'
  exact h2.run f _ m1 n1 r1 _ _ hS hmd ok D1 fun v g2 t2 m2 n2 r2 D2 e2 R2 => k v g2 t2 m2 n2 r2 D2 (e1.trans e2) R2
theorem exs_ret {st rest} {d : PV} (h1 : Ex prog w K S lv φ σ st (.ret d) φ' σ') : Exs prog w K S lv φ σ (st :: rest) (.ret d) φ' σ' := by
  refine ⟨fun f s m news ρ Q E hS hmd ok D k => ?_⟩
  refine wpAny_execs_cons (h1.run f s m news ρ _ _ hS hmd ok D fun v g1 t1 m1 n1 r1 D1 e1 R1 => ?_)
  obtain ⟨u, rfl, r⟩ := R1
  exact k _ g1 t1 m1 n1 r1 D1 e1 ⟨u, rfl, r⟩
/-- a store into a field -/
theorem ex_setattr {o : PySem.Expr} {attr : PySem.Str} {pos' value pos} {i dn C : Nat} {fs : List (PySem.Str × PV)} {d : PV} (h1 : Ev prog w K S lv φ σ value d σ') (h2 : Ev prog w K S lv φ σ' o (.ref i) σ'') (hC : Cls K C) (hi : σ''[i]? = some (.inst C dn)) (hd : σ''[dn]? = some (.dict fs)) (ht : takerIn K C attr = some .none) (hsz : fs.length ≤ 900 := by decide)
    (hs : ∀ env, swapsWith value (some (.Attribute o attr pos')) pos.line env = pure false := by intro _; rfl) : Ex prog w K S lv φ σ (.Assign [.Attribute o attr pos'] value pos) .next φ (σ''.set dn (.dict (putF attr d fs))) := by
  refine ⟨fun f s m news ρ Q E hS hmd ok D k => ?_⟩
  refine plainObj_wpAny_Assign_Attribute (h1.run f s m news ρ _ _ hS ok D fun v1 g1 t1 n1 r1 D1 e1 R1 => ?_) (hs _)
  refine h2.run f _ m n1 r1 _ _ hS ok D1 fun v2 g2 t2 n2 r2 D2 e2 R2 => ?_
  exact setAttr_field ok D2 hC hi hd R2 (R1.ext e2) ht hsz fun g3 t3 n3 r3 D3 e3 => k _ g3 t3 m n3 r3 D3 (e1.trans (e2.trans e3)).weak rfl
theorem ev_attr {o : PySem.Expr} {attr : PySem.Str} {pos} {i dn C : Nat} {fs : List (PySem.Str × PV)} {d : PV} (h2 : Ev prog w K S lv φ σ o (.ref i) σ'') (hC : Cls K C) (hi : σ''[i]? = some (.inst C dn)) (hd : σ''[dn]? = some (.dict fs)) (hx : fs.lookup attr = some d) (ha : findIn K (.ref C) attr = some .none)
    (he : ∀ env, eval (.Attribute o attr pos) env = (do
      let ov ← eval o env
      standAt pos.atName
      let r ← holding [ov] (getAttr ov attr true)
      letTemporaryGo o ov r
      pure r) := by intro _; rfl) : Ev prog w K S lv φ σ (.Attribute o attr pos) d σ'' := by
  refine ⟨fun f s m news ρ Q E hS ok D k => ?_⟩
  refine Attribute_any_ (h2.run f s m news ρ _ _ hS ok D fun v1 g1 t1 n1 r1 D1 e1 R1 => ?_) (he _)
  exact getAttr_field ok D1 hC hi hd R1 hx ha fun a g2 t2 n2 r2 D2 e2 R2 => k a g2 t2 n2 r2 D2 (e1.trans e2) R2
/-- a store into an item -/
theorem ex_setitem {o i : PySem.Expr} {pos' value pos} {n : Nat} {l : List PV} {j : Int} {d : PV} (h1 : Ev prog w K S lv φ σ value d σ') (h2 : Ev prog w K S lv φ σ' o (.ref n) σ'') (h3 : Ev prog w K S lv φ σ'' i (.int j) σ3) (hi : σ3[n]? = some (.list l)) (h0 : 0 ≤ j) (h4 : j < l.length) (hfit : j < 2 ^ 63 := by decide)
    (hs : ∀ env, swapsWith value (some (.Subscript o i pos')) pos.line env = pure false := by intro _; rfl) : Ex prog w K S lv φ σ (.Assign [.Subscript o i pos'] value pos) .next φ (σ3.set n (.list (l.set j.toNat d))) := by
  refine ⟨fun f s m news ρ Q E hS hmd ok D k => ?_⟩
  refine wpAny_Assign_Subscript (h1.run f s m news ρ _ _ hS ok D fun v1 g1 t1 n1 r1 D1 e1 R1 => ?_) (hs _)
  refine h2.run f _ m n1 r1 _ _ hS ok D1 fun v2 g2 t2 n2 r2 D2 e2 R2 => ?_
  refine h3.run f _ m n2 r2 _ _ hS ok D2 fun v3 g3 t3 n3 r3 D3 e3 R3 => ?_
  cases R3
  exact setItem_turn D3 hi (R2.ext e3) ((R1.ext e2).ext e3) h0 h4 hfit fun g4 t4 n4 r4 D4 e4 => k _ g4 t4 m n4 r4 D4 (e1.trans (e2.trans (e3.trans e4))).weak rfl
end
/-! several targets -/
/-- the targets, each given its value, from the first on; CX tells which names are cells of the frame -/
inductive Tg (prog : Program) (w : World) (K : Frag) (S : Sc) (lv : Nat) : Fl' → Sto → List PySem.Expr → List PV → Fl' → Sto → Prop
  | nil {φ : Fl'} {σ : Sto} : Tg prog w K S lv φ σ [] [] φ σ
  | name {φ φ' : Fl'} {σ σ' : Sto} {x : PySem.Str} {pos : Pos} {d : PV} {r : List PySem.Expr} {ds : List PV} (hl : S.cs.names.lookup x = some .local) (hd : (x == ("__debug__" : PySem.Str)) = false) : Tg prog w K S lv ((x, d) :: φ) σ r ds φ' σ' → Tg prog w K S lv φ σ (.Name x pos :: r) (d :: ds) φ' σ'
  | cell {φ φ' : Fl'} {σ σ' : Sto} {x : PySem.Str} {pos : Pos} {d : PV} {r : List PySem.Expr} {ds : List PV} (hl : S.cs.names.lookup x = some .cell) (hd : (x == ("__debug__" : PySem.Str)) = false) : Tg prog w K S lv ((x, d) :: φ) σ r ds φ' σ' → Tg prog w K S lv φ σ (.Name x pos :: r) (d :: ds) φ' σ'
  | item {φ φ' : Fl'} {σ σ' σ1 σ2 : Sto} {o i : PySem.Expr} {pos : Pos} {n : Nat} {l : List PV} {d : PV} {r : List PySem.Expr} {ds : List PV} {j : Int} (h2 : Ev prog w K S lv φ σ o (.ref n) σ1) (h3 : Ev prog w K S lv φ σ1 i (.int j) σ2) (hi : σ2[n]? = some (.list l)) (h0 : 0 ≤ j) (h4 : j < l.length) (hfit : j < 2 ^ 63) :
      Tg prog w K S lv φ (σ2.set n (.list (l.set j.toNat d))) r ds φ' σ' → Tg prog w K S lv φ σ (.Subscript o i pos :: r) (d :: ds) φ' σ'
section
variable {prog : Program} {w : World} {K : Frag} {S : Sc} {lv lv' : Nat} {φ φ' φ'' : Fl'} {σ σ' σ'' σ3 : Sto}
theorem Tg.run {es : List PySem.Expr} {ds : List PV} (g : Tg prog w K S lv φ σ es ds φ' σ') : ∀ {f : Fm} {s : Shared} {m : PySem.Str → Option Value} {news : Led} {ρ : List Addr} {vs : List Value} {Q : Unit → Shared → Prop} {E : Value → Shared → Prop}, f.Is S → f.md = none → f.Ok K lv → Dy K f m φ σ s.heap news ρ → VRs K news ρ vs ds →
    (∀ h' tk' m' news' ρ', Dy K f m' φ' σ' h' news' ρ' → Ext f.exs news ρ news' ρ' → Q () { s with heap := h', toks := tk' }) → wpAny (model prog w) f.A (assignInOrder ((assignEach es f.ee).map (·.2)) vs) Q E s := by
  induction g with
  | nil => intro f s m news ρ vs Q E hS hmd ok D hv k; exact assignInOrder_nil (k s.heap s.toks m _ _ D (.refl _ _ _))
  | name hl hd _ ih =>
    intro f s m news ρ vs Q E hS hmd ok D hv k
    cases hv with
    | cons h r =>
      refine assignInOrder_cons (assign_Name (store_ hmd ok D h (by rw [hS.cs]; exact hl) hd fun h' tk' m' D' => ?_))
      exact ih (s := { s with heap := h', toks := tk' }) hS hmd ok D' r fun g2 t2 m2 n2 r2 D2 e2 => k g2 t2 m2 n2 r2 D2 e2
  | cell hl hd _ ih =>
    intro f s m news ρ vs Q E hS hmd ok D hv k
    cases hv with
    | cons h r =>
      rw [← hS.cs] at hl
      obtain ⟨c, hc⟩ := ok.cok _ hl
      refine assignInOrder_cons (assign_Name (storeC_ hmd ok D h hl hc hd fun h' tk' n1 D' e1 => ?_))
      exact ih (s := { s with heap := h', toks := tk' }) hS hmd ok D' (r.ext e1) fun g2 t2 m2 n2 r2 D2 e2 => k g2 t2 m2 n2 r2 D2 (e1.trans e2)
  | item h2 h3 hi h0 h4 hfit _ ih =>
    intro f s m news ρ vs Q E hS hmd ok D hv k
    cases hv with
    | cons h r =>
      refine assignInOrder_cons (kas_sub ?_)
      refine h2.run f _ m _ _ _ _ hS ok D fun v2 g2 t2 n2 r2 D2 e2 R2 => ?_
      refine h3.run f _ m n2 r2 _ _ hS ok D2 fun v3 g3 t3 n3 r3 D3 e3 R3 => ?_
      cases R3
      refine setItem_turn D3 hi (R2.ext e3) ((h.ext e2).ext e3) h0 h4 hfit fun g4 t4 n4 r4 D4 e4 => ?_
      exact ih (s := { s with heap := g4, toks := t4 }) hS hmd ok D4 (((r.ext e2).ext e3).ext e4) fun g5 t5 m5 n5 r5 D5 e5 => k g5 t5 m5 n5 r5 D5 ((e2.trans (e3.trans e4)).weak.trans e5)
theorem ex_unpack {elts k tpos value pos} {ds : List PV} (h1 : Ev prog w K S lv φ σ value (.tup ds) σ') (g : Tg prog w K S lv φ σ' elts ds φ' σ'')
    (hn : ∀ env, (assignEach elts env).length = ds.length := by intro _; rfl) (hstar : ∀ env, (assignEach elts env).findIdx? (·.1) = .none := by intro _; rfl)
    (hs : ∀ env, swapsWithSole [.Tuple elts k tpos] value pos.line env = pure false := by intro _; rfl) (hw : ∀ cn L a ccd cl, swappedStores [.Tuple elts k tpos] value (envX cn S.cs L a ccd cl) = pure .none := by intros; rfl) :
    Ex prog w K S lv φ σ (.Assign [.Tuple elts k tpos] value pos) .next φ' σ'' := by
  refine ⟨fun f s m news ρ Q E hS hmd ok D kk => ?_⟩
  have hw' : swappedStores [.Tuple elts k tpos] value f.ee = pure .none := by
    rw [ee_none hmd]
    have := hw f.cn f.L f.a f.ccd f.cl
    rw [← hS.cs] at this
    exact this
  refine Assign_Tuple (h1.run f s m news ρ _ _ hS ok D fun v1 g1 t1 n1 r1 D1 e1 R1 => ?_) (hs _) hw'
  obtain ⟨a, vs, rfl, ht, r⟩ := R1.isTup ok D1
  refine unpackN_ D1.fr D1.nw ht ok.hh (by rw [hn, List.size_toArray]; exact r.length.symm) (hstar _) fun h' F' N' => ?_
  exact g.run (s := { s with heap := h', toks := t1 }) hS hmd ok (D1.same F' N') r fun g5 t5 m5 n5 r5 D5 e5 => kk _ g5 t5 m5 n5 r5 D5 (e1.weak.trans e5) rfl
/-- names given from the last on (two or three names from a written tuple) -/
theorem ex_swapped {elts k tpos value pos} {names : List PySem.Str} {ds : List PV} (h1 : Ev prog w K S lv φ σ value (.tup ds) σ') (hn : ds.length = names.length := by rfl) (hl : ∀ x ∈ names, S.cs.names.lookup x = some .local ∧ (x == ("__debug__" : PySem.Str)) = false)
    (hs : ∀ env, swapsWithSole [.Tuple elts k tpos] value pos.line env = pure false := by intro _; rfl) (hw : ∀ cn L a ccd cl, swappedStores [.Tuple elts k tpos] value (envX cn S.cs L a ccd cl) = pure (some names) := by intros; rfl) :
    Ex prog w K S lv φ σ (.Assign [.Tuple elts k tpos] value pos) .next ((names.zip ds) ++ φ) σ' := by
  refine ⟨fun f s m news ρ Q E hS hmd ok D kk => ?_⟩
  have hw' : swappedStores [.Tuple elts k tpos] value f.ee = pure (some names) := by
    rw [ee_none hmd]
    have := hw f.cn f.L f.a f.ccd f.cl
    rw [← hS.cs] at this
    exact this
  refine Assign_Tuple_swapped (h1.run f s m news ρ _ _ hS ok D fun v1 g1 t1 n1 r1 D1 e1 R1 => ?_) (hs _) hw'
  obtain ⟨a, vs, rfl, ht, r⟩ := R1.isTup ok D1
  refine unpackItemsN_ D1.fr D1.nw ht ok.hh (by rw [List.size_toArray, r.length, hn]) fun h' F' N' => ?_
  have D2 := D1.same F' N'
  have run : ∀ (xs : List PySem.Str) (us : List Value) (es : List PV) (φ₀ : Fl') (m₀ : PySem.Str → Option Value) (s₀ : Shared), (∀ x ∈ xs, S.cs.names.lookup x = some .local ∧ (x == ("__debug__" : PySem.Str)) = false) → VRs K n1 r1 us es → es.length = xs.length → Dy K f m₀ φ₀ σ' s₀.heap n1 r1 →
      ∀ Q' : Unit → Shared → Prop, (∀ h' tk' m', Dy K f m' ((xs.zip es).reverse ++ φ₀) σ' h' n1 r1 → Q' () { s₀ with heap := h', toks := tk' }) → wpAny (model prog w) f.A (assignInOrder (xs.map fun n => bindName f.ee n) us) Q' E s₀ := by
    intro xs
    induction xs with
    | nil => intro us es φ₀ m₀ s₀ _ hv hle D₀ Q' k'; cases es with
      | nil => exact assignInOrder_nil (k' s₀.heap s₀.toks _ D₀)
      | cons _ _ => cases hle
    | cons x xs ih =>
      intro us es φ₀ m₀ s₀ hx hv hle D₀ Q' k'
      cases hv with
      | nil => cases hle
      | cons h r' =>
        refine assignInOrder_cons (bindName_ (store_ hmd ok D₀ h (by rw [hS.cs]; exact (hx x (.head _)).1) (hx x (.head _)).2 fun h' tk' m' D' => ?_))
        refine ih _ _ _ _ { s₀ with heap := h', toks := tk' } (fun y hy => hx y (.tail _ hy)) r' (by simpa using hle) D' _ fun h2 tk2 m2 D2 => k' h2 tk2 m2 ?_
        simpa using D2
  have rev : ∀ {us : List Value} {es : List PV}, VRs K n1 r1 us es → VRs K n1 r1 us.reverse es.reverse := by
    intro us es h
    induction us generalizing es with
    | nil => cases h; exact .nil
    | cons u us ih => cases h with | cons h r => simpa using (ih r).append (.cons h .nil)
  refine run names.reverse vs.toArray.toList.reverse ds.reverse φ m { s with heap := h', toks := t1 } (fun x hx => hl x (List.mem_reverse.mp hx)) (rev r) (by simp [hn]) D2 _ fun h2 tk2 m2 D3 => kk _ h2 tk2 m2 _ _ ?_ e1.weak rfl
  have q : (names.reverse.zip ds.reverse).reverse = names.zip ds := by
    rw [List.zip_eq_zipWith, List.zip_eq_zipWith, ← List.reverse_zipWith (by simp [hn])]
    simp
  rw [q] at D3
  exact D3
end
end Mine
namespace Mine
section
variable {prog : Program} {w : World} {K : Frag} {S : Sc} {lv lv' : Nat} {φ φ' φ'' : Fl'} {σ σ' σ'' σ3 : Sto}

/-! what the store may drop at a call's end -/
mutual
noncomputable def PV.under (n : Nat) : PV → Bool
  | .tup l => PV.unders n l
  | .lst l => PV.unders n l
  | .ref i => decide (i < n)
  | _ => true
noncomputable def PV.unders (n : Nat) : List PV → Bool
  | [] => true
  | d :: l => PV.under n d && PV.unders n l
end
noncomputable def PO.under (n : Nat) : PO → Bool
  | .list l => PV.unders n l
  | .inst _ d => decide (d < n)
  | .dict fs => fs.all fun p => PV.under n p.2
section
variable {news : Led} {ρ : List Addr} {n : Nat}
mutual
theorem VR.cut : ∀ {v : Value} {d : PV}, VR K news ρ v d → d.under n = true → VR K news (ρ.take n) v d
  | _, _, .none, _ => .none
  | _, _, .bool b, _ => .bool b
  | _, _, .int i t, _ => .int i t
  | _, _, .str x t, _ => .str x t
  | _, _, .tup h r, u => .tup h (VRs.cut r (by simpa [PV.under] using u))
  | _, _, .tupK h r, u => .tupK h (VRs.cut r (by simpa [PV.under] using u))
  | _, _, .lst h k r, u => .lst h (fun q => k (List.mem_of_mem_take q)) (VRs.cut r (by simpa [PV.under] using u))
  | _, _, .base a, _ => .base a
  | _, _, .ref h, u => .ref (by rw [List.getElem?_take_of_lt (by simpa [PV.under] using u)]; exact h)
theorem VRs.cut : ∀ {vs : List Value} {l : List PV}, VRs K news ρ vs l → PV.unders n l = true → VRs K news (ρ.take n) vs l
  | _, _, .nil, _ => .nil
  | _, _, .cons h r, u => by
    simp only [PV.unders, Bool.and_eq_true] at u
    exact .cons (VR.cut h u.1) (VRs.cut r u.2)
end
theorem FRs.cut {es : List DictEntry} {fs : List (PySem.Str × PV)} (h : FRs K news ρ es fs) (u : (fs.all fun p => PV.under n p.2) = true) : FRs K news (ρ.take n) es fs := by
  induction h with
  | nil => exact .nil
  | cons hv _ ih =>
    simp only [List.all_cons, Bool.and_eq_true] at u
    exact .cons (hv.cut u.1) (ih u.2)
theorem OR.cut {ob : Obj} {o : PO} (h : OR K news ρ ob o) (u : o.under n = true) : OR K news (ρ.take n) ob o := by
  cases h with
  | list h => exact .list (h.cut u)
  | inst h => exact .inst (by rw [List.getElem?_take_of_lt (by simpa [PO.under] using u)]; exact h)
  | dict h => exact .dict (h.cut u)
theorem SR.cut {g : Sto} (S : SR K news ρ (σ ++ g)) (u : (σ.all (PO.under σ.length)) = true) : SR K news (ρ.take σ.length) σ := by
  have hl := S.len
  rw [List.length_append] at hl
  refine ⟨by rw [List.length_take]; omega, S.nd.sublist (List.take_sublist _ _), fun a ha => S.here a (List.mem_of_mem_take ha), fun i o h => ?_⟩
  have hi := (List.getElem?_eq_some_iff.mp h).1
  obtain ⟨a, ob, x, y, z⟩ := S.at_ i o (by rw [List.getElem?_append_left hi]; exact h)
  exact ⟨a, ob, by rw [List.getElem?_take_of_lt hi]; exact x, y, z.cut (List.all_eq_true.mp u o (List.mem_of_getElem? h))⟩
theorem Ext.cut {ex : List Addr} {news' : Led} {ρ' : List Addr} (e : Ext ex news ρ news' ρ') (hn : ρ.length ≤ n) : Ext ex news ρ news' (ρ'.take n) :=
  ⟨e.tup, fun a vs k h q => let ⟨x, y⟩ := e.lst a vs k h q; ⟨x, fun z => y (List.mem_of_mem_take z)⟩, fun i a h => by
    rw [List.getElem?_take_of_lt (Nat.lt_of_lt_of_le (List.getElem?_eq_some_iff.mp h).1 hn)]; exact e.ref _ _ h, fun a ob h q z => let ⟨x, y⟩ := e.own a ob h q z; ⟨x, fun z => y (List.mem_of_mem_take z)⟩⟩
end

/-! parameters -/
theorem binds_plain {news : Led} {ρ : List Addr} {xs : List PySem.Str} {vs : List Value} {ds : List PV} (h : VRs K news ρ vs ds) : ∀ x d, (xs.zip ds).reverse.lookup x = some d → ∃ v, (xs.zip vs).reverse.lookup x = some v ∧ VR K news ρ v d ∧ x ∈ xs := by
  have z : ∀ (xs : List PySem.Str) {vs : List Value} {ds : List PV}, VRs K news ρ vs ds → ∃ l : List (PySem.Str × Value × PV), (∀ p ∈ l, VR K news ρ p.2.1 p.2.2 ∧ p.1 ∈ xs) ∧ xs.zip vs = l.map (fun p => (p.1, p.2.1)) ∧ xs.zip ds = l.map fun p => (p.1, p.2.2) := by
    intro xs
    induction xs with
    | nil => intro vs ds _; exact ⟨[], fun _ h => absurd h List.not_mem_nil, rfl, rfl⟩
    | cons x xs ih =>
      intro vs ds h
      cases h with
      | nil => exact ⟨[], fun _ h => absurd h List.not_mem_nil, rfl, rfl⟩
      | @cons v vs d ds h r =>
        obtain ⟨l, a, b, c⟩ := ih r
        refine ⟨(x, v, d) :: l, fun p hp => ?_, ?_, ?_⟩
        · rcases List.mem_cons.mp hp with rfl | hp
          · exact ⟨h, .head _⟩
          · exact ⟨(a p hp).1, .tail _ (a p hp).2⟩
        · simp [b]
        · simp [c]
  obtain ⟨l, a, b, c⟩ := z xs h
  rw [b, c, ← List.map_reverse, ← List.map_reverse]
  have key : ∀ (l : List (PySem.Str × Value × PV)), (∀ p ∈ l, VR K news ρ p.2.1 p.2.2 ∧ p.1 ∈ xs) → ∀ x d, (l.map fun p => (p.1, p.2.2)).lookup x = some d → ∃ v, (l.map fun p => (p.1, p.2.1)).lookup x = some v ∧ VR K news ρ v d ∧ x ∈ xs := by
    intro l
    induction l with
    | nil => intro _ x d h; cases h
    | cons p l ih =>
      intro hp x d h
      simp only [List.map_cons, List.lookup_cons] at h ⊢
      split at h
      · rename_i q
        cases h
        refine ⟨_, rfl, (hp p (.head _)).1, ?_⟩
        rw [beq_iff_eq.mp q]
        exact (hp p (.head _)).2
      · exact ih (fun q hq => hp q (.tail _ hq)) x d h
  exact key _ fun p hp => a p (List.mem_reverse.mp hp)
theorem binds_cells {news : Led} {ρ : List Addr} (kind : PySem.Str → Option NameKind) : ∀ (xs : List PySem.Str) {vs : List Value} {ds : List PV} (m cm : PySem.Str → Option Value) (φ : Fl'), VRs K news ρ vs ds →
    (∀ y e, φ.lookup y = some e → ∃ v, VR K news ρ v e ∧ if kind y = some .local then m y = some v else cm y = some v) →
    ∀ y e, ((xs.zip ds).reverse ++ φ).lookup y = some e → ∃ v, VR K news ρ v e ∧ if kind y = some .local then bindL kind (xs.zip vs) m y = some v else bindC kind (xs.zip vs) cm y = some v
  | [], vs, ds, m, cm, φ, h, b => by simpa [bindL, bindC] using b
  | x :: xs, _, _, m, cm, φ, .nil, b => by simpa [bindL, bindC] using b
  | x :: xs, _, _, m, cm, φ, .cons (v := v) (vs := vs) (d := d) (l := ds) h r, b => by
    intro y e q
    have q' : ((xs.zip ds).reverse ++ ((x, d) :: φ)).lookup y = some e := by simpa using q
    show ∃ u, VR K news ρ u e ∧ if kind y = some .local then bindL kind (xs.zip vs) (if kind x = some .local then fun y => if y = x then some v else m y else m) y = some u else bindC kind (xs.zip vs) (if kind x = some .local then cm else fun y => if y = x then some v else cm y) y = some u
    refine binds_cells kind xs _ _ ((x, d) :: φ) r ?_ y e q'
    intro z f hz
    rw [List.lookup_cons] at hz
    by_cases hzx : z = x
    · subst hzx
      rw [show (z == z) = true from by simp] at hz
      cases hz
      refine ⟨v, h, ?_⟩
      by_cases hk : kind z = some .local
      · simp [hk]
      · simp [hk]
    · rw [show (z == x) = false from by simp [hzx]] at hz
      obtain ⟨u, hu, hk⟩ := b z f hz
      refine ⟨u, hu, ?_⟩
      by_cases h1 : kind z = some .local
      · rw [if_pos h1] at hk ⊢
        by_cases h2 : kind x = some .local
        · rw [if_pos h2]; simp [hzx, hk]
        · rw [if_neg h2]; exact hk
      · rw [if_neg h1] at hk ⊢
        by_cases h2 : kind x = some .local
        · rw [if_pos h2]; exact hk
        · rw [if_neg h2]; simp [hzx, hk]
/-! cells -/
theorem cells_above : ∀ (names : List (PySem.Str × NameKind)) (n : Nat) (acc : List (PySem.Str × Addr)) (lo : Nat), lo ≤ n → (∀ p ∈ acc, lo ≤ p.2 ∧ p.2 < n) → (acc.map (·.2)).Nodup → (∀ p ∈ cellsFrom n names acc, lo ≤ p.2) ∧ ((cellsFrom n names acc).map (·.2)).Nodup
  | [], n, acc, lo, hl, h, nd => ⟨fun p hp => (h p hp).1, nd⟩
  | (y, k) :: r, n, acc, lo, hl, h, nd => by
    unfold cellsFrom
    split
    · refine cells_above r (n + 1) _ lo (by omega) (fun p hp => ?_) ?_
      · rcases List.mem_cons.mp hp with rfl | hp
        · exact ⟨hl, Nat.lt_succ_self _⟩
        · exact ⟨(h p hp).1, Nat.lt_succ_of_lt (h p hp).2⟩
      · rw [List.map_cons, List.nodup_cons]
        refine ⟨fun q => ?_, nd⟩
        obtain ⟨p, hp, e⟩ := List.mem_map.mp q
        have := (h p hp).2
        rw [e] at this
        exact Nat.lt_irrefl _ this
    · exact cells_above r n acc lo hl h nd
theorem lookup_mem {x : PySem.Str} {c : Addr} : ∀ {l : List (PySem.Str × Addr)}, l.lookup x = some c → (x, c) ∈ l
  | [], h => by cases h
  | (y, d) :: l, h => by
    rw [List.lookup_cons] at h
    split at h
    · rename_i q; cases h; rw [beq_iff_eq.mp q]; exact .head _
    · exact .tail _ (lookup_mem h)
theorem cells_inj {l : List (PySem.Str × Addr)} (nd : (l.map (·.2)).Nodup) {x y : PySem.Str} {c : Addr} (hx : (x, c) ∈ l) (hy : (y, c) ∈ l) : x = y := by
  induction l with
  | nil => cases hx
  | cons p l ih =>
    rw [List.map_cons, List.nodup_cons] at nd
    rcases List.mem_cons.mp hx with h1 | h1
    · rcases List.mem_cons.mp hy with h2 | h2
      · rw [← h2] at h1; exact (Prod.mk.inj h1).1
      · exact (nd.1 (by rw [← h1]; exact List.mem_map.mpr ⟨_, h2, rfl⟩)).elim
    · rcases List.mem_cons.mp hy with h2 | h2
      · exact (nd.1 (by rw [← h2]; exact List.mem_map.mpr ⟨_, h1, rfl⟩)).elim
      · exact ih nd.2 h1 h2
theorem cellsAre_at {cm : PySem.Str → Option Value} : ∀ {l : List (PySem.Str × Addr)} {cells : List (Addr × Obj)}, CellsAre cm l cells → ∀ {x : PySem.Str} {c : Addr}, (x, c) ∈ l → ∃ o, (c, o) ∈ cells ∧ o.data = .cell (cm x)
  | _, _, .nil, _, _, h => by cases h
  | _, _, .cons hd r, x, c, h => by
    rcases List.mem_cons.mp h with h | h
    · cases h; exact ⟨_, .head _, hd⟩
    · obtain ⟨o, a, b⟩ := cellsAre_at r h; exact ⟨o, .tail _ a, b⟩

theorem cells_ge {cm : PySem.Str → Option Value} {lo : Nat} : ∀ {l : List (PySem.Str × Addr)} {cells : List (Addr × Obj)}, CellsAre cm l cells → (∀ p ∈ l, lo ≤ p.2) → ∀ q ∈ cells, lo ≤ q.1
  | _, _, .nil, _, q, hq => by cases hq
  | _, _, .cons _ r, h, q, hq => by
    rcases List.mem_cons.mp hq with rfl | hq
    · exact h _ (.head _)
    · exact cells_ge r (fun p hp => h p (.tail _ hp)) q hq
/-- what a body hands back -/
noncomputable def Back (g : Fw) (d : PV) : Prop := match g with
  | .next => d = .none
  | .ret e => e = d
section
variable {name qual : PySem.Str} {params : Arguments} {body : List PySem.Stmt} {scope : Scope} {dV kV doc pm cdv ct oc : Value} {an od : Option Addr} {osl : Array (Option Value)} {fa : Addr} {xs : List PySem.Str} {ds : List PV} {d : PV} {g : Fw}
theorem body_end {f : Fm} {s : Shared} {m : PySem.Str → Option Value} {news news' : Led} {ρ ρ' : List Addr} {R : Result → Shared → Prop} {g₀ : Heap} {L' : Addr} {m'' : PySem.Str → Option Value} {h' : Heap} {tk' : Nat} {fl : Flow} {gb : Sto} (D : Dy K f m φ σ s.heap news ρ) (F'' : Fr g₀ L' h' m'') (N'' : News g₀ L' h' (f.hid ++ news')) (off : ∀ p ∈ f.hid, ∀ q ∈ news', p.1 ≠ q.1) (SR' : SR K news' ρ' (σ' ++ gb)) (e : Ext [] news ρ news' ρ') (r : FlR K news' ρ' fl g)
    (hret : Back g d) (hcut : gb = [] ∨ σ.length ≤ σ'.length ∧ (σ'.all (PO.under σ'.length)) = true ∧ d.under σ'.length = true)
    (k : ∀ a h' tk' news' ρ', Dy K f m φ σ' h' news' ρ' → Ext [] news ρ news' ρ' → VR K news' ρ' a d → R (.ok (.ret a)) { s with heap := h', toks := tk' }) :
    LeaveK f.h₀ f.L m g₀ R (match (generalizing := false) fl with | .ret v => v | _ => .none) { s with heap := h', toks := tk' } := by
  refine leaveK_ F'' N'' fun FB NB => ?_
  have fin : ∀ u, VR K news' ρ' u d → R (.ok (.ret u)) { s with heap := h', toks := tk' } := by
    intro u ru
    rcases hcut with rfl | ⟨c1, c2, c3⟩
    · rw [List.append_nil] at SR'
      exact k u h' tk' news' ρ' ⟨FB, D.rel.ext e, NB, SR', D.ce.ext e, off⟩ e ru
    · have e' : Ext [] news ρ news' (ρ'.take σ'.length) := e.cut (by rw [D.sr.len]; exact c1)
      exact k u h' tk' news' _ ⟨FB, D.rel.ext e', NB, SR'.cut c2, D.ce.ext e', off⟩ e' (ru.cut c3)
  cases g with
  | next =>
    have r' : fl = .next := r
    subst r'
    have hret' : d = .none := hret
    subst hret'
    exact fin _ .none
  | ret c =>
    obtain ⟨u, rfl, ru⟩ := r
    have hret' : c = d := hret
    subst hret'
    exact fin _ ru
theorem def_core {f : Fm} {s : Shared} {m : PySem.Str → Option Value} {news : Led} {ρ : List Addr} {A : Around} {R : Result → Shared → Prop} {vs : List Value} (ok : f.Ok K 0) (D : Dy K f m φ σ s.heap news ρ) (hv : VRs K news ρ vs ds)
    (hA : A.frames = f.A.frames) (hhd : A.handled = .none) (hdep : A.depth + 3 * lv + 111 < recursionLimit) (huni : A.units + 16 * lv + 131 < cLine)
    (ho : K.lookup fa = some ⟨oc, od, .func (fnOf name qual params body scope dV kV doc pm an cdv ct), osl⟩) (hcd : codeIn K cdv qual = true)
    (hb : ∀ (sB : Shared), K.In sB.heap → ∀ vs : List Value, vs.length = xs.length → BindsTo sB (fnOf name qual params body scope dV kV doc pm an cdv ct) ⟨vs, []⟩ (xs.zip vs)) (hlen : ds.length = xs.length)
    (hloc : ∀ x ∈ xs, scope.names.lookup x = some .local ∧ (x == ("__debug__" : PySem.Str)) = false) (hco : scope.isCoroutine = false) (hgen : scope.isGenerator = false) (hk : scope.kind = .function) (hcell : ∀ x ∈ scope.names, x.2 ≠ .cell)
    {gb : Sto} (hbody : Exs prog w K ⟨scope, none, fun _ => True⟩ lv (xs.zip ds).reverse σ body g φ' (σ' ++ gb)) (hret : Back g d) (hcut : gb = [] ∨ σ.length ≤ σ'.length ∧ (σ'.all (PO.under σ'.length)) = true ∧ d.under σ'.length = true)
    (k : ∀ a h' tk' news' ρ', Dy K f m φ σ' h' news' ρ' → Ext [] news ρ news' ρ' → VR K news' ρ' a d → R (.ok (.ret a)) { s with heap := h', toks := tk' }) : codeAny (model prog w) A (.call (.ref fa) ⟨vs, []⟩) R s := by
  obtain ⟨p, loose, mean, mg, mb, T, hp⟩ := ok.top
  have hl : vs.length = xs.length := hv.length.trans hlen
  refine code_def ok.bel D.fr ok.kin D.nw T (hA.trans ok.hA) rfl ok.fn ho hcd (by omega) (hb s (ok.kin.keeps D.fr.keep) vs hl) ?_ (fun g₀ L' h₁ FG F' N' B' X' T' => ?_) hco hgen hk hcell
  · intro y hy
    exact (hloc _ (List.of_mem_zip hy).1).1
  · let f' : Fm := ⟨qual, scope, L', fa, cdv, [], A.deeper (envOf qual scope L' fa cdv), f.env :: f.outer, A, f.base, g₀, none, f.hid⟩
    have ok' : f'.Ok K lv := by
      refine ⟨B', ?_, ?_, ?_, ?_, hk, hgen, hco, X', ⟨p, loose, mean, mg, mb, T', hp⟩, fun x y c hx => (by cases hx), fun x hx => ?_⟩
      · show Option.map _ A.frames = _
        rw [hA, ok.hA]; rfl
      · exact hhd
      · show A.depth + 1 + 3 * lv + 110 < recursionLimit; omega
      · show A.units + 3 + 16 * lv + 128 < cLine; omega
      · have aux : ∀ {l : List (PySem.Str × NameKind)}, l.lookup x = some .cell → ∃ p ∈ l, p.2 = .cell := by
          intro l
          induction l with
          | nil => intro h; cases h
          | cons p l ih =>
            intro h
            rw [List.lookup_cons] at h
            split at h
            · exact ⟨p, .head _, Option.some.inj h⟩
            · obtain ⟨q, a, b⟩ := ih h; exact ⟨q, .tail _ a, b⟩
        obtain ⟨p, a, b⟩ := aux hx
        exact absurd b (hcell p a)
    have D' : Dy K f' _ (xs.zip ds).reverse σ h₁ news ρ := ⟨F', fun x d h => by
      obtain ⟨v, a, b, c⟩ := binds_plain hv x d h
      exact ⟨v, ⟨(hloc x c).2, .inl ⟨(hloc x c).1, a⟩⟩, b⟩, N', D.sr, fun c hc => (by cases hc), D.off⟩
    exact hbody.run f' { s with heap := h₁, toks := s.toks + (xs.zip vs).length } _ news ρ _ _ ⟨rfl, rfl, trivial⟩ rfl ok' D' fun fl h' tk' m'' news' ρ' D'' e r => body_end (s := s) D D''.fr D''.nw D''.off D''.sr e r hret hcut k
/-- a def whose names are seen by a block in it -/
theorem def_coreC {f : Fm} {s : Shared} {m : PySem.Str → Option Value} {news : Led} {ρ : List Addr} {A : Around} {R : Result → Shared → Prop} {vs : List Value} (ok : f.Ok K 0) (D : Dy K f m φ σ s.heap news ρ) (hv : VRs K news ρ vs ds)
    (hA : A.frames = f.A.frames) (hhd : A.handled = .none) (hdep : A.depth + 3 * lv + 111 < recursionLimit) (huni : A.units + 16 * lv + 131 < cLine)
    (ho : K.lookup fa = some ⟨oc, od, .func (fnOf name qual params body scope dV kV doc pm an cdv ct), osl⟩) (hcd : codeIn K cdv qual = true)
    (hb : ∀ (sB : Shared), K.In sB.heap → ∀ vs : List Value, vs.length = xs.length → BindsTo sB (fnOf name qual params body scope dV kV doc pm an cdv ct) ⟨vs, []⟩ (xs.zip vs)) (hlen : ds.length = xs.length)
    (hloc : ∀ x ∈ xs, (scope.names.lookup x = some .local ∨ scope.names.lookup x = some .cell) ∧ (x == ("__debug__" : PySem.Str)) = false) (hco : scope.isCoroutine = false) (hgen : scope.isGenerator = false) (hk : scope.kind = .function)
    (hnd : ((cellsFrom 0 scope.names []).map (·.1)).Nodup)
    {gb : Sto} (hbody : Exs prog w K ⟨scope, none, fun _ => True⟩ lv (xs.zip ds).reverse σ body g φ' (σ' ++ gb)) (hret : Back g d) (hcut : gb = [] ∨ σ.length ≤ σ'.length ∧ (σ'.all (PO.under σ'.length)) = true ∧ d.under σ'.length = true)
    (k : ∀ a h' tk' news' ρ', Dy K f m φ σ' h' news' ρ' → Ext [] news ρ news' ρ' → VR K news' ρ' a d → R (.ok (.ret a)) { s with heap := h', toks := tk' }) : codeAny (model prog w) A (.call (.ref fa) ⟨vs, []⟩) R s := by
  obtain ⟨p, loose, mean, mg, mb, T, hp⟩ := ok.top
  have hl : vs.length = xs.length := hv.length.trans hlen
  refine code_defC ok.bel D.fr ok.kin D.nw T (hA.trans ok.hA) rfl ok.fn ho hcd (by omega) (hb s (ok.kin.keeps D.fr.keep) vs hl) ?_ hnd (fun g₀ L' h₁ tk cells FG F' N' Y B' X' T' lt => ?_) hco hgen hk
  · rw [List.all_eq_true]
    intro y hy
    rcases (hloc _ (List.of_mem_zip hy).1).1 with h | h <;> simp [h]
  · have ab := cells_above scope.names (L' + 1) [] (L' + 1) (Nat.le_refl _) (fun _ h => absurd h List.not_mem_nil) List.nodup_nil
    let f' : Fm := ⟨qual, scope, L', fa, cdv, cellsFrom (L' + 1) scope.names [], A.deeper (envOfC qual scope L' fa cdv), f.env :: f.outer, A, f.base, g₀, none, f.hid⟩
    have exs_above : ∀ c ∈ f'.exs, L' + 1 ≤ c := fun c hc => by
      obtain ⟨q, hq, e⟩ := List.mem_map.mp hc
      rw [← e]; exact ab.1 q hq
    have ok' : f'.Ok K lv := by
      refine ⟨B', ?_, ?_, ?_, ?_, hk, hgen, hco, X', ⟨p, loose, mean, mg, mb, T', hp⟩, fun x y c hx hy => cells_inj ab.2 (lookup_mem hx) (lookup_mem hy), fun x hx => Option.isSome_iff_exists.mp (cellsFrom_some _ _ _ (.inl hx))⟩
      · show Option.map _ A.frames = _
        rw [hA, ok.hA]; rfl
      · exact hhd
      · show A.depth + 1 + 3 * lv + 110 < recursionLimit; omega
      · show A.units + 3 + 16 * lv + 128 < cLine; omega
    have lt' : ∀ p ∈ news, p.1 < L' := fun p hp => lt p (List.mem_append_right _ hp)
    have offρ : ∀ a ∈ ρ, a < L' := fun a ha => by obtain ⟨ob, z⟩ := D.sr.here a ha; exact lt' _ z
    have e0 : Ext [] news ρ (cells ++ news) ρ := ⟨fun _ _ _ h => List.mem_append_right _ h, fun _ _ _ h k => ⟨List.mem_append_right _ h, k⟩, fun _ _ h => h, fun _ _ h k _ => ⟨List.mem_append_right _ h, k⟩⟩
    have cellAt : ∀ {x : PySem.Str} {c : Addr}, (x, c) ∈ f'.cl → ∃ o, (c, o) ∈ cells ++ news ∧ c ∉ ρ ∧ o.data = .cell (bindC (envOfC qual scope L' fa cdv).kindOf (xs.zip vs) (fun _ => none) x) := fun {x c} h => by
      obtain ⟨o, a, b⟩ := cellsAre_at Y h
      exact ⟨o, List.mem_append_left _ a, fun q => Nat.lt_irrefl _ (Nat.lt_of_lt_of_le (Nat.lt_succ_of_lt (offρ _ q)) (ab.1 _ h)), b⟩
    have D' : Dy K f' (bindL (envOfC qual scope L' fa cdv).kindOf (xs.zip vs) fun _ => none) (xs.zip ds).reverse σ h₁ (cells ++ news) ρ := by
      refine ⟨F', fun x d h => ?_, fun p hp => N' p ?_, D.sr.ext (ex := []) e0 fun _ h => List.mem_append_right _ h, fun c hc => ?_, fun p hp q hq => ?_⟩
      · obtain ⟨v, r, q⟩ := binds_cells (K := K) (news := news) (ρ := ρ) (envOfC qual scope L' fa cdv).kindOf xs (vs := vs) (ds := ds) (fun _ => none) (fun _ => none) [] hv (fun _ _ h => by cases h) x d (by simpa using h)
        have xin : x ∈ xs := (binds_plain hv x d h).choose_spec.2.2
        refine ⟨v, ⟨(hloc x xin).2, ?_⟩, r.ext e0⟩
        rcases (hloc x xin).1 with k1 | k1
        · left
          rw [if_pos (show (envOfC qual scope L' fa cdv).kindOf x = some .local from k1)] at q
          exact ⟨k1, q⟩
        · right
          rw [if_neg (show ¬ (envOfC qual scope L' fa cdv).kindOf x = some .local from fun z => by
            have z' : scope.names.lookup x = some .local := z
            rw [k1] at z'; cases z')] at q
          obtain ⟨c, hc⟩ := ok'.cok x k1
          obtain ⟨o, a1, a2, a3⟩ := cellAt (lookup_mem hc)
          rw [q] at a3
          exact ⟨k1, c, o, hc, a1, a2, a3⟩
      · have hp' : p ∈ f.hid ++ (cells ++ news) := hp
        simp only [List.mem_append] at hp' ⊢
        rcases hp' with h | h | h
        · exact .inr (.inl h)
        · exact .inl h
        · exact .inr (.inr h)
      · obtain ⟨q, hq, e⟩ := List.mem_map.mp hc
        obtain ⟨o, a1, a2, a3⟩ := cellAt (x := q.1) (c := q.2) hq
        exact ⟨o, _, by rw [← e]; exact a1, by rw [← e]; exact a2, a3⟩
      · rcases List.mem_append.mp hq with hq | hq
        · have l1 : p.1 < L' := lt p (List.mem_append_left _ hp)
          exact Nat.ne_of_lt (Nat.lt_of_lt_of_le (Nat.lt_succ_of_lt l1) (cells_ge Y ab.1 q hq))
        · exact D.off p hp q hq
    refine hbody.run f' { s with heap := h₁, toks := tk } _ (cells ++ news) ρ _ _ ⟨rfl, rfl, trivial⟩ rfl ok' D' fun fl h' tk' m'' news' ρ' D'' e r => ?_
    have e1 : Ext [] news ρ news' ρ' := ⟨fun a vs n h => e.tup _ _ _ (List.mem_append_right _ h), fun a vs n h q => e.lst _ _ _ (List.mem_append_right _ h) q, e.ref, fun a ob h q _ => e.own _ _ (List.mem_append_right _ h) q fun z => by
      exact Nat.lt_irrefl _ (Nat.lt_of_lt_of_le (Nat.lt_succ_of_lt (lt' _ h)) (exs_above _ z))⟩
    exact body_end (s := s) D D''.fr D''.nw D''.off D''.sr e1 r hret hcut k
end
end
end Mine
namespace Mine
section
variable {prog : Program} {w : World} {K : Frag} {S : Sc} {lv lv' : Nat} {φ φ' φ'' : Fl'} {σ σ' σ'' σ3 : Sto} {d : PV} {ds : List PV}

section
variable {name qual : PySem.Str} {params : Arguments} {body : List PySem.Stmt} {scope : Scope} {dV kV doc pm cdv ct oc : Value} {an od : Option Addr} {osl : Array (Option Value)} {fa : Addr} {xs : List PySem.Str} {g : Fw}
theorem ca_defF {gb : Sto} (ho : K.lookup fa = some ⟨oc, od, .func (fnOf name qual params body scope dV kV doc pm an cdv ct), osl⟩) (hcd : codeIn K cdv qual = true)
    (hb : ∀ (sB : Shared), K.In sB.heap → ∀ vs : List Value, vs.length = xs.length → BindsTo sB (fnOf name qual params body scope dV kV doc pm an cdv ct) ⟨vs, []⟩ (xs.zip vs)) (hlen : ds.length = xs.length)
    (hloc : ∀ x ∈ xs, scope.names.lookup x = some .local ∧ (x == ("__debug__" : PySem.Str)) = false) (hco : scope.isCoroutine = false) (hgen : scope.isGenerator = false) (hk : scope.kind = .function) (hcell : ∀ x ∈ scope.names, x.2 ≠ .cell)
    (hbody : Exs prog w K ⟨scope, none, fun _ => True⟩ lv (xs.zip ds).reverse σ body g φ' (σ' ++ gb)) (hret : Back g d) (hcut : gb = [] ∨ σ.length ≤ σ'.length ∧ (σ'.all (PO.under σ'.length)) = true ∧ d.under σ'.length = true) : Ca prog w K (lv + 1) (.ref fa) ds σ d σ' := by
  refine ⟨fun f s m news ρ φ Q E vs ok D hv k => ?_⟩
  refine wpAny_call (def_core (lv := lv) (ok.less (Nat.zero_le _)) D hv rfl ok.hh (by have := ok.dep; omega) (by have := ok.uni; omega) ho hcd hb hlen hloc hco hgen hk hcell hbody hret hcut fun a h' tk' news' ρ' D' e r => ?_)
  exact k a h' tk' news' ρ' D' e r
theorem ca_def (ho : K.lookup fa = some ⟨oc, od, .func (fnOf name qual params body scope dV kV doc pm an cdv ct), osl⟩) (hcd : codeIn K cdv qual = true)
    (hb : ∀ (sB : Shared), K.In sB.heap → ∀ vs : List Value, vs.length = xs.length → BindsTo sB (fnOf name qual params body scope dV kV doc pm an cdv ct) ⟨vs, []⟩ (xs.zip vs)) (hlen : ds.length = xs.length)
    (hloc : ∀ x ∈ xs, scope.names.lookup x = some .local ∧ (x == ("__debug__" : PySem.Str)) = false) (hco : scope.isCoroutine = false) (hgen : scope.isGenerator = false) (hk : scope.kind = .function) (hcell : ∀ x ∈ scope.names, x.2 ≠ .cell)
    (hbody : Exs prog w K ⟨scope, none, fun _ => True⟩ lv (xs.zip ds).reverse σ body g φ' σ') (hret : Back g d) : Ca prog w K (lv + 1) (.ref fa) ds σ d σ' :=
  ca_defF (gb := []) ho hcd hb hlen hloc hco hgen hk hcell (by rw [List.append_nil]; exact hbody) hret (.inl rfl)
theorem ca_defCF {gb : Sto} (ho : K.lookup fa = some ⟨oc, od, .func (fnOf name qual params body scope dV kV doc pm an cdv ct), osl⟩) (hcd : codeIn K cdv qual = true)
    (hb : ∀ (sB : Shared), K.In sB.heap → ∀ vs : List Value, vs.length = xs.length → BindsTo sB (fnOf name qual params body scope dV kV doc pm an cdv ct) ⟨vs, []⟩ (xs.zip vs)) (hlen : ds.length = xs.length)
    (hloc : ∀ x ∈ xs, (scope.names.lookup x = some .local ∨ scope.names.lookup x = some .cell) ∧ (x == ("__debug__" : PySem.Str)) = false) (hco : scope.isCoroutine = false) (hgen : scope.isGenerator = false) (hk : scope.kind = .function)
    (hnd : ((cellsFrom 0 scope.names []).map (·.1)).Nodup)
    (hbody : Exs prog w K ⟨scope, none, fun _ => True⟩ lv (xs.zip ds).reverse σ body g φ' (σ' ++ gb)) (hret : Back g d) (hcut : gb = [] ∨ σ.length ≤ σ'.length ∧ (σ'.all (PO.under σ'.length)) = true ∧ d.under σ'.length = true) : Ca prog w K (lv + 1) (.ref fa) ds σ d σ' := by
  refine ⟨fun f s m news ρ φ Q E vs ok D hv k => ?_⟩
  refine wpAny_call (def_coreC (lv := lv) (ok.less (Nat.zero_le _)) D hv rfl ok.hh (by have := ok.dep; omega) (by have := ok.uni; omega) ho hcd hb hlen hloc hco hgen hk hnd hbody hret hcut fun a h' tk' news' ρ' D' e r => ?_)
  exact k a h' tk' news' ρ' D' e r
theorem ca_defC (ho : K.lookup fa = some ⟨oc, od, .func (fnOf name qual params body scope dV kV doc pm an cdv ct), osl⟩) (hcd : codeIn K cdv qual = true)
    (hb : ∀ (sB : Shared), K.In sB.heap → ∀ vs : List Value, vs.length = xs.length → BindsTo sB (fnOf name qual params body scope dV kV doc pm an cdv ct) ⟨vs, []⟩ (xs.zip vs)) (hlen : ds.length = xs.length)
    (hloc : ∀ x ∈ xs, (scope.names.lookup x = some .local ∨ scope.names.lookup x = some .cell) ∧ (x == ("__debug__" : PySem.Str)) = false) (hco : scope.isCoroutine = false) (hgen : scope.isGenerator = false) (hk : scope.kind = .function)
    (hnd : ((cellsFrom 0 scope.names []).map (·.1)).Nodup)
    (hbody : Exs prog w K ⟨scope, none, fun _ => True⟩ lv (xs.zip ds).reverse σ body g φ' σ') (hret : Back g d) : Ca prog w K (lv + 1) (.ref fa) ds σ d σ' :=
  ca_defCF (gb := []) ho hcd hb hlen hloc hco hgen hk hnd (by rw [List.append_nil]; exact hbody) hret (.inl rfl)
/-- a class called without arguments -/
theorem ca_new {C fI : Nat} (hm : makesIn K C = true) (hi : findIn K (.ref C) "__init__" = some (some (.ref fI))) (hf : isFn K (.ref fI) = true) (ho : K.lookup fI = some ⟨oc, od, .func (fnOf name qual params body scope dV kV doc pm an cdv ct), osl⟩) (hcd : codeIn K cdv qual = true)
    (hb : ∀ (sB : Shared), K.In sB.heap → ∀ vs : List Value, vs.length = xs.length → BindsTo sB (fnOf name qual params body scope dV kV doc pm an cdv ct) ⟨vs, []⟩ (xs.zip vs)) (hlen : xs.length = 1)
    (hloc : ∀ x ∈ xs, scope.names.lookup x = some .local ∧ (x == ("__debug__" : PySem.Str)) = false) (hco : scope.isCoroutine = false) (hgen : scope.isGenerator = false) (hk : scope.kind = .function) (hcell : ∀ x ∈ scope.names, x.2 ≠ .cell)
    (hbody : Exs prog w K ⟨scope, none, fun _ => True⟩ lv (xs.zip [PV.ref σ.length]).reverse (σ ++ [.inst C (σ.length + 1), .dict []]) body .next φ' σ') : Ca prog w K (lv + 2) (.ref C) [] σ (.ref σ.length) σ' := by
  refine ⟨fun f s m news ρ φ Q E vs ok D hv k => ?_⟩
  cases hv
  have F := D.fr
  refine call_cls F ok.kin D.nw hm hi hf fun x dx h' F' N' l1 l2 => ?_
  have offd : dx ∉ ρ := fun q => by obtain ⟨ob, z⟩ := D.sr.here _ q; exact Nat.lt_irrefl _ (l1 _ (List.mem_append_right _ z))
  have offx : x ∉ ρ := fun q => by obtain ⟨ob, z⟩ := D.sr.here _ q; exact Nat.lt_irrefl _ (Nat.lt_trans l2 (l1 _ (List.mem_append_right _ z)))
  have keep : ∀ (a : Addr) (ob : Obj), (a, ob) ∈ news → a ∉ ρ → (a, ob) ∈ (x, instObj C dx) :: (dx, dictOf [] 0) :: news ∧ a ∉ ρ ++ [x, dx] := fun a _ h q => ⟨.tail _ (.tail _ h), fun z => by
    have l3 := l1 _ (List.mem_append_right _ h)
    rcases List.mem_append.mp z with z | z
    · exact q z
    · rcases List.mem_cons.mp z with z | z
      · subst z; exact Nat.lt_irrefl _ (Nat.lt_trans l2 l3)
      · have z' := List.mem_singleton.mp z; subst z'; exact Nat.lt_irrefl _ l3⟩
  have e : Ext [] news ρ ((x, instObj C dx) :: (dx, dictOf [] 0) :: news) (ρ ++ [x, dx]) := by
    refine ⟨fun _ _ _ h => .tail _ (.tail _ h), fun a _ _ h q => keep _ _ h q, fun i a h => ?_, fun a _ h q _ => keep _ _ h q⟩
    rw [List.getElem?_append_left (List.getElem?_eq_some_iff.mp h).1]; exact h
  have hlen2 := D.sr.len
  have S : SR K ((x, instObj C dx) :: (dx, dictOf [] 0) :: news) (ρ ++ [x, dx]) (σ ++ [.inst C (σ.length + 1), .dict []]) := by
    refine ⟨by simp [hlen2], ?_, fun a hm => ?_, fun i o h => ?_⟩
    · rw [List.nodup_append]
      refine ⟨D.sr.nd, by simp [Nat.ne_of_gt l2], fun a ha b hb => ?_⟩
      rcases List.mem_cons.mp hb with rfl | hb
      · intro q; exact offx (q ▸ ha)
      · rw [List.mem_singleton.mp hb]; intro q; exact offd (q ▸ ha)
    · rcases List.mem_append.mp hm with hm | hm
      · obtain ⟨ob, q⟩ := D.sr.here a hm; exact ⟨ob, .tail _ (.tail _ q)⟩
      · rcases List.mem_cons.mp hm with rfl | hm
        · exact ⟨_, .head _⟩
        · rw [List.mem_singleton.mp hm]; exact ⟨_, .tail _ (.head _)⟩
    · by_cases hi : i < σ.length
      · rw [List.getElem?_append_left hi] at h
        obtain ⟨a, ob, y1, y2, y3⟩ := D.sr.at_ i o h
        exact ⟨a, ob, e.ref _ _ y1, .tail _ (.tail _ y2), y3.ext e⟩
      · rw [List.getElem?_append_right (by omega)] at h
        obtain ⟨j, rfl⟩ : ∃ j, i = σ.length + j := ⟨i - σ.length, by omega⟩
        rw [Nat.add_sub_cancel_left] at h
        match j, h with
        | 0, h =>
          cases h
          exact ⟨x, _, by rw [← hlen2]; simp, .head _, .inst (by rw [← hlen2, List.getElem?_append_right (by omega)]; simp)⟩
        | 1, h =>
          cases h
          exact ⟨dx, _, by rw [← hlen2, List.getElem?_append_right (by omega)]; simp, .tail _ (.head _), .dict .nil⟩
        | j + 2, h => simp at h
  have D1 : Dy K f m φ (σ ++ [.inst C (σ.length + 1), .dict []]) h' ((x, instObj C dx) :: (dx, dictOf [] 0) :: news) (ρ ++ [x, dx]) := ⟨F', D.rel.ext e, fun p hp => N' p (by simp only [List.mem_append, List.mem_cons] at hp ⊢; rcases hp with h | h | h | h <;> simp [h]), S, D.ce.ext e, fun p hp q hq => by
    have lp : p.1 < dx := l1 p (List.mem_append_left _ hp)
    rcases List.mem_cons.mp hq with rfl | hq
    · exact Nat.ne_of_lt (Nat.lt_trans lp l2)
    · rcases List.mem_cons.mp hq with rfl | hq
      · exact Nat.ne_of_lt lp
      · exact D.off p hp q hq⟩
  have hx : VRs K ((x, instObj C dx) :: (dx, dictOf [] 0) :: news) (ρ ++ [x, dx]) [.ref x] [.ref σ.length] := .cons (.ref (by rw [← hlen2]; simp)) .nil
  refine def_core (lv := lv) (ok.less (Nat.zero_le _)) D1 hx rfl ok.hh ?_ ?_ ho hcd hb (by simpa using hlen.symm) hloc hco hgen hk hcell (gb := []) (by rw [List.append_nil]; exact hbody) (show Back .next .none from rfl) (.inl rfl) fun a h2 tk2 n2 r2 D2 e2 ra => ?_
  · have := ok.dep
    show f.A.depth + 1 + 3 * lv + 111 < recursionLimit
    omega
  · have := ok.uni
    show f.A.units + (Code.builtin "type.__call__" ⟨[.ref C], []⟩).cUnits + 16 * lv + 131 < cLine
    have : (Code.builtin "type.__call__" ⟨[.ref C], []⟩).cUnits ≤ 10 := by first | exact Nat.le_of_ble_eq_true rfl | simp [Code.cUnits, Code.frames]
    omega
  · cases ra
    exact ⟨rfl, k (.ref x) h2 tk2 n2 r2 D2 (e.trans e2) (.ref (e2.ref _ _ (by rw [← hlen2]; simp)))⟩
end

/-! calls by a name -/
theorem ev_call {x : PySem.Str} {p pos : Pos} {e : PySem.Expr} {rest : List PySem.Expr} {fa : Nat} (hx : nsIn K mainGlobals x = some (some (.ref fa))) (hk : keepIn K (.ref fa) = true) (h1 : Evs prog w K S lv φ σ (e :: rest) pos ds σ') (h2 : Ca prog w K lv' (.ref fa) ds σ' d σ'') (hl : lv' ≤ lv)
    (hg : GlobX S x)
    (he : ∀ env, starEach (e :: rest) env = (false, eval e env) :: starEach rest env := by intro _; rfl) (hpl : ∀ env, (backTo pos (starEach rest env)).any (·.1) = false := by intro _; rfl) :
    Ev prog w K S lv φ σ (.Call (.Name x p) (e :: rest) [] pos) d σ'' := by
  refine ⟨fun f s m news ρ Q E hS ok D k => ?_⟩
  have F := D.fr
  refine Call_Name rfl (glob_val hS ok D hg hx ?_)
  refine callWith_K ok.kin hk ?_ (he _) (hpl _)
  refine h1.run f s m news ρ _ _ hS ok D fun vs g1 t1 n1 r1 D1 e1 R1 => ?_
  have F1 := D1.fr
  refine ⟨ok.kin.keeps F1.keep, ?_⟩
  exact h2.run f _ m n1 r1 φ _ _ vs (ok.less hl) D1 R1 fun a g2 t2 n2 r2 D2 e2 R2 => k a g2 t2 n2 r2 D2 (e1.trans e2) R2
theorem ev_call0 {x : PySem.Str} {p pos : Pos} {fa : Nat} (hx : nsIn K mainGlobals x = some (some (.ref fa))) (hk : keepIn K (.ref fa) = true) (h2 : Ca prog w K lv' (.ref fa) [] σ d σ'') (hl : lv' ≤ lv)
    (hg : GlobX S x) :
    Ev prog w K S lv φ σ (.Call (.Name x p) [] [] pos) d σ'' := by
  refine ⟨fun f s m news ρ Q E hS ok D k => ?_⟩
  have F := D.fr
  refine Call_Name rfl (glob_val hS ok D hg hx ?_)
  refine callWith_K0 (ok.kin.keeps F.keep) hk ?_
  exact h2.run f s m news ρ φ _ _ [] (ok.less hl) D .nil fun a g2 t2 n2 r2 D2 e2 R2 => k a g2 t2 n2 r2 D2 e2 R2
theorem ev_callB {x : PySem.Str} {p pos : Pos} {e : PySem.Expr} {rest : List PySem.Expr} {id : String} (hx : nsIn K mainGlobals x = some .none) (hb : bootBuiltins x = some (.builtin id)) (h1 : Evs prog w K S lv φ σ (e :: rest) pos ds σ') (h2 : Ca prog w K lv' (.builtin id) ds σ' d σ'') (hl : lv' ≤ lv) (hn : x ≠ "__name__" := by decide)
    (hg : GlobX S x)
    (he : ∀ env, starEach (e :: rest) env = (false, eval e env) :: starEach rest env := by intro _; rfl) (hpl : ∀ env, (backTo pos (starEach rest env)).any (·.1) = false := by intro _; rfl) :
    Ev prog w K S lv φ σ (.Call (.Name x p) (e :: rest) [] pos) d σ'' := by
  refine ⟨fun f s m news ρ Q E hS ok D k => ?_⟩
  have F := D.fr
  refine Call_Name rfl (glob_built hS ok D hg hx hb hn ?_)
  refine callWith_method1 (first := []) ?_ (he _) (hpl _)
  refine h1.run f s m news ρ _ _ hS ok D fun vs g1 t1 n1 r1 D1 e1 R1 => ?_
  exact h2.run f _ m n1 r1 φ _ _ vs (ok.less hl) D1 R1 fun a g2 t2 n2 r2 D2 e2 R2 => k a g2 t2 n2 r2 D2 (e1.trans e2) R2
theorem ev_callT {x : PySem.Str} {p pos : Pos} {e : PySem.Expr} {rest : List PySem.Expr} {ty : String} (hx : nsIn K mainGlobals x = some .none) (hb : bootBuiltins x = some (.type ty)) (h1 : Evs prog w K S lv φ σ (e :: rest) pos ds σ') (h2 : Ca prog w K lv' (.type ty) ds σ' d σ'') (hl : lv' ≤ lv) (hn : x ≠ "__name__" := by decide)
    (hg : GlobX S x)
    (he : ∀ env, starEach (e :: rest) env = (false, eval e env) :: starEach rest env := by intro _; rfl) (hpl : ∀ env, (backTo pos (starEach rest env)).any (·.1) = false := by intro _; rfl) :
    Ev prog w K S lv φ σ (.Call (.Name x p) (e :: rest) [] pos) d σ'' := by
  refine ⟨fun f s m news ρ Q E hS ok D k => ?_⟩
  have F := D.fr
  refine Call_Name rfl (glob_built hS ok D hg hx hb hn ?_)
  refine PyProof.Rows.callWith_type1 ?_ (he _) (hpl _)
  refine h1.run f s m news ρ _ _ hS ok D fun vs g1 t1 n1 r1 D1 e1 R1 => ?_
  exact h2.run f _ m n1 r1 φ _ _ vs (ok.less hl) D1 R1 fun a g2 t2 n2 r2 D2 e2 R2 => k a g2 t2 n2 r2 D2 (e1.trans e2) R2

/-! methods -/
theorem ev_meth {o : PySem.Expr} {name : PySem.Str} {apos pos : Pos} {e : PySem.Expr} {rest : List PySem.Expr} {i dn C fa : Nat} {fs : List (PySem.Str × PV)} (h0 : Ev prog w K S lv φ σ o (.ref i) σ') (hC : Cls K C) (hi : σ'[i]? = some (.inst C dn)) (hd : σ'[dn]? = some (.dict fs)) (hx : fs.lookup name = .none)
    (hf : findIn K (.ref C) name = some (some (.ref fa))) (ht : isFn K (.ref fa) = true) (hk : keepIn K (.ref fa) = true) (h1 : Evs prog w K S lv φ σ' (e :: rest) pos ds σ'') (h2 : Ca prog w K lv' (.ref fa) (.ref i :: ds) σ'' d σ3) (hl : lv' ≤ lv)
    (hm : ∀ env, ∃ pl, eval (.Call (.Attribute o name apos) (e :: rest) [] pos) env = (do
      let ov ← eval o env
      standAt apos.atName
      let (f, first) ← holding [ov] (getMethod ov name pl)
      callWith pos f first (backTo pos (starEach (e :: rest) env)) []) := by intro _; exact ⟨_, rfl⟩)
    (he : ∀ env, starEach (e :: rest) env = (false, eval e env) :: starEach rest env := by intro _; rfl) (hpl : ∀ env, (backTo pos (starEach rest env)).any (·.1) = false := by intro _; rfl) :
    Ev prog w K S lv φ σ (.Call (.Attribute o name apos) (e :: rest) [] pos) d σ3 := by
  refine ⟨fun f s m news ρ Q E hS ok D k => ?_⟩
  obtain ⟨pl, hm'⟩ := hm f.ee
  refine MethodCall_ ?_ hm'
  refine h0.run f s m news ρ _ _ hS ok D fun v g1 t1 n1 r1 D1 e1 R1 => ?_
  have F := D1.fr
  obtain ⟨y, dx, es, n, rfl, m1, m2, r, _⟩ := inst_at D1 hi hd R1
  refine method_inst F ok.kin (InstAt.of_news D1.nwv m1 m2) hC.hg hf ht (r.none hx) ?_
  refine callWith_K ok.kin hk ?_ (he _) (hpl _)
  refine h1.run f _ m n1 r1 _ _ hS ok D1 fun vs g2 t2 n2 r2 D2 e2 R2 => ?_
  have F2 := D2.fr
  refine ⟨ok.kin.keeps F2.keep, ?_⟩
  exact h2.run f _ m n2 r2 φ _ _ _ (ok.less hl) D2 (.cons (R1.ext e2) R2) fun a g3 t3 n3 r3 D3 e3 R3 => k a g3 t3 n3 r3 D3 (e1.trans (e2.trans e3)) R3
theorem ev_meth0 {o : PySem.Expr} {name : PySem.Str} {apos pos : Pos} {i dn C fa : Nat} {fs : List (PySem.Str × PV)} (h0 : Ev prog w K S lv φ σ o (.ref i) σ') (hC : Cls K C) (hi : σ'[i]? = some (.inst C dn)) (hd : σ'[dn]? = some (.dict fs)) (hx : fs.lookup name = .none)
    (hf : findIn K (.ref C) name = some (some (.ref fa))) (ht : isFn K (.ref fa) = true) (hk : keepIn K (.ref fa) = true) (h2 : Ca prog w K lv' (.ref fa) [.ref i] σ' d σ3) (hl : lv' ≤ lv)
    (hm : ∀ env, ∃ pl, eval (.Call (.Attribute o name apos) [] [] pos) env = (do
      let ov ← eval o env
      standAt apos.atName
      let (f, first) ← holding [ov] (getMethod ov name pl)
      callWith pos f first (backTo pos (starEach [] env)) []) := by intro _; exact ⟨_, rfl⟩) :
    Ev prog w K S lv φ σ (.Call (.Attribute o name apos) [] [] pos) d σ3 := by
  refine ⟨fun f s m news ρ Q E hS ok D k => ?_⟩
  obtain ⟨pl, hm'⟩ := hm f.ee
  refine MethodCall_ ?_ hm'
  refine h0.run f s m news ρ _ _ hS ok D fun v g1 t1 n1 r1 D1 e1 R1 => ?_
  have F := D1.fr
  obtain ⟨y, dx, es, n, rfl, m1, m2, r, _⟩ := inst_at D1 hi hd R1
  refine method_inst F ok.kin (InstAt.of_news D1.nwv m1 m2) hC.hg hf ht (r.none hx) ?_
  refine callWith_K0 (ok.kin.keeps F.keep) hk ?_
  exact h2.run f _ m n1 r1 φ _ _ _ (ok.less hl) D1 (.cons R1 .nil) fun a g3 t3 n3 r3 D3 e3 R3 => k a g3 t3 n3 r3 D3 (e1.trans e3) R3
theorem ev_append {o : PySem.Expr} {apos pos : Pos} {e : PySem.Expr} {i : Nat} {l l' : List PV} (h0 : Ev prog w K S lv φ σ o (.ref i) σ') (hi0 : σ'[i]? = some (.list l')) (h1 : Ev prog w K S lv φ σ' e d σ'') (hi : σ''[i]? = some (.list l)) (hsz : l.length ≤ 100000)
    (hm : ∀ env, ∃ pl, eval (.Call (.Attribute o (PySem.Str.ofString "append") apos) [e] [] pos) env = (do
      let ov ← eval o env
      standAt apos.atName
      let (f, first) ← holding [ov] (getMethod ov (PySem.Str.ofString "append") pl)
      callWith pos f first (backTo pos (starEach [e] env)) []) := by intro _; exact ⟨_, rfl⟩)
    (he : ∀ env, starEach [e] env = (false, eval e env) :: starEach [] env := by intro _; rfl) :
    Ev prog w K S lv φ σ (.Call (.Attribute o (PySem.Str.ofString "append") apos) [e] [] pos) .none (σ''.set i (.list (l ++ [d]))) := by
  refine ⟨fun f s m news ρ Q E hS ok D k => ?_⟩
  obtain ⟨pl, hm'⟩ := hm f.ee
  refine MethodCall_ ?_ hm'
  refine h0.run f s m news ρ _ _ hS ok D fun v g1 t1 n1 r1 D1 e1 R1 => ?_
  obtain ⟨b, ob, hb, hmm, ho⟩ := D1.sr.at_ i _ hi0
  have R1' := R1
  cases R1 with
  | ref q =>
    rw [hb] at q
    cases q
    cases ho with
    | @list vs n _ r =>
      refine listMethod_K D1.nwv hmm PySem.F.slot_list_append PySem.F.type_list_append ?_
      refine callWith_method1 (first := [.ref b]) ?_ (he _) rfl
      refine spliced_more ?_ (he _)
      refine h1.run f _ m n1 r1 _ _ hS ok D1 fun v2 g2 t2 n2 r2 D2 e2 R2 => ?_
      refine spliced_none ?_
      exact append_turn D2 hi hsz (R1'.ext e2) R2 fun g3 t3 n3 r3 D3 e3 => k _ g3 t3 n3 r3 D3 (e1.trans (e2.trans e3)) .none

/-! built-in calls -/
theorem cb_abs {a : Int} : Ca prog w K lv (.builtin "abs") [.int a] σ (.int (if a < 0 then -a else a)) σ := by
  refine ⟨fun f s m news ρ φ Q E vs ok D hv k => ?_⟩
  match vs, hv with
  | _, .cons (.int _ _) .nil => exact call_abs_int fun u tk => k _ s.heap tk _ _ D (.refl _ _ _) (.int _ _)
theorem cb_max2 {a b : Int} : Ca prog w K lv (.builtin "max") [.int a, .int b] σ (.int (if b > a then b else a)) σ := by
  refine ⟨fun f s m news ρ φ Q E vs ok D hv k => ?_⟩
  have F := D.fr
  match vs, hv with
  | _, .cons (.int _ _) (.cons (.int _ _) .nil) => exact max_two_N ok.hh F D.nw fun h' tk F' N' => k _ h' tk _ _ (D.same F' N') (.refl _ _ _) (.int _ _)
theorem ints_of {news : Led} {ρ : List Addr} : ∀ {ns : List Int} {vs : List Value}, VRs K news ρ vs (ns.map .int) → IntsAre vs ns
  | [], _, h => by cases h; exact .nil
  | n :: ns, _, h => by
    cases h with
    | cons h r => cases h; exact .cons _ _ (ints_of r)
theorem cb_max {ns : List Int} {M : Int} (hM : M ∈ ns) (hmx : ∀ a ∈ ns, a ≤ M) : Ca prog w K lv (.builtin "max") [.lst (ns.map .int)] σ (.int M) σ := by
  refine ⟨fun f s m news ρ φ Q E vs ok D hv k => ?_⟩
  cases hv with
  | cons h r =>
    cases r
    obtain ⟨a, us, n, rfl, ho, r⟩ := h.isLst D
    have F := D.fr
    refine kso_max F D.nw (PySem.IsL.isList (n := n) ho) (ints_of r) (List.length_pos_of_mem hM) ok.hh fun h' M' t tk F' N' a1 a2 => ?_
    have e : M' = M := Int.le_antisymm (hmx _ a1) (a2 _ hM)
    subst e
    exact k _ h' tk _ _ (D.same F' N') (.refl _ _ _) (.int _ _)
theorem cb_lenL {l : List PV} (hz : l.length ≤ 16384) : Ca prog w K lv (.builtin "len") [.lst l] σ (.int l.length) σ := by
  refine ⟨fun f s m news ρ φ Q E vs ok D hv k => ?_⟩
  cases hv with
  | cons h r =>
    cases r
    obtain ⟨a, us, n, rfl, ho, r⟩ := h.isLst D
    exact kun_lenL (PySem.IsL.isList (n := n) ho) (by rw [List.size_toArray, r.length]) (by omega) (k _ s.heap _ _ _ D (.refl _ _ _) (.int _ _))
theorem cb_lenT {l : List PV} (hz : l.length ≤ 16384) : Ca prog w K lv (.builtin "len") [.tup l] σ (.int l.length) σ := by
  refine ⟨fun f s m news ρ φ Q E vs ok D hv k => ?_⟩
  cases hv with
  | cons h r =>
    cases r
    obtain ⟨a, us, rfl, ho, r⟩ := h.isTup ok D
    exact kun_lenT ho (by rw [List.size_toArray, r.length]) (by omega) (k _ s.heap _ _ _ D (.refl _ _ _) (.int _ _))
theorem cb_intB {b : Bool} : Ca prog w K lv (.type "int") [.bool b] σ (.int (if b then 1 else 0)) σ := by
  refine ⟨fun f s m news ρ φ Q E vs ok D hv k => ?_⟩
  match vs, hv with
  | _, .cons (.bool _) .nil => exact PySem.call_int_bool (k _ s.heap _ _ _ D (.refl _ _ _) (.int _ _))
theorem cb_tupL {l : List PV} (hz : l.length ≤ 16384) : Ca prog w K lv (.type "tuple") [.lst l] σ (.tup l) σ := by
  refine ⟨fun f s m news ρ φ Q E vs ok D hv k => ?_⟩
  cases hv with
  | cons h r =>
    cases r
    obtain ⟨a, us, n, rfl, ho, r⟩ := h.isLst D
    have F := D.fr
    refine kde_tupleOf F D.nw (PySem.IsL.isList (n := n) ho) (by rw [List.size_toArray, r.length]; exact hz) rfl fun T' h' F' N' l1 => ?_
    exact k _ h' s.toks _ _ (D.push F' N' l1) (.push _) (.tup (.head _) (r.ext (.push _)))
/-- a list that turns, made a tuple -/
theorem cb_tupR {i : Nat} {l : List PV} (hi : σ[i]? = some (.list l)) (hz : l.length ≤ 16384) : Ca prog w K lv (.type "tuple") [.ref i] σ (.tup l) σ := by
  refine ⟨fun f s m news ρ φ Q E vs ok D hv k => ?_⟩
  cases hv with
  | cons h r =>
    cases r
    obtain ⟨b, ob, hb, hm, ho⟩ := D.sr.at_ i _ hi
    cases h with
    | ref q =>
      rw [hb] at q
      cases q
      cases ho with
      | @list us n _ r =>
        have F := D.fr
        refine kde_tupleOf F D.nw (PySem.IsL.isList (n := n) (D.nwv _ hm).1) (by rw [List.size_toArray, r.length]; exact hz) rfl fun T' h' F' N' l1 => ?_
        exact k _ h' s.toks _ _ (D.push F' N' l1) (.push _) (.tup (.head _) (r.ext (.push _)))
theorem cb_lenR {i : Nat} {l : List PV} (hi : σ[i]? = some (.list l)) (hz : l.length ≤ 16384) : Ca prog w K lv (.builtin "len") [.ref i] σ (.int l.length) σ := by
  refine ⟨fun f s m news ρ φ Q E vs ok D hv k => ?_⟩
  cases hv with
  | cons h r =>
    cases r
    obtain ⟨b, ob, hb, hm, ho⟩ := D.sr.at_ i _ hi
    cases h with
    | ref q =>
      rw [hb] at q
      cases q
      cases ho with
      | @list us n _ r => exact kun_lenL (PySem.IsL.isList (n := n) (D.nwv _ hm).1) (by rw [List.size_toArray, r.length]) (by omega) (k _ s.heap _ _ _ D (.refl _ _ _) (.int _ _))

/-! rows put together -/
theorem op_addL {l l' : List PV} (hz : l.length + l'.length ≤ 100000) : Op2 prog w K lv σ (binaryOp .Add) (.lst l) (.lst l') (.lst (l ++ l')) σ := by
  refine ⟨fun f s m news ρ φ Q E v1 v2 ok D h1 h2 k => ?_⟩
  obtain ⟨a, us, n, rfl, ho, r⟩ := h1.isLst D
  obtain ⟨a', us', n', rfl, ho', r'⟩ := h2.isLst D
  have F := D.fr
  refine kmk_add_lit F D.nw (PySem.IsL.isList (n := n) ho) (PySem.IsL.isList (n := n') ho') rfl (fun T' h' F' N' l1 => ?_) (by have := r.length; have := r'.length; rw [sizeLine_eq]; simp only [List.size_toArray, Array.length_toList]; omega)
  refine k _ h' s.toks _ _ (D.push F' N' l1) (.push _) (.lst (.head _) (fun hm => ?_) ?_)
  · obtain ⟨ob, hq⟩ := D.sr.here _ hm
    exact Nat.lt_irrefl _ (l1 _ (List.mem_append_right _ hq))
  · exact (r.append r').ext (.push _)
theorem op_addT {l l' : List PV} (hz : l.length + l'.length ≤ 100000) : Op2 prog w K lv σ (binaryOp .Add) (.tup l) (.tup l') (.tup (l ++ l')) σ := by
  refine ⟨fun f s m news ρ φ Q E v1 v2 ok D h1 h2 k => ?_⟩
  obtain ⟨a, us, rfl, ho, r⟩ := h1.isTup ok D
  obtain ⟨a', us', rfl, ho', r'⟩ := h2.isTup ok D
  have F := D.fr
  refine add_tuples F D.nw ho ho' (fun e => ?_) (fun _ e => ?_) (fun _ _ h' F' N' => ?_) (by have := r.length; have := r'.length; rw [sizeLine_eq]; omega)
  · subst e; cases r; exact k _ s.heap s.toks _ _ D (.refl _ _ _) h2
  · subst e; cases r'; rw [List.append_nil] at k; exact k _ s.heap s.toks _ _ D (.refl _ _ _) h1
  · exact k _ h' s.toks _ _ (D.push F' N' D.size) (.push _) (.tup (.head _) ((r.append r').ext (.push _)))
end
end Mine
namespace Mine
/-- the turns of a loop that never leaves early -/
inductive Fb (prog : Program) (w : World) (K : Frag) (S : Sc) (lv : Nat) (x : PySem.Str) (body : List PySem.Stmt) : List PV → Fl' → Sto → Fl' → Sto → Prop
  | nil {φ : Fl'} {σ : Sto} : Fb prog w K S lv x body [] φ σ φ σ
  | cons {φ φ1 φ' : Fl'} {σ σ1 σ' : Sto} {d : PV} {ds : List PV} : Exs prog w K S lv ((x, d) :: φ) σ body .next φ1 σ1 → Fb prog w K S lv x body ds φ1 σ1 φ' σ' → Fb prog w K S lv x body (d :: ds) φ σ φ' σ'
section
variable {prog : Program} {w : World} {K : Frag} {S : Sc} {lv lv' : Nat} {φ φ' φ'' φe : Fl'} {σ σ' σ'' σ3 σe : Sto} {d : PV} {ds : List PV}
theorem Fm.Ok.hide {f : Fm} (ok : f.Ok K lv) (hid : Led) : ({ f with hid := hid } : Fm).Ok K lv := ⟨ok.bel, ok.hA, ok.hh, ok.dep, ok.uni, ok.fn, ok.gen, ok.co, ok.kin, ok.top, ok.inj, ok.cok⟩
theorem FR.hide {f : Fm} {hid : Led} {m : PySem.Str → Option Value} {news : Led} {ρ : List Addr} (hmd : f.md = none) (R : FR K f m news ρ φ) : FR K { f with hid := hid } m news ρ φ := fun x d h => by
  obtain ⟨v, a, r⟩ := R x d h
  refine ⟨v, ?_, r⟩
  unfold Acc at a ⊢
  rw [hmd] at a
  show _ ∧ (match f.md with | none => _ | some p => _)
  rw [hmd]
  exact a
theorem FR.unhide {f : Fm} {hid : Led} {m : PySem.Str → Option Value} {news : Led} {ρ : List Addr} (hmd : f.md = none) (R : FR K { f with hid := hid } m news ρ φ) : FR K f m news ρ φ := fun x d h => by
  obtain ⟨v, a, r⟩ := R x d h
  refine ⟨v, ?_, r⟩
  have a' : _ ∧ (match f.md with | none => _ | some p => _) := a
  rw [hmd] at a'
  unfold Acc
  rw [hmd]
  exact a'
theorem loop_fb {f : Fm} {s : Shared} {m : PySem.Str → Option Value} {news : Led} {ρ : List Addr} {Q : Flow → Shared → Prop} {E : Value → Shared → Prop} {x : PySem.Str} {body : List PySem.Stmt} {I : Addr} {fp : List Addr} {P : Nat → Value → Prop} {St : Nat → Heap → Prop} {oI : Obj}
    (hS : f.Is S) (hmd : f.md = none) (ok : f.Ok K lv) (D : Dy K f m φ σ s.heap news ρ) (hx : S.cs.names.lookup x = some .local) (hdx : (x == ("__debug__" : PySem.Str)) = false)
    (hI : I = s.heap.objs.size) (W : Walks prog w f.A I fp [I] ds.length P St) (hIf : I ∈ fp) (hfp : ∀ b ∈ fp, b = I ∨ (∃ vs n, (b, listOf vs n) ∈ news ∧ b ∉ ρ) ∨ ∃ vs n, (b, tupO vs n) ∈ news) (hst : St 0 (s.heap.push oI)) (hlive : ∀ i h, St i h → ∃ o, h.get? I = some o)
    (items : ∀ j v, P j v → ∃ d, ds[j]? = some d ∧ VR K news ρ v d) (fb : Fb prog w K S lv x body ds φ σ φe σe)
    (k : ∀ h' tk' m' news' ρ', Dy K f m' φe σe h' news' ρ' → Ext f.exs news ρ news' ρ' → Q .next { s with heap := h', toks := tk' }) :
    LoopAtV prog w f.A f.h₀ f.ee x body Q E (.ref I) { s with heap := s.heap.push oI } := by
  have hL : f.ee.locals = f.L := by rw [ee_none hmd]
  have lt : ∀ p ∈ f.hid ++ news, p.1 < I := by rw [hI]; exact D.size
  let J : Nat → (PySem.Str → Option Value) → List (Addr × Obj) → Prop := fun i m₁ news₁ => ∃ nv ρ₁ φi σi, news₁ = f.hid ++ nv ∧ FR K f m₁ nv ρ₁ φi ∧ SR K nv ρ₁ σi ∧ CellsIn f nv ρ₁ ∧ (∀ p ∈ f.hid, ∀ q ∈ nv, p.1 ≠ q.1) ∧ Ext f.exs news ρ nv ρ₁ ∧ Fb prog w K S lv x body (ds.drop i) φi σi φe σe
  refine ⟨I, fp, [I], ds.length, P, St, m, f.hid ++ news, J, rfl, W, ?_, ?_, ?_, hst, ?_, ?_, ⟨news, ρ, φ, σ, rfl, D.rel, D.sr, D.ce, D.off, .refl _ _ _, by rw [List.drop_zero]; exact fb⟩, ?_, ?_⟩
  · rw [hL]
    intro hm
    rcases hfp _ hm with e | ⟨vs, n, hm, _⟩ | ⟨vs, n, hm⟩
    · rw [hI] at e; exact absurd D.fr.ns.lt (e ▸ Nat.lt_irrefl _)
    · exact (D.nwv _ hm).2.1 rfl
    · exact (D.nwv _ hm).2.1 rfl
  · intro b hb
    rw [List.mem_singleton.mp hb, hI]
    exact next_is_new D.fr
  · intro p hp hm
    exact absurd (lt p hp) (by rw [List.mem_singleton.mp hm]; exact Nat.lt_irrefl _)
  · rw [hL]; exact D.fr.push _
  · rw [hL]; exact fun p hp => ⟨Heap.get?_push_of_some _ (D.nw p hp).1, (D.nw p hp).2⟩
  · rintro i v m₁ news₁ s₁ own ⟨hh', tk', rfl⟩ hin hP ⟨nv, ρ₁, φi, σi, rfl, R₁, S₁, C₁, O₁, e₁, fb₁⟩ hoff hown hget hall hst' F₁ N₁
    rw [hL] at F₁ N₁ ⊢
    obtain ⟨it, hit⟩ := hlive _ _ hst'
    have hInew : f.h₀.get? I = none := by rw [hI]; exact next_is_new D.fr
    have hIo : (I, it) ∈ own := hall I hIf hInew it hit
    obtain ⟨d, hd, rd⟩ := items i v hP
    have hdrop : ds.drop i = d :: ds.drop (i + 1) := by
      rw [List.drop_eq_getElem_cons hin]
      congr 1
      exact Option.some.inj ((List.getElem?_eq_getElem hin).symm.trans hd)
    rw [hdrop] at fb₁
    cases fb₁ with
    | cons hb fb₂ =>
      have offI : ∀ q ∈ f.hid ++ nv, q.1 ≠ I := fun q hq z => hoff q hq (List.mem_singleton.mpr z)
      have D₁ : Dy K { f with hid := (I, it) :: f.hid } (fun y => if y = x then some v else m₁ y) ((x, d) :: φi) σi hh' nv ρ₁ := by
        refine ⟨F₁, ?_, fun p hp => ?_, S₁, C₁, fun p hp q hq => ?_⟩
        · exact (R₁.bind hmd (rd.ext e₁) (by show f.cs.names.lookup x = _; rw [hS.cs]; exact hx) hdx).hide hmd
        · rcases List.mem_cons.mp hp with rfl | hp
          · exact N₁ _ (List.mem_append_left _ hIo)
          · exact N₁ _ (List.mem_append_right _ hp)
        · rcases List.mem_cons.mp hp with rfl | hp
          · exact fun z => offI q (List.mem_append_right _ hq) z.symm
          · exact O₁ p hp q hq
      have he : ({ f with hid := (I, it) :: f.hid } : Fm).ee = f.ee := by rw [ee_none hmd, ee_none (f := { f with hid := (I, it) :: f.hid }) hmd]
      have go := hb.run { f with hid := (I, it) :: f.hid } { s with heap := hh', toks := tk' } _ nv ρ₁ (LoopStepV f.h₀ f.L [I] own (J (i + 1)) { s with heap := hh', toks := tk' } (fun v s' => Q (.ret v) s') fun s' => Q .next s') E ⟨hS.cs, hS.md, hS.bs⟩ hmd (ok.hide _) D₁ fun fl h2 tk2 m2 n2 r2 D2 e2 R2 => ?_
      · have go' : wpAny (model prog w) f.A (execs body ({ f with hid := (I, it) :: f.hid } : Fm).ee) (LoopStepV f.h₀ f.L [I] own (J (i + 1)) { s with heap := hh', toks := tk' } (fun v s' => Q (.ret v) s') fun s' => Q .next s') E { s with heap := hh', toks := tk' } := go
        rw [he] at go'
        exact go'
      · have R2' : fl = .next := R2
        subst R2'
        refine ⟨rfl, h2, tk2, m2, f.hid ++ n2, rfl, D2.fr, fun p hp => ?_, fun p hp z => ?_, n2, r2, _, _, rfl, D2.rel.unhide hmd, D2.sr, D2.ce, fun p hp q hq => D2.off p (.tail _ hp) q hq, e₁.trans e2, fb₂⟩
        · rcases List.mem_append.mp hp with hp | hp
          · rcases hfp _ (hown p hp) with e | ⟨vs, n, hm, hr⟩ | ⟨vs, n, hm⟩
            · have h1 := hget p hp
              have h2' : p = (I, it) := Prod.ext e (by rw [e] at h1; exact (Option.some.inj (hit.symm.trans h1)).symm)
              rw [h2']
              exact D2.nw _ (.head _)
            · have hm1 := e₁.lst _ _ _ hm hr
              have hm2 := e2.lst _ _ _ hm1.1 hm1.2
              have h1 := hget p hp
              have h3 := (N₁ _ (List.mem_append_right _ (List.mem_append_right _ hm1.1))).1
              have h2' : p = (p.1, listOf vs n) := Prod.ext rfl (Option.some.inj (h1.symm.trans h3))
              rw [h2']
              exact D2.nw _ (.tail _ (List.mem_append_right _ hm2.1))
            · have hm1 := e₁.tup _ _ _ hm
              have hm2 := e2.tup _ _ _ hm1
              have h1 := hget p hp
              have h3 := (N₁ _ (List.mem_append_right _ (List.mem_append_right _ hm1))).1
              have h2' : p = (p.1, tupO vs n) := Prod.ext rfl (Option.some.inj (h1.symm.trans h3))
              rw [h2']
              exact D2.nw _ (.tail _ (List.mem_append_right _ hm2))
          · exact D2.nw _ (.tail _ hp)
        · have z' : p.1 = I := List.mem_singleton.mp z
          rcases List.mem_append.mp hp with hp | hp
          · exact offI p (List.mem_append_left _ hp) z'
          · exact D2.off _ (.head _) p hp z'.symm
  · rintro h' tk m' news' F' N' _ ⟨nv, ρ₁, φi, σi, rfl, R₁, S₁, C₁, O₁, e₁, fb₁⟩
    rw [hL] at F' N'
    rw [List.drop_length] at fb₁
    cases fb₁
    exact k h' tk m' nv ρ₁ ⟨F', R₁, N', S₁, C₁, O₁⟩ e₁
/-- «for x in a row» -/
theorem ex_forL {x : PySem.Str} {px pos : Pos} {iter : PySem.Expr} {body : List PySem.Stmt} (h1 : Ev prog w K S lv φ σ iter (.lst ds) σ') (fb : Fb prog w K S lv x body ds φ σ' φe σe) (hx : S.cs.names.lookup x = some .local := by rfl) (hdx : (x == ("__debug__" : PySem.Str)) = false := by decide)
    (hs : ∀ env x, foldedSetIterable iter env x = pure x := by intro _ _; rfl) : Ex prog w K S lv φ σ (.For (.Name x px) iter body [] pos) .next φe σe := by
  refine ⟨fun f s m news ρ Q E hS hmd ok D k => ?_⟩
  refine wpAny_mono (E := fun _ _ => False) (For_invV f.h₀ (by rw [ee_none hmd]; show f.cs.names.lookup x = _; rw [hS.cs]; exact hx) (by rw [ee_none hmd]; show (f.cs.kind == .class || (f.cs.kind == .module && f.L != mainGlobals)) = false; rw [ok.fn]; rfl) (h1.run f s m news ρ _ _ hS ok D fun v1 g1 t1 n1 r1 D1 e1 R1 => ?_) (hs _) PassesOwn.never) (fun _ _ q => q) fun _ _ e => e.elim
  have R1' := R1
  cases R1 with
  | @lst a vs n _ hm hr r =>
    have hl : g1.IsList a vs.toArray := PySem.IsL.isList (n := n) (D1.nwv _ hm).1
    refine wpAny_pyIter_list hl ?_
    have hlt : a < g1.objs.size := Heap.lt_size (D1.nwv _ hm).1
    have W := Walks.list (prog := prog) (w := w) ok.hh g1.objs.size a (Nat.ne_of_lt hlt) vs.toArray
    have hsz : vs.toArray.size = ds.length := by rw [List.size_toArray, r.length]
    rw [hsz] at W
    refine loop_fb (s := { s with heap := g1, toks := t1 }) hS hmd ok D1 hx hdx rfl W (by simp) (fun b hb => ?_) ⟨⟨_, Heap.get?_push_size _ rfl, rfl, rfl⟩, hl.at fun o e => Heap.get?_push_of_some _ e⟩ (fun i h st => by obtain ⟨o, e, _⟩ := st.1; exact ⟨o, e⟩) (fun j v hj => ?_) fb fun h' tk' m' n' r' D' e' => k _ h' tk' m' n' r' D' (e1.weak.trans e') rfl
    · rcases List.mem_cons.mp hb with rfl | hb
      · exact .inl rfl
      · rw [List.mem_singleton.mp hb]; exact .inr (.inl ⟨_, _, hm, hr⟩)
    · have hj' : vs[j]? = some v := by simpa using hj
      have aux : ∀ {vs : List Value} {ds : List PV} {j : Nat}, VRs K n1 r1 vs ds → vs[j]? = some v → ∃ d, ds[j]? = some d ∧ VR K n1 r1 v d := by
        intro vs
        induction vs with
        | nil => intro ds j _ h; simp at h
        | cons u us ih =>
          intro ds j h hj
          cases h with
          | cons h r =>
            cases j with
            | zero => simp at hj; subst hj; exact ⟨_, by simp, h⟩
            | succ j => simpa using ih r (by simpa using hj)
      exact aux r hj'
theorem small_of {a b c : Int} (h : Builtin.Range.small a b c = true) : Builtin.Range.small a b c = true := h
/-- what a range gives -/
noncomputable def rangePV (a c : Int) (n : Nat) : List PV := (List.range n).map fun i => PV.int (a + (i : Nat) * c)
theorem ex_forR {x : PySem.Str} {px pos : Pos} {iter : PySem.Expr} {body : List PySem.Stmt} {a b c : Int} {n : Nat} (h1 : T prog w K S lv φ σ (fun f => eval iter f.ee) σ' fun news ρ v => ∃ r t u t', v = .ref r ∧ (r, ({ cls := .type "range", data := .fields #[.int a t, .int b u, .int c t'] } : Obj)) ∈ news)
    (hsm : Builtin.Range.small a b c = true) (hn : Builtin.Range.rangeSize a b c = (n : Int)) (fb : Fb prog w K S lv x body (rangePV a c n) φ σ' φe σe) (hx : S.cs.names.lookup x = some .local := by rfl) (hdx : (x == ("__debug__" : PySem.Str)) = false := by decide)
    (hs : ∀ env x, foldedSetIterable iter env x = pure x := by intro _ _; rfl) : Ex prog w K S lv φ σ (.For (.Name x px) iter body [] pos) .next φe σe := by
  refine ⟨fun f s m news ρ Q E hS hmd ok D k => ?_⟩
  refine wpAny_mono (E := fun _ _ => False) (For_invV f.h₀ (by rw [ee_none hmd]; show f.cs.names.lookup x = _; rw [hS.cs]; exact hx) (by rw [ee_none hmd]; show (f.cs.kind == .class || (f.cs.kind == .module && f.L != mainGlobals)) = false; rw [ok.fn]; rfl) (h1.run f s m news ρ _ _ hS ok D fun v1 g1 t1 n1 r1 D1 e1 R1 => ?_) (hs _) PassesOwn.never) (fun _ _ q => q) fun _ _ e => e.elim
  obtain ⟨r, t, u, t', rfl, hm⟩ := R1
  have hr : IsRange g1 r a b c t u t' := (D1.nwv _ hm).1
  refine wpAny_pyIter_range hr hsm ?_
  have W := (Walks.range (prog := prog) (w := w) ok.hh g1.objs.size a c n).bound
  have hlen : (rangePV a c n).length = n := by simp [rangePV]
  rw [← hlen] at W
  refine loop_fb (s := { s with heap := g1, toks := t1 }) hS hmd ok D1 hx hdx rfl W (by simp) (fun b hb => .inl (List.mem_singleton.mp hb)) (by show IsRangeIter _ _ _ _ _; rw [hn, hlen]; simpa using Heap.get?_push_size _ rfl) (fun i h st => ⟨_, st⟩) (fun j v hj => ?_) fb fun h' tk' m' n' r' D' e' => k _ h' tk' m' n' r' D' (e1.weak.trans e') rfl
  obtain ⟨hlt, t9, rfl⟩ := hj
  rw [hlen] at hlt
  exact ⟨_, by simp [rangePV, hlt], .int _ _⟩
/-- «for x in a text» -/
theorem ex_forS {x : PySem.Str} {px pos : Pos} {iter : PySem.Expr} {body : List PySem.Stmt} {tx : PySem.Str} {l : List PySem.Str} (h1 : Ev prog w K S lv φ σ iter (.str tx) σ') (hl : tx.cps.toList.map (fun c => (⟨#[c]⟩ : PySem.Str)) = l) (fb : Fb prog w K S lv x body (l.map PV.str) φ σ' φe σe) (hx : S.cs.names.lookup x = some .local := by rfl) (hdx : (x == ("__debug__" : PySem.Str)) = false := by decide)
    (hs : ∀ env x, foldedSetIterable iter env x = pure x := by intro _ _; rfl) : Ex prog w K S lv φ σ (.For (.Name x px) iter body [] pos) .next φe σe := by
  refine ⟨fun f s m news ρ Q E hS hmd ok D k => ?_⟩
  refine wpAny_mono (E := fun _ _ => False) (For_invV f.h₀ (by rw [ee_none hmd]; show f.cs.names.lookup x = _; rw [hS.cs]; exact hx) (by rw [ee_none hmd]; show (f.cs.kind == .class || (f.cs.kind == .module && f.L != mainGlobals)) = false; rw [ok.fn]; rfl) (h1.run f s m news ρ _ _ hS ok D fun v1 g1 t1 n1 r1 D1 e1 R1 => ?_) (hs _) PassesOwn.never) (fun _ _ q => q) fun _ _ e => e.elim
  cases R1 with
  | str _ t =>
    have hlen : (l.map PV.str).length = tx.cps.size := by rw [← hl]; simp
    have go : ∀ (T : String) (o : Obj), Walks prog w f.A g1.objs.size [g1.objs.size] [g1.objs.size] tx.cps.size (SignAt tx) (fun i h => h.IsStrIter g1.objs.size T tx t i) →
        (g1.push o).IsStrIter g1.objs.size T tx t 0 → LoopAtV prog w f.A f.h₀ f.ee x body Q (fun _ _ => False) (.ref g1.objs.size) { s with heap := g1.push o, toks := t1 } := by
      intro T o W hst
      rw [← hlen] at W
      refine loop_fb (s := { s with heap := g1, toks := t1 }) hS hmd ok D1 hx hdx rfl W (by simp) (fun b hb => .inl (List.mem_singleton.mp hb)) hst (fun i h st => by obtain ⟨o, e, _⟩ := st; exact ⟨o, e⟩) (fun j v hj => ?_) fb fun h' tk' m' n' r' D' e' => k _ h' tk' m' n' r' D' (e1.weak.trans e') rfl
      obtain ⟨c, u, hc, rfl⟩ := hj
      refine ⟨.str ⟨#[c]⟩, ?_, .str _ _⟩
      rw [← hl]
      simp [hc]
    cases ha : tx.cps.all (· < 128)
    · exact wpAny_pyIter_wide ha (go "str_iterator" _ (Walks.strWide ok.hh _ tx t) ⟨_, Heap.get?_push_size _ rfl, rfl, rfl⟩)
    · exact wpAny_pyIter_ascii ha (go "str_ascii_iterator" _ (Walks.strAscii ok.hh _ tx t) ⟨_, Heap.get?_push_size _ rfl, rfl, rfl⟩)
end
end Mine
namespace Mine
/-- the turns of a while, counted -/
inductive Wh (prog : Program) (w : World) (K : Frag) (S : Sc) (lv : Nat) (test : PySem.Expr) (body : List PySem.Stmt) : Nat → Fl' → Sto → Fl' → Sto → Prop
  | done {φ : Fl'} {σ σ1 : Sto} : Tr prog w K S lv φ σ test false σ1 → Wh prog w K S lv test body 0 φ σ φ σ1
  | turn {n : Nat} {φ φ1 φ' : Fl'} {σ σ1 σ2 σ' : Sto} : Tr prog w K S lv φ σ test true σ1 → Exs prog w K S lv φ σ1 body .next φ1 σ2 → Wh prog w K S lv test body n φ1 σ2 φ' σ' → Wh prog w K S lv test body (n + 1) φ σ φ' σ'
section
variable {prog : Program} {w : World} {K : Frag} {S : Sc} {lv lv' : Nat} {φ φ' φ'' φe φf : Fl'} {σ σ' σ'' σ3 σe : Sto} {d : PV} {ds : List PV}
theorem ex_while {test : PySem.Expr} {body : List PySem.Stmt} {pos : Pos} {n : Nat} (h : Wh prog w K S lv test body n φ σ φ' σ') : Ex prog w K S lv φ σ (.While test body [] pos) .next φ' σ' := by
  refine ⟨fun f s m news ρ Q E hS hmd ok D k => ?_⟩
  refine wpAny_mono (Q := Q) (E := fun _ _ => False) (wpAny_While ?_) (fun _ _ q => q) fun _ _ e => e.elim
  refine codeAny_whileLoop (fun n s₁ => ∃ h₁ tk m₁ φ₁ σ₁ n₁ r₁, s₁ = { s with heap := h₁, toks := tk } ∧ Wh prog w K S lv test body n φ₁ σ₁ φ' σ' ∧ Dy K f m₁ φ₁ σ₁ h₁ n₁ r₁ ∧ Ext f.exs news ρ n₁ r₁) ?_ n ⟨s.heap, s.toks, m, φ, σ, news, ρ, rfl, h, D, .refl _ _ _⟩
  rintro n s₁ ⟨h₁, tk, m₁, φ₁, σ₁, n₁, r₁, rfl, hw, D₁, e₁⟩
  cases hw with
  | done ht =>
    refine ht.run f _ m₁ n₁ r₁ _ _ hS ok D₁ fun b g2 t2 n2 r2 D2 e2 R2 => ?_
    subst R2
    exact wpAny_execs_nil (k _ g2 t2 m₁ n2 r2 D2 (e₁.trans e2.weak) rfl)
  | turn ht hb hw' =>
    refine ht.run f _ m₁ n₁ r₁ _ _ hS ok D₁ fun b g2 t2 n2 r2 D2 e2 R2 => ?_
    subst R2
    refine hb.run f _ m₁ n2 r2 _ _ hS hmd ok D2 fun fl g3 t3 m3 n3 r3 D3 e3 R3 => ?_
    have R3' : fl = .next := R3
    subst R3'
    exact ⟨_, Nat.lt_succ_self _, g3, t3, m3, _, _, n3, r3, rfl, hw', D3, e₁.trans (e2.weak.trans e3)⟩

/-! ranges -/
theorem ev_range3 {x : PySem.Str} {p pos : Pos} {e : PySem.Expr} {rest : List PySem.Expr} {a b c : Int} (hx : nsIn K mainGlobals x = some .none) (hb : bootBuiltins x = some (.type "range")) (hg : GlobX S x) (h1 : Evs prog w K S lv φ σ (e :: rest) pos [.int a, .int b, .int c] σ') (hc : c ≠ 0) (hsm : Builtin.divisionGoesByPylong (b - a) c = false) (hn : x ≠ "__name__" := by decide)
    (he : ∀ env, starEach (e :: rest) env = (false, eval e env) :: starEach rest env := by intro _; rfl) (hpl : ∀ env, (backTo pos (starEach rest env)).any (·.1) = false := by intro _; rfl) :
    T prog w K S lv φ σ (fun f => eval (.Call (.Name x p) (e :: rest) [] pos) f.ee) σ' fun news ρ v => ∃ r t u t', v = .ref r ∧ (r, ({ cls := .type "range", data := .fields #[.int a t, .int b u, .int c t'] } : Obj)) ∈ news := by
  refine ⟨fun f s m news ρ Q E hS ok D k => ?_⟩
  refine Call_Name rfl (glob_built hS ok D hg hx hb hn ?_)
  refine PyProof.Rows.callWith_type1 ?_ (he _) (hpl _)
  refine h1.run f s m news ρ _ _ hS ok D fun vs g1 t1 n1 r1 D1 e1 R1 => ?_
  match vs, R1 with
  | _, .cons (.int _ ta) (.cons (.int _ tb) (.cons (.int _ tc) .nil)) =>
    refine call_range_3 hc ?_ (.inl hsm)
    exact k _ _ _ _ _ (D1.push (D1.fr.push _) (D1.nw.push D1.fr _) D1.size) (e1.trans (.push _)) ⟨_, ta, tb, tc, rfl, .head _⟩
theorem ev_range1 {x : PySem.Str} {p pos : Pos} {e : PySem.Expr} {rest : List PySem.Expr} {b : Int} (hx : nsIn K mainGlobals x = some .none) (hb : bootBuiltins x = some (.type "range")) (hg : GlobX S x) (h1 : Evs prog w K S lv φ σ (e :: rest) pos [.int b] σ') (hn : x ≠ "__name__" := by decide)
    (he : ∀ env, starEach (e :: rest) env = (false, eval e env) :: starEach rest env := by intro _; rfl) (hpl : ∀ env, (backTo pos (starEach rest env)).any (·.1) = false := by intro _; rfl) :
    T prog w K S lv φ σ (fun f => eval (.Call (.Name x p) (e :: rest) [] pos) f.ee) σ' fun news ρ v => ∃ r t u t', v = .ref r ∧ (r, ({ cls := .type "range", data := .fields #[.int 0 t, .int b u, .int 1 t'] } : Obj)) ∈ news := by
  refine ⟨fun f s m news ρ Q E hS ok D k => ?_⟩
  refine Call_Name rfl (glob_built hS ok D hg hx hb hn ?_)
  refine PyProof.Rows.callWith_type1 ?_ (he _) (hpl _)
  refine h1.run f s m news ρ _ _ hS ok D fun vs g1 t1 n1 r1 D1 e1 R1 => ?_
  match vs, R1 with
  | _, .cons (.int _ tb) .nil =>
    refine call_range_1 ?_
    exact k _ _ _ _ _ (D1.push (D1.fr.push _) (D1.nw.push D1.fr _) D1.size) (e1.trans (.push _)) ⟨_, _, tb, _, rfl, .head _⟩

/-! blocks that build a list -/
/-- what a block sees of its frame -/
structure Seen (S : Sc) (sc : Scope) (φ φf : Fl') : Prop where
  at_ : ∀ y d, φf.lookup y = some d → φ.lookup y = some d ∧ S.cs.names.lookup y = some .cell ∧ sc.names.lookup y = some .free
  cells : ∀ y ∈ sc.names, y.2 ≠ .cell
  fn : sc.kind = .function
  loc : ∀ y ∈ sc.names, y.2 = .local → sc.names.lookup y.1 = some .local
  once : ∀ y ∈ sc.names, y.2 = .free → S.cs.names.lookup y.1 = some .cell
/-- the items of a block, turn by turn -/
inductive Fc (prog : Program) (w : World) (K : Frag) (S : Sc) (sc : Scope) (lv : Nat) (x : PySem.Str) (φf : Fl') (elt : PySem.Expr) : List PV → Sto → List PV → Sto → Prop
  | nil {σ : Sto} : Fc prog w K S sc lv x φf elt [] σ [] σ
  | cons {σ σ1 σ' : Sto} {d y : PV} {ds ys : List PV} : Ev prog w K ⟨S.cs, some sc, S.bs⟩ lv ((x, d) :: φf) σ elt y σ1 → Fc prog w K S sc lv x φf elt ds σ1 ys σ' → Fc prog w K S sc lv x φf elt (d :: ds) σ (y :: ys) σ'
theorem closure_of {env : Env} {cl : List (PySem.Str × Addr)} : ∀ (names : List (PySem.Str × NameKind)) (acc : List (PySem.Str × Addr)), (∀ y ∈ names, y.2 = .free → ∃ c, env.cells.lookup y.1 = some c) → (∀ y c, acc.lookup y = some c → env.cells.lookup y = some c) →
    ∃ cl : List (PySem.Str × Addr), (forIn names acc (fun (p : PySem.Str × NameKind) (r : List (PySem.Str × Addr)) => (match p with | (name, kind) => if (kind == .free) = true then (do let c ← cellOf env name; pure (ForInStep.yield ((name, c) :: r))) else pure (ForInStep.yield r) : Sem (ForInStep (List (PySem.Str × Addr))))) : Sem (List (PySem.Str × Addr))) = pure cl ∧ (∀ y c, cl.lookup y = some c → env.cells.lookup y = some c) ∧ (∀ y, (acc.lookup y).isSome = true ∨ (∃ p ∈ names, p.1 = y ∧ p.2 = .free) → (cl.lookup y).isSome = true)
  | [], acc, h, ha => ⟨acc, rfl, ha, fun y hy => by
      rcases hy with hy | ⟨p, hp, _⟩
      · exact hy
      · cases hp⟩
  | (n, kd) :: r, acc, h, ha => by
    by_cases hk : (kd == NameKind.free) = true
    · obtain ⟨c, hc⟩ := h (n, kd) (.head _) (by simpa using hk)
      obtain ⟨cl, e, a, b⟩ := closure_of (env := env) (cl := []) r ((n, c) :: acc) (fun y hy => h y (.tail _ hy)) (fun y c' hy => by
        rw [List.lookup_cons] at hy
        split at hy
        · rename_i q; cases hy; rw [beq_iff_eq.mp q]; exact hc
        · exact ha y c' hy)
      refine ⟨cl, ?_, a, fun y hy => b y ?_⟩
      · rw [List.forIn_cons]
        dsimp only
        rw [if_pos hk]
        show (cellOf env n >>= _) >>= _ = _
        unfold cellOf
        rw [hc]
        exact e
      · rcases hy with hy | ⟨p, hp, h1, h2⟩
        · left
          rw [List.lookup_cons]
          split
          · rfl
          · exact hy
        · rcases List.mem_cons.mp hp with rfl | hp
          · left
            rw [List.lookup_cons, show (y == n) = true from by simp [← h1]]
            rfl
          · exact .inr ⟨p, hp, h1, h2⟩
    · obtain ⟨cl, e, a, b⟩ := closure_of (env := env) (cl := []) r acc (fun y hy => h y (.tail _ hy)) ha
      refine ⟨cl, ?_, a, fun y hy => b y ?_⟩
      · rw [List.forIn_cons]
        dsimp only
        rw [if_neg hk]
        exact e
      · rcases hy with hy | ⟨p, hp, h1, h2⟩
        · exact .inl hy
        · rcases List.mem_cons.mp hp with rfl | hp
          · have h2' : kd = NameKind.free := h2
            exact absurd (by rw [h2']; rfl) hk
          · exact .inr ⟨p, hp, h1, h2⟩
theorem Seen.closure {f : Fm} {sc : Scope} (hS : f.Is S) (hmd : f.md = none) (ok : f.Ok K lv) (V : Seen S sc φ φf) : ∃ cl, closureFor sc f.env = pure cl ∧ (∀ y c, cl.lookup y = some c → f.cl.lookup y = some c) ∧ ∀ y, sc.names.lookup y = some .free → ∃ c, cl.lookup y = some c := by
  obtain ⟨cl, e, a, b⟩ := closure_of (env := f.env) (cl := []) sc.names [] (fun y hy hk => ok.cok _ (by rw [hS.cs]; exact V.once y hy hk)) (fun y c h => by cases h)
  refine ⟨cl, ?_, a, fun y hy => Option.isSome_iff_exists.mp (b y (.inr ?_))⟩
  · unfold closureFor
    exact (congrArg (fun t : Sem (List (PySem.Str × Addr)) => t >>= fun r => pure r) e).trans rfl
  · have aux : ∀ {l : List (PySem.Str × NameKind)}, l.lookup y = some .free → ∃ p ∈ l, p.1 = y ∧ p.2 = .free := by
      intro l
      induction l with
      | nil => intro h; cases h
      | cons p l ih =>
        intro h
        rw [List.lookup_cons] at h
        split at h
        · rename_i q; exact ⟨p, .head _, (beq_iff_eq.mp q).symm, Option.some.inj h⟩
        · obtain ⟨q, a, b⟩ := ih h; exact ⟨q, .tail _ a, b⟩
    exact aux hy
theorem relabel_free {env : Env} {x : PySem.Str} (hk : env.scope.kind = .function) (hc : env.kindOf x = some .cell) : ∀ {names : List (PySem.Str × NameKind)}, names.lookup x = some .free →
    (names.map fun (n, k) => if (k == NameKind.free && env.scope.kind == .function && env.kindOf n == some .cell) then (n, NameKind.cell) else (n, k)).lookup x = some .cell
  | [], h => by cases h
  | (n, k) :: r, h => by
    rw [List.lookup_cons] at h
    rw [List.map_cons]
    split at h
    · rename_i q
      cases h
      have q' := beq_iff_eq.mp q
      subst q'
      dsimp only
      rw [if_pos (by simp [hk, hc]), List.lookup_cons, q]
    · rename_i q
      have ih := relabel_free (env := env) hk hc h
      dsimp only
      split <;> (rw [List.lookup_cons, q]; exact ih)
end
end Mine
namespace Mine
/-- the items of a block with a test, turn by turn -/
inductive FcT (prog : Program) (w : World) (K : Frag) (S : Sc) (sc : Scope) (lv : Nat) (x : PySem.Str) (φf : Fl') (ct elt : PySem.Expr) : List PV → Sto → List PV → Sto → Prop
  | nil {σ : Sto} : FcT prog w K S sc lv x φf ct elt [] σ [] σ
  | yes {σ σ1 σ2 σ' : Sto} {d y : PV} {ds ys : List PV} : Tr prog w K ⟨S.cs, some sc, S.bs⟩ lv ((x, d) :: φf) σ ct true σ1 → Ev prog w K ⟨S.cs, some sc, S.bs⟩ lv ((x, d) :: φf) σ1 elt y σ2 → FcT prog w K S sc lv x φf ct elt ds σ2 ys σ' → FcT prog w K S sc lv x φf ct elt (d :: ds) σ (y :: ys) σ'
  | no {σ σ1 σ' : Sto} {d : PV} {ds ys : List PV} : Tr prog w K ⟨S.cs, some sc, S.bs⟩ lv ((x, d) :: φf) σ ct false σ1 → FcT prog w K S sc lv x φf ct elt ds σ1 ys σ' → FcT prog w K S sc lv x φf ct elt (d :: ds) σ ys σ'
section
variable {prog : Program} {w : World} {K : Frag} {S : Sc} {lv lv' : Nat} {φ φ' φ'' φe φf : Fl'} {σ σ' σ'' σ3 σe : Sto} {d : PV} {ds ys : List PV} {sc : Scope} {x : PySem.Str} {elt ct iter : PySem.Expr} {cl : List (PySem.Str × Addr)}
/-- the frame with a block under way -/
noncomputable def Fm.blk (f : Fm) (sc : Scope) (cl : List (PySem.Str × Addr)) (I : Addr) (oI : Obj) (C : Addr) (oC : Obj) (D : Addr) (oD : Obj) : Fm := { f with md := some (sc, cl, C), hid := (I, oI) :: (C, oC) :: (D, oD) :: f.hid }
theorem Fm.Ok.blk {f : Fm} (ok : f.Ok K lv) {I C D : Addr} {oI oC oD : Obj} : (f.blk sc cl I oI C oC D oD).Ok K lv := ⟨ok.bel, ok.hA, ok.hh, ok.dep, ok.uni, ok.fn, ok.gen, ok.co, ok.kin, ok.top, ok.inj, ok.cok⟩
theorem blk_dy {f : Fm} {m : PySem.Str → Option Value} {news : Led} {ρ : List Addr} {I C D : Addr} {oI oC oD : Obj} {m₂ : PySem.Str → Option Value} {v : Value} {h : Heap} (hS : f.Is S) (hmd : f.md = none) (ok : f.Ok K lv) (V : Seen S sc φ φf)
    (hcl : (∀ y c, cl.lookup y = some c → f.cl.lookup y = some c) ∧ ∀ y, sc.names.lookup y = some .free → ∃ c, cl.lookup y = some c) (hx : sc.names.lookup x = some .local) (hdx : (x == ("__debug__" : PySem.Str)) = false)
    (rel : FR K f m news ρ φ) (sr : SR K news ρ σ) (ce : CellsIn f news ρ) (off : ∀ p ∈ f.hid, ∀ q ∈ news, p.1 ≠ q.1) (hC : LCg.NsObj oC m₂) (hv : m₂ x = some v) (rv : VR K news ρ v d)
    (F : Fr f.h₀ f.L h m) (N : News f.h₀ f.L h ((I, oI) :: (C, oC) :: (D, oD) :: (f.hid ++ news))) (o3 : LCg.Off3 I C D (f.hid ++ news)) : Dy K (f.blk sc cl I oI C oC D oD) m ((x, d) :: φf) σ h news ρ := by
  refine ⟨F, fun y e hy => ?_, N, sr, ce, fun p hp q hq => ?_⟩
  · rw [List.lookup_cons] at hy
    by_cases q : y = x
    · subst q
      rw [show (y == y) = true from by simp] at hy
      cases hy
      exact ⟨v, ⟨hdx, V.fn, .inl ⟨lookup_relabel_local hx, oC, m₂, .tail _ (.head _), hC, hv⟩⟩, rv⟩
    · rw [show (y == x) = false from by simp [q]] at hy
      obtain ⟨h1, h2, h3⟩ := V.at_ y e hy
      obtain ⟨u, hu, ru⟩ := rel y e h1
      unfold Acc at hu
      rw [hmd] at hu
      have kc : f.env.kindOf y = some .cell := by show f.cs.names.lookup y = _; rw [hS.cs]; exact h2
      rcases hu.2 with ⟨kl, _⟩ | ⟨_, c, o, a1, a2, a3, a4⟩
      · rw [kc] at kl; cases kl
      · obtain ⟨c', hc'⟩ := hcl.2 y h3
        have e1 := hcl.1 y c' hc'
        rw [a1] at e1
        cases e1
        exact ⟨u, ⟨hu.1, V.fn, .inr ⟨relabel_free ok.fn kc h3, c, o, hc', a2, a3, a4⟩⟩, ru⟩
  · have hq' := LCg.Off3.mem o3 q (List.mem_append_right _ hq)
    rcases List.mem_cons.mp hp with rfl | hp
    · exact fun z => hq'.1 z.symm
    · rcases List.mem_cons.mp hp with rfl | hp
      · exact fun z => hq'.2.1 z.symm
      · rcases List.mem_cons.mp hp with rfl | hp
        · exact fun z => hq'.2.2 z.symm
        · exact off p hp q hq
theorem blk_off {f : Fm} {m : PySem.Str → Option Value} {news news' : Led} {ρ' : List Addr} {I C D : Addr} {oI oC oD : Obj} {h' : Heap} {φ₁ : Fl'} {σ₁ : Sto} (o3 : LCg.Off3 I C D (f.hid ++ news)) (D' : Dy K (f.blk sc cl I oI C oC D oD) m φ₁ σ₁ h' news' ρ') : LCg.Off3 I C D (f.hid ++ news') := LCg.Off3.of fun p hp => by
  rcases List.mem_append.mp hp with hp | hp
  · exact LCg.Off3.mem o3 p (List.mem_append_left _ hp)
  · exact ⟨fun z => D'.off _ (.head _) p hp z.symm, fun z => D'.off _ (.tail _ (.head _)) p hp z.symm, fun z => D'.off _ (.tail _ (.tail _ (.head _))) p hp z.symm⟩
/-- the facts between two turns of a block -/
structure Bt (K : Frag) (f : Fm) (m : PySem.Str → Option Value) (φ : Fl') (news₀ : Led) (ρ₀ : List Addr) (σ : Sto) (vs : List Value) (ys : List PV) (news : Led) (ρ : List Addr) : Prop where
  rel : FR K f m news ρ φ
  sr : SR K news ρ σ
  ce : CellsIn f news ρ
  off : ∀ p ∈ f.hid, ∀ q ∈ news, p.1 ≠ q.1
  ext : Ext [] news₀ ρ₀ news ρ
  out : VRs K news ρ vs ys
theorem Bt.next {f : Fm} {m : PySem.Str → Option Value} {news₀ news news' : Led} {ρ₀ ρ ρ' : List Addr} {I C D : Addr} {oI oC oD : Obj} {h' : Heap} {φ₁ : Fl'} {σ₁ : Sto} {vs : List Value} (B : Bt K f m φ news₀ ρ₀ σ vs ys news ρ) (D' : Dy K (f.blk sc cl I oI C oC D oD) m φ₁ σ₁ h' news' ρ') (e : Ext [] news ρ news' ρ') : Bt K f m φ news₀ ρ₀ σ₁ vs ys news' ρ' :=
  ⟨B.rel.ext e, D'.sr, D'.ce, fun p hp q hq => D'.off p (.tail _ (.tail _ (.tail _ hp))) q hq, B.ext.trans e, B.out.ext e⟩
theorem comp_rest {f : Fm} {m : PySem.Str → Option Value} {news₀ : Led} {ρ₀ : List Addr} {s₂ : Shared} {Sp : Led → Prop} {P : Nat → Value → Prop} {Fin : List Value → Led → Prop} (hS : f.Is S) (hmd : f.md = none) (ok : f.Ok K lv) (V : Seen S sc φ φf)
    (hcl : (∀ y c, cl.lookup y = some c → f.cl.lookup y = some c) ∧ ∀ y, sc.names.lookup y = some .free → ∃ c, cl.lookup y = some c) (hx : sc.names.lookup x = some .local) (hdx : (x == ("__debug__" : PySem.Str)) = false)
    (items : ∀ j v, P j v → ∃ d, ds[j]? = some d ∧ VR K news₀ ρ₀ v d) (hSp : ∀ nv ρ, Ext [] news₀ ρ₀ nv ρ → Sp (f.hid ++ nv)) :
    ∀ (rest yr : List PV) (i : Nat) (σ : Sto) (vs : List Value) (ys : List PV) (news : Led) (ρ : List Addr), rest = ds.drop i → Fc prog w K S sc lv x φf elt rest σ yr σe → Bt K f m φ news₀ ρ₀ σ vs ys news ρ →
      (∀ vs' news' ρ', Bt K f m φ news₀ ρ₀ σe vs' (ys ++ yr) news' ρ' → Fin vs' (f.hid ++ news')) →
      LCg.CompRest prog w f.A f.h₀ f.L m f.env elt x sc cl s₂ Sp P Fin rest.length i vs (f.hid ++ news) := by
  intro rest
  induction rest with
  | nil =>
    intro yr i σ vs ys news ρ _ hf B k
    cases hf
    rw [List.append_nil] at k
    exact LCg.CompRest.zero (k vs news ρ B)
  | cons d rest ih =>
    intro yr i σ vs ys news ρ hr hf B k
    cases hf with
    | @cons _ σ1 _ _ y _ yr' hb hf' =>
      refine LCg.CompRest.succ fun v I oI C oC D m₂ h tk E' hP hC hv F N o3 ne3 => ?_
      obtain ⟨d', hd', rd⟩ := items i v hP
      have hd0 : ds[i]? = some d := by
        have := congrArg List.head? hr
        rw [List.head?_drop] at this
        exact this.symm
      rw [hd0] at hd'
      cases hd'
      have hr' : rest = ds.drop (i + 1) := by
        have := congrArg List.tail hr
        rw [List.tail_drop] at this
        exact this
      have D₁ := blk_dy (sc := sc) (cl := cl) hS hmd ok V hcl hx hdx B.rel B.sr B.ce B.off hC hv (rd.ext B.ext) F N o3
      refine hb.run (f.blk sc cl I oI C oC D (LCg.lst vs)) { s₂ with heap := h, toks := tk } m news ρ _ E' ⟨hS.cs, rfl, hS.bs⟩ ok.blk D₁ fun u g2 t2 n2 r2 D2 e2 R2 => ?_
      have B2 := B.next D2 e2
      refine LCg.CompEnd.intro D2.fr D2.nw (f.hid ++ n2) (fun p hp => hp) (blk_off o3 D2) (hSp _ _ B2.ext) ?_
      refine ih yr' (i + 1) σ1 (vs ++ [u]) (ys ++ [y]) n2 r2 hr' hf' ⟨B2.rel, B2.sr, B2.ce, B2.off, B2.ext, B2.out.append (.cons R2 .nil)⟩ ?_
      intro vs' n' r' B'
      exact k vs' n' r' (by rw [List.append_assoc] at B'; exact B')
theorem comp_restT {f : Fm} {m : PySem.Str → Option Value} {news₀ : Led} {ρ₀ : List Addr} {s₂ : Shared} {Sp : Led → Prop} {P : Nat → Value → Prop} {Fin : List Value → Led → Prop} (hS : f.Is S) (hmd : f.md = none) (ok : f.Ok K lv) (V : Seen S sc φ φf)
    (hcl : (∀ y c, cl.lookup y = some c → f.cl.lookup y = some c) ∧ ∀ y, sc.names.lookup y = some .free → ∃ c, cl.lookup y = some c) (hx : sc.names.lookup x = some .local) (hdx : (x == ("__debug__" : PySem.Str)) = false)
    (items : ∀ j v, P j v → ∃ d, ds[j]? = some d ∧ VR K news₀ ρ₀ v d) (hSp : ∀ nv ρ, Ext [] news₀ ρ₀ nv ρ → Sp (f.hid ++ nv)) :
    ∀ (rest yr : List PV) (i : Nat) (σ : Sto) (vs : List Value) (ys : List PV) (news : Led) (ρ : List Addr), rest = ds.drop i → FcT prog w K S sc lv x φf ct elt rest σ yr σe → Bt K f m φ news₀ ρ₀ σ vs ys news ρ →
      (∀ vs' news' ρ', Bt K f m φ news₀ ρ₀ σe vs' (ys ++ yr) news' ρ' → Fin vs' (f.hid ++ news')) →
      LCt.CompRestT prog w f.A f.h₀ f.L m f.env ct elt x sc cl s₂ Sp P Fin rest.length i vs (f.hid ++ news) := by
  intro rest
  induction rest with
  | nil =>
    intro yr i σ vs ys news ρ _ hf B k
    cases hf
    rw [List.append_nil] at k
    exact LCt.CompRestT.zero (k vs news ρ B)
  | cons d rest ih =>
    intro yr i σ vs ys news ρ hr hf B k
    have hd0 : ds[i]? = some d := by
      have := congrArg List.head? hr
      rw [List.head?_drop] at this
      exact this.symm
    have hr' : rest = ds.drop (i + 1) := by
      have := congrArg List.tail hr
      rw [List.tail_drop] at this
      exact this
    refine LCt.CompRestT.succ fun v I oI C oC D m₂ h tk E' hP hC hv F N o3 ne3 => ?_
    obtain ⟨d', hd', rd⟩ := items i v hP
    rw [hd0] at hd'
    cases hd'
    have D₁ := blk_dy (sc := sc) (cl := cl) hS hmd ok V hcl hx hdx B.rel B.sr B.ce B.off hC hv (rd.ext B.ext) F N o3
    cases hf with
    | @yes _ σ1 σ2 _ _ y _ yr' ht hb hf' =>
      refine ht.run (f.blk sc cl I oI C oC D (LCg.lst vs)) { s₂ with heap := h, toks := tk } m news ρ _ E' ⟨hS.cs, rfl, hS.bs⟩ ok.blk D₁ fun b g1 t1 n1 r1 D1 e1 R1 => ?_
      have R1' : b = true := R1
      rw [if_pos R1']
      refine hb.run (f.blk sc cl I oI C oC D (LCg.lst vs)) { s₂ with heap := g1, toks := t1 } m n1 r1 _ E' ⟨hS.cs, rfl, hS.bs⟩ ok.blk D1 fun u g2 t2 n2 r2 D2 e2 R2 => ?_
      have B2 := B.next D2 (e1.trans e2)
      refine LCg.CompEnd.intro (s₁ := { s₂ with heap := h, toks := tk }) D2.fr D2.nw (f.hid ++ n2) (fun p hp => hp) (blk_off o3 D2) (hSp _ _ B2.ext) ?_
      refine ih yr' (i + 1) σ2 (vs ++ [u]) (ys ++ [y]) n2 r2 hr' hf' ⟨B2.rel, B2.sr, B2.ce, B2.off, B2.ext, B2.out.append (.cons R2 .nil)⟩ ?_
      intro vs' n' r' B'
      exact k vs' n' r' (by rw [List.append_assoc] at B'; exact B')
    | @no _ σ1 _ _ _ _ ht hf' =>
      refine ht.run (f.blk sc cl I oI C oC D (LCg.lst vs)) { s₂ with heap := h, toks := tk } m news ρ _ E' ⟨hS.cs, rfl, hS.bs⟩ ok.blk D₁ fun b g1 t1 n1 r1 D1 e1 R1 => ?_
      have R1' : b = false := R1
      rw [if_neg (by rw [R1']; exact Bool.false_ne_true)]
      have B2 := B.next D1 e1
      refine LCg.CompEnd.intro (s₁ := { s₂ with heap := h, toks := tk }) D1.fr D1.nw (f.hid ++ n1) (fun p hp => hp) (blk_off o3 D1) (hSp _ _ B2.ext) ?_
      exact ih yr (i + 1) σ1 vs ys n1 r1 hr' hf' B2 k
end
end Mine
namespace Mine
section
variable {prog : Program} {w : World} {K : Frag} {S : Sc} {lv lv' : Nat} {φ φ' φ'' : Fl'} {σ σ' σ'' σ3 : Sto} {d : PV} {ds : List PV}
/-- an item by its place -/
inductive SubAt (σ : Sto) : PV → Int → PV → Prop
  | tup {l : List PV} {k : Int} {j : Nat} {d : PV} : seqIndex? k l.length = some j → l[j]? = some d → SubAt σ (.tup l) k d
  | lst {l : List PV} {k : Int} {j : Nat} {d : PV} : seqIndex? k l.length = some j → l[j]? = some d → SubAt σ (.lst l) k d
  | ref {i : Nat} {l : List PV} {k : Int} {j : Nat} {d : PV} : σ[i]? = some (.list l) → seqIndex? k l.length = some j → l[j]? = some d → SubAt σ (.ref i) k d
theorem ev_sub {value slice pos} {dv : PV} {k : Int} {d : PV} (h1 : Ev prog w K S lv φ σ value dv σ') (h2 : Ev prog w K S lv φ σ' slice (.int k) σ'') (h3 : SubAt σ'' dv k d) (hlo : -(2 ^ 63) ≤ k ∧ k < 2 ^ 63)
    (hs : ∀ o i, subscripted slice false o i = operate [o, i] (getItem o i)) : Ev prog w K S lv φ σ (.Subscript value slice pos) d σ'' := by
  cases h3 with
  | tup a b => exact ev_subT h1 h2 a b hlo.1 hlo.2 hs
  | lst a b => exact ev_subL h1 h2 a b hlo.1 hlo.2 hs
  | ref c a b => exact ev_subR h1 h2 c a b hlo.1 hlo.2 hs
/-- an index written out: a number or its negative -/
inductive Lit : PySem.Expr → Int → Prop
  | pos {i : Int} {k pos} : Lit (.Constant (.int i) k pos) i
  | neg {i : Int} {k pos pos'} : Lit (.UnaryOp .USub (.Constant (.int i) k pos) pos') (-i)
theorem ev_lit {e : PySem.Expr} {i : Int} (h : Lit e i) : Ev prog w K S lv φ σ e (.int i) σ := by
  cases h with
  | pos => exact ev_int
  | neg => exact ev_unop ev_int op_neg
end
end Mine
namespace Mine
section
variable {prog : Program} {w : World} {K : Frag} {S : Sc} {lv lv' : Nat} {φ φ' φ'' : Fl'} {σ σ' σ'' σ3 : Sto} {d : PV} {ds : List PV}
theorem tr_to {e : PySem.Expr} {b c : Bool} (h : Tr prog w K S lv φ σ e b σ') (q : b = c) : Tr prog w K S lv φ σ e c σ' := q ▸ h
theorem ev_to {e : PySem.Expr} {d d' : PV} (h : Ev prog w K S lv φ σ e d σ') (q : d = d') : Ev prog w K S lv φ σ e d' σ' := q ▸ h
theorem ca_to {lv : Nat} {v : Value} {ds : List PV} {d d' : PV} (h : Ca prog w K lv v ds σ d σ') (q : d = d') : Ca prog w K lv v ds σ d' σ' := q ▸ h
theorem ex_toS {e : PySem.Stmt} {g : Fw} {σ2 : Sto} (h : Ex prog w K S lv φ σ e g φ' σ') (q : σ' = σ2) : Ex prog w K S lv φ σ e g φ' σ2 := q ▸ h
theorem ev_toS {e : PySem.Expr} {d : PV} {σ2 : Sto} (h : Ev prog w K S lv φ σ e d σ') (q : σ' = σ2) : Ev prog w K S lv φ σ e d σ2 := q ▸ h
noncomputable def tgNames (elts : List PySem.Expr) : List PySem.Str := elts.filterMap fun | .Name x _ => some x | _ => none
theorem ex_swap {elts k tpos value pos} {ds : List PV} (hw : ∀ cn L a ccd cl, swappedStores [.Tuple elts k tpos] value (envX cn S.cs L a ccd cl) = pure (some (tgNames elts))) (hs : ∀ env, swapsWithSole [.Tuple elts k tpos] value pos.line env = pure false)
    (h1 : Ev prog w K S lv φ σ value (.tup ds) σ') (hn : ds.length = (tgNames elts).length) (hl : ∀ x ∈ tgNames elts, S.cs.names.lookup x = some .local ∧ (x == ("__debug__" : PySem.Str)) = false) :
    Ex prog w K S lv φ σ (.Assign [.Tuple elts k tpos] value pos) .next ((tgNames elts).zip ds ++ φ) σ' := ex_swapped h1 hn hl hs hw
theorem exs_forget {sts : List PySem.Stmt} {g : Fw} (h : Exs prog w K S lv φ σ sts g φ' σ') : Exs prog w K S lv φ σ sts g [] σ' := by
  refine ⟨fun f s m news ρ Q E hS hmd ok D k => ?_⟩
  exact h.run f s m news ρ Q E hS hmd ok D fun v g1 t1 m1 n1 r1 D1 e1 R1 => k v g1 t1 m1 n1 r1 ⟨D1.fr, fun _ _ h => (by cases h), D1.nw, D1.sr, D1.ce, D1.off⟩ e1 R1
theorem ev_cB {x : PySem.Str} {p pos : Pos} {e : PySem.Expr} {rest : List PySem.Expr} {id : String} (hx : nsIn K mainGlobals x = some .none) (hb : bootBuiltins x = some (.builtin id)) (h1 : Evs prog w K S lv φ σ (e :: rest) pos ds σ') (h2 : Ca prog w K 0 (.builtin id) ds σ' d σ'') (hn : x ≠ "__name__")
    (hg : GlobX S x) (he : ∀ env, starEach (e :: rest) env = (false, eval e env) :: starEach rest env) (hpl : ∀ env, (backTo pos (starEach rest env)).any (·.1) = false) :
    Ev prog w K S lv φ σ (.Call (.Name x p) (e :: rest) [] pos) d σ'' := ev_callB hx hb h1 h2 (Nat.zero_le _) hn hg he hpl
theorem ev_cT {x : PySem.Str} {p pos : Pos} {e : PySem.Expr} {rest : List PySem.Expr} {ty : String} (hx : nsIn K mainGlobals x = some .none) (hb : bootBuiltins x = some (.type ty)) (h1 : Evs prog w K S lv φ σ (e :: rest) pos ds σ') (h2 : Ca prog w K 0 (.type ty) ds σ' d σ'') (hn : x ≠ "__name__")
    (hg : GlobX S x) (he : ∀ env, starEach (e :: rest) env = (false, eval e env) :: starEach rest env) (hpl : ∀ env, (backTo pos (starEach rest env)).any (·.1) = false) :
    Ev prog w K S lv φ σ (.Call (.Name x p) (e :: rest) [] pos) d σ'' := ev_callT hx hb h1 h2 (Nat.zero_le _) hn hg he hpl
/-- what a def's own page tells, as truths -/
noncomputable def locs (scope : Scope) (xs : List PySem.Str) : Bool := xs.all fun x => (match scope.names.lookup x with | some .local => true | _ => false) && !(x == ("__debug__" : PySem.Str))
noncomputable def locsC (scope : Scope) (xs : List PySem.Str) : Bool := xs.all fun x => (match scope.names.lookup x with | some .local => true | some .cell => true | _ => false) && !(x == ("__debug__" : PySem.Str))
noncomputable def noCell (scope : Scope) : Bool := scope.names.all fun x => match x.2 with | .cell => false | _ => true
theorem locs_of {scope : Scope} {xs : List PySem.Str} (h : locs scope xs = true) : ∀ x ∈ xs, scope.names.lookup x = some .local ∧ (x == ("__debug__" : PySem.Str)) = false := fun x hx => by
  have := List.all_eq_true.mp h x hx
  simp only [Bool.and_eq_true, Bool.not_eq_true'] at this
  refine ⟨?_, this.2⟩
  have h1 := this.1
  split at h1
  · assumption
  · cases h1
theorem locsC_of {scope : Scope} {xs : List PySem.Str} (h : locsC scope xs = true) : ∀ x ∈ xs, (scope.names.lookup x = some .local ∨ scope.names.lookup x = some .cell) ∧ (x == ("__debug__" : PySem.Str)) = false := fun x hx => by
  have := List.all_eq_true.mp h x hx
  simp only [Bool.and_eq_true, Bool.not_eq_true'] at this
  refine ⟨?_, this.2⟩
  have h1 := this.1
  split at h1
  · exact .inl (by assumption)
  · exact .inr (by assumption)
  · cases h1
theorem noCell_of {scope : Scope} (h : noCell scope = true) : ∀ x ∈ scope.names, x.2 ≠ .cell := fun x hx => by
  have := List.all_eq_true.mp h x hx
  intro q
  rw [q] at this
  cases this
end
end Mine
namespace Mine
/-! values held against one another -/
mutual
noncomputable def PV.py : PV → PyData
  | .none => .none
  | .bool b => .bool b
  | .int i => .int i
  | .str x => .str x
  | .tup l => .tuple (PV.pys l)
  | .lst l => .list (PV.pys l)
  | .ref _ => .none
  | .base _ => .none
noncomputable def PV.pys : List PV → List PyData
  | [] => []
  | d :: l => PV.py d :: PV.pys l
end
mutual
noncomputable def PV.okd : Nat → PV → Bool
  | _, .none => true
  | _, .bool _ => true
  | _, .int _ => true
  | _, .str x => PyData.strOk x
  | n + 1, .tup l => PV.okds n l
  | n + 1, .lst l => PV.okds n l
  | 0, .tup _ => false
  | 0, .lst _ => false
  | _, .ref _ => false
  | _, .base _ => false
noncomputable def PV.okds : Nat → List PV → Bool
  | _, [] => true
  | n, d :: l => PV.okd n d && PV.okds n l
end
section
variable {prog : Program} {w : World} {K : Frag} {S : Sc} {lv lv' : Nat} {φ φ' φ'' : Fl'} {σ σ' σ'' σ3 : Sto} {d : PV} {ds : List PV}
mutual
theorem VR.reads {h : Heap} {news : Led} {ρ : List Addr} (hn : ∀ p ∈ news, h.get? p.1 = some p.2) (hK : K.In h) : ∀ {v : Value} {d : PV} (n : Nat), VR K news ρ v d → d.okd n = true → ∃ as, Reads h v d.py as
  | _, _, _, .none, _ => ⟨_, Reads.none⟩
  | _, _, _, .bool b, _ => ⟨_, Reads.bool b⟩
  | _, _, _, .int i t, _ => ⟨_, Reads.int i t⟩
  | _, _, _, .str x t, _ => ⟨_, Reads.str x t⟩
  | _, _, 0, .tup _ _, hk => by simp [PV.okd] at hk
  | _, _, 0, .tupK _ _, hk => by simp [PV.okd] at hk
  | _, _, 0, .lst _ _ _, hk => by simp [PV.okd] at hk
  | _, _, n, .ref _, hk => by cases n <;> simp [PV.okd] at hk
  | _, _, n, .base _, hk => by cases n <;> simp [PV.okd] at hk
  | _, _, n + 1, .tup hm r, hk => by
    obtain ⟨as, q⟩ := VRs.reads hn hK n r (by simpa [PV.okd] using hk)
    rw [PV.py]
    exact ⟨as, Reads.tuple (hn _ hm) rfl rfl (by simpa using q)⟩
  | _, _, n + 1, .tupK hm r, hk => by
    obtain ⟨as, q⟩ := VRs.reads hn hK n r (by simpa [PV.okd] using hk)
    rw [PV.py]
    exact ⟨as, Reads.tuple (hK _ _ hm) rfl rfl (by simpa using q)⟩
  | _, _, n + 1, .lst hm _ r, hk => by
    obtain ⟨as, q⟩ := VRs.reads hn hK n r (by simpa [PV.okd] using hk)
    rw [PV.py]
    exact ⟨_, Reads.list (hn _ hm) rfl rfl (by simpa [PySem.W.listOf] using q)⟩
theorem VRs.reads {h : Heap} {news : Led} {ρ : List Addr} (hn : ∀ p ∈ news, h.get? p.1 = some p.2) (hK : K.In h) : ∀ {vs : List Value} {l : List PV} (n : Nat), VRs K news ρ vs l → PV.okds n l = true → ∃ as, ReadsAll h vs (PV.pys l) as
  | _, _, _, .nil, _ => ⟨_, ReadsAll.nil⟩
  | _, _, n, .cons hd r, hk => by
    simp only [PV.okds, Bool.and_eq_true] at hk
    obtain ⟨as, q⟩ := VR.reads hn hK n hd hk.1
    obtain ⟨bs, p⟩ := VRs.reads hn hK n r hk.2
    rw [PV.pys]
    exact ⟨_, ReadsAll.cons q p⟩
end
mutual
theorem okd_lay : ∀ (n : Nat) (d : PV), d.okd n = true → d.py.canLay0 = true ∧ d.py.depth ≤ n
  | n, .none, _ => by simp [PV.py, PyData.canLay0, PyData.depth]
  | n, .bool b, _ => by simp [PV.py, PyData.canLay0, PyData.depth]
  | n, .int i, _ => by simp [PV.py, PyData.canLay0, PyData.depth]
  | n, .str x, h => by simp [PV.okd] at h; simp [PV.py, PyData.canLay0, PyData.depth, h]
  | 0, .tup _, h => by simp [PV.okd] at h
  | 0, .lst _, h => by simp [PV.okd] at h
  | n, .ref _, h => by cases n <;> simp [PV.okd] at h
  | n, .base _, h => by cases n <;> simp [PV.okd] at h
  | n + 1, .tup l, h => by
    have q := okds_lay n l (by simpa [PV.okd] using h)
    have q2 := q.2
    simp only [PV.py, PyData.canLay0, PyData.depth, q.1, true_and]
    omega
  | n + 1, .lst l, h => by
    have q := okds_lay n l (by simpa [PV.okd] using h)
    have q2 := q.2
    simp only [PV.py, PyData.canLay0, PyData.depth, q.1, true_and]
    omega
theorem okds_lay : ∀ (n : Nat) (l : List PV), PV.okds n l = true → PyData.canLayAll0 (PV.pys l) = true ∧ PyData.depthAll (PV.pys l) ≤ n
  | n, [], _ => by simp [PV.pys, PyData.canLayAll0, PyData.depthAll]
  | n, d :: l, h => by
    simp only [PV.okds, Bool.and_eq_true] at h
    have h1 := okd_lay n d h.1
    have h2 := okds_lay n l h.2
    have a1 := h1.2
    have a2 := h2.2
    simp only [PV.pys, PyData.canLayAll0, PyData.depthAll, h1.1, h2.1, Bool.and_self, true_and]
    omega
end
theorem okd_shaped {n : Nat} {d : PV} (h : d.okd n = true) (hn : n ≤ 64) : PySem.SeqAt.shaped d.py = true := by
  have := okd_lay n d h
  unfold PySem.SeqAt.shaped
  rw [this.1, Bool.true_and, decide_eq_true_eq]
  have := this.2
  omega
mutual
theorem eqv_refl : ∀ (n : Nat) (d : PV), d.okd n = true → PyData.eqv d.py d.py = true
  | n, .none, _ => by simp [PV.py, PyData.eqv]
  | n, .bool b, _ => by simp [PV.py, PyData.eqv]
  | n, .int i, _ => by simp [PV.py, PyData.eqv]
  | n, .str x, h => by simp [PV.py, PyData.eqv]
  | 0, .tup _, h => by simp [PV.okd] at h
  | 0, .lst _, h => by simp [PV.okd] at h
  | n, .ref _, h => by cases n <;> simp [PV.okd] at h
  | n, .base _, h => by cases n <;> simp [PV.okd] at h
  | n + 1, .tup l, h => by
    have q := eqvs_refl n l (by simpa [PV.okd] using h)
    simpa [PV.py, PyData.eqv] using q
  | n + 1, .lst l, h => by
    have q := eqvs_refl n l (by simpa [PV.okd] using h)
    simpa [PV.py, PyData.eqv] using q
theorem eqvs_refl : ∀ (n : Nat) (l : List PV), PV.okds n l = true → PyData.eqvAll (PV.pys l) (PV.pys l) = true
  | n, [], _ => by simp [PV.pys, PyData.eqvAll]
  | n, d :: l, h => by
    simp only [PV.okds, Bool.and_eq_true] at h
    simp only [PV.pys, PyData.eqvAll, eqv_refl n d h.1, eqvs_refl n l h.2, Bool.and_self]
end
theorem Dy.at' {f : Fm} {m : PySem.Str → Option Value} {h : Heap} {news : Led} {ρ : List Addr} (D : Dy K f m φ σ h news ρ) : ∀ p ∈ news, h.get? p.1 = some p.2 := fun p hp => (D.nwv p hp).1
theorem op_eqD {d1 d2 : PV} {n : Nat} (h1 : d1.okd n = true) (h2 : d2.okd n = true) (hn : n ≤ 64) : Op2 prog w K lv σ (compareOp .Eq) d1 d2 (.bool (PyData.eqv d1.py d2.py)) σ := by
  refine ⟨fun f s m news ρ φ Q E v1 v2 ok D r1 r2 k => ?_⟩
  obtain ⟨as, a⟩ := r1.reads D.at' (ok.kin.keeps D.fr.keep) n h1
  obtain ⟨bs, b⟩ := r2.reads D.at' (ok.kin.keeps D.fr.keep) n h2
  exact eq_dataH a b (okd_shaped h1 hn) (okd_shaped h2 hn) (by have := ok.uni; omega) (k _ s.heap s.toks _ _ D (.refl _ _ _) (.bool _))
theorem op_neD {d1 d2 : PV} {n : Nat} (h1 : d1.okd n = true) (h2 : d2.okd n = true) (hn : n ≤ 64) : Op2 prog w K lv σ (compareOp .NotEq) d1 d2 (.bool (!PyData.eqv d1.py d2.py)) σ := by
  refine ⟨fun f s m news ρ φ Q E v1 v2 ok D r1 r2 k => ?_⟩
  obtain ⟨as, a⟩ := r1.reads D.at' (ok.kin.keeps D.fr.keep) n h1
  obtain ⟨bs, b⟩ := r2.reads D.at' (ok.kin.keeps D.fr.keep) n h2
  exact ne_dataH a b (okd_shaped h1 hn) (okd_shaped h2 hn) (by have := ok.uni; omega) (k _ s.heap s.toks _ _ D (.refl _ _ _) (.bool _))
/-- a list that turns, held against a frozen one -/
theorem op_eqRL {i : Nat} {l l' : List PV} {n : Nat} (hi : σ[i]? = some (.list l)) (h1 : PV.okds n l = true) (h2 : PV.okds n l' = true) (hn : n ≤ 63) : Op2 prog w K lv σ (compareOp .Eq) (.ref i) (.lst l') (.bool (PyData.eqvAll (PV.pys l) (PV.pys l'))) σ := by
  refine ⟨fun f s m news ρ φ Q E v1 v2 ok D r1 r2 k => ?_⟩
  have h1' : (PV.lst l).okd (n + 1) = true := by simpa [PV.okd] using h1
  have h2' : (PV.lst l').okd (n + 1) = true := by simpa [PV.okd] using h2
  obtain ⟨bs, b⟩ := r2.reads D.at' (ok.kin.keeps D.fr.keep) (n + 1) h2'
  obtain ⟨a, ob, ha, hm, ho⟩ := D.sr.at_ i _ hi
  cases r1 with
  | ref q =>
    rw [ha] at q
    cases q
    cases ho with
    | @list vs nn _ r =>
      obtain ⟨as, ra⟩ := r.reads D.at' (ok.kin.keeps D.fr.keep) n h1
      have a' : Reads s.heap (.ref a) (PV.lst l).py (a :: as) := by rw [PV.py]; exact Reads.list (D.at' _ hm) rfl rfl (by simpa [PySem.W.listOf] using ra)
      refine eq_dataH a' b (okd_shaped h1' (by omega)) (okd_shaped h2' (by omega)) (by have := ok.uni; omega) ?_
      have e : PyData.eqv (PV.lst l).py (PV.lst l').py = PyData.eqvAll (PV.pys l) (PV.pys l') := by simp [PV.py, PyData.eqv]
      rw [e]
      exact k _ s.heap s.toks _ _ D (.refl _ _ _) (.bool _)
end
end Mine
namespace Mine
/-- what a block runs over -/
inductive SV (K : Frag) (news : Led) (ρ : List Addr) : Value → List PV → Prop
  | lst {v : Value} {ds : List PV} : VR K news ρ v (.lst ds) → SV K news ρ v ds
  | tup {v : Value} {ds : List PV} : VR K news ρ v (.tup ds) → SV K news ρ v ds
  | rng {r : Addr} {a b c : Int} {t u t' : Tok} {n : Nat} : (r, ({ cls := .type "range", data := .fields #[.int a t, .int b u, .int c t'] } : Obj)) ∈ news → Builtin.Range.small a b c = true → Builtin.Range.rangeSize a b c = (n : Int) → SV K news ρ (.ref r) (rangePV a c n)
structure SrcD (prog : Program) (w : World) (K : Frag) (f : Fm) (news : Led) (ρ : List Addr) (s : Shared) (ds : List PV) (oI : Obj) (fp : List Addr) (P : Nat → Value → Prop) (St : Nat → Heap → Prop) (Sp : Led → Prop) : Prop where
  W : Walks prog w f.A s.heap.objs.size fp [s.heap.objs.size] ds.length P St
  io : ∀ i h, St i h → ∃ o, h.get? s.heap.objs.size = some o
  st : ∀ i h h' o nw, St i h → h.get? s.heap.objs.size = some o → h'.get? s.heap.objs.size = some o → (∀ b o, f.h₀.get? b = some o → h'.get? b = some o) → News f.h₀ f.L h' nw → Sp nw → St i h'
  st0 : St 0 (s.heap.push oI)
  fp : ∀ b ∈ fp, b < (s.heap.push oI).objs.size
  items : ∀ j v, P j v → ∃ d, ds[j]? = some d ∧ VR K news ρ v d
  sp : ∀ nv ρ', Ext [] news ρ nv ρ' → Sp (f.hid ++ nv)
section
variable {prog : Program} {w : World} {K : Frag} {S : Sc} {lv lv' : Nat} {φ φ' φ'' φe φf : Fl'} {σ σ' σ'' σ3 σe : Sto} {d : PV} {ds ys : List PV} {sc : Scope} {x : PySem.Str} {elt ct iter : PySem.Expr} {cl : List (PySem.Str × Addr)}
theorem VRs.item {news : Led} {ρ : List Addr} : ∀ {vs : List Value} {ds : List PV} {j : Nat} {v : Value}, VRs K news ρ vs ds → vs[j]? = some v → ∃ d, ds[j]? = some d ∧ VR K news ρ v d := by
  intro vs
  induction vs with
  | nil => intro ds j v _ h; simp at h
  | cons u us ih =>
    intro ds j v h hj
    cases h with
    | cons h r =>
      cases j with
      | zero => simp at hj; subst hj; exact ⟨_, by simp, h⟩
      | succ j => simpa using ih r (by simpa using hj)
theorem SV.toIter {f : Fm} {s : Shared} {m : PySem.Str → Option Value} {news : Led} {ρ : List Addr} {xv : Value} {Q : Value → Shared → Prop} {E : Value → Shared → Prop} (ok : f.Ok K lv) (D : Dy K f m φ σ s.heap news ρ) (V : SV K news ρ xv ds)
    (k : ∀ oI fp P St Sp, SrcD prog w K f news ρ s ds oI fp P St Sp → Q (.ref s.heap.objs.size) { s with heap := s.heap.push oI }) : wpAny (model prog w) f.A (pyIter xv) Q E s := by
  cases V with
  | lst h =>
    cases h with
    | @lst a vs n _ hm hr r =>
      have hl : s.heap.IsList a vs.toArray := PySem.IsL.isList (n := n) (D.nwv _ hm).1
      have hlt : a < s.heap.objs.size := Heap.lt_size (D.nwv _ hm).1
      refine wpAny_pyIter_list hl ?_
      have hsz : vs.toArray.size = ds.length := by rw [List.size_toArray, r.length]
      have W := Walks.list (prog := prog) (w := w) ok.hh s.heap.objs.size a (Nat.ne_of_lt hlt) vs.toArray
      rw [hsz] at W
      refine k _ _ _ _ (LCg.SrcAt f.h₀ a vs.toArray) ⟨W, fun i h st => by obtain ⟨o, e, _⟩ := st.1; exact ⟨o, e⟩, fun i h h' o nw => LCg.list_st i h h' o nw, ⟨⟨_, Heap.get?_push_size _ rfl, rfl, rfl⟩, hl.push _⟩, fun b hb => ?_, fun j v hj => ?_, fun nv ρ' e => .inr ⟨_, List.mem_append_right _ (e.lst _ _ _ hm hr).1, rfl, n, rfl⟩⟩
      · rw [Heap.size_push]
        rcases List.mem_cons.mp hb with rfl | hb
        · exact Nat.lt_succ_self _
        · rw [List.mem_singleton.mp hb]; exact Nat.lt_succ_of_lt hlt
      · exact r.item (by simpa using hj)
  | tup h =>
    obtain ⟨a, vs, rfl, ht, r⟩ := h.isTup ok D
    have ht' : s.heap.IsTuple a vs.toArray := ht
    have hlt : a < s.heap.objs.size := by obtain ⟨o, e, _⟩ := ht'; exact Heap.lt_size e
    refine wpAny_pyIter_tuple ht' ?_
    have hsz : vs.toArray.size = ds.length := by rw [List.size_toArray, r.length]
    have W := Walks.tuple (prog := prog) (w := w) ok.hh s.heap.objs.size a (Nat.ne_of_lt hlt) vs.toArray
    rw [hsz] at W
    have here : (∃ n, (a, tupO vs.toArray n) ∈ news) ∨ ∃ dd n sl, K.lookup a = some ⟨.type "tuple", dd, .seq vs.toArray n, sl⟩ := by
      cases h with
      | @tup _ us n _ hm r2 =>
        obtain ⟨o, e, hc, hd⟩ := ht
        have := (D.nwv _ hm).1
        rw [e] at this
        cases this
        obtain ⟨n', hd'⟩ := hd
        cases hd'
        exact .inl ⟨_, hm⟩
      | @tupK _ us n dd sl _ hk r2 =>
        obtain ⟨o, e, hc, hd⟩ := ht
        have := D.fr.keep _ _ (ok.kin _ _ hk)
        rw [e] at this
        cases this
        obtain ⟨n', hd'⟩ := hd
        cases hd'
        exact .inr ⟨_, _, _, hk⟩
    refine k _ _ _ _ (fun nw => (∃ n, (a, tupO vs.toArray n) ∈ nw) ∨ ∃ dd n sl, K.lookup a = some ⟨.type "tuple", dd, .seq vs.toArray n, sl⟩) ⟨W, fun i h st => by obtain ⟨o, e, _⟩ := st.1; exact ⟨o, e⟩, fun i h h' o nw st e e' kk N Sp => ⟨by obtain ⟨o', q, r⟩ := st.1; rw [e] at q; cases q; exact ⟨o, e', r⟩, ?_⟩, ⟨⟨_, Heap.get?_push_size _ rfl, rfl, rfl⟩, ht'.push _⟩, fun b hb => ?_, fun j v hj => ?_, fun nv ρ' e => ?_⟩
    · rcases Sp with ⟨n, hm⟩ | ⟨dd, n, sl, hk⟩
      · exact ⟨_, (N _ hm).1, rfl, _, rfl⟩
      · exact ⟨_, kk _ _ (ok.kin _ _ hk), rfl, _, rfl⟩
    · rw [Heap.size_push]
      rcases List.mem_cons.mp hb with rfl | hb
      · exact Nat.lt_succ_self _
      · rw [List.mem_singleton.mp hb]; exact Nat.lt_succ_of_lt hlt
    · exact r.item (by simpa using hj)
    · rcases here with ⟨n, hm⟩ | hk
      · exact .inl ⟨n, List.mem_append_right _ (e.tup _ _ _ hm)⟩
      · exact .inr hk
  | @rng r a b c t u t' n hm hsm hn =>
    have hr : IsRange s.heap r a b c t u t' := (D.nwv _ hm).1
    refine wpAny_pyIter_range hr hsm ?_
    have W := (Walks.range (prog := prog) (w := w) ok.hh s.heap.objs.size a c n).bound
    have hlen : (rangePV a c n).length = n := by simp [rangePV]
    rw [← hlen] at W
    refine k _ _ _ _ (fun _ => True) ⟨W, fun i h st => ⟨_, st⟩, fun i h h' o nw st e e' _ _ _ => ?_, by show IsRangeIter _ _ _ _ _; rw [hn, hlen]; simpa using Heap.get?_push_size _ rfl, fun b hb => ?_, fun j v hj => ?_, fun _ _ _ => trivial⟩
    · have st' : h.get? s.heap.objs.size = some _ := st
      show h'.get? s.heap.objs.size = some _
      rw [e', ← e]; exact st'
    · rw [List.mem_singleton.mp hb, Heap.size_push]; exact Nat.lt_succ_self _
    · obtain ⟨hlt, t9, rfl⟩ := hj
      rw [hlen] at hlt
      exact ⟨_, by simp [rangePV, hlt], .int _ _⟩
theorem off1_mem {D : Addr} : ∀ {l : Led}, LCg.Off1 D l → ∀ p ∈ l, p.1 ≠ D
  | [], _, _, h => by cases h
  | _ :: _, x, p, h => by
    rcases List.mem_cons.mp h with rfl | h
    · exact x.1
    · exact off1_mem x.2 p h
/-- the list that a block leaves: nothing turns it -/
theorem Bt.frozen {f : Fm} {m m' : PySem.Str → Option Value} {news₀ news : Led} {ρ₀ ρ : List Addr} {D : Addr} {h : Heap} {vs : List Value} (B : Bt K f m φ news₀ ρ₀ σ vs ys news ρ) (F : Fr f.h₀ f.L h m') (N : News f.h₀ f.L h ((D, LCg.lst vs) :: (f.hid ++ news))) (o1 : LCg.Off1 D (f.hid ++ news)) (R : FR K f m' news ρ φ') :
    Dy K f m' φ' σ h ((D, LCg.lst vs) :: news) ρ ∧ Ext [] news₀ ρ₀ ((D, LCg.lst vs) :: news) ρ ∧ VR K ((D, LCg.lst vs) :: news) ρ (.ref D) (.lst ys) := by
  have e : Ext [] news ρ ((D, LCg.lst vs) :: news) ρ := .push _
  have off : D ∉ ρ := fun hm => by
    obtain ⟨ob, hq⟩ := B.sr.here _ hm
    exact off1_mem o1 _ (List.mem_append_right _ hq) rfl
  refine ⟨⟨F, R.ext e, News.mid N, B.sr.ext (ex := []) e fun _ h => .tail _ h, B.ce.ext e, fun p hp q hq => ?_⟩, B.ext.trans e, .lst (.head _) off (B.out.ext e)⟩
  rcases List.mem_cons.mp hq with rfl | hq
  · exact off1_mem o1 _ (List.mem_append_left _ hp)
  · exact B.off p hp q hq
/-- the list that a block leaves: the store's next number -/
theorem Bt.turning {f : Fm} {m m' : PySem.Str → Option Value} {news₀ news : Led} {ρ₀ ρ : List Addr} {D : Addr} {h : Heap} {vs : List Value} (B : Bt K f m φ news₀ ρ₀ σ vs ys news ρ) (F : Fr f.h₀ f.L h m') (N : News f.h₀ f.L h ((D, LCg.lst vs) :: (f.hid ++ news))) (o1 : LCg.Off1 D (f.hid ++ news)) (R : FR K f m' news ρ φ') :
    Dy K f m' φ' (σ ++ [.list ys]) h ((D, LCg.lst vs) :: news) (ρ ++ [D]) ∧ Ext [] news₀ ρ₀ ((D, LCg.lst vs) :: news) (ρ ++ [D]) ∧ VR K ((D, LCg.lst vs) :: news) (ρ ++ [D]) (.ref D) (.ref σ.length) := by
  have off : D ∉ ρ := fun hm => by
    obtain ⟨ob, hq⟩ := B.sr.here _ hm
    exact off1_mem o1 _ (List.mem_append_right _ hq) rfl
  have keep : ∀ (a : Addr) (ob : Obj), (a, ob) ∈ news → a ∉ ρ → (a, ob) ∈ (D, LCg.lst vs) :: news ∧ a ∉ ρ ++ [D] := fun a _ h q => ⟨.tail _ h, fun z => by
    rcases List.mem_append.mp z with z | z
    · exact q z
    · exact off1_mem o1 _ (List.mem_append_right _ h) (List.mem_singleton.mp z)⟩
  have e : Ext [] news ρ ((D, LCg.lst vs) :: news) (ρ ++ [D]) := by
    refine ⟨fun _ _ _ h => .tail _ h, fun a _ _ h q => keep _ _ h q, fun i a h => ?_, fun a _ h q _ => keep _ _ h q⟩
    rw [List.getElem?_append_left (List.getElem?_eq_some_iff.mp h).1]; exact h
  have SS : SR K ((D, LCg.lst vs) :: news) (ρ ++ [D]) (σ ++ [.list ys]) := by
    refine ⟨by simp [B.sr.len], ?_, fun a hm => ?_, fun i o h => ?_⟩
    · rw [List.nodup_append]
      refine ⟨B.sr.nd, by simp, fun a ha b hb => ?_⟩
      rw [List.mem_singleton.mp hb]
      intro q; exact off (q ▸ ha)
    · rcases List.mem_append.mp hm with hm | hm
      · obtain ⟨ob, q⟩ := B.sr.here a hm; exact ⟨ob, .tail _ q⟩
      · rw [List.mem_singleton.mp hm]; exact ⟨_, .head _⟩
    · by_cases hi : i < σ.length
      · rw [List.getElem?_append_left hi] at h
        obtain ⟨a, ob, x, y, z⟩ := B.sr.at_ i o h
        exact ⟨a, ob, e.ref _ _ x, .tail _ y, z.ext e⟩
      · have hi' : i = σ.length := by
          have := (List.getElem?_eq_some_iff.mp h).1
          simp at this; omega
        subst hi'
        simp at h
        subst h
        exact ⟨D, _, by rw [← B.sr.len]; simp, .head _, .list (B.out.ext e)⟩
  refine ⟨⟨F, R.ext e, News.mid N, SS, B.ce.ext e, fun p hp q hq => ?_⟩, B.ext.trans e, .ref (by rw [← B.sr.len]; simp)⟩
  rcases List.mem_cons.mp hq with rfl | hq
  · exact off1_mem o1 _ (List.mem_append_left _ hp)
  · exact B.off p hp q hq
/-- a block without a test -/
theorem block_run {f : Fm} {s : Shared} {m : PySem.Str → Option Value} {news : Led} {ρ : List Addr} {oI : Obj} {fp : List Addr} {P : Nat → Value → Prop} {St : Nat → Heap → Prop} {Sp : Led → Prop} {E : Value → Shared → Prop} {px : Pos} {pos : Pos} {RR : Value → Addr → Result → Shared → Prop}
    (hS : f.Is S) (hmd : f.md = none) (ok : f.Ok K lv) (V : Seen S sc φ φf) (hcl : (∀ y c, cl.lookup y = some c → f.cl.lookup y = some c) ∧ ∀ y, sc.names.lookup y = some .free → ∃ c, cl.lookup y = some c) (hx : sc.names.lookup x = some .local) (hdx : (x == ("__debug__" : PySem.Str)) = false)
    (D : Dy K f m φ σ s.heap news ρ) (Z : SrcD prog w K f news ρ s ds oI fp P St Sp) (fc : Fc prog w K S sc lv x φf elt ds σ ys σe) (hsz : ds.length ≤ 1000)
    (hRR : ∀ D C h tk m' vs news' ρ', Fr f.h₀ f.L h m → News f.h₀ f.L h ((D, LCg.lst vs) :: (f.hid ++ news')) → LCg.Off1 D (f.hid ++ news') → h.Ns C m' → f.h₀.get? C = none → C ≠ f.L → C ≠ D → (∀ p ∈ f.hid ++ news', p.1 ≠ C) → Bt K f m φ news ρ σe vs ys news' ρ' → RR (.ref D) C (.ok .next) { s with heap := h, toks := tk }) :
    wpAny (model prog w) f.A (newList []) (fun acc s₃ => wpAny (model prog w) f.A (newFunctionEnv sc f.env.globals cl [] f.env.qual none .none (some f.env)) (fun cenv s₄ =>
      codeAny (model prog w) f.A (.compStart (.ListComp elt [⟨.Name x px, iter, [], 0⟩] sc pos) 0 (.ref s.heap.objs.size) acc { cenv with scope := relabel sc f.env }) (RR acc cenv.locals) s₄) E s₃) E { s with heap := s.heap.push oI } := by
  refine LCg.block_U (S := Sp) (news := f.hid ++ news) (Fin := fun vs nw => ∃ news' ρ', nw = f.hid ++ news' ∧ Bt K f m φ news ρ σe vs ys news' ρ') Z.W (by rw [sizeLine_eq]; omega) Z.io Z.st V.cells V.fn hx Z.st0 Z.fp (D.fr.push _) (fun p hp => ⟨Heap.get?_push_of_some _ (D.nw p hp).1, (D.nw p hp).2⟩) (Nat.ne_of_lt D.fr.ns.lt) (next_is_new D.fr) (fun p hp => Nat.ne_of_lt (D.size p hp)) (Z.sp _ _ (.refl _ _ _)) ?_ ?_
  · exact comp_rest hS hmd ok V hcl hx hdx Z.items Z.sp ds ys 0 σ [] [] news ρ (by simp) fc ⟨D.rel, D.sr, D.ce, D.off, .refl _ _ _, .nil⟩ fun vs' news' ρ' B => ⟨news', ρ', rfl, B⟩
  · rintro D C h tk m' vs _ F' N' o1 hn hC₀ hD₀ hCL hDL hCD offC ⟨news', ρ', rfl, B⟩
    exact hRR D C h tk m' vs news' ρ' F' N' o1 hn hC₀ hCL (fun q => hCD q) offC B
end
end Mine
namespace Mine
section
variable {prog : Program} {w : World} {K : Frag} {S : Sc} {lv lv' : Nat} {φ φ' φ'' φe φf : Fl'} {σ σ' σ'' σ3 σe : Sto} {d : PV} {ds ys : List PV} {sc : Scope} {x : PySem.Str} {elt ct iter : PySem.Expr} {cl : List (PySem.Str × Addr)}
/-- a source, evaluated -/
abbrev Itr (prog : Program) (w : World) (K : Frag) (S : Sc) (lv : Nat) (φ : Fl') (σ : Sto) (e : PySem.Expr) (ds : List PV) (σ' : Sto) : Prop := T prog w K S lv φ σ (fun f => eval e f.ee) σ' fun news ρ v => SV K news ρ v ds
theorem itr_L (h : Ev prog w K S lv φ σ iter (.lst ds) σ') : Itr prog w K S lv φ σ iter ds σ' := ⟨fun f s m news ρ Q E hS ok D k => h.run f s m news ρ Q E hS ok D fun a g t n r D1 e R => k a g t n r D1 e (.lst R)⟩
theorem itr_T (h : Ev prog w K S lv φ σ iter (.tup ds) σ') : Itr prog w K S lv φ σ iter ds σ' := ⟨fun f s m news ρ Q E hS ok D k => h.run f s m news ρ Q E hS ok D fun a g t n r D1 e R => k a g t n r D1 e (.tup R)⟩
theorem itr_R {a b c : Int} {n : Nat} (h1 : T prog w K S lv φ σ (fun f => eval iter f.ee) σ' fun news ρ v => ∃ r t u t', v = .ref r ∧ (r, ({ cls := .type "range", data := .fields #[.int a t, .int b u, .int c t'] } : Obj)) ∈ news)
    (hsm : Builtin.Range.small a b c = true) (hn : Builtin.Range.rangeSize a b c = (n : Int)) : Itr prog w K S lv φ σ iter (rangePV a c n) σ' := ⟨fun f s m news ρ Q E hS ok D k => h1.run f s m news ρ Q E hS ok D fun v g t n' r D1 e R => by
  obtain ⟨r', t1, t2, t3, rfl, hm⟩ := R
  exact k _ g t n' r D1 e (.rng hm hsm hn)⟩
theorem ev_comp {px pos : Pos} (hmd : S.md = none) (V : Seen S sc φ φf) (h1 : Itr prog w K S lv φ σ iter ds σ') (fc : Fc prog w K S sc lv x φf elt ds σ' ys σe) (hx : sc.names.lookup x = some .local) (hdx : (x == ("__debug__" : PySem.Str)) = false) (hsz : ds.length ≤ 1000)
    (hs : ∀ env x, foldedSetIterable iter env x = pure x) : Ev prog w K S lv φ σ (.ListComp elt [⟨.Name x px, iter, [], 0⟩] sc pos) (.lst ys) σe := by
  refine ⟨fun f s m news ρ Q E hS ok D k => ?_⟩
  have hmd' : f.md = none := by
    have := hS.md
    rw [hmd] at this
    cases q : f.md with
    | none => rfl
    | some p => rw [q] at this; cases this
  obtain ⟨cl, hc, hcl⟩ := V.closure hS hmd' ok
  show wpAny (model prog w) f.A (eval _ f.ee) Q E s
  rw [ee_none hmd', eval_ListComp]
  refine wpAny_comprehension_free (use := none) rfl (hs _) hc V.fn V.loc ?_
  have h1' := h1.run f s m news ρ (fun xv s₁ => wpAny (model prog w) f.A (pyIter xv) (fun it s₂ => wpAny (model prog w) f.A (newList []) (fun acc s₃ =>
      wpAny (model prog w) f.A (newFunctionEnv sc f.env.globals cl [] f.env.qual none .none (some f.env)) (fun cenv s₄ =>
        codeAny (model prog w) f.A (.compStart (.ListComp elt [⟨.Name x px, iter, [], 0⟩] sc pos) 0 it acc { cenv with scope := relabel sc f.env }) (compPost (model prog w) f.A E none Q acc cenv.locals) s₄) E s₃) E s₂) E s₁) E hS ok D ?_
  · have h1'' : wpAny (model prog w) f.A (eval iter f.ee) _ E s := h1'
    rw [ee_none hmd'] at h1''
    exact h1''
  intro xv g1 t1 n1 r1 D1 e1 R1
  refine R1.toIter ok D1 fun oI fp P St Sp Z => ?_
  refine block_run hS hmd' ok V hcl hx hdx (s := { s with heap := g1, toks := t1 }) D1 Z fc hsz ?_
  intro Dd C h tk m' vs news' ρ' F' N' o1 hn hC₀ hCL hCD offC B
  refine ⟨m', hn, fun h'' hs'' => ?_⟩
  have F2 := F'.change hs'' hCL hC₀
  have N2 : News f.h₀ f.L h'' ((Dd, LCg.lst vs) :: (f.hid ++ news')) := fun p hp => by
    refine ⟨hs''.extBut _ _ ?_ (N' p hp).1, (N' p hp).2⟩
    rcases List.mem_cons.mp hp with rfl | hp
    · exact Ne.symm hCD
    · exact offC p hp
  obtain ⟨D3, e3, R3⟩ := B.frozen F2 N2 o1 B.rel
  exact k _ h'' tk _ _ D3 (e1.trans e3) R3
theorem block_runT {f : Fm} {s : Shared} {m : PySem.Str → Option Value} {news : Led} {ρ : List Addr} {oI : Obj} {fp : List Addr} {P : Nat → Value → Prop} {St : Nat → Heap → Prop} {Sp : Led → Prop} {E : Value → Shared → Prop} {px : Pos} {pos : Pos} {RR : Value → Addr → Result → Shared → Prop}
    (hS : f.Is S) (hmd : f.md = none) (ok : f.Ok K lv) (V : Seen S sc φ φf) (hcl : (∀ y c, cl.lookup y = some c → f.cl.lookup y = some c) ∧ ∀ y, sc.names.lookup y = some .free → ∃ c, cl.lookup y = some c) (hx : sc.names.lookup x = some .local) (hdx : (x == ("__debug__" : PySem.Str)) = false)
    (D : Dy K f m φ σ s.heap news ρ) (Z : SrcD prog w K f news ρ s ds oI fp P St Sp) (fc : FcT prog w K S sc lv x φf ct elt ds σ ys σe) (hsz : ds.length ≤ 1000)
    (hRR : ∀ D C h tk m' vs news' ρ', Fr f.h₀ f.L h m → News f.h₀ f.L h ((D, LCg.lst vs) :: (f.hid ++ news')) → LCg.Off1 D (f.hid ++ news') → h.Ns C m' → f.h₀.get? C = none → C ≠ f.L → C ≠ D → (∀ p ∈ f.hid ++ news', p.1 ≠ C) → Bt K f m φ news ρ σe vs ys news' ρ' → RR (.ref D) C (.ok .next) { s with heap := h, toks := tk }) :
    wpAny (model prog w) f.A (newList []) (fun acc s₃ => wpAny (model prog w) f.A (newFunctionEnv sc f.env.globals cl [] f.env.qual none .none (some f.env)) (fun cenv s₄ =>
      codeAny (model prog w) f.A (.compStart (.ListComp elt [⟨.Name x px, iter, [ct], 0⟩] sc pos) 0 (.ref s.heap.objs.size) acc { cenv with scope := relabel sc f.env }) (RR acc cenv.locals) s₄) E s₃) E { s with heap := s.heap.push oI } := by
  refine LCt.block_T (S := Sp) (news := f.hid ++ news) (Fin := fun vs nw => ∃ news' ρ', nw = f.hid ++ news' ∧ Bt K f m φ news ρ σe vs ys news' ρ') Z.W (by rw [sizeLine_eq]; omega) Z.io Z.st V.cells V.fn hx Z.st0 Z.fp (D.fr.push _) (fun p hp => ⟨Heap.get?_push_of_some _ (D.nw p hp).1, (D.nw p hp).2⟩) (Nat.ne_of_lt D.fr.ns.lt) (next_is_new D.fr) (fun p hp => Nat.ne_of_lt (D.size p hp)) (Z.sp _ _ (.refl _ _ _)) ?_ ?_
  · exact comp_restT hS hmd ok V hcl hx hdx Z.items Z.sp ds ys 0 σ [] [] news ρ (by simp) fc ⟨D.rel, D.sr, D.ce, D.off, .refl _ _ _, .nil⟩ fun vs' news' ρ' B => ⟨news', ρ', rfl, B⟩
  · rintro D C h tk m' vs _ F' N' o1 hn hC₀ hD₀ hCL hDL hCD offC ⟨news', ρ', rfl, B⟩
    exact hRR D C h tk m' vs news' ρ' F' N' o1 hn hC₀ hCL (fun q => hCD q) offC B
theorem ev_compT {px pos : Pos} (hmd : S.md = none) (V : Seen S sc φ φf) (h1 : Itr prog w K S lv φ σ iter ds σ') (fc : FcT prog w K S sc lv x φf ct elt ds σ' ys σe) (hx : sc.names.lookup x = some .local) (hdx : (x == ("__debug__" : PySem.Str)) = false) (hsz : ds.length ≤ 1000)
    (hs : ∀ env x, foldedSetIterable iter env x = pure x) : Ev prog w K S lv φ σ (.ListComp elt [⟨.Name x px, iter, [ct], 0⟩] sc pos) (.lst ys) σe := by
  refine ⟨fun f s m news ρ Q E hS ok D k => ?_⟩
  have hmd' : f.md = none := by
    have := hS.md
    rw [hmd] at this
    cases q : f.md with
    | none => rfl
    | some p => rw [q] at this; cases this
  obtain ⟨cl, hc, hcl⟩ := V.closure hS hmd' ok
  show wpAny (model prog w) f.A (eval _ f.ee) Q E s
  rw [ee_none hmd', eval_ListComp]
  refine wpAny_comprehension_free (use := none) rfl (hs _) hc V.fn V.loc ?_
  have h1' := h1.run f s m news ρ (fun xv s₁ => wpAny (model prog w) f.A (pyIter xv) (fun it s₂ => wpAny (model prog w) f.A (newList []) (fun acc s₃ =>
      wpAny (model prog w) f.A (newFunctionEnv sc f.env.globals cl [] f.env.qual none .none (some f.env)) (fun cenv s₄ =>
        codeAny (model prog w) f.A (.compStart (.ListComp elt [⟨.Name x px, iter, [ct], 0⟩] sc pos) 0 it acc { cenv with scope := relabel sc f.env }) (compPost (model prog w) f.A E none Q acc cenv.locals) s₄) E s₃) E s₂) E s₁) E hS ok D ?_
  · have h1'' : wpAny (model prog w) f.A (eval iter f.ee) _ E s := h1'
    rw [ee_none hmd'] at h1''
    exact h1''
  intro xv g1 t1 n1 r1 D1 e1 R1
  refine R1.toIter ok D1 fun oI fp P St Sp Z => ?_
  refine block_runT hS hmd' ok V hcl hx hdx (s := { s with heap := g1, toks := t1 }) D1 Z fc hsz ?_
  intro Dd C h tk m' vs news' ρ' F' N' o1 hn hC₀ hCL hCD offC B
  refine ⟨m', hn, fun h'' hs'' => ?_⟩
  have F2 := F'.change hs'' hCL hC₀
  have N2 : News f.h₀ f.L h'' ((Dd, LCg.lst vs) :: (f.hid ++ news')) := fun p hp => by
    refine ⟨hs''.extBut _ _ ?_ (N' p hp).1, (N' p hp).2⟩
    rcases List.mem_cons.mp hp with rfl | hp
    · exact Ne.symm hCD
    · exact offC p hp
  obtain ⟨D3, e3, R3⟩ := B.frozen F2 N2 o1 B.rel
  exact k _ h'' tk _ _ D3 (e1.trans e3) R3
theorem lookup_out {y z : PySem.Str} {e : PV} : ∀ {φ : Fl'}, (φ.filter fun p => p.1 != y).lookup z = some e → z ≠ y ∧ φ.lookup z = some e
  | [], hz => by cases hz
  | p :: r, hz => by
    by_cases q : p.1 = y
    · rw [List.filter_cons_of_neg (by simp [q])] at hz
      have ih := lookup_out hz
      refine ⟨ih.1, ?_⟩
      rw [List.lookup_cons, show (z == p.1) = false from by simp [q, ih.1]]
      exact ih.2
    · rw [List.filter_cons_of_pos (by simp [q]), List.lookup_cons] at hz
      rw [List.lookup_cons]
      split at hz
      · rename_i q2
        exact ⟨by rw [beq_iff_eq.mp q2]; exact q, hz⟩
      · rename_i q2
        exact lookup_out hz
theorem lookup_in {y z : PySem.Str} {e : PV} (q : ¬ z = y) : ∀ {φ : Fl'}, φ.lookup z = some e → (φ.filter fun p => p.1 != y).lookup z = some e
  | [], hz => by cases hz
  | p :: r, hz => by
    rw [List.lookup_cons] at hz
    by_cases q2 : p.1 = y
    · rw [List.filter_cons_of_neg (by simp [q2])]
      rw [show (z == p.1) = false from by simp [q2, q]] at hz
      exact lookup_in q hz
    · rw [List.filter_cons_of_pos (by simp [q2]), List.lookup_cons]
      split at hz
      · exact hz
      · exact lookup_in q hz
/-- a block whose list a name takes; tn: whether the list turns later -/
theorem ex_comp (tn : Bool) {y : PySem.Str} {px py pos spos : Pos} (V : Seen S sc φ φf) (h1 : Itr prog w K S lv φ σ iter ds σ') (fc : Fc prog w K S sc lv x φf elt ds σ' ys σe) (hx : sc.names.lookup x = some .local) (hdx : (x == ("__debug__" : PySem.Str)) = false) (hsz : ds.length ≤ 1000)
    (hl : S.cs.names.lookup y = some .local) (hdy : (y == ("__debug__" : PySem.Str)) = false)
    (hsw : ∀ cn L a ccd cl, swapsWith (.ListComp elt [⟨.Name x px, iter, [], 0⟩] sc pos) (some (.Name y py)) spos.line (envX cn S.cs L a ccd cl) = pure true)
    (hs : ∀ env x, foldedSetIterable iter env x = pure x) : Ex prog w K S lv φ σ (.Assign [.Name y py] (.ListComp elt [⟨.Name x px, iter, [], 0⟩] sc pos) spos) .next ((y, if tn then .ref σe.length else .lst ys) :: φ) (if tn then σe ++ [.list ys] else σe) := by
  refine ⟨fun f s m news ρ Q E hS hmd ok D k => ?_⟩
  obtain ⟨cl, hc, hcl⟩ := V.closure hS hmd ok
  show wpAny (model prog w) f.A (exec _ f.ee) Q E s
  have hsw' := hsw f.cn f.L f.a f.ccd f.cl
  rw [← hS.cs] at hsw'
  rw [ee_none hmd, exec_Assign_Name_used _ _ _ _ hsw']
  refine wpAny_bind (wpAny_standAt (wpAny_bind ?_))
  show wpAny _ f.A (do let _ ← comprehension (.ListComp elt [⟨.Name x px, iter, [], 0⟩] sc pos) sc f.env _ (newList []) false (eval iter f.env) (some (assign (.Name y py) f.env))) _ _ s
  refine wpAny_bind (wpAny_mono (wpAny_comprehension_free (use := some (assign (.Name y py) f.env)) (Q := fun _ s' => Q .next s') rfl (hs _) hc V.fn V.loc ?_) (fun _ s' hq => wpAny_pure (wpAny_pure hq)) fun _ _ e => e)
  have h1' := h1.run f s m news ρ (fun xv s₁ => wpAny (model prog w) f.A (pyIter xv) (fun it s₂ => wpAny (model prog w) f.A (newList []) (fun acc s₃ =>
      wpAny (model prog w) f.A (newFunctionEnv sc f.env.globals cl [] f.env.qual none .none (some f.env)) (fun cenv s₄ =>
        codeAny (model prog w) f.A (.compStart (.ListComp elt [⟨.Name x px, iter, [], 0⟩] sc pos) 0 it acc { cenv with scope := relabel sc f.env }) (compPost (model prog w) f.A E (some (assign (.Name y py) f.env)) (fun _ s' => Q .next s') acc cenv.locals) s₄) E s₃) E s₂) E s₁) E hS ok D ?_
  · have h1'' : wpAny (model prog w) f.A (eval iter f.ee) _ E s := h1'
    rw [ee_none hmd] at h1''
    exact h1''
  intro xv g1 t1 n1 r1 D1 e1 R1
  refine R1.toIter ok D1 fun oI fp P St Sp Z => ?_
  refine block_run hS hmd ok V hcl hx hdx (s := { s with heap := g1, toks := t1 }) D1 Z fc hsz ?_
  intro Dd C h tk m' vs news' ρ' F' N' o1 hn hC₀ hCL hCD offC B
  show wpAny _ f.A (assign (.Name y py) f.env (.ref Dd)) _ _ _
  have hl' : f.cs.names.lookup y = some .local := by rw [hS.cs]; exact hl
  refine wpAny_assign_Name (wpAny_storeName_local (show f.env.kindOf y = some .local from hl') F'.ns (fun h₂ hn₂ hs₂ => ?_) (by show (f.cs.kind == .class || (f.cs.kind == .module && f.L != mainGlobals)) = false; rw [ok.fn]; rfl))
  have hL₀ : f.h₀.get? f.L = none := Heap.get?_none_of_le F'.above
  have F₂ : Fr f.h₀ f.L h₂ (fun z => if z = y then some (.ref Dd) else m z) := ⟨hn₂, fun b o e => hs₂.extBut b o (fun q => by
    have q' : b = f.L := q
    rw [q', hL₀] at e; cases e) (F'.keep b o e), F'.above⟩
  refine ⟨m', hn.sameBut hs₂ hCL, fun h'' hs'' => ?_⟩
  have F3 := F₂.change hs'' hCL hC₀
  have N3 : News f.h₀ f.L h'' ((Dd, LCg.lst vs) :: (f.hid ++ news')) := fun p hp => by
    have z : h₂.get? p.1 = some p.2 := hs₂.extBut _ _ (N' p hp).2.1 (N' p hp).1
    refine ⟨hs''.extBut _ _ ?_ z, (N' p hp).2⟩
    rcases List.mem_cons.mp hp with rfl | hp
    · exact Ne.symm hCD
    · exact offC p hp
  have R3 : FR K f (fun z => if z = y then some (.ref Dd) else m z) news' ρ' (φ.filter fun p => p.1 != y) := fun z e hz => by
    have hzy : z ≠ y ∧ φ.lookup z = some e := lookup_out hz
    obtain ⟨v, ⟨a1, a2⟩, r⟩ := B.rel z e hzy.2
    refine ⟨v, ⟨a1, ?_⟩, r⟩
    rw [hmd] at a2 ⊢
    rcases a2 with ⟨b1, b2⟩ | b
    · exact .inl ⟨b1, by simp [hzy.1, b2]⟩
    · exact .inr b
  have back : ∀ {n2 r2} {v : Value} {d : PV}, FR K f (fun z => if z = y then some v else m z) n2 r2 (φ.filter fun p => p.1 != y) → VR K n2 r2 v d → FR K f (fun z => if z = y then some v else m z) n2 r2 ((y, d) :: φ) := by
    intro n2 r2 v d R hv z e hz
    rw [List.lookup_cons] at hz
    by_cases q : z = y
    · subst q
      rw [show (z == z) = true from by simp] at hz
      cases hz
      refine ⟨v, ⟨hdy, ?_⟩, hv⟩
      rw [hmd]
      exact .inl ⟨hl', by simp⟩
    · rw [show (z == y) = false from by simp [q]] at hz
      exact R z e (lookup_in q hz)
  cases tn with
  | false =>
    obtain ⟨D4, e4, R4⟩ := B.frozen F3 N3 o1 R3
    exact k _ h'' _ _ _ _ ⟨D4.fr, back D4.rel R4, D4.nw, D4.sr, D4.ce, D4.off⟩ (e1.trans e4).weak rfl
  | true =>
    obtain ⟨D4, e4, R4⟩ := B.turning F3 N3 o1 R3
    exact k _ h'' _ _ _ _ ⟨D4.fr, back D4.rel R4, D4.nw, D4.sr, D4.ce, D4.off⟩ (e1.trans e4).weak rfl
end
end Mine
namespace Mine
open PyProof.V
section
variable {prog : Program} {w : World} {K : Frag} {S : Sc} {lv lv' : Nat} {φ φ' φ'' φe φf : Fl'} {σ σ' σ'' σ3 σe : Sto} {d : PV} {ds ys : List PV}
/-! a written dict asked at once -/
noncomputable def toPV : PyData → PV
  | .int i => .int i
  | .str x => .str x
  | .bool b => .bool b
  | _ => .none
noncomputable def plainD : PyData → Bool
  | .int _ => true
  | .str _ => true
  | .bool _ => true
  | .none => true
  | _ => false
noncomputable def dlook (D : List (PyData × PyData)) (x : PySem.Str) : Option PyData := match D with
  | [] => none
  | (.str y, d) :: r => if y = x then some d else dlook r x
  | _ :: r => dlook r x
theorem flat_look {D : List (PyData × PyData)} {kvs : List (PySem.Str × Value)} (h : FlatPairs PyData.str kvs D) (x : PySem.Str) : match dlook D x with
    | none => valueAt kvs x = none
    | some dv => ∃ v, valueAt kvs x = some v ∧ Flat v dv := by
  induction h with
  | nil => rfl
  | @cons k v dv kvs D f _ ih =>
    unfold dlook
    by_cases q : k = x
    · rw [if_pos q]
      exact ⟨v, by simp [valueAt, List.find?_cons, q], f⟩
    · rw [if_neg q]
      have e : valueAt ((k, v) :: kvs) x = valueAt kvs x := by simp [valueAt, List.find?_cons, q]
      rw [e]
      exact ih
theorem flat_VR {v : Value} {dv : PyData} {news : Led} {ρ : List Addr} (h : Flat v dv) (hp : plainD dv = true) : VR K news ρ v (toPV dv) := by
  have h' := h {}
  cases h' with
  | none => exact .none
  | bool b => exact .bool b
  | int i t => exact .int i t
  | str x t => exact .str x t
  | tuple _ _ _ _ => cases hp
theorem ev_dget {keys : List (Option PySem.Expr)} {values : List PySem.Expr} {dpos apos pos : Pos} {e1 e2 : PySem.Expr} {x : PySem.Str} {D : List (PyData × PyData)} {r : PV} (hD : litPairs keys values = some D) (hs : strKeyed D = true) (hn : (strKeysOf D).Nodup) (hall : keys.all (·.isSome) = true) (hl : keys.length = values.length) (h0 : keys ≠ []) (hlen : keys.length ≤ 15)
    (h1 : Evs prog w K S lv φ σ [e1, e2] pos [.str x, d] σ) (hr : (match dlook D x with | none => d | some dv => toPV dv) = r) (hp : (match dlook D x with | none => true | some dv => plainD dv) = true)
    (hm : ∀ env, ∃ pl, eval (.Call (.Attribute (.Dict keys values dpos) (PySem.Str.ofString "get") apos) [e1, e2] [] pos) env = (do
      let ov ← eval (.Dict keys values dpos) env
      standAt apos.atName
      let (f, first) ← holding [ov] (getMethod ov (PySem.Str.ofString "get") pl)
      callWith pos f first (backTo pos (starEach [e1, e2] env)) []))
    (he : ∀ env, starEach [e1, e2] env = (false, eval e1 env) :: starEach [e2] env) (hpl : ∀ env, (backTo pos (starEach [e2] env)).any (·.1) = false) :
    Ev prog w K S lv φ σ (.Call (.Attribute (.Dict keys values dpos) (PySem.Str.ofString "get") apos) [e1, e2] [] pos) r σ := by
  refine ⟨fun f s m news ρ Q E hS ok Dy0 k => ?_⟩
  obtain ⟨pl, hm'⟩ := hm f.ee
  refine MethodCall_ ?_ hm'
  obtain ⟨p, loose, mean, mg, mb, T, hpp⟩ := ok.top
  refine wpAny_Dict_walk (knd := PySem.strKind prog w) hall hl h0 hlen (evalPairs_lits keys values D _ _ hD fun vs tk fr => ?_)
  obtain ⟨a1, a2, a3⟩ := fr.str hs
  refine display_done_str a1 (a2 ▸ hn) (Heap.DictOf.new _) fun h' hmm hsb => ?_
  obtain ⟨o, ho, hd⟩ := Heap.dictOf_iff.mp hmm
  have F1 := Dy0.fr.filled hsb
  have N1 := Dy0.nw.filled Dy0.fr hsb ho
  have D1 := Dy0.push F1 N1 Dy0.size
  have lo := Dy0.fr.notModules (modules_low T.nolimit)
  refine kdg_method D1.nwv (.head _) hd ?_
  refine callWith_method1 (first := [.ref s.heap.objs.size]) ?_ (he _) (hpl _)
  refine h1.run f { s with heap := h', toks := tk + vs.length } m _ ρ _ _ hS ok D1 fun us g2 t2 n2 r2 D2 e2 R2 => ?_
  cases R2 with
  | @cons v1 _ _ _ q1 q2 =>
    cases q2 with
    | @cons v2 _ _ _ q3 q4 =>
      cases q4
      cases q1 with
      | str _ t =>
        have look := flat_look a3 x
        have e3 := (Ext.push (ρ := ρ) (news := news) (s.heap.objs.size, o)).trans e2
        have hof : (s.heap.objs.size, o) ∈ n2 := (e2.own _ _ (.head _) (fun hm => by
          obtain ⟨ob, hq⟩ := Dy0.sr.here _ hm
          exact Nat.lt_irrefl _ (Dy0.size _ (List.mem_append_right _ hq))) List.not_mem_nil).1
        refine kdg_get2 (x := valueAt (strPairs vs) x) D2.nwv hof hd lo (by simp [PySem.strKind, Value.isStrOf]) rfl ?_
        subst hr
        cases q : dlook D x with
        | none =>
          rw [q] at look
          have look' : valueAt (strPairs vs) x = none := look
          rw [look']
          exact k _ g2 _ n2 r2 D2 e3 (by show VR K n2 r2 v2 _; rw [q]; exact q3)
        | some dv =>
          rw [q] at look hp
          obtain ⟨v, hv, fl⟩ := look
          rw [hv]
          exact k _ g2 _ n2 r2 D2 e3 (by show VR K n2 r2 v _; rw [q]; exact flat_VR fl hp)
/-! parts of a row -/
theorem pick_VR {news : Led} {ρ : List Addr} {vs : List Value} {l : List PV} (h : VRs K news ρ vs l) (a b : Nat) : VRs K news ρ ((vs.drop a).take b) ((l.drop a).take b) := (h.drop a).take b
theorem ev_sliceU {value : PySem.Expr} {i : Int} {kc : _} {cpos spos pos : Pos} {l : List PV} (h1 : Ev prog w K S lv φ σ value (.lst l) σ') (hi : 0 ≤ i) (hz : l.length ≤ 1000) (ht : ∀ o r, letTemporaryGo value o r = pure ()) :
    Ev prog w K S lv φ σ (.Subscript value (.Slice none (some (.Constant (.int i) kc cpos)) none spos) pos) (.lst (l.take i.toNat)) σ' := by
  refine ⟨fun f s m news ρ Q E hS ok D k => ?_⟩
  refine Subscript_ (h1.run f s m news ρ _ _ hS ok D fun v1 g1 t1 n1 r1 D1 e1 R1 => ?_)
  obtain ⟨a, vs, n, rfl, ho, r⟩ := R1.isLst D1
  refine wpAny_Slice (wpAny_pure ?_)
  rw [evalPart_some]
  refine wpAny_Constant_int (wpAny_pure ?_)
  refine kms_slice_lit (s := { s with heap := g1, toks := _ }) D1.fr D1.nw (PySem.IsL.isList (n := n) ho) .none (.int _ _) rfl (fun Dd h' F' N' l1 => ?_) rfl (ht _) (by simp only [List.size_toArray]; rw [r.length, sizeLine_eq]; omega)
  have e0 : kms_pick vs.toArray.toList none (some i) = vs.take i.toNat := by
    unfold kms_pick kms_lo kms_hi
    simp only [List.drop_zero, if_neg (show ¬ i < 0 by omega), Nat.sub_zero]
    exact kmk_take_min _ _
  rw [e0] at N'
  refine k _ h' _ _ _ (D1.push F' N' l1) (e1.trans (.push _)) (.lst (.head _) (fun hm => ?_) ((r.take _).ext (.push _)))
  obtain ⟨ob, hq⟩ := D1.sr.here _ hm
  exact Nat.lt_irrefl _ (l1 _ (List.mem_append_right _ hq))
theorem ev_sliceD {value : PySem.Expr} {i : Int} {kc : _} {cpos spos pos : Pos} {l : List PV} (h1 : Ev prog w K S lv φ σ value (.lst l) σ') (hi : 0 ≤ i) (hz : l.length ≤ 1000) (ht : ∀ o r, letTemporaryGo value o r = pure ()) :
    Ev prog w K S lv φ σ (.Subscript value (.Slice (some (.Constant (.int i) kc cpos)) none none spos) pos) (.lst (l.drop i.toNat)) σ' := by
  refine ⟨fun f s m news ρ Q E hS ok D k => ?_⟩
  refine Subscript_ (h1.run f s m news ρ _ _ hS ok D fun v1 g1 t1 n1 r1 D1 e1 R1 => ?_)
  obtain ⟨a, vs, n, rfl, ho, r⟩ := R1.isLst D1
  refine wpAny_Slice ?_
  rw [evalPart_some]
  refine wpAny_Constant_int (wpAny_pure (wpAny_pure ?_))
  refine kms_slice_lit (s := { s with heap := g1, toks := _ }) D1.fr D1.nw (PySem.IsL.isList (n := n) ho) (.int _ _) .none rfl (fun Dd h' F' N' l1 => ?_) rfl (ht _) (by simp only [List.size_toArray]; rw [r.length, sizeLine_eq]; omega)
  have e0 : kms_pick vs.toArray.toList (some i) none = vs.drop i.toNat := by
    unfold kms_pick kms_lo kms_hi
    simp only [if_neg (show ¬ i < 0 by omega)]
    rw [kmk_drop_min]
    apply List.take_of_length_le
    rw [List.length_drop]
    show vs.length - i.toNat ≤ vs.length - min i.toNat vs.length
    omega
  rw [e0] at N'
  refine k _ h' _ _ _ (D1.push F' N' l1) (e1.trans (.push _)) (.lst (.head _) (fun hm => ?_) ((r.drop _).ext (.push _)))
  obtain ⟨ob, hq⟩ := D1.sr.here _ hm
  exact Nat.lt_irrefl _ (l1 _ (List.mem_append_right _ hq))
/-! a list that turns and a frozen one -/
theorem op_addRL {i : Nat} {l l' : List PV} (hi : σ[i]? = some (.list l)) (hz : l.length + l'.length ≤ 100000) : Op2 prog w K lv σ (binaryOp .Add) (.ref i) (.lst l') (.lst (l ++ l')) σ := by
  refine ⟨fun f s m news ρ φ Q E v1 v2 ok D h1 h2 k => ?_⟩
  obtain ⟨a', us', n', rfl, ho', r'⟩ := h2.isLst D
  obtain ⟨b, ob, hb, hm, ho⟩ := D.sr.at_ i _ hi
  cases h1 with
  | ref q =>
    rw [hb] at q
    cases q
    cases ho with
    | @list us n _ r =>
      refine kmk_add_lit D.fr D.nw (PySem.IsL.isList (n := n) (D.nwv _ hm).1) (PySem.IsL.isList (n := n') ho') rfl (fun T' h' F' N' l1 => ?_) (by have := r.length; have := r'.length; rw [sizeLine_eq]; simp only [List.size_toArray, Array.length_toList]; omega)
      refine k _ h' s.toks _ _ (D.push F' N' l1) (.push _) (.lst (.head _) (fun hm => ?_) ?_)
      · obtain ⟨ob, hq⟩ := D.sr.here _ hm
        exact Nat.lt_irrefl _ (l1 _ (List.mem_append_right _ hq))
      · exact (r.append r').ext (.push _)
/-- «x not in a row» -/
theorem op_notinL {d1 : PV} {l : List PV} {n : Nat} (h1 : d1.okd n = true) (h2 : PV.okds n l = true) (hn : n ≤ 60) : Op2 prog w K lv σ (compareOp .NotIn) d1 (.lst l) (.bool (!(PV.pys l).any fun y => PyData.eqv y d1.py)) σ := by
  refine ⟨fun f s m news ρ φ Q E v1 v2 ok D r1 r2 k => ?_⟩
  have h2' : (PV.lst l).okd (n + 1) = true := by simpa [PV.okd] using h2
  obtain ⟨as, a⟩ := r1.reads D.at' (ok.kin.keeps D.fr.keep) n h1
  obtain ⟨bs, b⟩ := r2.reads D.at' (ok.kin.keeps D.fr.keep) (n + 1) h2'
  rw [PV.py] at b
  have l1 := okds_lay n l h2
  have l2 := okd_lay n d1 h1
  exact PySem.SeqAt.notIn_list_reads b a l1.1 l2.1 (by
    have := ok.uni
    have := l2.2
    have := Nat.min_le_right (PyData.depthAll (PV.pys l)) d1.py.depth
    omega) (k _ s.heap s.toks _ _ D (.refl _ _ _) (.bool _))
end
end Mine
namespace Mine
/-- a store with one object, its fields and its list, at the end of p -/
noncomputable def SP (C : Nat) (p : Sto) (fs : Fl') (l : List PV) (q : Sto) : Sto := p ++ (.inst C (p.length + 1) :: .dict fs :: .list l :: q)
section
variable {C : Nat} {p q : Sto} {fs fs' : Fl'} {l l' : List PV}
theorem SP.g0 : (SP C p fs l q)[p.length]? = some (.inst C (p.length + 1)) := by unfold SP; rw [List.getElem?_append_right (Nat.le_refl _)]; simp
theorem SP.g1 : (SP C p fs l q)[p.length + 1]? = some (.dict fs) := by unfold SP; rw [List.getElem?_append_right (by omega)]; simp
theorem SP.g2 : (SP C p fs l q)[p.length + 2]? = some (.list l) := by unfold SP; rw [List.getElem?_append_right (by omega), show p.length + 2 - p.length = 2 by omega]; simp
theorem SP.s1 : (SP C p fs l q).set (p.length + 1) (.dict fs') = SP C p fs' l q := by unfold SP; rw [List.set_append_right _ _ (by omega), show p.length + 1 - p.length = 1 by omega]; simp
theorem SP.s2 : (SP C p fs l q).set (p.length + 2) (.list l') = SP C p fs l' q := by unfold SP; rw [List.set_append_right _ _ (by omega), show p.length + 2 - p.length = 2 by omega]; simp
theorem SP.app {r : Sto} : SP C p fs l q ++ r = SP C p fs l (q ++ r) := by unfold SP; simp
theorem SP.len : (SP C p fs l q).length = p.length + 3 + q.length := by unfold SP; simp; omega
theorem SP.gq {k : Nat} : (SP C p fs l q)[p.length + 3 + k]? = q[k]? := by unfold SP; rw [List.getElem?_append_right (by omega), show p.length + 3 + k - p.length = k + 3 by omega]; simp
theorem SP.sq {k : Nat} {o : PO} : (SP C p fs l q).set (p.length + 3 + k) o = SP C p fs l (q.set k o) := by unfold SP; rw [List.set_append_right _ _ (by omega), show p.length + 3 + k - p.length = k + 3 by omega]; simp
end
section
variable {prog : Program} {w : World} {K : Frag} {S : Sc} {lv lv' : Nat} {φ φ' φ'' φe φf : Fl'} {σ σ' σ'' σ3 σe : Sto} {d : PV} {ds ys : List PV} {C : Nat} {p q p' q' : Sto} {fs fs' : Fl'} {l l' : List PV}
theorem ev_pget {o : PySem.Expr} {attr : PySem.Str} {pos} (h : Ev prog w K S lv φ σ o (.ref p.length) (SP C p fs l q)) (hC : Cls K C) (hx : fs.lookup attr = some d) (ha : findIn K (.ref C) attr = some .none)
    (he : ∀ env, eval (.Attribute o attr pos) env = (do
      let ov ← eval o env
      standAt pos.atName
      let r ← holding [ov] (getAttr ov attr true)
      letTemporaryGo o ov r
      pure r)) : Ev prog w K S lv φ σ (.Attribute o attr pos) d (SP C p fs l q) := ev_attr h hC SP.g0 SP.g1 hx ha he
theorem ex_pset {o : PySem.Expr} {attr : PySem.Str} {pos' value pos} (h1 : Ev prog w K S lv φ σ value d σ') (h2 : Ev prog w K S lv φ σ' o (.ref p.length) (SP C p fs l q)) (hC : Cls K C) (ht : takerIn K C attr = some .none) (hsz : fs.length ≤ 900)
    (hs : ∀ env, swapsWith value (some (.Attribute o attr pos')) pos.line env = pure false) : Ex prog w K S lv φ σ (.Assign [.Attribute o attr pos'] value pos) .next φ (SP C p (putF attr d fs) l q) :=
  ex_toS (ex_setattr h1 h2 hC SP.g0 SP.g1 ht hsz hs) SP.s1
theorem ev_pcall {o : PySem.Expr} {name : PySem.Str} {apos pos : Pos} {e : PySem.Expr} {rest : List PySem.Expr} {fa : Nat} (h0 : Ev prog w K S lv φ σ o (.ref p.length) (SP C p fs l q)) (hC : Cls K C) (hx : fs.lookup name = .none)
    (hf : findIn K (.ref C) name = some (some (.ref fa))) (ht : isFn K (.ref fa) = true) (hk : keepIn K (.ref fa) = true) (h1 : Evs prog w K S lv φ (SP C p fs l q) (e :: rest) pos ds σ'') (h2 : Ca prog w K lv' (.ref fa) (.ref p.length :: ds) σ'' d σ3) (hl : lv' ≤ lv)
    (hm : ∀ env, ∃ pl, eval (.Call (.Attribute o name apos) (e :: rest) [] pos) env = (do
      let ov ← eval o env
      standAt apos.atName
      let (f, first) ← holding [ov] (getMethod ov name pl)
      callWith pos f first (backTo pos (starEach (e :: rest) env)) []))
    (he : ∀ env, starEach (e :: rest) env = (false, eval e env) :: starEach rest env) (hpl : ∀ env, (backTo pos (starEach rest env)).any (·.1) = false) :
    Ev prog w K S lv φ σ (.Call (.Attribute o name apos) (e :: rest) [] pos) d σ3 := ev_meth h0 hC SP.g0 SP.g1 hx hf ht hk h1 h2 hl hm he hpl
theorem ev_pcall0 {o : PySem.Expr} {name : PySem.Str} {apos pos : Pos} {fa : Nat} (h0 : Ev prog w K S lv φ σ o (.ref p.length) (SP C p fs l q)) (hC : Cls K C) (hx : fs.lookup name = .none)
    (hf : findIn K (.ref C) name = some (some (.ref fa))) (ht : isFn K (.ref fa) = true) (hk : keepIn K (.ref fa) = true) (h2 : Ca prog w K lv' (.ref fa) [.ref p.length] (SP C p fs l q) d σ3) (hl : lv' ≤ lv)
    (hm : ∀ env, ∃ pl, eval (.Call (.Attribute o name apos) [] [] pos) env = (do
      let ov ← eval o env
      standAt apos.atName
      let (f, first) ← holding [ov] (getMethod ov name pl)
      callWith pos f first (backTo pos (starEach [] env)) [])) :
    Ev prog w K S lv φ σ (.Call (.Attribute o name apos) [] [] pos) d σ3 := ev_meth0 h0 hC SP.g0 SP.g1 hx hf ht hk h2 hl hm
theorem ev_pappend {o : PySem.Expr} {attr : PySem.Str} {apos bpos pos : Pos} {e : PySem.Expr} (h0 : Ev prog w K S lv φ σ o (.ref p.length) (SP C p fs l q)) (hC : Cls K C) (hx : fs.lookup attr = some (.ref (p.length + 2))) (ha : findIn K (.ref C) attr = some .none)
    (hea : ∀ env, eval (.Attribute o attr bpos) env = (do
      let ov ← eval o env
      standAt bpos.atName
      let r ← holding [ov] (getAttr ov attr true)
      letTemporaryGo o ov r
      pure r))
    (h1 : Ev prog w K S lv φ (SP C p fs l q) e d (SP C p fs l q)) (hsz : l.length ≤ 100000)
    (hm : ∀ env, ∃ pl, eval (.Call (.Attribute (.Attribute o attr bpos) (PySem.Str.ofString "append") apos) [e] [] pos) env = (do
      let ov ← eval (.Attribute o attr bpos) env
      standAt apos.atName
      let (f, first) ← holding [ov] (getMethod ov (PySem.Str.ofString "append") pl)
      callWith pos f first (backTo pos (starEach [e] env)) []))
    (he : ∀ env, starEach [e] env = (false, eval e env) :: starEach [] env) :
    Ev prog w K S lv φ σ (.Call (.Attribute (.Attribute o attr bpos) (PySem.Str.ofString "append") apos) [e] [] pos) .none (SP C p fs (l ++ [d]) q) :=
  ev_toS (ev_append (ev_pget h0 hC hx ha hea) SP.g2 h1 SP.g2 hsz hm he) SP.s2
/-- the same store ere its list is made -/
noncomputable def SP2 (C : Nat) (p : Sto) (fs : Fl') : Sto := p ++ [.inst C (p.length + 1), .dict fs]
theorem SP2.g0 : (SP2 C p fs)[p.length]? = some (.inst C (p.length + 1)) := by unfold SP2; rw [List.getElem?_append_right (Nat.le_refl _)]; simp
theorem SP2.g1 : (SP2 C p fs)[p.length + 1]? = some (.dict fs) := by unfold SP2; rw [List.getElem?_append_right (by omega)]; simp
theorem SP2.s1 : (SP2 C p fs).set (p.length + 1) (.dict fs') = SP2 C p fs' := by unfold SP2; rw [List.set_append_right _ _ (by omega), show p.length + 1 - p.length = 1 by omega]; simp
theorem SP2.len : (SP2 C p fs).length = p.length + 2 := by unfold SP2; simp
theorem SP2.app : SP2 C p fs ++ [.list l] = SP C p fs l [] := by unfold SP2 SP; simp
theorem ex_pset2 {o : PySem.Expr} {attr : PySem.Str} {pos' value pos} (h1 : Ev prog w K S lv φ σ value d σ') (h2 : Ev prog w K S lv φ σ' o (.ref p.length) (SP2 C p fs)) (hC : Cls K C) (ht : takerIn K C attr = some .none) (hsz : fs.length ≤ 900)
    (hs : ∀ env, swapsWith value (some (.Attribute o attr pos')) pos.line env = pure false) : Ex prog w K S lv φ σ (.Assign [.Attribute o attr pos'] value pos) .next φ (SP2 C p (putF attr d fs)) :=
  ex_toS (ex_setattr h1 h2 hC SP2.g0 SP2.g1 ht hsz hs) SP2.s1
theorem ev_pnew {elts pos} (h1 : Evs prog w K S lv φ σ elts pos ds (SP2 C p fs)) (hsz : ds.length ≤ 1000) : Ev prog w K S lv φ σ (.List elts pos) (.ref (p.length + 2)) (SP C p fs ds []) := by
  have h := ev_listT h1 hsz
  rw [SP2.len, SP2.app] at h
  exact h
end
end Mine
namespace Mine
section
variable {prog : Program} {w : World} {K : Frag} {S : Sc} {lv lv' : Nat} {φ φ' φ'' φe φf : Fl'} {σ σ' σ'' σ3 σe : Sto} {d : PV} {ds ys : List PV} {C : Nat} {p q p' q' : Sto} {fs fs' : Fl'} {l l' m : List PV}
theorem SP.qi : (SP C p fs l (q ++ [.list m]))[p.length + 3 + q.length]? = some (.list m) := by rw [SP.gq]; simp
theorem ev_qlist {elts pos} (h1 : Evs prog w K S lv φ σ elts pos ds (SP C p fs l q)) (hsz : ds.length ≤ 1000) : Ev prog w K S lv φ σ (.List elts pos) (.ref (p.length + 3 + q.length)) (SP C p fs l (q ++ [.list ds])) := by
  have h := ev_listT h1 hsz
  rw [SP.len, SP.app] at h
  exact h
theorem ev_qappend {o : PySem.Expr} {apos pos : Pos} {e : PySem.Expr} (h0 : Ev prog w K S lv φ σ o (.ref (p.length + 3 + q.length)) (SP C p fs l (q ++ [.list m]))) (h1 : Ev prog w K S lv φ (SP C p fs l (q ++ [.list m])) e d (SP C p fs' l' (q ++ [.list m]))) (hsz : m.length ≤ 100000)
    (hm : ∀ env, ∃ pl, eval (.Call (.Attribute o (PySem.Str.ofString "append") apos) [e] [] pos) env = (do
      let ov ← eval o env
      standAt apos.atName
      let (f, first) ← holding [ov] (getMethod ov (PySem.Str.ofString "append") pl)
      callWith pos f first (backTo pos (starEach [e] env)) []))
    (he : ∀ env, starEach [e] env = (false, eval e env) :: starEach [] env) :
    Ev prog w K S lv φ σ (.Call (.Attribute o (PySem.Str.ofString "append") apos) [e] [] pos) .none (SP C p fs' l' (q ++ [.list (m ++ [d])])) :=
  ev_toS (ev_append h0 SP.qi h1 SP.qi hsz hm he) (by rw [SP.sq]; simp)
theorem sub_q {k : Int} {j : Nat} (h1 : seqIndex? k m.length = some j) (h2 : m[j]? = some d) : SubAt (SP C p fs l (q ++ [.list m])) (.ref (p.length + 3 + q.length)) k d := .ref SP.qi h1 h2
theorem ex_forR2 {x : PySem.Str} {px pos : Pos} {iter : PySem.Expr} {body : List PySem.Stmt} {a b b' c : Int} {n : Nat} (h1 : T prog w K S lv φ σ (fun f => eval iter f.ee) σ' fun news ρ v => ∃ r t u t', v = .ref r ∧ (r, ({ cls := .type "range", data := .fields #[.int a t, .int b u, .int c t'] } : Obj)) ∈ news)
    (hbb : b = b') (hsm : Builtin.Range.small a b' c = true) (hn : Builtin.Range.rangeSize a b' c = (n : Int)) (e : rangePV a c n = ds) (fb : Fb prog w K S lv x body ds φ σ' φe σe) (hx : S.cs.names.lookup x = some .local) (hdx : (x == ("__debug__" : PySem.Str)) = false)
    (hs : ∀ env x, foldedSetIterable iter env x = pure x) : Ex prog w K S lv φ σ (.For (.Name x px) iter body [] pos) .next φe σe := ex_forR h1 (hbb ▸ hsm) (hbb ▸ hn) (by rw [e]; exact fb) hx hdx hs
theorem ev_rng3 {x : PySem.Str} {p pos : Pos} {e : PySem.Expr} {rest : List PySem.Expr} {a b c : Int} (hx : nsIn K mainGlobals x = some .none) (hb : bootBuiltins x = some (.type "range")) (hg : GlobX S x) (h1 : Evs prog w K S lv φ σ (e :: rest) pos [.int a, .int b, .int c] σ') (hc : c ≠ 0) (hsm : Builtin.divisionGoesByPylong (b - a) c = false) (hn : x ≠ "__name__")
    (he : ∀ env, starEach (e :: rest) env = (false, eval e env) :: starEach rest env) (hpl : ∀ env, (backTo pos (starEach rest env)).any (·.1) = false) :
    T prog w K S lv φ σ (fun f => eval (.Call (.Name x p) (e :: rest) [] pos) f.ee) σ' fun news ρ v => ∃ r t u t', v = .ref r ∧ (r, ({ cls := .type "range", data := .fields #[.int a t, .int b u, .int c t'] } : Obj)) ∈ news := ev_range3 hx hb hg h1 hc hsm hn he hpl
theorem ev_rng1 {x : PySem.Str} {p pos : Pos} {e : PySem.Expr} {rest : List PySem.Expr} {b : Int} (hx : nsIn K mainGlobals x = some .none) (hb : bootBuiltins x = some (.type "range")) (hg : GlobX S x) (h1 : Evs prog w K S lv φ σ (e :: rest) pos [.int b] σ') (hn : x ≠ "__name__")
    (he : ∀ env, starEach (e :: rest) env = (false, eval e env) :: starEach rest env) (hpl : ∀ env, (backTo pos (starEach rest env)).any (·.1) = false) :
    T prog w K S lv φ σ (fun f => eval (.Call (.Name x p) (e :: rest) [] pos) f.ee) σ' fun news ρ v => ∃ r t u t', v = .ref r ∧ (r, ({ cls := .type "range", data := .fields #[.int 0 t, .int b u, .int 1 t'] } : Obj)) ∈ news := ev_range1 hx hb hg h1 hn he hpl
theorem exs_nil' (h : φ = φ') (k : σ = σ') : Exs prog w K S lv φ σ [] .next φ' σ' := h ▸ k ▸ exs_nil
theorem ex_ret0' {pos} (h : φ = φ') (k : σ = σ') : Ex prog w K S lv φ σ (.Return .none pos) (.ret .none) φ' σ' := h ▸ k ▸ ex_ret0
end
end Mine
namespace Mine
section
variable {prog : Program} {w : World} {K : Frag} {S : Sc} {lv lv' : Nat} {φ φ' φ'' φe φf : Fl'} {σ σ' σ'' σ3 σe : Sto} {d : PV} {ds ys : List PV} {sc : Scope}
noncomputable def isLoc (o : Option NameKind) : Bool := match o with | some .local => true | _ => false
noncomputable def isCel (o : Option NameKind) : Bool := match o with | some .cell => true | _ => false
theorem isLoc_of {o : Option NameKind} (h : isLoc o = true) : o = some .local := by unfold isLoc at h; split at h <;> first | rfl | cases h
theorem isCel_of {o : Option NameKind} (h : isCel o = true) : o = some .cell := by unfold isCel at h; split at h <;> first | rfl | cases h
noncomputable def locB (sc : Scope) : Bool := sc.names.all fun y => match y.2 with | .local => isLoc (sc.names.lookup y.1) | _ => true
noncomputable def onceB (S : Sc) (sc : Scope) : Bool := sc.names.all fun y => match y.2 with | .free => isCel (S.cs.names.lookup y.1) | _ => true
theorem seen_of (h : ∀ p ∈ φf, φ.lookup p.1 = some p.2 ∧ S.cs.names.lookup p.1 = some .cell ∧ sc.names.lookup p.1 = some .free) (h1 : noCell sc = true) (h2 : sc.kind = .function) (h3 : locB sc = true) (h4 : onceB S sc = true) : Seen S sc φ φf := by
  refine ⟨fun y d hy => ?_, noCell_of h1, h2, fun y hy hk => ?_, fun y hy hk => ?_⟩
  · have : (y, d) ∈ φf := by
      clear h h1 h2 h3 h4
      induction φf with
      | nil => cases hy
      | cons p r ih =>
        rw [List.lookup_cons] at hy
        split at hy
        · rename_i q; cases hy; rw [beq_iff_eq.mp q]; exact .head _
        · exact .tail _ (ih hy)
    exact h _ this
  · have := List.all_eq_true.mp h3 y hy
    rw [hk] at this
    exact isLoc_of this
  · have := List.all_eq_true.mp h4 y hy
    rw [hk] at this
    exact isCel_of this
theorem fct_filter {x : PySem.Str} {ct elt : PySem.Expr} (P : Int → Bool) : ∀ (ns : List Int), (∀ n ∈ ns, Tr prog w K ⟨S.cs, some sc, S.bs⟩ lv ((x, .int n) :: φf) σ ct (P n) σ) → (∀ n, Ev prog w K ⟨S.cs, some sc, S.bs⟩ lv ((x, .int n) :: φf) σ elt (.int n) σ) → FcT prog w K S sc lv x φf ct elt (ns.map .int) σ ((ns.filter P).map .int) σ
  | [], _, _ => .nil
  | n :: ns, ht, he => by
    have ih := fct_filter P ns (fun m hm => ht m (.tail _ hm)) he
    have h0 := ht n (.head _)
    cases hp : P n with
    | true =>
      rw [hp] at h0
      rw [List.filter_cons_of_pos hp]
      exact .yes h0 (he n) ih
    | false =>
      rw [hp] at h0
      rw [List.filter_cons_of_neg (by simp [hp])]
      exact .no h0 ih
theorem fc_map {α : Type} {x : PySem.Str} {elt : PySem.Expr} (f g : α → PV) : ∀ (l : List α), (∀ a ∈ l, Ev prog w K ⟨S.cs, some sc, S.bs⟩ lv ((x, f a) :: φf) σ elt (g a) σ) → Fc prog w K S sc lv x φf elt (l.map f) σ (l.map g) σ
  | [], _ => .nil
  | a :: l, h => .cons (h a (.head _)) (fc_map f g l fun b hb => h b (.tail _ hb))
theorem ex_setit {o i : PySem.Expr} {pos' value pos} {n : Nat} {l : List PV} {j : Int} {d : PV} (h1 : Ev prog w K S lv φ σ value d σ') (h2 : Ev prog w K S lv φ σ' o (.ref n) σ'') (h3 : Ev prog w K S lv φ σ'' i (.int j) σ3) (hi : σ3[n]? = some (.list l)) (h0 : 0 ≤ j ∧ j < l.length ∧ j < 2 ^ 63)
    (hs : ∀ env, swapsWith value (some (.Subscript o i pos')) pos.line env = pure false) : Ex prog w K S lv φ σ (.Assign [.Subscript o i pos'] value pos) .next φ (σ3.set n (.list (l.set j.toNat d))) := ex_setitem h1 h2 h3 hi h0.1 h0.2.1 h0.2.2 hs
end
end Mine
namespace Mine
section
variable {prog : Program} {w : World} {K : Frag} {S : Sc} {lv lv' : Nat} {φ φ' φ'' φe φf : Fl'} {σ σ' σ'' σ3 σe : Sto} {d : PV} {ds ys : List PV} {sc : Scope} {iter : PySem.Expr}
theorem itr_R2 {a b b' c : Int} {n : Nat} (h1 : T prog w K S lv φ σ (fun f => eval iter f.ee) σ' fun news ρ v => ∃ r t u t', v = .ref r ∧ (r, ({ cls := .type "range", data := .fields #[.int a t, .int b u, .int c t'] } : Obj)) ∈ news)
    (hbb : b = b') (hsm : Builtin.Range.small a b' c = true) (hn : Builtin.Range.rangeSize a b' c = (n : Int)) (e : rangePV a c n = ds) : Itr prog w K S lv φ σ iter ds σ' := e ▸ itr_R h1 (hbb ▸ hsm) (hbb ▸ hn)
theorem ex_assignC' {x : PySem.Str} {pos' value pos} (h1 : Ev prog w K S lv φ σ value d σ') (hl : S.cs.names.lookup x = some .cell) (hd : (x == ("__debug__" : PySem.Str)) = false)
    (hs : ∀ env, swapsWith value (some (.Name x pos')) pos.line env = pure false) : Ex prog w K S lv φ σ (.Assign [.Name x pos'] value pos) .next ((x, d) :: φ) σ' := ex_assignC h1 hl hd hs
theorem ex_unpk {elts k tpos value pos} {ds : List PV} (hw : ∀ cn L a ccd cl, swappedStores [.Tuple elts k tpos] value (envX cn S.cs L a ccd cl) = pure .none) (hs : ∀ env, swapsWithSole [.Tuple elts k tpos] value pos.line env = pure false) (h1 : Ev prog w K S lv φ σ value (.tup ds) σ') (g : Tg prog w K S lv φ σ' elts ds φ' σ'')
    (hn : ∀ env, (assignEach elts env).length = ds.length) (hstar : ∀ env, (assignEach elts env).findIdx? (·.1) = .none) :
    Ex prog w K S lv φ σ (.Assign [.Tuple elts k tpos] value pos) .next φ' σ'' := ex_unpack h1 g hn hstar hs hw
end
end Mine
namespace Mine
section
variable {prog : Program} {w : World} {K : Frag} {S : Sc} {lv lv' : Nat} {φ φ' φ'' φe φf : Fl'} {σ σ' σ'' σ3 σe : Sto} {d : PV} {ds ys : List PV} {sc : Scope} {x : PySem.Str} {elt ct iter : PySem.Expr}
theorem ex_compF {y : PySem.Str} {px py pos spos : Pos} (V : Seen S sc φ φf) (h1 : Itr prog w K S lv φ σ iter ds σ') (fc : Fc prog w K S sc lv x φf elt ds σ' ys σe) (hx : sc.names.lookup x = some .local) (hdx : (x == ("__debug__" : PySem.Str)) = false) (hsz : ds.length ≤ 1000)
    (hl : S.cs.names.lookup y = some .local) (hdy : (y == ("__debug__" : PySem.Str)) = false)
    (hsw : ∀ cn L a ccd cl, swapsWith (.ListComp elt [⟨.Name x px, iter, [], 0⟩] sc pos) (some (.Name y py)) spos.line (envX cn S.cs L a ccd cl) = pure true)
    (hs : ∀ env x, foldedSetIterable iter env x = pure x) : Ex prog w K S lv φ σ (.Assign [.Name y py] (.ListComp elt [⟨.Name x px, iter, [], 0⟩] sc pos) spos) .next ((y, .lst ys) :: φ) σe := ex_comp false V h1 fc hx hdx hsz hl hdy hsw hs
theorem ex_compR {y : PySem.Str} {px py pos spos : Pos} (V : Seen S sc φ φf) (h1 : Itr prog w K S lv φ σ iter ds σ') (fc : Fc prog w K S sc lv x φf elt ds σ' ys σe) (hx : sc.names.lookup x = some .local) (hdx : (x == ("__debug__" : PySem.Str)) = false) (hsz : ds.length ≤ 1000)
    (hl : S.cs.names.lookup y = some .local) (hdy : (y == ("__debug__" : PySem.Str)) = false)
    (hsw : ∀ cn L a ccd cl, swapsWith (.ListComp elt [⟨.Name x px, iter, [], 0⟩] sc pos) (some (.Name y py)) spos.line (envX cn S.cs L a ccd cl) = pure true)
    (hs : ∀ env x, foldedSetIterable iter env x = pure x) : Ex prog w K S lv φ σ (.Assign [.Name y py] (.ListComp elt [⟨.Name x px, iter, [], 0⟩] sc pos) spos) .next ((y, .ref σe.length) :: φ) (σe ++ [.list ys]) := ex_comp true V h1 fc hx hdx hsz hl hdy hsw hs
theorem last_get {m : List PV} : (σ ++ [PO.list m])[σ.length]? = some (.list m) := by simp
theorem last_set {m m' : List PV} : (σ ++ [PO.list m]).set σ.length (.list m') = σ ++ [.list m'] := by simp
theorem exs_toS {sts : List PySem.Stmt} {g : Fw} {σ2 : Sto} (q : σ = σ2) (h : Exs prog w K S lv φ σ2 sts g φ' σ') : Exs prog w K S lv φ σ sts g φ' σ' := q ▸ h
end
end Mine
namespace Mine
section
variable {prog : Program} {w : World} {K : Frag} {S : Sc} {lv lv' : Nat} {φ φ' φ'' φe φf : Fl'} {σ σ' σ'' σ3 σe : Sto} {d : PV} {ds ys : List PV}
/-- a list of the base heap: its first item and its length -/
structure BL (a : Addr) (vs : List Value) (ns : List Int) (h : Heap) : Prop where
  at_ : h.IsList a vs.toArray
  its : IntsAre vs ns
theorem ev_blen {x y : PySem.Str} {p p' pos : Pos} {a : Addr} {vs : List Value} {ns : List Int} (hx : nsIn K mainGlobals x = some .none) (hb : bootBuiltins x = some (.builtin "len")) (hg : GlobX S x) (hy : φ.lookup y = some (.base a)) (hB : ∀ h, S.bs h → BL a vs ns h) (hz : ns.length ≤ 16384) (hn : x ≠ "__name__") :
    Ev prog w K S lv φ σ (.Call (.Name x p) [.Name y p'] [] pos) (.int ns.length) σ := by
  refine ⟨fun f s m news ρ Q E hS ok D k => ?_⟩
  have F := D.fr
  refine Call_Name rfl (glob_built hS ok D hg hx hb hn ?_)
  refine callWith_method1 (first := []) ?_ (by rfl) (by rfl)
  have h1 : Evs prog w K S lv φ σ [.Name y p'] pos [.base a] σ := evs_cons (ev_name hy) evs_nil
  refine h1.run f s m news ρ _ _ hS ok D fun us g1 t1 n1 r1 D1 e1 R1 => ?_
  cases R1 with
  | cons h r =>
    cases r
    cases h
    have b := hB _ hS.bs
    have hl : g1.IsList a vs.toArray := b.at_.at fun o e => D1.fr.keep _ _ e
    exact kun_lenL hl (by rw [List.size_toArray, b.its.length]) (by omega) (k _ g1 _ _ _ D1 e1 (.int _ _))
theorem ev_b0 {y : PySem.Str} {p' pos : Pos} {kc cpos} {a : Addr} {vs : List Value} {n : Int} {ns : List Int} (hy : φ.lookup y = some (.base a)) (hB : ∀ h, S.bs h → BL a vs (n :: ns) h) :
    Ev prog w K S lv φ σ (.Subscript (.Name y p') (.Constant (.int 0) kc cpos) pos) (.int n) σ := by
  refine ⟨fun f s m news ρ Q E hS ok D k => ?_⟩
  refine Subscript_ ((ev_name (prog := prog) (w := w) (lv := lv) hy).run f s m news ρ _ _ hS ok D fun v1 g1 t1 n1 r1 D1 e1 R1 => ?_)
  refine (ev_int (prog := prog) (w := w) (lv := lv) (S := S)).run f _ m n1 r1 _ _ hS ok D1 fun v2 g2 t2 n2 r2 D2 e2 R2 => ?_
  cases R1
  cases R2
  have b := hB _ hS.bs
  have hl : g2.IsList a vs.toArray := b.at_.at fun o e => D2.fr.keep _ _ e
  obtain ⟨t, us, rfl⟩ : ∃ t us, vs = .int n t :: us := by
    have := b.its
    cases this with
    | cons n t r => exact ⟨t, _, rfl⟩
  exact tail_any hl.typeIs slot_list_getitem.lookup (getItem_listJ hl (by decide) (by decide) (show seqIndex? 0 _ = some 0 by simp [seqIndex?]) rfl (k _ g2 t2 n2 r2 D2 (e1.trans e2) (.int _ _))) rfl
end
end Mine
namespace Mine
section
variable {prog : Program} {w : World} {K : Frag} {S : Sc} {lv lv' : Nat} {φ φ' φ'' : Fl'} {σ σ' σ'' σ3 : Sto}
section
variable {name qual : PySem.Str} {params : Arguments} {body : List PySem.Stmt} {scope : Scope} {dV kV doc pm cdv ct oc : Value} {an od : Option Addr} {osl : Array (Option Value)} {fa : Addr} {xs : List PySem.Str} {ds : List PV} {d : PV} {g : Fw}
theorem def_coreB {f : Fm} {s : Shared} {m : PySem.Str → Option Value} {news : Led} {ρ : List Addr} {A : Around} {R : Result → Shared → Prop} {vs : List Value} (ok : f.Ok K 0) (D : Dy K f m φ σ s.heap news ρ) (hv : VRs K news ρ vs ds)
    (hA : A.frames = f.A.frames) (hhd : A.handled = .none) (hdep : A.depth + 3 * lv + 111 < recursionLimit) (huni : A.units + 16 * lv + 131 < cLine)
    (ho : K.lookup fa = some ⟨oc, od, .func (fnOf name qual params body scope dV kV doc pm an cdv ct), osl⟩) (hcd : codeIn K cdv qual = true)
    (hb : ∀ (sB : Shared), K.In sB.heap → ∀ vs : List Value, vs.length = xs.length → BindsTo sB (fnOf name qual params body scope dV kV doc pm an cdv ct) ⟨vs, []⟩ (xs.zip vs)) (hlen : ds.length = xs.length)
    (hloc : ∀ x ∈ xs, scope.names.lookup x = some .local ∧ (x == ("__debug__" : PySem.Str)) = false) (hco : scope.isCoroutine = false) (hgen : scope.isGenerator = false) (hk : scope.kind = .function) (hcell : ∀ x ∈ scope.names, x.2 ≠ .cell)
    {gb : Sto} {bs : Heap → Prop} (hbs : ∀ g : Heap, (∀ b o, f.h₀.get? b = some o → g.get? b = some o) → bs g) (hbody : Exs prog w K ⟨scope, none, bs⟩ lv (xs.zip ds).reverse σ body g φ' (σ' ++ gb)) (hret : Back g d) (hcut : gb = [] ∨ σ.length ≤ σ'.length ∧ (σ'.all (PO.under σ'.length)) = true ∧ d.under σ'.length = true)
    (k : ∀ a h' tk' news' ρ', Dy K f m φ σ' h' news' ρ' → Ext [] news ρ news' ρ' → VR K news' ρ' a d → R (.ok (.ret a)) { s with heap := h', toks := tk' }) : codeAny (model prog w) A (.call (.ref fa) ⟨vs, []⟩) R s := by
  obtain ⟨p, loose, mean, mg, mb, T, hp⟩ := ok.top
  have hl : vs.length = xs.length := hv.length.trans hlen
  refine code_def ok.bel D.fr ok.kin D.nw T (hA.trans ok.hA) rfl ok.fn ho hcd (by omega) (hb s (ok.kin.keeps D.fr.keep) vs hl) ?_ (fun g₀ L' h₁ FG F' N' B' X' T' => ?_) hco hgen hk hcell
  · intro y hy
    exact (hloc _ (List.of_mem_zip hy).1).1
  · let f' : Fm := ⟨qual, scope, L', fa, cdv, [], A.deeper (envOf qual scope L' fa cdv), f.env :: f.outer, A, f.base, g₀, none, f.hid⟩
    have ok' : f'.Ok K lv := by
      refine ⟨B', ?_, ?_, ?_, ?_, hk, hgen, hco, X', ⟨p, loose, mean, mg, mb, T', hp⟩, fun x y c hx => (by cases hx), fun x hx => ?_⟩
      · show Option.map _ A.frames = _
        rw [hA, ok.hA]; rfl
      · exact hhd
      · show A.depth + 1 + 3 * lv + 110 < recursionLimit; omega
      · show A.units + 3 + 16 * lv + 128 < cLine; omega
      · have aux : ∀ {l : List (PySem.Str × NameKind)}, l.lookup x = some .cell → ∃ p ∈ l, p.2 = .cell := by
          intro l
          induction l with
          | nil => intro h; cases h
          | cons p l ih =>
            intro h
            rw [List.lookup_cons] at h
            split at h
            · exact ⟨p, .head _, Option.some.inj h⟩
            · obtain ⟨q, a, b⟩ := ih h; exact ⟨q, .tail _ a, b⟩
        obtain ⟨p, a, b⟩ := aux hx
        exact absurd b (hcell p a)
    have D' : Dy K f' _ (xs.zip ds).reverse σ h₁ news ρ := ⟨F', fun x d h => by
      obtain ⟨v, a, b, c⟩ := binds_plain hv x d h
      exact ⟨v, ⟨(hloc x c).2, .inl ⟨(hloc x c).1, a⟩⟩, b⟩, N', D.sr, fun c hc => (by cases hc), D.off⟩
    exact hbody.run f' { s with heap := h₁, toks := s.toks + (xs.zip vs).length } _ news ρ _ _ ⟨rfl, rfl, hbs _ FG.keep⟩ rfl ok' D' fun fl h' tk' m'' news' ρ' D'' e r => body_end (s := s) D D''.fr D''.nw D''.off D''.sr e r hret hcut k
/-- a call whose callee sees the same heap below -/
theorem ev_callK {x : PySem.Str} {p pos : Pos} {e : PySem.Expr} {rest : List PySem.Expr} {bs : Heap → Prop} (hbs : ∀ h g : Heap, S.bs h → (∀ b o, h.get? b = some o → g.get? b = some o) → bs g) (hx : nsIn K mainGlobals x = some (some (.ref fa))) (hkp : keepIn K (.ref fa) = true) (h1 : Evs prog w K S (lv + 1) φ σ (e :: rest) pos ds σ') (hg : GlobX S x)
    (he : ∀ env, starEach (e :: rest) env = (false, eval e env) :: starEach rest env) (hpl : ∀ env, (backTo pos (starEach rest env)).any (·.1) = false)
    (ho : K.lookup fa = some ⟨oc, od, .func (fnOf name qual params body scope dV kV doc pm an cdv ct), osl⟩) (hcd : codeIn K cdv qual = true)
    (hb : ∀ (sB : Shared), K.In sB.heap → ∀ vs : List Value, vs.length = xs.length → BindsTo sB (fnOf name qual params body scope dV kV doc pm an cdv ct) ⟨vs, []⟩ (xs.zip vs)) (hlen : ds.length = xs.length)
    (hloc : ∀ x ∈ xs, scope.names.lookup x = some .local ∧ (x == ("__debug__" : PySem.Str)) = false) (hco : scope.isCoroutine = false) (hgen : scope.isGenerator = false) (hk : scope.kind = .function) (hcell : ∀ x ∈ scope.names, x.2 ≠ .cell)
    (hbody : Exs prog w K ⟨scope, none, bs⟩ lv (xs.zip ds).reverse σ' body g φ' σ'') (hret : Back g d) :
    Ev prog w K S (lv + 1) φ σ (.Call (.Name x p) (e :: rest) [] pos) d σ'' := by
  refine ⟨fun f s m news ρ Q E hS ok D k => ?_⟩
  refine Call_Name rfl (glob_val hS ok D hg hx ?_)
  refine callWith_K ok.kin hkp ?_ (he _) (hpl _)
  refine h1.run f s m news ρ _ _ hS ok D fun vs g1 t1 n1 r1 D1 e1 R1 => ?_
  refine ⟨ok.kin.keeps D1.fr.keep, ?_⟩
  refine wpAny_call (def_coreB (lv := lv) (ok.less (Nat.zero_le _)) D1 R1 rfl ok.hh (by have := ok.dep; omega) (by have := ok.uni; omega) ho hcd hb hlen hloc hco hgen hk hcell (gb := []) (fun g hkeep => hbs _ g hS.bs hkeep) (by rw [List.append_nil]; exact hbody) hret (.inl rfl) fun a h' tk' news' ρ' D' e r => ?_)
  exact k a h' tk' news' ρ' D' (e1.trans e) r
end
end
end Mine
namespace Mine
section
variable {prog : Program} {w : World} {K : Frag} {S : Sc} {lv lv' : Nat} {φ φ' φ'' φ0 φe φf : Fl'} {σ σ' σ'' σ3 σe : Sto} {d : PV} {ds ys : List PV}
/-- the source of figures: a list of two, in the store at i -/
structure Sd (σ : Sto) (i : Nat) : Prop where
  at_ : ∃ s0 s1 : Int, σ[i]? = some (.list [.int s0, .int s1]) ∧ 0 ≤ s0 ∧ 0 ≤ s1 ∧ s1 < 2147483647
theorem Sd.lt {i : Nat} (h : Sd σ i) : i < σ.length := by
  obtain ⟨s0, s1, h, _⟩ := h.at_
  exact (List.getElem?_eq_some_iff.mp h).1
theorem Sd.set {i : Nat} (h : i < σ.length) {s0 s1 : Int} (h0 : 0 ≤ s0) (h1 : 0 ≤ s1) (h2 : s1 < 2147483647) : Sd (σ.set i (.list [.int s0, .int s1])) i := ⟨s0, s1, List.getElem?_set_self h, h0, h1, h2⟩
theorem Sd.app {i : Nat} (h : Sd σ i) (g : Sto) : Sd (σ ++ g) i := by
  have hl := h.lt
  obtain ⟨s0, s1, h, r⟩ := h.at_
  exact ⟨s0, s1, by rw [List.getElem?_append_left hl]; exact h, r⟩
/-- the source has gone on; all else stands -/
structure Tn (σ : Sto) (i : Nat) (σ' : Sto) : Prop where
  sd : Sd σ' i
  eq : ∃ o, σ' = σ.set i o
theorem Tn.len {i : Nat} (h : Tn σ i σ') : σ'.length = σ.length := by
  obtain ⟨o, rfl⟩ := h.eq
  exact List.length_set
theorem Tn.refl {i : Nat} (h : Sd σ i) : Tn σ i σ := by
  refine ⟨h, ?_⟩
  obtain ⟨s0, s1, h, r⟩ := h.at_
  refine ⟨_, (List.ext_getElem? fun j => ?_ : σ = σ.set i (.list [.int s0, .int s1]))⟩
  rw [List.getElem?_set]
  split
  · rename_i q
    subst q
    rw [if_pos (List.getElem?_eq_some_iff.mp h).1, h]
  · rfl
theorem Tn.trans {i : Nat} (h : Tn σ i σ') (k : Tn σ' i σ'') : Tn σ i σ'' := by
  refine ⟨k.sd, ?_⟩
  obtain ⟨o, rfl⟩ := h.eq
  obtain ⟨u, rfl⟩ := k.eq
  exact ⟨u, by rw [List.set_set]⟩
theorem Tn.cut {i : Nat} {g : Sto} (hi : i < σ.length) (h : Tn (σ ++ g) i σ') : ∃ τ, σ' = τ ++ g ∧ Tn σ i τ := by
  obtain ⟨o, rfl⟩ := h.eq
  refine ⟨σ.set i o, List.set_append_left _ _ hi, ?_, o, rfl⟩
  have k := h.sd
  rw [List.set_append_left _ _ hi] at k
  obtain ⟨s0, s1, k, r⟩ := k.at_
  exact ⟨s0, s1, by rw [List.getElem?_append_left (by rw [List.length_set]; exact hi)] at k; exact k, r⟩
theorem sub_of (h : ∀ p ∈ φ0, φ.lookup p.1 = some p.2) : ∀ x d, φ0.lookup x = some d → φ.lookup x = some d := by
  intro x d hx
  have : (x, d) ∈ φ0 := by
    clear h
    induction φ0 with
    | nil => cases hx
    | cons p r ih =>
      rw [List.lookup_cons] at hx
      split at hx
      · rename_i q; cases hx; rw [beq_iff_eq.mp q]; exact .head _
      · exact .tail _ (ih hx)
  exact h _ this
theorem Dy.less {f : Fm} {m : PySem.Str → Option Value} {h : Heap} {news : Led} {ρ : List Addr} (D : Dy K f m φ σ h news ρ) (s : ∀ x d, φ0.lookup x = some d → φ.lookup x = some d) : Dy K f m φ0 σ h news ρ :=
  ⟨D.fr, fun x d q => D.rel x d (s x d q), D.nw, D.sr, D.ce, D.off⟩
theorem exs_weak {sts : List PySem.Stmt} {g : Fw} (s1 : ∀ p ∈ φ0, φ.lookup p.1 = some p.2) (h : Exs prog w K S lv φ0 σ sts g φ' σ') : Exs prog w K S lv φ σ sts g φ' σ' :=
  ⟨fun f s m news ρ Q E hS hmd ok D k => h.run f s m news ρ Q E hS hmd ok (D.less (sub_of s1)) k⟩
theorem exs_less {sts : List PySem.Stmt} {g : Fw} (h : Exs prog w K S lv φ σ sts g φ' σ') (s1 : ∀ p ∈ φ0, φ'.lookup p.1 = some p.2) : Exs prog w K S lv φ σ sts g φ0 σ' :=
  ⟨fun f s m news ρ Q E hS hmd ok D k => h.run f s m news ρ Q E hS hmd ok D fun a h' t m' n r D' e R => k a h' t m' n r (D'.less (sub_of s1)) e R⟩
theorem exs_lessS {sts : List PySem.Stmt} {g : Fw} {σ2 : Sto} (h : Exs prog w K S lv φ σ sts g φ' σ') (s1 : ∀ p ∈ φ0, φ'.lookup p.1 = some p.2) (q : σ' = σ2) : Exs prog w K S lv φ σ sts g φ0 σ2 := q ▸ exs_less h s1
/-- the block ends with the value d -/
noncomputable def Ends (prog : Program) (w : World) (K : Frag) (S : Sc) (lv : Nat) (φ : Fl') (σ : Sto) (sts : List PySem.Stmt) (d : PV) : Prop := ∃ φ' σ', Exs prog w K S lv φ σ sts (.ret d) φ' σ'
theorem ends_cons {st : PySem.Stmt} {rest : List PySem.Stmt} (h : Ex prog w K S lv φ σ st .next φ' σ') (k : Ends prog w K S lv φ' σ' rest d) : Ends prog w K S lv φ σ (st :: rest) d := by
  obtain ⟨a, b, k⟩ := k
  exact ⟨a, b, exs_cons h k⟩
theorem ends_weak {sts : List PySem.Stmt} (s1 : ∀ p ∈ φ0, φ.lookup p.1 = some p.2) (k : Ends prog w K S lv φ0 σ sts d) : Ends prog w K S lv φ σ sts d := by
  obtain ⟨a, b, k⟩ := k
  exact ⟨a, b, exs_weak s1 k⟩
theorem ends_inv {st : PySem.Stmt} {rest : List PySem.Stmt} {Inv : Fl' → Sto → Prop} (h : ∃ φ' σ', Ex prog w K S lv φ σ st .next φ' σ' ∧ Inv φ' σ') (k : ∀ φ' σ', Inv φ' σ' → Ends prog w K S lv φ' σ' rest d) : Ends prog w K S lv φ σ (st :: rest) d := by
  obtain ⟨a, b, h, i⟩ := h
  exact ends_cons h (k a b i)
/-- turns that keep what Inv says -/
theorem fb_inv {x : PySem.Str} {body : List PySem.Stmt} (Inv : Nat → Fl' → Sto → Prop) (k N : Nat) : ∀ (ds : List PV), (∀ d ∈ ds, ∀ n φ σ, n + k ≤ N → Inv n φ σ → ∃ φ' σ', Exs prog w K S lv ((x, d) :: φ) σ body .next φ' σ' ∧ Inv (n + k) φ' σ') →
    ∀ n φ σ, n + k * ds.length ≤ N → Inv n φ σ → ∃ φ' σ', Fb prog w K S lv x body ds φ σ φ' σ' ∧ Inv (n + k * ds.length) φ' σ'
  | [], _, n, φ, σ, _, i => ⟨φ, σ, .nil, i⟩
  | d :: ds, h, n, φ, σ, b, i => by
    have e : k * (d :: ds).length = k + k * ds.length := by rw [List.length_cons, Nat.mul_succ, Nat.add_comm]
    rw [e] at b ⊢
    obtain ⟨φ1, σ1, a1, i1⟩ := h d (.head _) n φ σ (by omega) i
    obtain ⟨φ2, σ2, a2, i2⟩ := fb_inv Inv k N ds (fun d' m => h d' (.tail _ m)) (n + k) φ1 σ1 (by omega) i1
    exact ⟨φ2, σ2, .cons a1 a2, by rw [← Nat.add_assoc]; exact i2⟩
end
end Mine
namespace Mine
section
variable {prog : Program} {w : World} {K : Frag} {S : Sc} {lv lv' : Nat} {φ φ' φ'' φ0 φe φf : Fl'} {σ σ' σ'' σ3 σe : Sto} {d : PV} {ds ys : List PV}
theorem for_str {x : PySem.Str} {px pos : Pos} {iter : PySem.Expr} {body : List PySem.Stmt} {tx : PySem.Str} {l : List PySem.Str} (Inv : Nat → Fl' → Sto → Prop) (k N n : Nat) (h1 : Ev prog w K S lv φ σ iter (.str tx) σ') (hl : tx.cps.toList.map (fun c => (⟨#[c]⟩ : PySem.Str)) = l)
    (hi : Inv n φ σ') (hN : n + k * l.length ≤ N) (hx : S.cs.names.lookup x = some .local) (hdx : (x == ("__debug__" : PySem.Str)) = false) (hs : ∀ env x, foldedSetIterable iter env x = pure x)
    (step : ∀ d ∈ l.map PV.str, ∀ n φ σ, n + k ≤ N → Inv n φ σ → ∃ φ' σ', Exs prog w K S lv ((x, d) :: φ) σ body .next φ' σ' ∧ Inv (n + k) φ' σ') :
    ∃ φ' σ'', Ex prog w K S lv φ σ (.For (.Name x px) iter body [] pos) .next φ' σ'' ∧ Inv (n + k * l.length) φ' σ'' := by
  obtain ⟨a, b, f, i⟩ := fb_inv Inv k N (l.map PV.str) step n φ σ' (by rw [List.length_map]; exact hN) hi
  rw [List.length_map] at i
  exact ⟨a, b, ex_forS h1 hl f hx hdx hs, i⟩
theorem for_rng {x : PySem.Str} {px pos : Pos} {iter : PySem.Expr} {body : List PySem.Stmt} {a b b' c : Int} {m : Nat} (Inv : Nat → Fl' → Sto → Prop) (k N n : Nat) (h1 : T prog w K S lv φ σ (fun f => eval iter f.ee) σ' fun news ρ v => ∃ r t u t', v = .ref r ∧ (r, ({ cls := .type "range", data := .fields #[.int a t, .int b u, .int c t'] } : Obj)) ∈ news)
    (hbb : b = b') (hsm : Builtin.Range.small a b' c = true) (hn : Builtin.Range.rangeSize a b' c = (m : Int)) (e : rangePV a c m = ds)
    (hi : Inv n φ σ') (hN : n + k * ds.length ≤ N) (hx : S.cs.names.lookup x = some .local) (hdx : (x == ("__debug__" : PySem.Str)) = false) (hs : ∀ env x, foldedSetIterable iter env x = pure x)
    (step : ∀ d ∈ ds, ∀ n φ σ, n + k ≤ N → Inv n φ σ → ∃ φ' σ', Exs prog w K S lv ((x, d) :: φ) σ body .next φ' σ' ∧ Inv (n + k) φ' σ') :
    ∃ φ' σ'', Ex prog w K S lv φ σ (.For (.Name x px) iter body [] pos) .next φ' σ'' ∧ Inv (n + k * ds.length) φ' σ'' := by
  obtain ⟨u, v, f, i⟩ := fb_inv Inv k N ds step n φ σ' hN hi
  exact ⟨u, v, ex_forR2 h1 hbb hsm hn e f hx hdx hs, i⟩
theorem one_inv {st : PySem.Stmt} {P : Fl' → Sto → Prop} (h : ∃ φ' σ', Ex prog w K S lv φ σ st .next φ' σ' ∧ P φ' σ') : ∃ φ' σ', Exs prog w K S lv φ σ [st] .next φ' σ' ∧ P φ' σ' := by
  obtain ⟨a, b, h, i⟩ := h
  exact ⟨a, b, exs_cons h exs_nil, i⟩
theorem weak_inv {sts : List PySem.Stmt} {P : Fl' → Sto → Prop} (s1 : ∀ p ∈ φ0, φ.lookup p.1 = some p.2) (h : ∃ φ' σ', Exs prog w K S lv φ0 σ sts .next φ' σ' ∧ P φ' σ') : ∃ φ' σ', Exs prog w K S lv φ σ sts .next φ' σ' ∧ P φ' σ' := by
  obtain ⟨a, b, h, i⟩ := h
  exact ⟨a, b, exs_weak s1 h, i⟩
theorem ends_ret {st : PySem.Stmt} {rest : List PySem.Stmt} (h : Ex prog w K S lv φ σ st (.ret d) φ' σ') : Ends prog w K S lv φ σ (st :: rest) d := ⟨_, _, exs_ret h⟩
theorem join_core {p : Program} {loose mean} {mg mb : PySem.Str → Option Value} {s₁ s : Shared} {qual : PySem.Str} {scope : Scope} {fa : Addr} {cdv : Value} {body : List PySem.Stmt} {a : Addr} {vs : List Value} {ns : List Int} {h₁ : Heap} {m : PySem.Str → Option Value} {x : PySem.Str} {Q : Flow → Shared → Prop} {E : Value → Shared → Prop} {base : Heap}
    (KX : K.In s₁.heap) (T : Top p loose mean mg mb s₁.heap) (hp : importsNone p = true) (K0 : Below callerA base [] s₁.heap) (F : Fr s₁.heap s₁.heap.objs.size h₁ m) (N0 : News s₁.heap s₁.heap.objs.size h₁ []) (hm : m x = some (.ref a)) (hdx : (x == ("__debug__" : PySem.Str)) = false)
    (hL : s₁.heap.IsList a vs.toArray) (hI : IntsAre vs ns) (hz : ns.length ≤ 63) (hk : scope.kind = .function) (hgen : scope.isGenerator = false) (hco : scope.isCoroutine = false) (hx : scope.names.lookup x = some .local) (hc : noCell scope = true) (hsh : s.heap = h₁)
    (hE : ∀ (a : Addr) (vs : List Value) (ns : List Int), ns.length ≤ 63 → Ends prog w K ⟨scope, none, fun h => BL a vs ns h⟩ 7 [(x, .base a)] [] body d)
    (k : ∀ v h' tk' m' news' ρ', Fr s₁.heap s₁.heap.objs.size h' m' → VR K news' ρ' v d → Q (.ret v) { s with heap := h', toks := tk' }) :
    wpAny (model prog w) (callerA.deeper (envOf qual scope s₁.heap.objs.size fa cdv)) (execs body (envOf qual scope s₁.heap.objs.size fa cdv)) Q E s := by
  obtain ⟨φ', σ', hE⟩ := hE a vs ns hz
  let f : Fm := ⟨qual, scope, s₁.heap.objs.size, fa, cdv, [], callerA.deeper (envOf qual scope s₁.heap.objs.size fa cdv), [], callerA, base, s₁.heap, none, []⟩
  have hcell := noCell_of hc
  have ok : f.Ok K 7 := by
    refine ⟨K0, rfl, rfl, by show callerA.depth + 1 + 3 * 7 + 110 < recursionLimit; decide +kernel, by show callerA.units + 3 + 16 * 7 + 128 < cLine; decide +kernel, hk, hgen, hco, KX, ⟨p, loose, mean, mg, mb, T, hp⟩, fun x y c hx => (by cases hx), fun y hy => ?_⟩
    have aux : ∀ {l : List (PySem.Str × NameKind)}, l.lookup y = some .cell → ∃ p ∈ l, p.2 = .cell := by
      intro l
      induction l with
      | nil => intro h; cases h
      | cons p l ih =>
        intro h
        rw [List.lookup_cons] at h
        split at h
        · exact ⟨p, .head _, Option.some.inj h⟩
        · obtain ⟨q, a, b⟩ := ih h; exact ⟨q, .tail _ a, b⟩
    obtain ⟨p, a, b⟩ := aux hy
    exact absurd b (hcell p a)
  have D : Dy K f m [(x, .base a)] [] s.heap [] [] := by
    rw [hsh]
    refine ⟨F, fun y d hy => ?_, fun q hq => N0 q hq, ⟨rfl, .nil, fun _ h => absurd h List.not_mem_nil, fun i o h => by cases h⟩, fun c hc => (by cases hc), fun p hp => absurd hp List.not_mem_nil⟩
    rw [List.lookup_cons] at hy
    split at hy
    · rename_i q
      cases hy
      rw [beq_iff_eq.mp q]
      exact ⟨_, ⟨hdx, .inl ⟨hx, hm⟩⟩, .base a⟩
    · cases hy
  exact hE.run f s m [] [] _ _ ⟨rfl, rfl, hL, hI⟩ rfl ok D fun fl h' tk' m'' news' ρ' D'' e r => by
    obtain ⟨v, rfl, r⟩ := r
    exact k v h' tk' m'' news' ρ' D''.fr r
end
end Mine
namespace Mine
local macro_rules | `(tactic| krn_off) => `(tactic| first | assumption | rfl)
local macro_rules | `(tactic| tlg_ne) => `(tactic| first | exact Nat.le_of_ble_eq_true rfl | (simp only [List.length_append, List.length_cons, List.length_nil]; omega) | omega)
local macro_rules | `(tactic| kaf_suf) => `(tactic| first | assumption | omega | decide)
local macro_rules | `(tactic| kwd_less) => `(tactic| first | exact gx_fn (by rfl) (by rfl) | exact gx_comp (by rfl) (by rfl) (by rfl))
local macro_rules | `(tactic| kpf_c) => `(tactic| first | rfl | assumption)
local macro_rules | `(tactic| kas_types) => `(tactic| first | exact SubAt.tup rfl rfl | exact SubAt.lst rfl rfl | exact sub_q rfl rfl | exact SubAt.ref (by kpf_c) rfl rfl)
local macro_rules | `(tactic| kaf_pre) => `(tactic| first | (with_reducible exact op_add) | (with_reducible exact op_sub) | (with_reducible exact op_neg) | ((with_reducible apply op_mul); kaf_suf) | ((with_reducible apply op_mod); kaf_suf) | ((with_reducible apply op_div); kaf_suf; rfl) | (with_reducible exact op_eqI) | (with_reducible exact op_ltI) | (with_reducible exact op_gtI) | (with_reducible exact op_geI) | (with_reducible exact op_eqS) | (with_reducible exact op_neS) | ((with_reducible apply op_inS); rfl))
local macro_rules | `(tactic| lsm_bools) => `(tactic| first | (with_reducible exact cb_abs) | ((with_reducible apply cb_lenT); tlg_ne) | ((with_reducible apply cb_lenL); tlg_ne) | (with_reducible exact cb_intB) | ((with_reducible apply cb_tupL); tlg_ne))
local macro_rules | `(tactic| keq_rows) => `(tactic| fail)
local macro_rules | `(tactic| keq_hits) => `(tactic| ((with_reducible apply ev_topTup); kwd_less; k_is; k_is; exact .cons (.int _ _) (.cons (.int _ _) .nil)))
local macro_rules | `(tactic| kpc_turns) => `(tactic| first | (with_reducible exact evs_nil) | ((with_reducible apply evs_cons); kpt_turns; kpc_turns; (intro _; rfl)))
local macro_rules | `(tactic| kbo_bools) => `(tactic| first | exact TV.bool _ | exact TV.none)
local macro_rules | `(tactic| kba_ints) => `(tactic| first
  | ((with_reducible apply tr_cmp); kpt_turns; kpt_turns; kaf_pre; with_unfolding_all rfl)
  | ((with_reducible apply tr_plain); kpt_turns; kbo_bools; (intro _ _; rfl)))
local macro_rules | `(tactic| kpt_turns) => `(tactic| first
  | (with_reducible exact ev_int) | (with_reducible exact ev_bool) | (with_reducible exact ev_none) | (with_reducible exact ev_str)
  | ((with_reducible apply ev_name); krn_off)
  | ((with_reducible apply ev_binop); kpt_turns; kpt_turns; kaf_pre)
  | ((with_reducible apply ev_unop); kpt_turns; kaf_pre)
  | ((with_reducible apply ev_sub); kpt_turns; (first | ((with_reducible apply ev_lit); first | exact Lit.pos | exact Lit.neg) | kpt_turns); kas_types; decide; (intro _ _; rfl))
  | ((with_reducible apply ev_cmp); kpt_turns; kpt_turns; kaf_pre; with_unfolding_all rfl)
  | ((with_reducible apply ev_ifT); kt_ors; kpt_turns)
  | ((with_reducible apply ev_ifF); kt_ors; kpt_turns)
  | ((with_reducible apply ev_tuple); kpc_turns; tlg_ne)
  | keq_hits
  | ((with_reducible apply ev_call); k_is; k_is; kpc_turns; keq_rows; decide; kwd_less; (intro _; rfl); (intro _; rfl))
  | ((with_reducible apply ev_cB); k_is; boot_by_name; kpc_turns; lsm_bools; decide; kwd_less; (intro _; rfl); (intro _; rfl))
  | ((with_reducible apply ev_cT); k_is; boot_by_name; kpc_turns; lsm_bools; decide; kwd_less; (intro _; rfl); (intro _; rfl)))
local macro_rules | `(tactic| kwd_rel) => `(tactic| first
  | ((with_reducible apply ex_assign); kpt_turns; rfl; rfl; (intro _; rfl))
  | ((with_reducible apply ex_swap); (intros; rfl); (intro _; rfl); kpt_turns; rfl; exact locs_of rfl)
  | ((with_reducible apply ex_expr); kpt_turns; (intro _ _ _ _ _; rfl); (intro _; rfl)))
local macro_rules | `(tactic| kt_ors) => `(tactic| ((with_reducible apply tr_to); kba_ints; (first | assumption | rfl | decide +kernel)))
local macro_rules | `(tactic| kwd_inv) => `(tactic| first
  | ((with_reducible apply exs_nil'); rfl; rfl)
  | ((with_reducible apply exs_ret); (with_reducible apply ex_ret); kpt_turns)
  | ((with_reducible apply exs_ret); (with_reducible apply ex_ret0'); rfl; rfl)
  | ((with_reducible apply exs_cons); kwd_rel; kwd_inv)
  | ((with_reducible apply exs_cons); (with_reducible apply ex_ifT); kt_ors; kwd_inv; kwd_inv)
  | ((with_reducible apply exs_cons); (with_reducible apply ex_ifF); kt_ors; kwd_inv; kwd_inv)
  | ((with_reducible apply exs_ret); (with_reducible apply ex_ifT); kt_ors; kwd_inv)
  | ((with_reducible apply exs_ret); (with_reducible apply ex_ifF); kt_ors; kwd_inv))
section
abbrev CaL (w : World) := Ca PySem.Challenge.rw_xm0718_01.row.prog w (Mine.kk.heap_1_1 w.params)
theorem neg_c : ∀ (w : World) (σ : Sto) (x y : Int), CaL w 1 (.ref 83) [.tup [.int x, .int y]] σ (.tup [.int (-x), .int y]) σ := by
  unfold CaL
  k_fill
  intro w σ x y
  apply ca_def (lv := 0) (xs := [(PySem.Str.ofString "a")])
  · k_is
  · k_is
  · intro sB kB vs hl; match vs, hl with | [_], _ => first | exact BindsTo.of_eq rfl | exact binds_K kB rfl (by k_is) rfl rfl rfl
  · rfl
  · exact locs_of rfl
  · rfl
  · rfl
  · rfl
  · exact noCell_of rfl
  · kwd_inv
  · rfl
noncomputable def sgn (x : Int) : Int := if x > 0 then 1 else if x < 0 then -1 else 0
theorem sign_c : ∀ (w : World) (σ : Sto) (x y : Int), CaL w 1 (.ref 90) [.tup [.int x, .int y]] σ (.int (sgn x)) σ := by
  unfold CaL
  k_fill
  intro w σ x y
  by_cases h : x > 0
  · refine ca_to (d := .int 1) ?_ (by simp [sgn, h])
    apply ca_def (lv := 0) (xs := [(PySem.Str.ofString "a")])
    · k_is
    · k_is
    · intro sB kB vs hl; match vs, hl with | [_], _ => first | exact BindsTo.of_eq rfl | exact binds_K kB rfl (by k_is) rfl rfl rfl
    · rfl
    · exact locs_of rfl
    · rfl
    · rfl
    · rfl
    · exact noCell_of rfl
    · apply exs_ret
      apply ex_ifT
      · apply tr_to
        · kba_ints
        · simpa using h
      · kwd_inv
    · rfl
  · by_cases h2 : x < 0
    · refine ca_to (d := .int (-1)) ?_ (by simp [sgn, h, h2])
      apply ca_def (lv := 0) (xs := [(PySem.Str.ofString "a")])
      · k_is
      · k_is
      · intro sB kB vs hl; match vs, hl with | [_], _ => first | exact BindsTo.of_eq rfl | exact binds_K kB rfl (by k_is) rfl rfl rfl
      · rfl
      · exact locs_of rfl
      · rfl
      · rfl
      · rfl
      · exact noCell_of rfl
      · apply exs_cons
        · apply ex_ifF
          · apply tr_to
            · kba_ints
            · simpa using h
          · exact exs_nil
        · apply exs_ret
          apply ex_ifT
          · apply tr_to
            · kba_ints
            · simpa using h2
          · kwd_inv
      · rfl
    · refine ca_to (d := .int 0) ?_ (by simp [sgn, h, h2])
      apply ca_def (lv := 0) (xs := [(PySem.Str.ofString "a")])
      · k_is
      · k_is
      · intro sB kB vs hl; match vs, hl with | [_], _ => first | exact BindsTo.of_eq rfl | exact binds_K kB rfl (by k_is) rfl rfl rfl
      · rfl
      · exact locs_of rfl
      · rfl
      · rfl
      · rfl
      · exact noCell_of rfl
      · apply exs_cons
        · apply ex_ifF
          · apply tr_to
            · kba_ints
            · simpa using h
          · exact exs_nil
        · apply exs_cons
          · apply ex_ifF
            · apply tr_to
              · kba_ints
              · simpa using h2
            · exact exs_nil
          · kwd_inv
      · rfl
theorem cd_loop {prog : Program} {w : World} {K : Frag} {S : Sc} {lv : Nat} {σ : Sto} {test : PySem.Expr} {body : List PySem.Stmt}
    (ht : ∀ (φ : Fl') (a b : Int), φ.lookup (PySem.Str.ofString "first") = some (.int a) → φ.lookup (PySem.Str.ofString "second") = some (.int b) → Tr prog w K S lv φ σ test (decide (b > 0)) σ)
    (hb : ∀ (φ : Fl') (a b : Int), b > 0 → φ.lookup (PySem.Str.ofString "first") = some (.int a) → φ.lookup (PySem.Str.ofString "second") = some (.int b) → Exs prog w K S lv φ σ body .next ([(PySem.Str.ofString "first"), (PySem.Str.ofString "second")].zip [.int b, .int (a.fmod b)] ++ φ) σ) :
    ∀ (n : Nat) (a b : Int) (φ : Fl'), 0 ≤ a → 0 ≤ b → b.toNat ≤ n → φ.lookup (PySem.Str.ofString "first") = some (.int a) → φ.lookup (PySem.Str.ofString "second") = some (.int b) → ∃ k φ', Wh prog w K S lv test body k φ σ φ' σ ∧ φ'.lookup (PySem.Str.ofString "first") = some (.int (Int.gcd a b)) := by
  intro n
  induction n with
  | zero =>
    intro a b φ ha hb0 hn h1 h2
    have e : b = 0 := by omega
    subst e
    refine ⟨0, φ, .done (by simpa using ht φ a 0 h1 h2), ?_⟩
    rw [h1, Int.gcd_zero_right]
    congr 2
    omega
  | succ n ih =>
    intro a b φ ha hb0 hn h1 h2
    by_cases h : b = 0
    · subst h
      refine ⟨0, φ, .done (by simpa using ht φ a 0 h1 h2), ?_⟩
      rw [h1, Int.gcd_zero_right]
      congr 2
      omega
    · have hp : b > 0 := by omega
      have m1 := Int.emod_nonneg a h
      have m2 := Int.emod_lt_of_pos a hp
      have e : a.fmod b = a % b := Int.fmod_eq_emod_of_nonneg a hb0
      obtain ⟨k, φ', hw, hf⟩ := ih b (a.fmod b) _ hb0 (by omega) (by omega) (show ([(PySem.Str.ofString "first"), (PySem.Str.ofString "second")].zip [PV.int b, .int (a.fmod b)] ++ φ).lookup (PySem.Str.ofString "first") = some (.int b) from rfl) (show ([(PySem.Str.ofString "first"), (PySem.Str.ofString "second")].zip [PV.int b, .int (a.fmod b)] ++ φ).lookup (PySem.Str.ofString "second") = some (.int (a.fmod b)) from rfl)
      refine ⟨k + 1, φ', .turn (by simpa [hp] using ht φ a b h1 h2) (hb φ a b hp h1 h2) hw, ?_⟩
      rw [hf, e, Int.emod_def, Int.gcd_sub_mul_left_right, Int.gcd_comm]
theorem gcd_abs (a b : Int) : Int.gcd (if a < 0 then -a else a) b = Int.gcd a b := by split <;> simp
theorem cd_c : ∀ (w : World) (σ : Sto) (a b : Int), 0 ≤ b → CaL w 1 (.ref 54) [.int a, .int b] σ (.int (Int.gcd a b)) σ := by
  unfold CaL
  k_fill
  intro w σ a b hb
  have key : ∀ (S : Sc) (test : PySem.Expr) (body : List PySem.Stmt) (φ : Fl') (p p' p2 : Pos), (∀ (φ : Fl') (a b : Int), φ.lookup (PySem.Str.ofString "first") = some (.int a) → φ.lookup (PySem.Str.ofString "second") = some (.int b) → Tr PySem.Challenge.rw_xm0718_01.row.prog w (Mine.kk.heap_1_1 w.params) S 0 φ σ test (decide (b > 0)) σ) →
      (∀ (φ : Fl') (a b : Int), b > 0 → φ.lookup (PySem.Str.ofString "first") = some (.int a) → φ.lookup (PySem.Str.ofString "second") = some (.int b) → Exs PySem.Challenge.rw_xm0718_01.row.prog w (Mine.kk.heap_1_1 w.params) S 0 φ σ body .next ([(PySem.Str.ofString "first"), (PySem.Str.ofString "second")].zip [.int b, .int (a.fmod b)] ++ φ) σ) →
      φ.lookup (PySem.Str.ofString "first") = some (.int (if a < 0 then -a else a)) → φ.lookup (PySem.Str.ofString "second") = some (.int b) →
      Exs PySem.Challenge.rw_xm0718_01.row.prog w (Mine.kk.heap_1_1 w.params) S 0 φ σ [.While test body [] p, .Return (some (.Name (PySem.Str.ofString "first") p')) p2] (.ret (.int (Int.gcd a b))) [] σ := by
    intro S test body φ p p' p2 ht hb' h1 h2
    obtain ⟨k, φ', hw, hf⟩ := cd_loop ht hb' b.toNat _ b φ (by split <;> omega) hb (Nat.le_refl _) h1 h2
    rw [gcd_abs] at hf
    exact exs_forget (exs_cons (ex_while hw) (exs_ret (ex_ret (ev_name hf))))
  apply ca_def (lv := 0) (xs := [(PySem.Str.ofString "one"), (PySem.Str.ofString "other")])
  · k_is
  · k_is
  · intro sB kB vs hl; match vs, hl with | [_, _], _ => first | exact BindsTo.of_eq rfl | exact binds_K kB rfl (by k_is) rfl rfl rfl
  · rfl
  · exact locs_of rfl
  · rfl
  · rfl
  · rfl
  · exact noCell_of rfl
  · apply exs_cons
    · kwd_rel
    · apply key
      · intro φ a b h1 h2
        kba_ints
      · intro φ a b hb h1 h2
        have hb' : b ≠ 0 := by omega
        kwd_inv
      · rfl
      · rfl
  · rfl

/-- t / b with the common divisor out -/
noncomputable def fracP (t b : Int) : PV := .tup [.int (t.fdiv (Int.gcd t b)), .int (b.fdiv (Int.gcd t b))]
theorem fraction_c : ∀ (w : World) (σ : Sto) (t b : Int), 0 < b → CaL w 2 (.ref 62) [.int t, .int b] σ (fracP t b) σ := by
  unfold CaL
  k_fill
  intro w σ t b hb
  have hb0 : 0 ≤ b := by omega
  have hg : ((Int.gcd t b : Nat) : Int) ≠ 0 := by
    have := Int.gcd_pos_of_ne_zero_right t (b := b) (by omega)
    omega
  apply ca_def (lv := 1) (xs := [(PySem.Str.ofString "top"), (PySem.Str.ofString "bottom")])
  · k_is
  · k_is
  · intro sB kB vs hl; match vs, hl with | [_, _], _ => first | exact BindsTo.of_eq rfl | exact binds_K kB rfl (by k_is) rfl rfl rfl
  · rfl
  · exact locs_of rfl
  · rfl
  · rfl
  · rfl
  · exact noCell_of rfl
  · apply exs_cons
    · apply ex_ifF
      · apply tr_to
        · kba_ints
        · simp; omega
      · exact exs_nil
    · apply exs_cons
      · apply ex_ifF
        · apply tr_to
          · kba_ints
          · simp; omega
        · exact exs_nil
      · apply exs_cons
        · apply ex_assign
          · apply ev_call
            · k_is
            · k_is
            · kpc_turns
            · exact cd_c w σ t b hb0
            · decide
            · kwd_less
            · intro _; rfl
            · intro _; rfl
          · rfl
          · rfl
          · intro _; rfl
        · kwd_inv
  · rfl
end
section
/-- n twelfths, the common share out -/
noncomputable def gI (n : Int) : Int := (Int.gcd n 12 : Nat)
noncomputable def told (n : Int) : PV := .tup [.int (n.fdiv (gI n)), .int (Int.fdiv 12 (gI n))]
theorem gI_dvd (n : Int) : gI n ∣ n ∧ gI n ∣ 12 := ⟨Int.gcd_dvd_left n 12, Int.gcd_dvd_right n 12⟩
theorem gI_pos (n : Int) : 0 < gI n := by
  have := Int.gcd_pos_of_ne_zero_right n (b := 12) (by decide)
  unfold gI; omega
theorem gI_le (n : Int) : gI n ≤ 12 := Int.gcd_le_right n (by decide)
theorem gI_mem (n : Int) : gI n = 1 ∨ gI n = 2 ∨ gI n = 3 ∨ gI n = 4 ∨ gI n = 6 ∨ gI n = 12 := by
  have h := (gI_dvd n).2
  have h1 := gI_pos n
  have h2 := gI_le n
  generalize gI n = g at *
  have : g = 1 ∨ g = 2 ∨ g = 3 ∨ g = 4 ∨ g = 5 ∨ g = 6 ∨ g = 7 ∨ g = 8 ∨ g = 9 ∨ g = 10 ∨ g = 11 ∨ g = 12 := by omega
  rcases this with rfl | rfl | rfl | rfl | rfl | rfl | rfl | rfl | rfl | rfl | rfl | rfl <;> first | omega | (exfalso; revert h; decide)
/-- the parts of a told number -/
theorem told_parts (n : Int) : ∃ x q : Int, told n = .tup [.int x, .int q] ∧ x * gI n = n ∧ q * gI n = 12 ∧ 0 < q ∧ q ≤ 12 := by
  have hp := gI_pos n
  refine ⟨_, _, rfl, ?_, ?_, ?_, ?_⟩
  · rw [Int.fdiv_eq_ediv_of_nonneg _ (by omega)]; exact Int.ediv_mul_cancel (gI_dvd n).1
  · rw [Int.fdiv_eq_ediv_of_nonneg _ (by omega)]; exact Int.ediv_mul_cancel (gI_dvd n).2
  · rcases gI_mem n with h | h | h | h | h | h <;> rw [h] <;> decide
  · rcases gI_mem n with h | h | h | h | h | h <;> rw [h] <;> decide
theorem frac_scale (k t b : Int) (hk : 0 < k) (hb : 0 < b) : fracP (k * t) (k * b) = fracP t b := by
  unfold fracP
  have e : ((Int.gcd (k * t) (k * b) : Nat) : Int) = k * (Int.gcd t b : Nat) := by
    rw [Int.gcd_mul_left]; push_cast; rw [Int.natAbs_of_nonneg (by omega)]
  have hg : 0 < ((Int.gcd t b : Nat) : Int) := by
    have := Int.gcd_pos_of_ne_zero_right t (b := b) (by omega)
    omega
  rw [e]
  have hkg : 0 ≤ k * (Int.gcd t b : Nat) := Int.le_of_lt (Int.mul_pos hk hg)
  rw [Int.fdiv_eq_ediv_of_nonneg _ hkg, Int.fdiv_eq_ediv_of_nonneg _ hkg, Int.fdiv_eq_ediv_of_nonneg _ (Int.le_of_lt hg), Int.fdiv_eq_ediv_of_nonneg _ (Int.le_of_lt hg), Int.mul_ediv_mul_of_pos _ _ hk, Int.mul_ediv_mul_of_pos _ _ hk]
theorem told_frac (n : Int) : told n = fracP n 12 := rfl
theorem told_add {a b x q y p : Int} (h1 : x * gI a = a) (h2 : q * gI a = 12) (h3 : y * gI b = b) (h4 : p * gI b = 12) (hq : 0 < q) (hp : 0 < p) : fracP (x * p + y * q) (q * p) = told (a + b) := by
  rw [told_frac, ← frac_scale 12 (a + b) 12 (by decide) (by decide), ← frac_scale (gI a * gI b) _ _ (Int.mul_pos (gI_pos a) (gI_pos b)) (Int.mul_pos hq hp)]
  have e1 : gI a * gI b * (x * p + y * q) = 12 * (a + b) := by
    calc gI a * gI b * (x * p + y * q) = (x * gI a) * (p * gI b) + (y * gI b) * (q * gI a) := by grind
      _ = 12 * (a + b) := by rw [h1, h2, h3, h4]; omega
  have e2 : gI a * gI b * (q * p) = 12 * 12 := by
    calc gI a * gI b * (q * p) = (q * gI a) * (p * gI b) := by grind
      _ = 12 * 12 := by rw [h2, h4]
  rw [e1, e2]
theorem told_sub {a b x q y p : Int} (h1 : x * gI a = a) (h2 : q * gI a = 12) (h3 : y * gI b = b) (h4 : p * gI b = 12) (hq : 0 < q) (hp : 0 < p) : fracP (x * p - y * q) (q * p) = told (a - b) := by
  rw [told_frac, ← frac_scale 12 (a - b) 12 (by decide) (by decide), ← frac_scale (gI a * gI b) _ _ (Int.mul_pos (gI_pos a) (gI_pos b)) (Int.mul_pos hq hp)]
  have e1 : gI a * gI b * (x * p - y * q) = 12 * (a - b) := by
    calc gI a * gI b * (x * p - y * q) = (x * gI a) * (p * gI b) - (y * gI b) * (q * gI a) := by grind
      _ = 12 * (a - b) := by rw [h1, h2, h3, h4]; omega
  have e2 : gI a * gI b * (q * p) = 12 * 12 := by
    calc gI a * gI b * (q * p) = (q * gI a) * (p * gI b) := by grind
      _ = 12 * 12 := by rw [h2, h4]
  rw [e1, e2]
theorem plus_t : ∀ (w : World) (σ : Sto) (a b : Int), CaL w 3 (.ref 69) [told a, told b] σ (told (a + b)) σ := by
  unfold CaL
  k_fill
  intro w σ a b
  obtain ⟨x, q, e1, h1, h2, hq, hq'⟩ := told_parts a
  obtain ⟨y, p, e2, h3, h4, hp, hp'⟩ := told_parts b
  rw [e1, e2, ← told_add h1 h2 h3 h4 hq hp]
  have hpq : 0 < q * p := Int.mul_pos hq hp
  apply ca_def (lv := 2) (xs := [(PySem.Str.ofString "a"), (PySem.Str.ofString "b")])
  · k_is
  · k_is
  · intro sB kB vs hl; match vs, hl with | [_, _], _ => first | exact BindsTo.of_eq rfl | exact binds_K kB rfl (by k_is) rfl rfl rfl
  · rfl
  · exact locs_of rfl
  · rfl
  · rfl
  · rfl
  · exact noCell_of rfl
  · apply exs_ret
    apply ex_ret
    apply ev_call
    · k_is
    · k_is
    · kpc_turns
    · exact fraction_c w σ _ _ hpq
    · decide
    · kwd_less
    · intro _; rfl
    · intro _; rfl
  · rfl
theorem minus_t : ∀ (w : World) (σ : Sto) (a b : Int), CaL w 3 (.ref 76) [told a, told b] σ (told (a - b)) σ := by
  unfold CaL
  k_fill
  intro w σ a b
  obtain ⟨x, q, e1, h1, h2, hq, hq'⟩ := told_parts a
  obtain ⟨y, p, e2, h3, h4, hp, hp'⟩ := told_parts b
  rw [e1, e2, ← told_sub h1 h2 h3 h4 hq hp]
  have hpq : 0 < q * p := Int.mul_pos hq hp
  apply ca_def (lv := 2) (xs := [(PySem.Str.ofString "a"), (PySem.Str.ofString "b")])
  · k_is
  · k_is
  · intro sB kB vs hl; match vs, hl with | [_, _], _ => first | exact BindsTo.of_eq rfl | exact binds_K kB rfl (by k_is) rfl rfl rfl
  · rfl
  · exact locs_of rfl
  · rfl
  · rfl
  · rfl
  · exact noCell_of rfl
  · apply exs_ret
    apply ex_ret
    apply ev_call
    · k_is
    · k_is
    · kpc_turns
    · exact fraction_c w σ _ _ hpq
    · decide
    · kwd_less
    · intro _; rfl
    · intro _; rfl
  · rfl
end
section
local macro_rules | `(tactic| keq_rows) => `(tactic| first | (with_reducible exact plus_t _ _ _ _) | (with_reducible exact minus_t _ _ _ _) | (with_reducible exact sign_c _ _ _ _) | (with_reducible exact neg_c _ _ _ _) | exact plus_t _ _ _ _ | exact minus_t _ _ _ _ | exact sign_c _ _ _ _ | exact neg_c _ _ _ _)
theorem told0 : told 0 = .tup [.int 0, .int 1] := rfl
theorem sgn_mul (x g : Int) (hg : 0 < g) : sgn (x * g) = sgn x := by
  unfold sgn
  by_cases h1 : x > 0
  · have := Int.mul_pos h1 hg
    simp [h1, this]
  · by_cases h2 : x < 0
    · have := Int.mul_neg_of_neg_of_pos h2 hg
      rw [if_neg (by omega), if_pos this, if_neg h1, if_pos h2]
    · have : x = 0 := by omega
      subst this
      simp
theorem told_neg (n : Int) : ∀ x q : Int, told n = .tup [.int x, .int q] → told (-n) = .tup [.int (-x), .int q] := by
  intro x q e
  have hp := gI_pos n
  have hg : gI (-n) = gI n := by unfold gI; simp
  unfold told at e ⊢
  rw [hg]
  injection e with e
  injection e with e1 e2
  injection e1 with e1
  injection e2 with e2 e3
  rw [← e1, e2, Int.fdiv_eq_ediv_of_nonneg (-n) (by omega), Int.fdiv_eq_ediv_of_nonneg n (by omega), Int.neg_ediv_of_dvd (gI_dvd n).1]
theorem neg_t (w : World) (σ : Sto) (n : Int) : CaL w 1 (.ref 83) [told n] σ (told (-n)) σ := by
  obtain ⟨x, q, e1, h1, h2, hq, hq'⟩ := told_parts n
  rw [told_neg n x q e1, e1]
  exact neg_c w σ x q
theorem compare_z : ∀ (w : World) (σ : Sto) (n : Int), CaL w 2 (.ref 97) [told n, told 0] σ (.int (sgn n)) σ := by
  unfold CaL
  k_fill
  intro w σ n
  obtain ⟨x, q, e1, h1, h2, hq, hq'⟩ := told_parts n
  have e : sgn n = sgn (x * 1 - 0 * q) := by rw [← h1, sgn_mul _ _ (gI_pos n)]; congr 1; omega
  rw [e1, told0, e]
  apply ca_def (lv := 1) (xs := [(PySem.Str.ofString "a"), (PySem.Str.ofString "b")])
  · k_is
  · k_is
  · intro sB kB vs hl; match vs, hl with | [_, _], _ => first | exact BindsTo.of_eq rfl | exact binds_K kB rfl (by k_is) rfl rfl rfl
  · rfl
  · exact locs_of rfl
  · rfl
  · rfl
  · rfl
  · exact noCell_of rfl
  · kwd_inv
  · rfl
theorem size_c : ∀ (w : World) (σ : Sto) (n : Int), CaL w 3 (.ref 111) [told n] σ (told (if n < 0 then -n else n)) σ := by
  unfold CaL
  k_fill
  intro w σ n
  by_cases h : n < 0
  · rw [if_pos h]
    obtain ⟨x, q, e1, h1, h2, hq, hq'⟩ := told_parts n
    apply ca_def (lv := 2) (xs := [(PySem.Str.ofString "number")])
    · k_is
    · k_is
    · intro sB kB vs hl; match vs, hl with | [_], _ => first | exact BindsTo.of_eq rfl | exact binds_K kB rfl (by k_is) rfl rfl rfl
    · rfl
    · exact locs_of rfl
    · rfl
    · rfl
    · rfl
    · exact noCell_of rfl
    · apply exs_ret
      apply ex_ret
      apply ev_ifT
      · apply tr_to (b := decide (sgn n < 0))
        · apply tr_cmp
          · apply ev_call
            · k_is
            · k_is
            · kpc_turns
            · exact compare_z w _ n
            · decide
            · kwd_less
            · intro _; rfl
            · intro _; rfl
          · kpt_turns
          · kaf_pre
          · with_unfolding_all rfl
        · simp [sgn, h, show ¬ n > 0 by omega]
      · apply ev_call
        · k_is
        · k_is
        · kpc_turns
        · exact neg_t w _ n
        · decide
        · kwd_less
        · intro _; rfl
        · intro _; rfl
    · rfl
  · rw [if_neg h]
    apply ca_def (lv := 2) (xs := [(PySem.Str.ofString "number")])
    · k_is
    · k_is
    · intro sB kB vs hl; match vs, hl with | [_], _ => first | exact BindsTo.of_eq rfl | exact binds_K kB rfl (by k_is) rfl rfl rfl
    · rfl
    · exact locs_of rfl
    · rfl
    · rfl
    · rfl
    · exact noCell_of rfl
    · apply exs_ret
      apply ex_ret
      apply ev_ifF
      · apply tr_to (b := decide (sgn n < 0))
        · apply tr_cmp
          · apply ev_call
            · k_is
            · k_is
            · kpc_turns
            · exact compare_z w _ n
            · decide
            · kwd_less
            · intro _; rfl
            · intro _; rfl
          · kpt_turns
          · kaf_pre
          · with_unfolding_all rfl
        · unfold sgn; split <;> simp
      · kpt_turns
    · rfl
noncomputable def spot (p : Int × Int) : PV := .tup [told p.1, told p.2]
noncomputable def mirr (h c : Int × Int) : Int × Int := (2 * h.1 - c.1, 2 * h.2 - c.2)
theorem mirrored_c : ∀ (w : World) (σ : Sto) (h c : Int × Int), CaL w 4 (.ref 104) [spot h, spot c] σ (spot (mirr h c)) σ := by
  unfold CaL
  k_fill
  intro w σ h c
  have e : spot (mirr h c) = .tup [told (h.1 + h.1 - c.1), told (h.2 + h.2 - c.2)] := by unfold spot mirr; rw [show 2 * h.1 - c.1 = h.1 + h.1 - c.1 by omega, show 2 * h.2 - c.2 = h.2 + h.2 - c.2 by omega]
  rw [e]
  apply ca_def (lv := 3) (xs := [(PySem.Str.ofString "here"), (PySem.Str.ofString "control")])
  · k_is
  · k_is
  · intro sB kB vs hl; match vs, hl with | [_, _], _ => first | exact BindsTo.of_eq rfl | exact binds_K kB rfl (by k_is) rfl rfl rfl
  · rfl
  · exact locs_of rfl
  · rfl
  · rfl
  · rfl
  · exact noCell_of rfl
  · kwd_inv
  · rfl
theorem pen_cls : ∀ (w : World), Cls (Mine.kk.heap_1_1 w.params) 184 ∧ PySem.Challenge.rw_xm0718_01 = PySem.Challenge.rw_xm0718_01 := by
  k_fill
  intro w
  exact ⟨⟨by k_is, by k_is, by k_is, by k_is⟩, rfl⟩
end
section
local macro_rules | `(tactic| keq_hits) => `(tactic| first
  | ((with_reducible apply ev_topTup); kwd_less; k_is; k_is; exact .cons (.int _ _) (.cons (.int _ _) .nil))
  | ((with_reducible apply ev_pget); kpt_turns; exact (pen_cls _).1; rfl; k_is; (intro _; rfl))
  | ((with_reducible apply ev_pappend); kpt_turns; exact (pen_cls _).1; rfl; k_is; (intro _; rfl); kpt_turns; tlg_ne; (intro _; exact ⟨_, rfl⟩); (intro _; rfl))
  | ((with_reducible apply ev_pcall); kpt_turns; exact (pen_cls _).1; rfl; k_is; k_is; k_is; kpc_turns; keq_rows; decide; (intro _; exact ⟨_, rfl⟩); (intro _; rfl); (intro _; rfl))
  | ((with_reducible apply ev_pcall0); kpt_turns; exact (pen_cls _).1; rfl; k_is; k_is; k_is; keq_rows; decide; (intro _; exact ⟨_, rfl⟩)))
local macro_rules | `(tactic| kwd_rel) => `(tactic| first
  | ((with_reducible apply ex_assign); kpt_turns; rfl; rfl; (intro _; rfl))
  | ((with_reducible apply ex_swap); (intros; rfl); (intro _; rfl); kpt_turns; rfl; exact locs_of rfl)
  | ((with_reducible apply ex_expr); kpt_turns; (intro _ _ _ _ _; rfl); (intro _; rfl))
  | ((with_reducible apply ex_pset); kpt_turns; kpt_turns; exact (pen_cls _).1; k_is; tlg_ne; (intro _; rfl)))
local macro_rules | `(tactic| keq_rows) => `(tactic| first | (with_reducible exact plus_t _ _ _ _) | (with_reducible exact minus_t _ _ _ _) | (with_reducible exact sign_c _ _ _ _) | (with_reducible exact neg_c _ _ _ _) | (with_reducible exact mirrored_c _ _ _ _) | (with_reducible exact size_c _ _ _) | exact plus_t _ _ _ _ | exact minus_t _ _ _ _ | exact sign_c _ _ _ _ | exact neg_c _ _ _ _ | exact mirrored_c _ _ _ _ | exact size_c _ _ _)
structure PS where
  here : Int × Int
  start : Int × Int
  control : Option (Int × Int)
  kind : PySem.Str
  closed : Bool
noncomputable def ctl : Option (Int × Int) → PV
  | none => .none
  | some p => spot p
noncomputable def penF (n : Nat) (s : PS) : Fl' := [((PySem.Str.ofString "here"), spot s.here), ((PySem.Str.ofString "start"), spot s.start), ((PySem.Str.ofString "control"), ctl s.control), ((PySem.Str.ofString "kind"), .str s.kind), ((PySem.Str.ofString "is_closed"), .bool s.closed), ((PySem.Str.ofString "found"), .ref (n + 2))]
noncomputable abbrev SPn (p : Sto) (s : PS) (l : List PV) (q : Sto) : Sto := SP 184 p (penF p.length s) l q
noncomputable def ps0 : PS := ⟨(0, 0), (0, 0), none, PySem.Str.ofString "", false⟩
theorem pen_new : ∀ (w : World) (p : Sto), CaL w 2 (.ref 184) [] p (.ref p.length) (SPn p ps0 [] []) := by
  unfold CaL
  k_fill
  intro w p
  apply ca_new (lv := 0) (xs := [(PySem.Str.ofString "self")])
  · k_is
  · k_is
  · k_is
  · k_is
  · k_is
  · intro sB kB vs hl; match vs, hl with | [_], _ => exact BindsTo.of_eq rfl
  · rfl
  · exact locs_of rfl
  · rfl
  · rfl
  · rfl
  · exact noCell_of rfl
  · show Exs _ _ _ _ _ _ (SP2 184 p []) _ _ _ _
    apply exs_cons
    · apply ex_pset2
      · kpt_turns
      · kpt_turns
      · exact (pen_cls _).1
      · k_is
      · tlg_ne
      · intro _; rfl
    · apply exs_cons
      · apply ex_pset2
        · kpt_turns
        · kpt_turns
        · exact (pen_cls _).1
        · k_is
        · tlg_ne
        · intro _; rfl
      · apply exs_cons
        · apply ex_pset2
          · kpt_turns
          · kpt_turns
          · exact (pen_cls _).1
          · k_is
          · tlg_ne
          · intro _; rfl
        · apply exs_cons
          · apply ex_pset2
            · kpt_turns
            · kpt_turns
            · exact (pen_cls _).1
            · k_is
            · tlg_ne
            · intro _; rfl
          · apply exs_cons
            · apply ex_pset2
              · kpt_turns
              · kpt_turns
              · exact (pen_cls _).1
              · k_is
              · tlg_ne
              · intro _; rfl
            · apply exs_cons
              · apply ex_pset
                · apply ev_pnew
                  · kpc_turns
                  · tlg_ne
                · kpt_turns
                · exact (pen_cls _).1
                · k_is
                · tlg_ne
                · intro _; rfl
              · exact exs_nil
theorem point_c : ∀ (w : World) (p q : Sto) (s : PS) (l : List PV) (rel : Bool) (x y : Int), CaL w 4 (.ref 132) [.ref p.length, .bool rel, told x, told y] (SPn p s l q) (spot (if rel then (s.here.1 + x, s.here.2 + y) else (x, y))) (SPn p s l q) := by
  unfold CaL
  k_fill
  intro w p q s l rel x y
  cases rel with
  | true =>
    apply ca_def (lv := 3) (xs := [(PySem.Str.ofString "self"), (PySem.Str.ofString "is_relative"), (PySem.Str.ofString "x"), (PySem.Str.ofString "y")])
    · k_is
    · k_is
    · intro sB kB vs hl; match vs, hl with | [_, _, _, _], _ => first | exact BindsTo.of_eq rfl | exact binds_K kB rfl (by k_is) rfl rfl rfl
    · rfl
    · exact locs_of rfl
    · rfl
    · rfl
    · rfl
    · exact noCell_of rfl
    · apply exs_ret
      apply ex_ifT
      · kba_ints
      · kwd_inv
    · rfl
  | false =>
    apply ca_def (lv := 3) (xs := [(PySem.Str.ofString "self"), (PySem.Str.ofString "is_relative"), (PySem.Str.ofString "x"), (PySem.Str.ofString "y")])
    · k_is
    · k_is
    · intro sB kB vs hl; match vs, hl with | [_, _, _, _], _ => first | exact BindsTo.of_eq rfl | exact binds_K kB rfl (by k_is) rfl rfl rfl
    · rfl
    · exact locs_of rfl
    · rfl
    · rfl
    · rfl
    · exact noCell_of rfl
    · apply exs_cons
      · apply ex_ifF
        · kba_ints
        · exact exs_nil
      · kwd_inv
    · rfl
noncomputable def aheadL (s : PS) (b : Bool) : List PV := if s.closed && b then [.tup [.str (PySem.Str.ofString "move"), spot s.here]] else []
/-- put, of a segment with the given last point -/
theorem put_c : ∀ (w : World) (p q : Sto) (s : PS) (l pre : List PV) (nm : PySem.Str) (e : Int × Int), l.length ≤ 1000 → CaL w 1 (.ref 139) [.ref p.length, .tup (.str nm :: (pre ++ [spot e]))] (SPn p s l q) .none (SPn p { s with closed := false, here := e, kind := PySem.Str.ofString "" } (l ++ aheadL s (nm != (PySem.Str.ofString "move")) ++ [.tup (.str nm :: (pre ++ [spot e]))]) q) := by
  unfold CaL
  k_fill
  intro w p q s l pre nm e hl
  have j0 : seqIndex? 0 (PV.str nm :: (pre ++ [spot e])).length = some 0 := by simp [seqIndex?]; omega
  have j1 : seqIndex? (-1) (PV.str nm :: (pre ++ [spot e])).length = some (pre.length + 1) := by
    simp [seqIndex?]; omega
  have g1 : (PV.str nm :: (pre ++ [spot e]))[pre.length + 1]? = some (spot e) := by simp
  cases hc : s.closed with
  | true =>
    cases hn : (nm != (PySem.Str.ofString "move")) with
    | true =>
      have ea : aheadL s true = [.tup [.str (PySem.Str.ofString "move"), spot s.here]] := by simp [aheadL, hc]
      rw [ea]
      apply ca_def (lv := 0) (xs := [(PySem.Str.ofString "self"), (PySem.Str.ofString "segment")])
      · k_is
      · k_is
      · intro sB kB vs hl; match vs, hl with | [_, _], _ => first | exact BindsTo.of_eq rfl | exact binds_K kB rfl (by k_is) rfl rfl rfl
      · rfl
      · exact locs_of rfl
      · rfl
      · rfl
      · rfl
      · exact noCell_of rfl
      · apply exs_cons
        · apply ex_ifT
          · apply tr_and_true
            · apply tr_to
              · kba_ints
              · exact hc
            · apply tr_and_true
              · apply tr_to
                · apply tr_cmp
                  · apply ev_sub
                    · kpt_turns
                    · exact ev_lit .pos
                    · exact .tup j0 rfl
                    · decide
                    · intro _ _; rfl
                  · kpt_turns
                  · kaf_pre
                  · with_unfolding_all rfl
                · exact hn
              · exact tr_and_nil
          · kwd_inv
        · apply exs_cons
          · kwd_rel
          · apply exs_cons
            · kwd_rel
            · apply exs_cons
              · apply ex_pset
                · apply ev_sub
                  · kpt_turns
                  · exact ev_lit .neg
                  · exact .tup j1 g1
                  · decide
                  · intro _ _; rfl
                · kpt_turns
                · exact (pen_cls _).1
                · k_is
                · tlg_ne
                · intro _; rfl
              · kwd_inv
      · rfl
    | false =>
      have ea : aheadL s false = [] := by simp [aheadL]
      rw [ea, List.append_nil]
      apply ca_def (lv := 0) (xs := [(PySem.Str.ofString "self"), (PySem.Str.ofString "segment")])
      · k_is
      · k_is
      · intro sB kB vs hl; match vs, hl with | [_, _], _ => first | exact BindsTo.of_eq rfl | exact binds_K kB rfl (by k_is) rfl rfl rfl
      · rfl
      · exact locs_of rfl
      · rfl
      · rfl
      · rfl
      · exact noCell_of rfl
      · apply exs_cons
        · apply ex_ifF
          · apply tr_and_true
            · apply tr_to
              · kba_ints
              · exact hc
            · apply tr_and_false
              · apply tr_to
                · apply tr_cmp
                  · apply ev_sub
                    · kpt_turns
                    · exact ev_lit .pos
                    · exact .tup j0 rfl
                    · decide
                    · intro _ _; rfl
                  · kpt_turns
                  · kaf_pre
                  · with_unfolding_all rfl
                · exact hn
          · exact exs_nil
        · apply exs_cons
          · kwd_rel
          · apply exs_cons
            · kwd_rel
            · apply exs_cons
              · apply ex_pset
                · apply ev_sub
                  · kpt_turns
                  · exact ev_lit .neg
                  · exact .tup j1 g1
                  · decide
                  · intro _ _; rfl
                · kpt_turns
                · exact (pen_cls _).1
                · k_is
                · tlg_ne
                · intro _; rfl
              · kwd_inv
      · rfl
  | false =>
      have ea : aheadL s (nm != (PySem.Str.ofString "move")) = [] := by simp [aheadL, hc]
      rw [ea, List.append_nil]
      apply ca_def (lv := 0) (xs := [(PySem.Str.ofString "self"), (PySem.Str.ofString "segment")])
      · k_is
      · k_is
      · intro sB kB vs hl; match vs, hl with | [_, _], _ => first | exact BindsTo.of_eq rfl | exact binds_K kB rfl (by k_is) rfl rfl rfl
      · rfl
      · exact locs_of rfl
      · rfl
      · rfl
      · rfl
      · exact noCell_of rfl
      · apply exs_cons
        · apply ex_ifF
          · apply tr_and_false
            · apply tr_to
              · kba_ints
              · exact hc
          · exact exs_nil
        · apply exs_cons
          · kwd_rel
          · apply exs_cons
            · kwd_rel
            · apply exs_cons
              · apply ex_pset
                · apply ev_sub
                  · kpt_turns
                  · exact ev_lit .neg
                  · exact .tup j1 g1
                  · decide
                  · intro _ _; rfl
                · kpt_turns
                · exact (pen_cls _).1
                · k_is
                · tlg_ne
                · intro _; rfl
              · kwd_inv
      · rfl
theorem move_c : ∀ (w : World) (p q : Sto) (s : PS) (l : List PV) (e : Int × Int), l.length ≤ 1000 → CaL w 2 (.ref 146) [.ref p.length, spot e] (SPn p s l q) .none (SPn p { s with closed := false, here := e, start := e, kind := PySem.Str.ofString "" } (l ++ [.tup [.str (PySem.Str.ofString "move"), spot e]]) q) := by
  unfold CaL
  k_fill
  intro w p q s l e hl
  have h := put_c w p q s l [] (PySem.Str.ofString "move") e hl
  have ea : aheadL s ((PySem.Str.ofString "move") != (PySem.Str.ofString "move")) = [] := by simp [aheadL]
  rw [ea, List.append_nil] at h
  apply ca_def (lv := 1) (xs := [(PySem.Str.ofString "self"), (PySem.Str.ofString "p")])
  · k_is
  · k_is
  · intro sB kB vs hl; match vs, hl with | [_, _], _ => first | exact BindsTo.of_eq rfl | exact binds_K kB rfl (by k_is) rfl rfl rfl
  · rfl
  · exact locs_of rfl
  · rfl
  · rfl
  · rfl
  · exact noCell_of rfl
  · apply exs_cons
    · apply ex_expr
      · apply ev_pcall
        · kpt_turns
        · exact (pen_cls _).1
        · rfl
        · k_is
        · k_is
        · k_is
        · kpc_turns
        · exact h
        · decide
        · intro _; exact ⟨_, rfl⟩
        · intro _; rfl
        · intro _; rfl
      · intro _ _ _ _ _; rfl
      · intro _; rfl
    · kwd_inv
  · rfl
theorem close_c : ∀ (w : World) (p q : Sto) (s : PS) (l : List PV), l.length ≤ 1000 → CaL w 1 (.ref 153) [.ref p.length] (SPn p s l q) .none (SPn p { s with here := s.start, closed := true, kind := PySem.Str.ofString "" } (l ++ aheadL s true ++ [.tup [.str (PySem.Str.ofString "close")]]) q) := by
  unfold CaL
  k_fill
  intro w p q s l hl
  cases hc : s.closed with
  | true =>
    have ea : aheadL s true = [.tup [.str (PySem.Str.ofString "move"), spot s.here]] := by simp [aheadL, hc]
    rw [ea]
    apply ca_def (lv := 0) (xs := [(PySem.Str.ofString "self")])
    · k_is
    · k_is
    · intro sB kB vs hl; match vs, hl with | [_], _ => first | exact BindsTo.of_eq rfl | exact binds_K kB rfl (by k_is) rfl rfl rfl
    · rfl
    · exact locs_of rfl
    · rfl
    · rfl
    · rfl
    · exact noCell_of rfl
    · apply exs_cons
      · apply ex_ifT
        · apply tr_to
          · kba_ints
          · exact hc
        · kwd_inv
      · kwd_inv
    · rfl
  | false =>
    have ea : aheadL s true = [] := by simp [aheadL, hc]
    rw [ea, List.append_nil]
    apply ca_def (lv := 0) (xs := [(PySem.Str.ofString "self")])
    · k_is
    · k_is
    · intro sB kB vs hl; match vs, hl with | [_], _ => first | exact BindsTo.of_eq rfl | exact binds_K kB rfl (by k_is) rfl rfl rfl
    · rfl
    · exact locs_of rfl
    · rfl
    · rfl
    · rfl
    · exact noCell_of rfl
    · apply exs_cons
      · apply ex_ifF
        · apply tr_to
          · kba_ints
          · exact hc
        · exact exs_nil
      · kwd_inv
    · rfl
theorem mc_yes : ∀ (w : World) (p q : Sto) (s : PS) (l : List PV) (k : PySem.Str) (c : Int × Int), s.kind = k → s.control = some c → CaL w 5 (.ref 160) [.ref p.length, .str k] (SPn p s l q) (spot (mirr s.here c)) (SPn p s l q) := by
  unfold CaL
  k_fill
  intro w p q s l k c hk hc
  have hcc : ctl s.control = spot c := by rw [hc]; rfl
  apply ca_def (lv := 4) (xs := [(PySem.Str.ofString "self"), (PySem.Str.ofString "kind")])
  · k_is
  · k_is
  · intro sB kB vs hl; match vs, hl with | [_, _], _ => first | exact BindsTo.of_eq rfl | exact binds_K kB rfl (by k_is) rfl rfl rfl
  · rfl
  · exact locs_of rfl
  · rfl
  · rfl
  · rfl
  · exact noCell_of rfl
  · apply exs_ret
    apply ex_ret
    apply ev_ifT
    · apply tr_to
      · kba_ints
      · rw [hk]; simp
    · apply ev_call
      · k_is
      · k_is
      · apply evs_cons
        · kpt_turns
        · apply evs_cons
          · apply ev_to
            · kpt_turns
            · exact hcc
          · kpc_turns
          · intro _; rfl
        · intro _; rfl
      · exact mirrored_c _ _ _ _
      · decide
      · kwd_less
      · intro _; rfl
      · intro _; rfl
  · rfl
theorem mc_no : ∀ (w : World) (p q : Sto) (s : PS) (l : List PV) (k : PySem.Str), s.kind ≠ k → CaL w 5 (.ref 160) [.ref p.length, .str k] (SPn p s l q) (spot s.here) (SPn p s l q) := by
  unfold CaL
  k_fill
  intro w p q s l k hk
  apply ca_def (lv := 4) (xs := [(PySem.Str.ofString "self"), (PySem.Str.ofString "kind")])
  · k_is
  · k_is
  · intro sB kB vs hl; match vs, hl with | [_, _], _ => first | exact BindsTo.of_eq rfl | exact binds_K kB rfl (by k_is) rfl rfl rfl
  · rfl
  · exact locs_of rfl
  · rfl
  · rfl
  · rfl
  · exact noCell_of rfl
  · apply exs_ret
    apply ex_ret
    apply ev_ifF
    · apply tr_to
      · kba_ints
      · simpa using hk
    · kpt_turns
  · rfl
end
section
local macro_rules | `(tactic| keq_hits) => `(tactic| first
  | ((with_reducible apply ev_topTup); kwd_less; k_is; k_is; exact .cons (.int _ _) (.cons (.int _ _) .nil))
  | ((with_reducible apply ev_pget); kpt_turns; exact (pen_cls _).1; rfl; k_is; (intro _; rfl))
  | ((with_reducible apply ev_pappend); kpt_turns; exact (pen_cls _).1; rfl; k_is; (intro _; rfl); kpt_turns; tlg_ne; (intro _; exact ⟨_, rfl⟩); (intro _; rfl))
  | ((with_reducible apply ev_pcall); kpt_turns; exact (pen_cls _).1; rfl; k_is; k_is; k_is; kpc_turns; keq_rows; decide; (intro _; exact ⟨_, rfl⟩); (intro _; rfl); (intro _; rfl))
  | ((with_reducible apply ev_pcall0); kpt_turns; exact (pen_cls _).1; rfl; k_is; k_is; k_is; keq_rows; decide; (intro _; exact ⟨_, rfl⟩)))
local macro_rules | `(tactic| kwd_rel) => `(tactic| first
  | ((with_reducible apply ex_assign); kpt_turns; rfl; rfl; (intro _; rfl))
  | ((with_reducible apply ex_swap); (intros; rfl); (intro _; rfl); kpt_turns; rfl; exact locs_of rfl)
  | ((with_reducible apply ex_expr); kpt_turns; (intro _ _ _ _ _; rfl); (intro _; rfl))
  | ((with_reducible apply ex_pset); kpt_turns; kpt_turns; exact (pen_cls _).1; k_is; tlg_ne; (intro _; rfl)))
local macro_rules | `(tactic| keq_rows) => `(tactic| first | (with_reducible exact plus_t _ _ _ _) | (with_reducible exact minus_t _ _ _ _) | (with_reducible exact sign_c _ _ _ _) | (with_reducible exact neg_c _ _ _ _) | (with_reducible exact mirrored_c _ _ _ _) | (with_reducible exact size_c _ _ _) | exact plus_t _ _ _ _ | exact minus_t _ _ _ _ | exact sign_c _ _ _ _ | exact neg_c _ _ _ _ | exact mirrored_c _ _ _ _ | exact size_c _ _ _)
theorem eqv_two (a b c d : Int) : PyData.eqv (PV.tup [.int a, .int b]).py (PV.tup [.int c, .int d]).py = (a == c && b == d) := by
  simp [PV.py, PV.pys, PyData.eqv, PyData.eqvAll]
theorem told_inj {a b : Int} (h : told a = told b) : a = b := by
  obtain ⟨x, q, e1, h1, h2, hq, _⟩ := told_parts a
  obtain ⟨y, p, e2, h3, h4, hp, _⟩ := told_parts b
  rw [e1, e2] at h
  injection h with h
  injection h with h5 h6
  injection h6 with h6 _
  injection h5 with h5
  injection h6 with h6
  subst h5 h6
  have : gI a = gI b := by
    have h7 : q * gI a = q * gI b := by rw [h2, h4]
    exact Int.eq_of_mul_eq_mul_left (by omega) h7
  rw [← h1, ← h3, this]
theorem eqv_told (a b : Int) : PyData.eqv (told a).py (told b).py = decide (a = b) := by
  obtain ⟨x, q, e1, _⟩ := told_parts a
  obtain ⟨y, p, e2, _⟩ := told_parts b
  rw [e1, e2, eqv_two]
  by_cases h : a = b
  · subst h
    rw [e1] at e2
    injection e2 with e2
    injection e2 with h5 h6
    injection h6 with h6 _
    injection h5 with h5
    injection h6 with h6
    simp [h5, h6]
  · rw [decide_eq_false h]
    cases hb : (x == y && q == p) with
    | false => rfl
    | true =>
      simp only [Bool.and_eq_true, beq_iff_eq] at hb
      exact absurd (told_inj (by rw [e1, e2, hb.1, hb.2])) h
theorem eqv_spot (e h : Int × Int) : PyData.eqv (spot e).py (spot h).py = decide (e = h) := by
  have q : PyData.eqv (spot e).py (spot h).py = (PyData.eqv (told e.1).py (told h.1).py && PyData.eqv (told e.2).py (told h.2).py) := by
    simp [spot, PV.py, PV.pys, PyData.eqv, PyData.eqvAll]
  rw [q, eqv_told, eqv_told]
  by_cases h1 : e.1 = h.1 <;> by_cases h2 : e.2 = h.2 <;> simp [h1, h2, Prod.ext_iff]
noncomputable def absI (a : Int) : Int := if a < 0 then -a else a
theorem absI_zero (a : Int) : decide (absI a = 0) = decide (a = 0) := by
  unfold absI
  split <;> by_cases h : a = 0 <;> simp [h]
theorem cubic_c : ∀ (w : World) (p q : Sto) (s : PS) (l : List PV) (c d e : Int × Int), l.length ≤ 1000 → CaL w 2 (.ref 167) [.ref p.length, spot c, spot d, spot e] (SPn p s l q) .none (SPn p { s with closed := false, here := e, control := some d, kind := (PySem.Str.ofString "cubic") } (l ++ aheadL s true ++ [.tup [.str (PySem.Str.ofString "cubic"), spot c, spot d, spot e]]) q) := by
  unfold CaL
  k_fill
  intro w p q s l c d e hl
  have h := put_c w p q s l [spot c, spot d] (PySem.Str.ofString "cubic") e hl
  apply ca_def (lv := 1) (xs := [(PySem.Str.ofString "self"), (PySem.Str.ofString "c"), (PySem.Str.ofString "d"), (PySem.Str.ofString "p")])
  · k_is
  · k_is
  · intro sB kB vs hl; match vs, hl with | [_, _, _, _], _ => first | exact BindsTo.of_eq rfl | exact binds_K kB rfl (by k_is) rfl rfl rfl
  · rfl
  · exact locs_of rfl
  · rfl
  · rfl
  · rfl
  · exact noCell_of rfl
  · apply exs_cons
    · apply ex_expr
      · apply ev_pcall
        · kpt_turns
        · exact (pen_cls _).1
        · rfl
        · k_is
        · k_is
        · k_is
        · kpc_turns
        · exact h
        · decide
        · intro _; exact ⟨_, rfl⟩
        · intro _; rfl
        · intro _; rfl
      · intro _ _ _ _ _; rfl
      · intro _; rfl
    · kwd_inv
  · rfl
theorem quad_c : ∀ (w : World) (p q : Sto) (s : PS) (l : List PV) (c e : Int × Int), l.length ≤ 1000 → CaL w 2 (.ref 174) [.ref p.length, spot c, spot e] (SPn p s l q) .none (SPn p { s with closed := false, here := e, control := some c, kind := (PySem.Str.ofString "quad") } (l ++ aheadL s true ++ [.tup [.str (PySem.Str.ofString "quad"), spot c, spot e]]) q) := by
  unfold CaL
  k_fill
  intro w p q s l c e hl
  have h := put_c w p q s l [spot c] (PySem.Str.ofString "quad") e hl
  apply ca_def (lv := 1) (xs := [(PySem.Str.ofString "self"), (PySem.Str.ofString "c"), (PySem.Str.ofString "p")])
  · k_is
  · k_is
  · intro sB kB vs hl; match vs, hl with | [_, _, _], _ => first | exact BindsTo.of_eq rfl | exact binds_K kB rfl (by k_is) rfl rfl rfl
  · rfl
  · exact locs_of rfl
  · rfl
  · rfl
  · rfl
  · exact noCell_of rfl
  · apply exs_cons
    · apply ex_expr
      · apply ev_pcall
        · kpt_turns
        · exact (pen_cls _).1
        · rfl
        · k_is
        · k_is
        · k_is
        · kpc_turns
        · exact h
        · decide
        · intro _; exact ⟨_, rfl⟩
        · intro _; rfl
        · intro _; rfl
      · intro _ _ _ _ _; rfl
      · intro _; rfl
    · kwd_inv
  · rfl
noncomputable def arcSeg (a b t f g : Int) (e : Int × Int) : PV := if a = 0 ∨ b = 0 then .tup [.str (PySem.Str.ofString "line"), spot e] else .tup [.str (PySem.Str.ofString "arc"), told (absI a), told (absI b), told t, .bool (f == 1), .bool (g == 1), spot e]
theorem arc_same : ∀ (w : World) (p q : Sto) (s : PS) (l : List PV) (a b t f g x y : Int), l.length ≤ 1000 → CaL w 4 (.ref 181) [.ref p.length, .tup [told a, told b, told t, .int f, .int g, told x, told y], spot s.here] (SPn p s l q) .none (SPn p { s with kind := PySem.Str.ofString "" } l q) := by
  unfold CaL
  k_fill
  intro w p q s l a b t f g x y hl
  apply ca_def (lv := 3) (xs := [(PySem.Str.ofString "self"), (PySem.Str.ofString "numbers"), (PySem.Str.ofString "p")])
  · k_is
  · k_is
  · intro sB kB vs hl; match vs, hl with | [_, _, _], _ => first | exact BindsTo.of_eq rfl | exact binds_K kB rfl (by k_is) rfl rfl rfl
  · rfl
  · exact locs_of rfl
  · rfl
  · rfl
  · rfl
  · exact noCell_of rfl
  · apply exs_cons
    · kwd_rel
    · apply exs_cons
      · apply ex_ifT
        · apply tr_to
          · apply tr_cmp
            · kpt_turns
            · kpt_turns
            · exact op_eqD (n := 2) rfl rfl (by decide)
            · with_unfolding_all rfl
          · exact (eqv_spot _ _).trans (by simp)
        · kwd_inv
      · exact exs_nil
  · rfl
theorem arc_line : ∀ (w : World) (p q : Sto) (s : PS) (l : List PV) (a b t f g x y : Int) (e : Int × Int), l.length ≤ 1000 → e ≠ s.here → (a = 0 ∨ b = 0) → CaL w 4 (.ref 181) [.ref p.length, .tup [told a, told b, told t, .int f, .int g, told x, told y], spot e] (SPn p s l q) .none (SPn p { s with closed := false, here := e, kind := PySem.Str.ofString "" } (l ++ aheadL s true ++ [.tup [.str (PySem.Str.ofString "line"), spot e]]) q) := by
  unfold CaL
  k_fill
  intro w p q s l a b t f g x y e hl he hab
  have h := put_c w p q s l [] (PySem.Str.ofString "line") e hl
  apply ca_def (lv := 3) (xs := [(PySem.Str.ofString "self"), (PySem.Str.ofString "numbers"), (PySem.Str.ofString "p")])
  · k_is
  · k_is
  · intro sB kB vs hl; match vs, hl with | [_, _, _], _ => first | exact BindsTo.of_eq rfl | exact binds_K kB rfl (by k_is) rfl rfl rfl
  · rfl
  · exact locs_of rfl
  · rfl
  · rfl
  · rfl
  · exact noCell_of rfl
  · apply exs_cons
    · kwd_rel
    · apply exs_cons
      · apply ex_ifF
        · apply tr_to
          · apply tr_cmp
            · kpt_turns
            · kpt_turns
            · exact op_eqD (n := 2) rfl rfl (by decide)
            · with_unfolding_all rfl
          · exact (eqv_spot _ _).trans (by simp [he])
        · apply exs_cons
          · apply ex_ifT
            · by_cases ha : a = 0
              · apply tr_or_true
                apply tr_to
                · apply tr_cmp
                  · kpt_turns
                  · kpt_turns
                  · exact op_eqD (n := 2) rfl rfl (by decide)
                  · with_unfolding_all rfl
                · exact (eqv_told (absI a) 0).trans (by rw [absI_zero]; simp [ha])
              · apply tr_or_false
                · apply tr_to
                  · apply tr_cmp
                    · kpt_turns
                    · kpt_turns
                    · exact op_eqD (n := 2) rfl rfl (by decide)
                    · with_unfolding_all rfl
                  · exact (eqv_told (absI a) 0).trans (by rw [absI_zero]; simp [ha])
                · apply tr_or_true
                  apply tr_to
                  · apply tr_cmp
                    · kpt_turns
                    · kpt_turns
                    · exact op_eqD (n := 2) rfl rfl (by decide)
                    · with_unfolding_all rfl
                  · exact (eqv_told (absI b) 0).trans (by rw [absI_zero]; simp; omega)
            · apply exs_cons
              · apply ex_expr
                · apply ev_pcall
                  · kpt_turns
                  · exact (pen_cls _).1
                  · rfl
                  · k_is
                  · k_is
                  · k_is
                  · kpc_turns
                  · exact h
                  · decide
                  · intro _; exact ⟨_, rfl⟩
                  · intro _; rfl
                  · intro _; rfl
                · intro _ _ _ _ _; rfl
                · intro _; rfl
              · exact exs_nil
          · exact exs_nil
      · exact exs_nil
  · rfl
theorem arc_arc : ∀ (w : World) (p q : Sto) (s : PS) (l : List PV) (a b t f g x y : Int) (e : Int × Int), l.length ≤ 1000 → e ≠ s.here → a ≠ 0 → b ≠ 0 → CaL w 4 (.ref 181) [.ref p.length, .tup [told a, told b, told t, .int f, .int g, told x, told y], spot e] (SPn p s l q) .none (SPn p { s with closed := false, here := e, kind := PySem.Str.ofString "" } (l ++ aheadL s true ++ [.tup [.str (PySem.Str.ofString "arc"), told (absI a), told (absI b), told t, .bool (f == 1), .bool (g == 1), spot e]]) q) := by
  unfold CaL
  k_fill
  intro w p q s l a b t f g x y e hl he ha hb
  have h := put_c w p q s l [told (absI a), told (absI b), told t, .bool (f == 1), .bool (g == 1)] (PySem.Str.ofString "arc") e hl
  apply ca_def (lv := 3) (xs := [(PySem.Str.ofString "self"), (PySem.Str.ofString "numbers"), (PySem.Str.ofString "p")])
  · k_is
  · k_is
  · intro sB kB vs hl; match vs, hl with | [_, _, _], _ => first | exact BindsTo.of_eq rfl | exact binds_K kB rfl (by k_is) rfl rfl rfl
  · rfl
  · exact locs_of rfl
  · rfl
  · rfl
  · rfl
  · exact noCell_of rfl
  · apply exs_cons
    · kwd_rel
    · apply exs_cons
      · apply ex_ifF
        · apply tr_to
          · apply tr_cmp
            · kpt_turns
            · kpt_turns
            · exact op_eqD (n := 2) rfl rfl (by decide)
            · with_unfolding_all rfl
          · exact (eqv_spot _ _).trans (by simp [he])
        · apply exs_cons
          · apply ex_ifF
            · apply tr_or_false
              · apply tr_to
                · apply tr_cmp
                  · kpt_turns
                  · kpt_turns
                  · exact op_eqD (n := 2) rfl rfl (by decide)
                  · with_unfolding_all rfl
                · exact (eqv_told (absI a) 0).trans (by rw [absI_zero]; simp [ha])
              · apply tr_or_false
                · apply tr_to
                  · apply tr_cmp
                    · kpt_turns
                    · kpt_turns
                    · exact op_eqD (n := 2) rfl rfl (by decide)
                    · with_unfolding_all rfl
                  · exact (eqv_told (absI b) 0).trans (by rw [absI_zero]; simp [hb])
                · exact tr_or_nil
            · apply exs_cons
              · apply ex_expr
                · apply ev_pcall
                  · kpt_turns
                  · exact (pen_cls _).1
                  · rfl
                  · k_is
                  · k_is
                  · k_is
                  · kpc_turns
                  · exact h
                  · decide
                  · intro _; exact ⟨_, rfl⟩
                  · intro _; rfl
                  · intro _; rfl
                · intro _ _ _ _ _; rfl
                · intro _; rfl
              · exact exs_nil
          · exact exs_nil
      · exact exs_nil
  · rfl
end
section
local macro_rules | `(tactic| keq_hits) => `(tactic| first
  | ((with_reducible apply ev_topTup); kwd_less; k_is; k_is; exact .cons (.int _ _) (.cons (.int _ _) .nil))
  | ((with_reducible apply ev_pget); kpt_turns; exact (pen_cls _).1; rfl; k_is; (intro _; rfl))
  | ((with_reducible apply ev_pappend); kpt_turns; exact (pen_cls _).1; rfl; k_is; (intro _; rfl); kpt_turns; tlg_ne; (intro _; exact ⟨_, rfl⟩); (intro _; rfl))
  | ((with_reducible apply ev_pcall); kpt_turns; exact (pen_cls _).1; rfl; k_is; k_is; k_is; kpc_turns; keq_rows; decide; (intro _; exact ⟨_, rfl⟩); (intro _; rfl); (intro _; rfl))
  | ((with_reducible apply ev_pcall0); kpt_turns; exact (pen_cls _).1; rfl; k_is; k_is; k_is; keq_rows; decide; (intro _; exact ⟨_, rfl⟩)))
local macro_rules | `(tactic| kwd_rel) => `(tactic| first
  | ((with_reducible apply ex_assign); kpt_turns; rfl; rfl; (intro _; rfl))
  | ((with_reducible apply ex_swap); (intros; rfl); (intro _; rfl); kpt_turns; rfl; exact locs_of rfl)
  | ((with_reducible apply ex_expr); kpt_turns; (intro _ _ _ _ _; rfl); (intro _; rfl))
  | ((with_reducible apply ex_pset); kpt_turns; kpt_turns; exact (pen_cls _).1; k_is; tlg_ne; (intro _; rfl)))
local macro_rules | `(tactic| keq_rows) => `(tactic| first | (with_reducible exact plus_t _ _ _ _) | (with_reducible exact minus_t _ _ _ _) | (with_reducible exact point_c _ _ _ _ _ _ _ _) | exact plus_t _ _ _ _ | exact minus_t _ _ _ _ | exact point_c _ _ _ _ _ _ _ _)
noncomputable def endH (s : PS) (rel : Bool) (x : Int) : Int × Int := (if rel then s.here.1 + x else x, s.here.2)
noncomputable def endV (s : PS) (rel : Bool) (y : Int) : Int × Int := (s.here.1, if rel then s.here.2 + y else y)
noncomputable def endP (s : PS) (rel : Bool) (x y : Int) : Int × Int := if rel then (s.here.1 + x, s.here.2 + y) else (x, y)
theorem lineH : ∀ (w : World) (p q : Sto) (s : PS) (l : List PV) (rel : Bool) (x : Int), CaL w 5 (.ref 195) [.ref p.length, .str (PySem.Str.ofString "H"), .bool rel, .tup [told x]] (SPn p s l q) (spot (endH s rel x)) (SPn p s l q) := by
  unfold CaL
  k_fill
  intro w p q s l rel x
  cases rel
  all_goals
    apply ca_def (lv := 4) (xs := [(PySem.Str.ofString "pen"), (PySem.Str.ofString "letter"), (PySem.Str.ofString "is_relative"), (PySem.Str.ofString "numbers")])
    · k_is
    · k_is
    · intro sB kB vs hl; match vs, hl with | [_, _, _, _], _ => first | exact BindsTo.of_eq rfl | exact binds_K kB rfl (by k_is) rfl rfl rfl
    · rfl
    · exact locs_of rfl
    · rfl
    · rfl
    · rfl
    · exact noCell_of rfl
    · kwd_inv
    · rfl
theorem lineV : ∀ (w : World) (p q : Sto) (s : PS) (l : List PV) (rel : Bool) (x : Int), CaL w 5 (.ref 195) [.ref p.length, .str (PySem.Str.ofString "V"), .bool rel, .tup [told x]] (SPn p s l q) (spot (endV s rel x)) (SPn p s l q) := by
  unfold CaL
  k_fill
  intro w p q s l rel x
  cases rel
  all_goals
    apply ca_def (lv := 4) (xs := [(PySem.Str.ofString "pen"), (PySem.Str.ofString "letter"), (PySem.Str.ofString "is_relative"), (PySem.Str.ofString "numbers")])
    · k_is
    · k_is
    · intro sB kB vs hl; match vs, hl with | [_, _, _, _], _ => first | exact BindsTo.of_eq rfl | exact binds_K kB rfl (by k_is) rfl rfl rfl
    · rfl
    · exact locs_of rfl
    · rfl
    · rfl
    · rfl
    · exact noCell_of rfl
    · kwd_inv
    · rfl
theorem lineL : ∀ (w : World) (p q : Sto) (s : PS) (l : List PV) (rel : Bool) (x y : Int), CaL w 5 (.ref 195) [.ref p.length, .str (PySem.Str.ofString "L"), .bool rel, .tup [told x, told y]] (SPn p s l q) (spot (endP s rel x y)) (SPn p s l q) := by
  unfold CaL
  k_fill
  intro w p q s l rel x y
  apply ca_def (lv := 4) (xs := [(PySem.Str.ofString "pen"), (PySem.Str.ofString "letter"), (PySem.Str.ofString "is_relative"), (PySem.Str.ofString "numbers")])
  · k_is
  · k_is
  · intro sB kB vs hl; match vs, hl with | [_, _, _, _], _ => first | exact BindsTo.of_eq rfl | exact binds_K kB rfl (by k_is) rfl rfl rfl
  · rfl
  · exact locs_of rfl
  · rfl
  · rfl
  · rfl
  · exact noCell_of rfl
  · kwd_inv
  · rfl
noncomputable def lastC (s : PS) (k : PySem.Str) : Int × Int := if s.kind = k then mirr s.here (s.control.getD (0, 0)) else s.here
theorem mc_c (w : World) (p q : Sto) (s : PS) (l : List PV) (k : PySem.Str) (h : s.kind = k → s.control.isSome = true) : CaL w 5 (.ref 160) [.ref p.length, .str k] (SPn p s l q) (spot (lastC s k)) (SPn p s l q) := by
  unfold lastC
  by_cases hk : s.kind = k
  · rw [if_pos hk]
    obtain ⟨c, hc⟩ := Option.isSome_iff_exists.mp (h hk)
    rw [hc]
    exact mc_yes w p q s l k c hk hc
  · rw [if_neg hk]
    exact mc_no w p q s l k hk
local macro_rules | `(tactic| keq_rows) => `(tactic| first | (with_reducible exact lineH _ _ _ _ _ _ _) | (with_reducible exact lineV _ _ _ _ _ _ _) | (with_reducible exact lineL _ _ _ _ _ _ _ _) | ((with_reducible apply put_c); assumption) | exact lineH _ _ _ _ _ _ _ | exact lineV _ _ _ _ _ _ _ | exact lineL _ _ _ _ _ _ _ _ | exact put_c _ _ _ _ _ [] _ _ (by assumption))
noncomputable def lineSt (s : PS) (e : Int × Int) : PS := { s with closed := false, here := e, kind := PySem.Str.ofString "" }
noncomputable def lineSg (e : Int × Int) : PV := .tup [.str (PySem.Str.ofString "line"), spot e]
theorem drawH : ∀ (w : World) (p q : Sto) (s : PS) (l : List PV) (rel : Bool) (x : Int), l.length ≤ 1000 → CaL w 6 (.ref 202) [.ref p.length, .str (PySem.Str.ofString "H"), .bool rel, .tup [told x]] (SPn p s l q) .none (SPn p (lineSt s (endH s rel x)) (l ++ aheadL s true ++ [lineSg (endH s rel x)]) q) := by
  unfold CaL
  k_fill
  intro w p q s l rel x hl
  apply ca_def (lv := 5) (xs := [(PySem.Str.ofString "pen"), (PySem.Str.ofString "letter"), (PySem.Str.ofString "is_relative"), (PySem.Str.ofString "numbers")])
  · k_is
  · k_is
  · intro sB kB vs hl; match vs, hl with | [_, _, _, _], _ => first | exact BindsTo.of_eq rfl | exact binds_K kB rfl (by k_is) rfl rfl rfl
  · rfl
  · exact locs_of rfl
  · rfl
  · rfl
  · rfl
  · exact noCell_of rfl
  · apply exs_ret
    apply ex_ifT
    · kt_ors
    · kwd_inv
  · rfl
theorem drawV : ∀ (w : World) (p q : Sto) (s : PS) (l : List PV) (rel : Bool) (x : Int), l.length ≤ 1000 → CaL w 6 (.ref 202) [.ref p.length, .str (PySem.Str.ofString "V"), .bool rel, .tup [told x]] (SPn p s l q) .none (SPn p (lineSt s (endV s rel x)) (l ++ aheadL s true ++ [lineSg (endV s rel x)]) q) := by
  unfold CaL
  k_fill
  intro w p q s l rel x hl
  apply ca_def (lv := 5) (xs := [(PySem.Str.ofString "pen"), (PySem.Str.ofString "letter"), (PySem.Str.ofString "is_relative"), (PySem.Str.ofString "numbers")])
  · k_is
  · k_is
  · intro sB kB vs hl; match vs, hl with | [_, _, _, _], _ => first | exact BindsTo.of_eq rfl | exact binds_K kB rfl (by k_is) rfl rfl rfl
  · rfl
  · exact locs_of rfl
  · rfl
  · rfl
  · rfl
  · exact noCell_of rfl
  · apply exs_ret
    apply ex_ifT
    · kt_ors
    · kwd_inv
  · rfl
theorem drawL : ∀ (w : World) (p q : Sto) (s : PS) (l : List PV) (rel : Bool) (x y : Int), l.length ≤ 1000 → CaL w 6 (.ref 202) [.ref p.length, .str (PySem.Str.ofString "L"), .bool rel, .tup [told x, told y]] (SPn p s l q) .none (SPn p (lineSt s (endP s rel x y)) (l ++ aheadL s true ++ [lineSg (endP s rel x y)]) q) := by
  unfold CaL
  k_fill
  intro w p q s l rel x y hl
  apply ca_def (lv := 5) (xs := [(PySem.Str.ofString "pen"), (PySem.Str.ofString "letter"), (PySem.Str.ofString "is_relative"), (PySem.Str.ofString "numbers")])
  · k_is
  · k_is
  · intro sB kB vs hl; match vs, hl with | [_, _, _, _], _ => first | exact BindsTo.of_eq rfl | exact binds_K kB rfl (by k_is) rfl rfl rfl
  · rfl
  · exact locs_of rfl
  · rfl
  · rfl
  · rfl
  · exact noCell_of rfl
  · apply exs_ret
    apply ex_ifT
    · kt_ors
    · kwd_inv
  · rfl
end
section
local macro_rules | `(tactic| keq_hits) => `(tactic| first
  | ((with_reducible apply ev_topTup); kwd_less; k_is; k_is; exact .cons (.int _ _) (.cons (.int _ _) .nil))
  | ((with_reducible apply ev_pget); kpt_turns; exact (pen_cls _).1; rfl; k_is; (intro _; rfl))
  | ((with_reducible apply ev_pappend); kpt_turns; exact (pen_cls _).1; rfl; k_is; (intro _; rfl); kpt_turns; tlg_ne; (intro _; exact ⟨_, rfl⟩); (intro _; rfl))
  | ((with_reducible apply ev_pcall); kpt_turns; exact (pen_cls _).1; rfl; k_is; k_is; k_is; kpc_turns; keq_rows; decide; (intro _; exact ⟨_, rfl⟩); (intro _; rfl); (intro _; rfl))
  | ((with_reducible apply ev_pcall0); kpt_turns; exact (pen_cls _).1; rfl; k_is; k_is; k_is; keq_rows; decide; (intro _; exact ⟨_, rfl⟩)))
local macro_rules | `(tactic| kwd_rel) => `(tactic| first
  | ((with_reducible apply ex_assign); kpt_turns; rfl; rfl; (intro _; rfl))
  | ((with_reducible apply ex_swap); (intros; rfl); (intro _; rfl); kpt_turns; rfl; exact locs_of rfl)
  | ((with_reducible apply ex_expr); kpt_turns; (intro _ _ _ _ _; rfl); (intro _; rfl))
  | ((with_reducible apply ex_pset); kpt_turns; kpt_turns; exact (pen_cls _).1; k_is; tlg_ne; (intro _; rfl)))
local macro_rules | `(tactic| keq_rows) => `(tactic| first | (with_reducible exact point_c _ _ _ _ _ _ _ _) | ((with_reducible apply move_c); assumption) | ((with_reducible apply cubic_c); assumption) | ((with_reducible apply quad_c); assumption) | ((with_reducible apply mc_c); assumption) | exact point_c _ _ _ _ _ _ _ _ | exact move_c _ _ _ _ _ _ (by assumption) | exact cubic_c _ _ _ _ _ _ _ _ (by assumption) | exact quad_c _ _ _ _ _ _ _ (by assumption) | exact mc_c _ _ _ _ _ _ (by assumption))
noncomputable def moveSt (s : PS) (e : Int × Int) : PS := { s with closed := false, here := e, start := e, kind := PySem.Str.ofString "" }
noncomputable def moveSg (e : Int × Int) : PV := .tup [.str (PySem.Str.ofString "move"), spot e]
noncomputable def cubicSt (s : PS) (d e : Int × Int) : PS := { s with closed := false, here := e, control := some d, kind := (PySem.Str.ofString "cubic") }
noncomputable def cubicSg (c d e : Int × Int) : PV := .tup [.str (PySem.Str.ofString "cubic"), spot c, spot d, spot e]
noncomputable def quadSt (s : PS) (c e : Int × Int) : PS := { s with closed := false, here := e, control := some c, kind := (PySem.Str.ofString "quad") }
noncomputable def quadSg (c e : Int × Int) : PV := .tup [.str (PySem.Str.ofString "quad"), spot c, spot e]
theorem drawM : ∀ (w : World) (p q : Sto) (s : PS) (l : List PV) (rel : Bool) (x0 y0 : Int), l.length ≤ 1000 → CaL w 6 (.ref 202) [.ref p.length, .str (PySem.Str.ofString "M"), .bool rel, .tup [told x0, told y0]] (SPn p s l q) .none (SPn p (moveSt s (endP s rel x0 y0)) (l ++ [moveSg (endP s rel x0 y0)]) (q ++ [.list [spot (endP s rel x0 y0)]])) := by
  unfold CaL
  k_fill
  intro w p q s l rel x0 y0 hl 
  apply ca_def (lv := 5) (xs := [(PySem.Str.ofString "pen"), (PySem.Str.ofString "letter"), (PySem.Str.ofString "is_relative"), (PySem.Str.ofString "numbers")])
  · k_is
  · k_is
  · intro sB kB vs hl; match vs, hl with | [_, _, _, _], _ => first | exact BindsTo.of_eq rfl | exact binds_K kB rfl (by k_is) rfl rfl rfl
  · rfl
  · exact locs_of rfl
  · rfl
  · rfl
  · rfl
  · exact noCell_of rfl
  · apply exs_cons
    · apply ex_ifF
      · kt_ors
      · exact exs_nil
    · apply exs_cons
      · apply ex_assign
        · apply ev_qlist
          · kpc_turns
          · tlg_ne
        · rfl
        · rfl
        · intro _; rfl
      · apply exs_cons
        · kwd_rel
        · apply exs_cons
          · apply ex_forR2 (b' := 2) (n := 1) (ds := [.int 0])
            · apply ev_rng3
              · k_is
              · boot_by_name
              · kwd_less
              · kpc_turns
              · decide
              · rfl
              · decide
              · intro _; rfl
              · intro _; rfl
            · rfl
            · decide +kernel
            · decide +kernel
            · rfl
            · apply Fb.cons
              · apply exs_cons
                · apply ex_expr
                  · apply ev_qappend
                    · kpt_turns
                    · kpt_turns
                    · tlg_ne
                    · intro _; exact ⟨_, rfl⟩
                    · intro _; rfl
                  · intro _ _ _ _ _; rfl
                  · intro _; rfl
                · exact exs_nil
              · exact Fb.nil
            · rfl
            · rfl
            · intro _ _; rfl
          · kwd_inv
  · rfl
end
section
local macro_rules | `(tactic| keq_hits) => `(tactic| first
  | ((with_reducible apply ev_topTup); kwd_less; k_is; k_is; exact .cons (.int _ _) (.cons (.int _ _) .nil))
  | ((with_reducible apply ev_pget); kpt_turns; exact (pen_cls _).1; rfl; k_is; (intro _; rfl))
  | ((with_reducible apply ev_pappend); kpt_turns; exact (pen_cls _).1; rfl; k_is; (intro _; rfl); kpt_turns; tlg_ne; (intro _; exact ⟨_, rfl⟩); (intro _; rfl))
  | ((with_reducible apply ev_pcall); kpt_turns; exact (pen_cls _).1; rfl; k_is; k_is; k_is; kpc_turns; keq_rows; decide; (intro _; exact ⟨_, rfl⟩); (intro _; rfl); (intro _; rfl))
  | ((with_reducible apply ev_pcall0); kpt_turns; exact (pen_cls _).1; rfl; k_is; k_is; k_is; keq_rows; decide; (intro _; exact ⟨_, rfl⟩)))
local macro_rules | `(tactic| kwd_rel) => `(tactic| first
  | ((with_reducible apply ex_assign); kpt_turns; rfl; rfl; (intro _; rfl))
  | ((with_reducible apply ex_swap); (intros; rfl); (intro _; rfl); kpt_turns; rfl; exact locs_of rfl)
  | ((with_reducible apply ex_expr); kpt_turns; (intro _ _ _ _ _; rfl); (intro _; rfl))
  | ((with_reducible apply ex_pset); kpt_turns; kpt_turns; exact (pen_cls _).1; k_is; tlg_ne; (intro _; rfl)))
local macro_rules | `(tactic| keq_rows) => `(tactic| first | (with_reducible exact point_c _ _ _ _ _ _ _ _) | ((with_reducible apply move_c); assumption) | ((with_reducible apply cubic_c); assumption) | ((with_reducible apply quad_c); assumption) | ((with_reducible apply mc_c); assumption) | exact point_c _ _ _ _ _ _ _ _ | exact move_c _ _ _ _ _ _ (by assumption) | exact cubic_c _ _ _ _ _ _ _ _ (by assumption) | exact quad_c _ _ _ _ _ _ _ (by assumption) | exact mc_c _ _ _ _ _ _ (by assumption))
theorem drawC : ∀ (w : World) (p q : Sto) (s : PS) (l : List PV) (rel : Bool) (x0 y0 x1 y1 x2 y2 : Int), l.length ≤ 1000 → CaL w 6 (.ref 202) [.ref p.length, .str (PySem.Str.ofString "C"), .bool rel, .tup [told x0, told y0, told x1, told y1, told x2, told y2]] (SPn p s l q) .none (SPn p (cubicSt s (endP s rel x1 y1) (endP s rel x2 y2)) (l ++ aheadL s true ++ [cubicSg (endP s rel x0 y0) (endP s rel x1 y1) (endP s rel x2 y2)]) (q ++ [.list [spot (endP s rel x0 y0), spot (endP s rel x1 y1), spot (endP s rel x2 y2)]])) := by
  unfold CaL
  k_fill
  intro w p q s l rel x0 y0 x1 y1 x2 y2 hl 
  apply ca_def (lv := 5) (xs := [(PySem.Str.ofString "pen"), (PySem.Str.ofString "letter"), (PySem.Str.ofString "is_relative"), (PySem.Str.ofString "numbers")])
  · k_is
  · k_is
  · intro sB kB vs hl; match vs, hl with | [_, _, _, _], _ => first | exact BindsTo.of_eq rfl | exact binds_K kB rfl (by k_is) rfl rfl rfl
  · rfl
  · exact locs_of rfl
  · rfl
  · rfl
  · rfl
  · exact noCell_of rfl
  · apply exs_cons
    · apply ex_ifF
      · kt_ors
      · exact exs_nil
    · apply exs_cons
      · apply ex_assign
        · apply ev_qlist
          · kpc_turns
          · tlg_ne
        · rfl
        · rfl
        · intro _; rfl
      · apply exs_cons
        · kwd_rel
        · apply exs_cons
          · apply ex_forR2 (b' := 6) (n := 3) (ds := [.int 0, .int 2, .int 4])
            · apply ev_rng3
              · k_is
              · boot_by_name
              · kwd_less
              · kpc_turns
              · decide
              · rfl
              · decide
              · intro _; rfl
              · intro _; rfl
            · rfl
            · decide +kernel
            · decide +kernel
            · rfl
            · apply Fb.cons
              · apply exs_cons
                · apply ex_expr
                  · apply ev_qappend
                    · kpt_turns
                    · kpt_turns
                    · tlg_ne
                    · intro _; exact ⟨_, rfl⟩
                    · intro _; rfl
                  · intro _ _ _ _ _; rfl
                  · intro _; rfl
                · exact exs_nil
              · apply Fb.cons
                · apply exs_cons
                  · apply ex_expr
                    · apply ev_qappend
                      · kpt_turns
                      · kpt_turns
                      · tlg_ne
                      · intro _; exact ⟨_, rfl⟩
                      · intro _; rfl
                    · intro _ _ _ _ _; rfl
                    · intro _; rfl
                  · exact exs_nil
                · apply Fb.cons
                  · apply exs_cons
                    · apply ex_expr
                      · apply ev_qappend
                        · kpt_turns
                        · kpt_turns
                        · tlg_ne
                        · intro _; exact ⟨_, rfl⟩
                        · intro _; rfl
                      · intro _ _ _ _ _; rfl
                      · intro _; rfl
                    · exact exs_nil
                  · exact Fb.nil
            · rfl
            · rfl
            · intro _ _; rfl
          · kwd_inv
  · rfl
theorem drawS : ∀ (w : World) (p q : Sto) (s : PS) (l : List PV) (rel : Bool) (x0 y0 x1 y1 : Int), l.length ≤ 1000 → (s.kind = (PySem.Str.ofString "cubic") → s.control.isSome = true) → CaL w 6 (.ref 202) [.ref p.length, .str (PySem.Str.ofString "S"), .bool rel, .tup [told x0, told y0, told x1, told y1]] (SPn p s l q) .none (SPn p (cubicSt s (endP s rel x0 y0) (endP s rel x1 y1)) (l ++ aheadL s true ++ [cubicSg (lastC s (PySem.Str.ofString "cubic")) (endP s rel x0 y0) (endP s rel x1 y1)]) (q ++ [.list [spot (endP s rel x0 y0), spot (endP s rel x1 y1)]])) := by
  unfold CaL
  k_fill
  intro w p q s l rel x0 y0 x1 y1 hl hk
  apply ca_def (lv := 5) (xs := [(PySem.Str.ofString "pen"), (PySem.Str.ofString "letter"), (PySem.Str.ofString "is_relative"), (PySem.Str.ofString "numbers")])
  · k_is
  · k_is
  · intro sB kB vs hl; match vs, hl with | [_, _, _, _], _ => first | exact BindsTo.of_eq rfl | exact binds_K kB rfl (by k_is) rfl rfl rfl
  · rfl
  · exact locs_of rfl
  · rfl
  · rfl
  · rfl
  · exact noCell_of rfl
  · apply exs_cons
    · apply ex_ifF
      · kt_ors
      · exact exs_nil
    · apply exs_cons
      · apply ex_assign
        · apply ev_qlist
          · kpc_turns
          · tlg_ne
        · rfl
        · rfl
        · intro _; rfl
      · apply exs_cons
        · kwd_rel
        · apply exs_cons
          · apply ex_forR2 (b' := 4) (n := 2) (ds := [.int 0, .int 2])
            · apply ev_rng3
              · k_is
              · boot_by_name
              · kwd_less
              · kpc_turns
              · decide
              · rfl
              · decide
              · intro _; rfl
              · intro _; rfl
            · rfl
            · decide +kernel
            · decide +kernel
            · rfl
            · apply Fb.cons
              · apply exs_cons
                · apply ex_expr
                  · apply ev_qappend
                    · kpt_turns
                    · kpt_turns
                    · tlg_ne
                    · intro _; exact ⟨_, rfl⟩
                    · intro _; rfl
                  · intro _ _ _ _ _; rfl
                  · intro _; rfl
                · exact exs_nil
              · apply Fb.cons
                · apply exs_cons
                  · apply ex_expr
                    · apply ev_qappend
                      · kpt_turns
                      · kpt_turns
                      · tlg_ne
                      · intro _; exact ⟨_, rfl⟩
                      · intro _; rfl
                    · intro _ _ _ _ _; rfl
                    · intro _; rfl
                  · exact exs_nil
                · exact Fb.nil
            · rfl
            · rfl
            · intro _ _; rfl
          · kwd_inv
  · rfl
theorem drawQ : ∀ (w : World) (p q : Sto) (s : PS) (l : List PV) (rel : Bool) (x0 y0 x1 y1 : Int), l.length ≤ 1000 → CaL w 6 (.ref 202) [.ref p.length, .str (PySem.Str.ofString "Q"), .bool rel, .tup [told x0, told y0, told x1, told y1]] (SPn p s l q) .none (SPn p (quadSt s (endP s rel x0 y0) (endP s rel x1 y1)) (l ++ aheadL s true ++ [quadSg (endP s rel x0 y0) (endP s rel x1 y1)]) (q ++ [.list [spot (endP s rel x0 y0), spot (endP s rel x1 y1)]])) := by
  unfold CaL
  k_fill
  intro w p q s l rel x0 y0 x1 y1 hl 
  apply ca_def (lv := 5) (xs := [(PySem.Str.ofString "pen"), (PySem.Str.ofString "letter"), (PySem.Str.ofString "is_relative"), (PySem.Str.ofString "numbers")])
  · k_is
  · k_is
  · intro sB kB vs hl; match vs, hl with | [_, _, _, _], _ => first | exact BindsTo.of_eq rfl | exact binds_K kB rfl (by k_is) rfl rfl rfl
  · rfl
  · exact locs_of rfl
  · rfl
  · rfl
  · rfl
  · exact noCell_of rfl
  · apply exs_cons
    · apply ex_ifF
      · kt_ors
      · exact exs_nil
    · apply exs_cons
      · apply ex_assign
        · apply ev_qlist
          · kpc_turns
          · tlg_ne
        · rfl
        · rfl
        · intro _; rfl
      · apply exs_cons
        · kwd_rel
        · apply exs_cons
          · apply ex_forR2 (b' := 4) (n := 2) (ds := [.int 0, .int 2])
            · apply ev_rng3
              · k_is
              · boot_by_name
              · kwd_less
              · kpc_turns
              · decide
              · rfl
              · decide
              · intro _; rfl
              · intro _; rfl
            · rfl
            · decide +kernel
            · decide +kernel
            · rfl
            · apply Fb.cons
              · apply exs_cons
                · apply ex_expr
                  · apply ev_qappend
                    · kpt_turns
                    · kpt_turns
                    · tlg_ne
                    · intro _; exact ⟨_, rfl⟩
                    · intro _; rfl
                  · intro _ _ _ _ _; rfl
                  · intro _; rfl
                · exact exs_nil
              · apply Fb.cons
                · apply exs_cons
                  · apply ex_expr
                    · apply ev_qappend
                      · kpt_turns
                      · kpt_turns
                      · tlg_ne
                      · intro _; exact ⟨_, rfl⟩
                      · intro _; rfl
                    · intro _ _ _ _ _; rfl
                    · intro _; rfl
                  · exact exs_nil
                · exact Fb.nil
            · rfl
            · rfl
            · intro _ _; rfl
          · kwd_inv
  · rfl
theorem drawT : ∀ (w : World) (p q : Sto) (s : PS) (l : List PV) (rel : Bool) (x0 y0 : Int), l.length ≤ 1000 → (s.kind = (PySem.Str.ofString "quad") → s.control.isSome = true) → CaL w 6 (.ref 202) [.ref p.length, .str (PySem.Str.ofString "T"), .bool rel, .tup [told x0, told y0]] (SPn p s l q) .none (SPn p (quadSt s (lastC s (PySem.Str.ofString "quad")) (endP s rel x0 y0)) (l ++ aheadL s true ++ [quadSg (lastC s (PySem.Str.ofString "quad")) (endP s rel x0 y0)]) (q ++ [.list [spot (endP s rel x0 y0)]])) := by
  unfold CaL
  k_fill
  intro w p q s l rel x0 y0 hl hk
  apply ca_def (lv := 5) (xs := [(PySem.Str.ofString "pen"), (PySem.Str.ofString "letter"), (PySem.Str.ofString "is_relative"), (PySem.Str.ofString "numbers")])
  · k_is
  · k_is
  · intro sB kB vs hl; match vs, hl with | [_, _, _, _], _ => first | exact BindsTo.of_eq rfl | exact binds_K kB rfl (by k_is) rfl rfl rfl
  · rfl
  · exact locs_of rfl
  · rfl
  · rfl
  · rfl
  · exact noCell_of rfl
  · apply exs_cons
    · apply ex_ifF
      · kt_ors
      · exact exs_nil
    · apply exs_cons
      · apply ex_assign
        · apply ev_qlist
          · kpc_turns
          · tlg_ne
        · rfl
        · rfl
        · intro _; rfl
      · apply exs_cons
        · kwd_rel
        · apply exs_cons
          · apply ex_forR2 (b' := 2) (n := 1) (ds := [.int 0])
            · apply ev_rng3
              · k_is
              · boot_by_name
              · kwd_less
              · kpc_turns
              · decide
              · rfl
              · decide
              · intro _; rfl
              · intro _; rfl
            · rfl
            · decide +kernel
            · decide +kernel
            · rfl
            · apply Fb.cons
              · apply exs_cons
                · apply ex_expr
                  · apply ev_qappend
                    · kpt_turns
                    · kpt_turns
                    · tlg_ne
                    · intro _; exact ⟨_, rfl⟩
                    · intro _; rfl
                  · intro _ _ _ _ _; rfl
                  · intro _; rfl
                · exact exs_nil
              · exact Fb.nil
            · rfl
            · rfl
            · intro _ _; rfl
          · kwd_inv
  · rfl
end
section
local macro_rules | `(tactic| keq_hits) => `(tactic| first
  | ((with_reducible apply ev_topTup); kwd_less; k_is; k_is; exact .cons (.int _ _) (.cons (.int _ _) .nil))
  | ((with_reducible apply ev_pget); kpt_turns; exact (pen_cls _).1; rfl; k_is; (intro _; rfl))
  | ((with_reducible apply ev_pappend); kpt_turns; exact (pen_cls _).1; rfl; k_is; (intro _; rfl); kpt_turns; tlg_ne; (intro _; exact ⟨_, rfl⟩); (intro _; rfl))
  | ((with_reducible apply ev_pcall); kpt_turns; exact (pen_cls _).1; rfl; k_is; k_is; k_is; kpc_turns; keq_rows; decide; (intro _; exact ⟨_, rfl⟩); (intro _; rfl); (intro _; rfl))
  | ((with_reducible apply ev_pcall0); kpt_turns; exact (pen_cls _).1; rfl; k_is; k_is; k_is; keq_rows; decide; (intro _; exact ⟨_, rfl⟩)))
local macro_rules | `(tactic| kwd_rel) => `(tactic| first
  | ((with_reducible apply ex_assign); kpt_turns; rfl; rfl; (intro _; rfl))
  | ((with_reducible apply ex_swap); (intros; rfl); (intro _; rfl); kpt_turns; rfl; exact locs_of rfl)
  | ((with_reducible apply ex_expr); kpt_turns; (intro _ _ _ _ _; rfl); (intro _; rfl))
  | ((with_reducible apply ex_pset); kpt_turns; kpt_turns; exact (pen_cls _).1; k_is; tlg_ne; (intro _; rfl)))
local macro_rules | `(tactic| keq_rows) => `(tactic| first | (with_reducible exact point_c _ _ _ _ _ _ _ _) | ((with_reducible apply move_c); assumption) | ((with_reducible apply cubic_c); assumption) | ((with_reducible apply quad_c); assumption) | ((with_reducible apply mc_c); assumption) | exact point_c _ _ _ _ _ _ _ _ | exact move_c _ _ _ _ _ _ (by assumption) | exact cubic_c _ _ _ _ _ _ _ _ (by assumption) | exact quad_c _ _ _ _ _ _ _ (by assumption) | exact mc_c _ _ _ _ _ _ (by assumption))
noncomputable def arcSg (a b t f g : Int) (e : Int × Int) : PV := .tup [.str (PySem.Str.ofString "arc"), told (absI a), told (absI b), told t, .bool (f == 1), .bool (g == 1), spot e]
theorem drawA_same : ∀ (w : World) (p q : Sto) (s : PS) (l : List PV) (rel : Bool) (a b t f g x0 y0 : Int), l.length ≤ 1000 → endP s rel x0 y0 = s.here → CaL w 6 (.ref 202) [.ref p.length, .str (PySem.Str.ofString "A"), .bool rel, .tup [told a, told b, told t, .int f, .int g, told x0, told y0]] (SPn p s l q) .none (SPn p ({ s with kind := PySem.Str.ofString "" }) (l) (q ++ [.list [spot (endP s rel x0 y0)]])) := by
  unfold CaL
  k_fill
  intro w p q s l rel a b t f g x0 y0 hl he
  have hcall : ∀ q, CaL w 4 (.ref 181) [.ref p.length, .tup [told a, told b, told t, .int f, .int g, told x0, told y0], spot (endP s rel x0 y0)] (SPn p s l q) .none (SPn p { s with kind := PySem.Str.ofString "" } l q) := fun q => by
    have h := arc_same w p q s l a b t f g x0 y0 hl
    rw [he]; exact h
  apply ca_def (lv := 5) (xs := [(PySem.Str.ofString "pen"), (PySem.Str.ofString "letter"), (PySem.Str.ofString "is_relative"), (PySem.Str.ofString "numbers")])
  · k_is
  · k_is
  · intro sB kB vs hl; match vs, hl with | [_, _, _, _], _ => first | exact BindsTo.of_eq rfl | exact binds_K kB rfl (by k_is) rfl rfl rfl
  · rfl
  · exact locs_of rfl
  · rfl
  · rfl
  · rfl
  · exact noCell_of rfl
  · apply exs_cons
    · apply ex_ifF
      · kt_ors
      · exact exs_nil
    · apply exs_cons
      · apply ex_assign
        · apply ev_qlist
          · kpc_turns
          · tlg_ne
        · rfl
        · rfl
        · intro _; rfl
      · apply exs_cons
        · kwd_rel
        · apply exs_cons
          · apply ex_forR2 (b' := 7) (n := 1) (ds := [.int 5])
            · apply ev_rng3
              · k_is
              · boot_by_name
              · kwd_less
              · kpc_turns
              · decide
              · rfl
              · decide
              · intro _; rfl
              · intro _; rfl
            · rfl
            · decide +kernel
            · decide +kernel
            · rfl
            · apply Fb.cons
              · apply exs_cons
                · apply ex_expr
                  · apply ev_qappend
                    · kpt_turns
                    · kpt_turns
                    · tlg_ne
                    · intro _; exact ⟨_, rfl⟩
                    · intro _; rfl
                  · intro _ _ _ _ _; rfl
                  · intro _; rfl
                · exact exs_nil
              · exact Fb.nil
            · rfl
            · rfl
            · intro _ _; rfl
          · apply exs_cons
            · apply ex_ifF
              · kt_ors
              · apply exs_cons
                · apply ex_ifF
                  · kt_ors
                  · apply exs_cons
                    · apply ex_ifF
                      · kt_ors
                      · apply exs_cons
                        · apply ex_ifF
                          · kt_ors
                          · apply exs_cons
                            · apply ex_ifF
                              · kt_ors
                              · apply exs_cons
                                · apply ex_expr
                                  · apply ev_pcall
                                    · kpt_turns
                                    · exact (pen_cls _).1
                                    · rfl
                                    · k_is
                                    · k_is
                                    · k_is
                                    · kpc_turns
                                    · exact hcall _
                                    · decide
                                    · intro _; exact ⟨_, rfl⟩
                                    · intro _; rfl
                                    · intro _; rfl
                                  · intro _ _ _ _ _; rfl
                                  · intro _; rfl
                                · exact exs_nil
                            · exact exs_nil
                        · exact exs_nil
                    · exact exs_nil
                · exact exs_nil
            · exact exs_nil
  · rfl
theorem drawA_line : ∀ (w : World) (p q : Sto) (s : PS) (l : List PV) (rel : Bool) (a b t f g x0 y0 : Int), l.length ≤ 1000 → endP s rel x0 y0 ≠ s.here → (a = 0 ∨ b = 0) → CaL w 6 (.ref 202) [.ref p.length, .str (PySem.Str.ofString "A"), .bool rel, .tup [told a, told b, told t, .int f, .int g, told x0, told y0]] (SPn p s l q) .none (SPn p (lineSt s (endP s rel x0 y0)) (l ++ aheadL s true ++ [lineSg (endP s rel x0 y0)]) (q ++ [.list [spot (endP s rel x0 y0)]])) := by
  unfold CaL
  k_fill
  intro w p q s l rel a b t f g x0 y0 hl he hab
  have hcall : ∀ q, CaL w 4 (.ref 181) [.ref p.length, .tup [told a, told b, told t, .int f, .int g, told x0, told y0], spot (endP s rel x0 y0)] (SPn p s l q) .none (SPn p (lineSt s (endP s rel x0 y0)) (l ++ aheadL s true ++ [lineSg (endP s rel x0 y0)]) q) := fun q => arc_line w p q s l a b t f g x0 y0 _ hl he hab
  apply ca_def (lv := 5) (xs := [(PySem.Str.ofString "pen"), (PySem.Str.ofString "letter"), (PySem.Str.ofString "is_relative"), (PySem.Str.ofString "numbers")])
  · k_is
  · k_is
  · intro sB kB vs hl; match vs, hl with | [_, _, _, _], _ => first | exact BindsTo.of_eq rfl | exact binds_K kB rfl (by k_is) rfl rfl rfl
  · rfl
  · exact locs_of rfl
  · rfl
  · rfl
  · rfl
  · exact noCell_of rfl
  · apply exs_cons
    · apply ex_ifF
      · kt_ors
      · exact exs_nil
    · apply exs_cons
      · apply ex_assign
        · apply ev_qlist
          · kpc_turns
          · tlg_ne
        · rfl
        · rfl
        · intro _; rfl
      · apply exs_cons
        · kwd_rel
        · apply exs_cons
          · apply ex_forR2 (b' := 7) (n := 1) (ds := [.int 5])
            · apply ev_rng3
              · k_is
              · boot_by_name
              · kwd_less
              · kpc_turns
              · decide
              · rfl
              · decide
              · intro _; rfl
              · intro _; rfl
            · rfl
            · decide +kernel
            · decide +kernel
            · rfl
            · apply Fb.cons
              · apply exs_cons
                · apply ex_expr
                  · apply ev_qappend
                    · kpt_turns
                    · kpt_turns
                    · tlg_ne
                    · intro _; exact ⟨_, rfl⟩
                    · intro _; rfl
                  · intro _ _ _ _ _; rfl
                  · intro _; rfl
                · exact exs_nil
              · exact Fb.nil
            · rfl
            · rfl
            · intro _ _; rfl
          · apply exs_cons
            · apply ex_ifF
              · kt_ors
              · apply exs_cons
                · apply ex_ifF
                  · kt_ors
                  · apply exs_cons
                    · apply ex_ifF
                      · kt_ors
                      · apply exs_cons
                        · apply ex_ifF
                          · kt_ors
                          · apply exs_cons
                            · apply ex_ifF
                              · kt_ors
                              · apply exs_cons
                                · apply ex_expr
                                  · apply ev_pcall
                                    · kpt_turns
                                    · exact (pen_cls _).1
                                    · rfl
                                    · k_is
                                    · k_is
                                    · k_is
                                    · kpc_turns
                                    · exact hcall _
                                    · decide
                                    · intro _; exact ⟨_, rfl⟩
                                    · intro _; rfl
                                    · intro _; rfl
                                  · intro _ _ _ _ _; rfl
                                  · intro _; rfl
                                · exact exs_nil
                            · exact exs_nil
                        · exact exs_nil
                    · exact exs_nil
                · exact exs_nil
            · exact exs_nil
  · rfl
theorem drawA_arc : ∀ (w : World) (p q : Sto) (s : PS) (l : List PV) (rel : Bool) (a b t f g x0 y0 : Int), l.length ≤ 1000 → endP s rel x0 y0 ≠ s.here → a ≠ 0 → b ≠ 0 → CaL w 6 (.ref 202) [.ref p.length, .str (PySem.Str.ofString "A"), .bool rel, .tup [told a, told b, told t, .int f, .int g, told x0, told y0]] (SPn p s l q) .none (SPn p (lineSt s (endP s rel x0 y0)) (l ++ aheadL s true ++ [arcSg a b t f g (endP s rel x0 y0)]) (q ++ [.list [spot (endP s rel x0 y0)]])) := by
  unfold CaL
  k_fill
  intro w p q s l rel a b t f g x0 y0 hl he ha hb
  have hcall : ∀ q, CaL w 4 (.ref 181) [.ref p.length, .tup [told a, told b, told t, .int f, .int g, told x0, told y0], spot (endP s rel x0 y0)] (SPn p s l q) .none (SPn p (lineSt s (endP s rel x0 y0)) (l ++ aheadL s true ++ [arcSg a b t f g (endP s rel x0 y0)]) q) := fun q => arc_arc w p q s l a b t f g x0 y0 _ hl he ha hb
  apply ca_def (lv := 5) (xs := [(PySem.Str.ofString "pen"), (PySem.Str.ofString "letter"), (PySem.Str.ofString "is_relative"), (PySem.Str.ofString "numbers")])
  · k_is
  · k_is
  · intro sB kB vs hl; match vs, hl with | [_, _, _, _], _ => first | exact BindsTo.of_eq rfl | exact binds_K kB rfl (by k_is) rfl rfl rfl
  · rfl
  · exact locs_of rfl
  · rfl
  · rfl
  · rfl
  · exact noCell_of rfl
  · apply exs_cons
    · apply ex_ifF
      · kt_ors
      · exact exs_nil
    · apply exs_cons
      · apply ex_assign
        · apply ev_qlist
          · kpc_turns
          · tlg_ne
        · rfl
        · rfl
        · intro _; rfl
      · apply exs_cons
        · kwd_rel
        · apply exs_cons
          · apply ex_forR2 (b' := 7) (n := 1) (ds := [.int 5])
            · apply ev_rng3
              · k_is
              · boot_by_name
              · kwd_less
              · kpc_turns
              · decide
              · rfl
              · decide
              · intro _; rfl
              · intro _; rfl
            · rfl
            · decide +kernel
            · decide +kernel
            · rfl
            · apply Fb.cons
              · apply exs_cons
                · apply ex_expr
                  · apply ev_qappend
                    · kpt_turns
                    · kpt_turns
                    · tlg_ne
                    · intro _; exact ⟨_, rfl⟩
                    · intro _; rfl
                  · intro _ _ _ _ _; rfl
                  · intro _; rfl
                · exact exs_nil
              · exact Fb.nil
            · rfl
            · rfl
            · intro _ _; rfl
          · apply exs_cons
            · apply ex_ifF
              · kt_ors
              · apply exs_cons
                · apply ex_ifF
                  · kt_ors
                  · apply exs_cons
                    · apply ex_ifF
                      · kt_ors
                      · apply exs_cons
                        · apply ex_ifF
                          · kt_ors
                          · apply exs_cons
                            · apply ex_ifF
                              · kt_ors
                              · apply exs_cons
                                · apply ex_expr
                                  · apply ev_pcall
                                    · kpt_turns
                                    · exact (pen_cls _).1
                                    · rfl
                                    · k_is
                                    · k_is
                                    · k_is
                                    · kpc_turns
                                    · exact hcall _
                                    · decide
                                    · intro _; exact ⟨_, rfl⟩
                                    · intro _; rfl
                                    · intro _; rfl
                                  · intro _ _ _ _ _; rfl
                                  · intro _; rfl
                                · exact exs_nil
                            · exact exs_nil
                        · exact exs_nil
                    · exact exs_nil
                · exact exs_nil
            · exact exs_nil
  · rfl
end
section
noncomputable def shares : List Int := [1, 2, 3, 4, 6, 12]
theorem gI_max (n : Int) : gI n ∈ shares.filter (fun d => n.fmod d == 0) ∧ ∀ a ∈ shares.filter (fun d => n.fmod d == 0), a ≤ gI n := by
  constructor
  · refine List.mem_filter.mpr ⟨?_, ?_⟩
    · rcases gI_mem n with h | h | h | h | h | h <;> rw [h] <;> decide
    · have h1 := gI_pos n
      rw [Int.fmod_eq_emod_of_nonneg _ (by omega), beq_iff_eq]
      exact Int.emod_eq_zero_of_dvd (gI_dvd n).1
  · intro a ha
    obtain ⟨h1, h2⟩ := List.mem_filter.mp ha
    have hp : 0 < a ∧ a ∣ 12 := by
      simp only [shares, List.mem_cons, List.not_mem_nil, or_false] at h1
      rcases h1 with rfl | rfl | rfl | rfl | rfl | rfl <;> decide
    have hd : a ∣ n := by
      rw [beq_iff_eq, Int.fmod_eq_emod_of_nonneg _ (by omega)] at h2
      exact Int.dvd_of_emod_eq_zero h2
    exact Int.le_of_dvd (gI_pos n) (Int.dvd_coe_gcd hd hp.2)
theorem told_c : ∀ (w : World) (σ : Sto) (n : Int), CaL w 1 (.ref 228) [.int n] σ (told n) σ := by
  unfold CaL
  k_fill
  intro w σ n
  have hg := gI_pos n
  have hg0 : gI n ≠ 0 := by omega
  have hm := gI_max n
  apply ca_defC (lv := 0) (xs := [(PySem.Str.ofString "number")])
  · k_is
  · k_is
  · intro sB kB vs hl; match vs, hl with | [_], _ => first | exact BindsTo.of_eq rfl | exact binds_K kB rfl (by k_is) rfl rfl rfl
  · rfl
  · exact locsC_of rfl
  · rfl
  · rfl
  · rfl
  · decide
  · apply exs_cons
    · apply ex_assign
      · apply ev_cB
        · k_is
        · boot_by_name
        · apply evs_cons
          · apply ev_compT (φf := [((PySem.Str.ofString "number"), .int n)])
            · rfl
            · apply seen_of
              · exact List.forall_mem_cons.mpr ⟨⟨rfl, rfl, rfl⟩, fun _ h => absurd h List.not_mem_nil⟩
              · rfl
              · rfl
              · rfl
              · rfl
            · apply itr_T
              kpt_turns
            · apply fct_filter (ns := shares) (P := fun d => n.fmod d == 0)
              · intro d hd
                have hd0 : d ≠ 0 := by
                  simp only [shares, List.mem_cons, List.not_mem_nil, or_false] at hd
                  omega
                kba_ints
              · intro d
                kpt_turns
            · rfl
            · rfl
            · decide
            · intro _ _; rfl
          · kpc_turns
          · intro _; rfl
        · exact cb_max hm.1 hm.2
        · decide
        · kwd_less
        · intro _; rfl
        · intro _; rfl
      · rfl
      · rfl
      · intro _; rfl
    · kwd_inv
  · rfl
noncomputable def pt (p : Int × Int) : PV := .tup [.int p.1, .int p.2]
local macro_rules | `(tactic| keq_rows) => `(tactic| (with_reducible exact told_c _ _ _))
theorem spot_c : ∀ (w : World) (σ : Sto) (p : Int × Int), CaL w 2 (.ref 235) [pt p] σ (spot p) σ := by
  unfold CaL
  k_fill
  intro w σ p
  apply ca_def (lv := 1) (xs := [(PySem.Str.ofString "place")])
  · k_is
  · k_is
  · intro sB kB vs hl; match vs, hl with | [_], _ => first | exact BindsTo.of_eq rfl | exact binds_K kB rfl (by k_is) rfl rfl rfl
  · rfl
  · exact locs_of rfl
  · rfl
  · rfl
  · rfl
  · exact noCell_of rfl
  · kwd_inv
  · rfl
theorem take_c : ∀ (w : World) (σ : Sto) (i : Nat) (s0 s1 top : Int), σ[i]? = some (.list [.int s0, .int s1]) → 0 < top → 0 ≤ s0 → 0 ≤ s1 → s1 < 2147483647 → ∃ fig s0' s1' : Int, 0 ≤ fig ∧ fig < top ∧ 0 ≤ s0' ∧ 0 ≤ s1' ∧ s1' < 2147483647 ∧ CaL w 1 (.ref 216) [.ref i, .int top] σ (.int fig) (σ.set i (.list [.int s0', .int s1'])) := by
  unfold CaL
  k_fill
  intro w σ i s0 s1 top hi ht h0 h1 h2
  have hlt : i < σ.length := (List.getElem?_eq_some_iff.mp hi).1
  have hset : ∀ o, (σ.set i o)[i]? = some o := fun o => List.getElem?_set_self hlt
  have ht0 : top ≠ 0 := by omega
  by_cases hs : s0 > 0
  · refine ⟨s0.fmod top, s0.fdiv top, s1, ?_, ?_, ?_, h1, h2, ?_⟩
    · exact Int.fmod_nonneg_of_pos _ ht
    · exact Int.fmod_lt_of_pos _ ht
    · rw [Int.fdiv_eq_ediv_of_nonneg _ (by omega)]; exact Int.ediv_nonneg h0 (by omega)
    · skip
      apply ca_def (lv := 0) (xs := [(PySem.Str.ofString "source"), (PySem.Str.ofString "top")])
      · k_is
      · k_is
      · intro sB kB vs hl; match vs, hl with | [_, _], _ => first | exact BindsTo.of_eq rfl | exact binds_K kB rfl (by k_is) rfl rfl rfl
      · rfl
      · exact locs_of rfl
      · rfl
      · rfl
      · rfl
      · exact noCell_of rfl
      · apply exs_ret
        apply ex_ifT
        · apply tr_to
          · kba_ints
          · simpa using hs
        · apply exs_cons
          · kwd_rel
          · apply exs_cons
            · apply ex_setit
              · kpt_turns
              · kpt_turns
              · kpt_turns
              · exact hi
              · exact ⟨by decide, by simp, by decide⟩
              · intro _; rfl
            · apply exs_ret
              apply ex_ret
              exact ev_name rfl
      · rfl
  · have m1 := Int.emod_nonneg (s1 * 39373 + 7) (show (2147483647 : Int) ≠ 0 by decide)
    have m2 := Int.emod_lt_of_pos (s1 * 39373 + 7) (show (0 : Int) < 2147483647 by decide)
    have me : (s1 * 39373 + 7).fmod 2147483647 = (s1 * 39373 + 7) % 2147483647 := Int.fmod_eq_emod_of_nonneg _ (by decide)
    generalize hz : (s1 * 39373 + 7).fmod 2147483647 = z at *
    rw [← me] at m1 m2
    refine ⟨(((z * z).fmod 2147483629).fdiv 32).fmod top, s0, z, ?_, ?_, h0, m1, m2, ?_⟩
    · exact Int.fmod_nonneg_of_pos _ ht
    · exact Int.fmod_lt_of_pos _ ht
    · skip
      apply ca_def (lv := 0) (xs := [(PySem.Str.ofString "source"), (PySem.Str.ofString "top")])
      · k_is
      · k_is
      · intro sB kB vs hl; match vs, hl with | [_, _], _ => first | exact BindsTo.of_eq rfl | exact binds_K kB rfl (by k_is) rfl rfl rfl
      · rfl
      · exact locs_of rfl
      · rfl
      · rfl
      · rfl
      · exact noCell_of rfl
      · apply exs_cons
        · apply ex_ifF
          · apply tr_to
            · kba_ints
            · simpa using hs
          · exact exs_nil
        · apply exs_cons
          · apply ex_setit
            · apply ev_to
              · kpt_turns
              · rw [hz]
            · kpt_turns
            · kpt_turns
            · exact hi
            · exact ⟨by decide, by simp, by decide⟩
            · intro _; rfl
          · show Exs _ _ _ _ _ _ (σ.set i (.list [.int s0, .int z])) _ _ _ _
            apply exs_ret
            apply ex_ret
            have hr := hset (.list [.int s0, .int z])
            kpt_turns
      · rfl
theorem one_c : ∀ (w : World) (σ : Sto) (i : Nat) (s0 s1 : Int) (l : List PV), σ[i]? = some (.list [.int s0, .int s1]) → 0 < l.length → l.length ≤ 1000 → 0 ≤ s0 → 0 ≤ s1 → s1 < 2147483647 → ∃ (k : Nat) (d : PV) (s0' s1' : Int), l[k]? = some d ∧ 0 ≤ s0' ∧ 0 ≤ s1' ∧ s1' < 2147483647 ∧ CaL w 2 (.ref 223) [.ref i, .lst l] σ d (σ.set i (.list [.int s0', .int s1'])) := by
  intro w σ i s0 s1 l hi hl hz h0 h1 h2
  obtain ⟨fig, s0', s1', f0, f1, g0, g1, g2, hc⟩ := take_c w σ i s0 s1 l.length hi (by omega) h0 h1 h2
  have hk : fig.toNat < l.length := by omega
  refine ⟨fig.toNat, l[fig.toNat], s0', s1', List.getElem?_eq_getElem hk, g0, g1, g2, ?_⟩
  have hs : seqIndex? fig l.length = some fig.toNat := by
    unfold seqIndex?
    have : ¬ fig < 0 := by omega
    simp [this, f0, f1]
  have hd : l[fig.toNat]? = some l[fig.toNat] := List.getElem?_eq_getElem hk
  generalize l[fig.toNat] = d at *
  revert hc
  unfold CaL
  k_fill
  intro hc
  apply ca_def (lv := 1) (xs := [(PySem.Str.ofString "source"), (PySem.Str.ofString "things")])
  · k_is
  · k_is
  · intro sB kB vs hl; match vs, hl with | [_, _], _ => first | exact BindsTo.of_eq rfl | exact binds_K kB rfl (by k_is) rfl rfl rfl
  · rfl
  · exact locs_of rfl
  · rfl
  · rfl
  · rfl
  · exact noCell_of rfl
  · apply exs_ret
    apply ex_ret
    apply ev_sub
    · kpt_turns
    · apply ev_call
      · k_is
      · k_is
      · kpc_turns
      · exact hc
      · decide
      · kwd_less
      · intro _; rfl
      · intro _; rfl
    · exact .lst hs hd
    · omega
    · intro _ _; rfl
  · rfl
end
section
local macro_rules | `(tactic| kpf_close) => `(tactic| first | (with_reducible exact Tg.nil) | ((with_reducible apply Tg.name); rfl; rfl; kpf_close) | ((with_reducible apply Tg.cell); rfl; rfl; kpf_close))
local macro_rules | `(tactic| keq_hits) => `(tactic| first
  | ((with_reducible apply ev_sliceD); kpt_turns; decide; tlg_ne; (intro _ _; with_unfolding_all rfl))
  | ((with_reducible apply ev_sliceU); kpt_turns; decide; tlg_ne; (intro _ _; with_unfolding_all rfl))
  | ((with_reducible apply ev_list); kpc_turns; tlg_ne)
  | ((with_reducible apply ev_and_one); kpt_turns)
  | ((with_reducible apply ev_dgetF); rfl; rfl; decide +kernel; rfl; rfl; (exact List.cons_ne_nil _ _); (exact Nat.le_of_ble_eq_true rfl); kpc_turns; (first | kernel_rfl | rfl); (intro _; exact ⟨_, rfl⟩); (intro _; rfl); (intro _; rfl)))
local macro_rules | `(tactic| kwd_rel) => `(tactic| first
  | ((with_reducible apply ex_assign); kpt_turns; rfl; rfl; (intro _; rfl))
  | ((with_reducible apply ex_assignC'); kpt_turns; rfl; rfl; (intro _; rfl))
  | ((with_reducible apply ex_swap); (intros; rfl); (intro _; rfl); kpt_turns; rfl; exact locs_of rfl)
  | ((with_reducible apply ex_unpk); (intros; rfl); (intro _; rfl); kpt_turns; kpf_close; (intro _; rfl); (intro _; rfl))
  | ((with_reducible apply ex_expr); kpt_turns; (intro _ _ _ _ _; rfl); (intro _; rfl)))
theorem pointsH : ∀ (w : World) (σ : Sto) (s : PS) (rel : Bool) (x : Int), CaL w 1 (.ref 240) [pt s.here, .str (PySem.Str.ofString "H"), .bool rel, .lst [.int x]] σ (.lst [pt (endH s rel x)]) σ := by
  unfold CaL
  k_fill
  intro w σ s rel x
  cases rel with
  | true =>
    apply ca_defC (lv := 0) (xs := [(PySem.Str.ofString "here"), (PySem.Str.ofString "letter"), (PySem.Str.ofString "is_relative"), (PySem.Str.ofString "numbers")])
    · k_is
    · k_is
    · intro sB kB vs hl; match vs, hl with | [_, _, _, _], _ => first | exact BindsTo.of_eq rfl | exact binds_K kB rfl (by k_is) rfl rfl rfl
    · rfl
    · exact locsC_of rfl
    · rfl
    · rfl
    · rfl
    · decide
    · kwd_inv
    · rfl
  | false =>
    refine ca_to (d := .lst [pt (0 + x, s.here.2)]) ?_ (by simp [endH])
    apply ca_defC (lv := 0) (xs := [(PySem.Str.ofString "here"), (PySem.Str.ofString "letter"), (PySem.Str.ofString "is_relative"), (PySem.Str.ofString "numbers")])
    · k_is
    · k_is
    · intro sB kB vs hl; match vs, hl with | [_, _, _, _], _ => first | exact BindsTo.of_eq rfl | exact binds_K kB rfl (by k_is) rfl rfl rfl
    · rfl
    · exact locsC_of rfl
    · rfl
    · rfl
    · rfl
    · decide
    · kwd_inv
    · rfl
theorem pointsV : ∀ (w : World) (σ : Sto) (s : PS) (rel : Bool) (x : Int), CaL w 1 (.ref 240) [pt s.here, .str (PySem.Str.ofString "V"), .bool rel, .lst [.int x]] σ (.lst [pt (endV s rel x)]) σ := by
  unfold CaL
  k_fill
  intro w σ s rel x
  cases rel with
  | true =>
    apply ca_defC (lv := 0) (xs := [(PySem.Str.ofString "here"), (PySem.Str.ofString "letter"), (PySem.Str.ofString "is_relative"), (PySem.Str.ofString "numbers")])
    · k_is
    · k_is
    · intro sB kB vs hl; match vs, hl with | [_, _, _, _], _ => first | exact BindsTo.of_eq rfl | exact binds_K kB rfl (by k_is) rfl rfl rfl
    · rfl
    · exact locsC_of rfl
    · rfl
    · rfl
    · rfl
    · decide
    · kwd_inv
    · rfl
  | false =>
    refine ca_to (d := .lst [pt (s.here.1, 0 + x)]) ?_ (by simp [endV])
    apply ca_defC (lv := 0) (xs := [(PySem.Str.ofString "here"), (PySem.Str.ofString "letter"), (PySem.Str.ofString "is_relative"), (PySem.Str.ofString "numbers")])
    · k_is
    · k_is
    · intro sB kB vs hl; match vs, hl with | [_, _, _, _], _ => first | exact BindsTo.of_eq rfl | exact binds_K kB rfl (by k_is) rfl rfl rfl
    · rfl
    · exact locsC_of rfl
    · rfl
    · rfl
    · rfl
    · decide
    · kwd_inv
    · rfl
theorem pointsL : ∀ (w : World) (σ : Sto) (s : PS) (rel : Bool) (x0 y0 : Int), CaL w 1 (.ref 240) [pt s.here, .str (PySem.Str.ofString "L"), .bool rel, .lst [.int x0, .int y0]] σ (.lst [pt (endP s rel x0 y0)]) σ := by
  unfold CaL
  k_fill
  intro w σ s rel x0 y0
  cases rel with
  | true =>
    apply ca_defC (lv := 0) (xs := [(PySem.Str.ofString "here"), (PySem.Str.ofString "letter"), (PySem.Str.ofString "is_relative"), (PySem.Str.ofString "numbers")])
    · k_is
    · k_is
    · intro sB kB vs hl; match vs, hl with | [_, _, _, _], _ => first | exact BindsTo.of_eq rfl | exact binds_K kB rfl (by k_is) rfl rfl rfl
    · rfl
    · exact locsC_of rfl
    · rfl
    · rfl
    · rfl
    · decide
    · apply exs_cons
      · kwd_rel
      · apply exs_cons
        · apply ex_ifF
          · kt_ors
          · exact exs_nil
        · apply exs_cons
          · apply ex_ifF
            · kt_ors
            · exact exs_nil
          · apply exs_cons
            · kwd_rel
            · apply exs_ret
              apply ex_ret
              apply ev_comp (φf := [((PySem.Str.ofString "x"), .int s.here.1), ((PySem.Str.ofString "y"), .int s.here.2), ((PySem.Str.ofString "row"), .lst [.int x0, .int y0])]) (ds := [.int 0])
              · rfl
              · apply seen_of
                · exact List.forall_mem_cons.mpr ⟨⟨rfl, rfl, rfl⟩, List.forall_mem_cons.mpr ⟨⟨rfl, rfl, rfl⟩, List.forall_mem_cons.mpr ⟨⟨rfl, rfl, rfl⟩, fun _ h => absurd h List.not_mem_nil⟩⟩⟩
                · rfl
                · rfl
                · rfl
                · rfl
              · apply itr_R2 (b' := 2) (n := 1)
                · apply ev_rng3
                  · k_is
                  · boot_by_name
                  · kwd_less
                  · kpc_turns
                  · decide
                  · rfl
                  · decide
                  · intro _; rfl
                  · intro _; rfl
                · rfl
                · decide +kernel
                · decide +kernel
                · rfl
              · apply Fc.cons
                · kpt_turns
                · exact Fc.nil
              · rfl
              · rfl
              · decide
              · intro _ _; rfl
    · rfl
  | false =>
    refine ca_to (d := .lst [pt (0 + x0, 0 + y0)]) ?_ (by simp [endP])
    apply ca_defC (lv := 0) (xs := [(PySem.Str.ofString "here"), (PySem.Str.ofString "letter"), (PySem.Str.ofString "is_relative"), (PySem.Str.ofString "numbers")])
    · k_is
    · k_is
    · intro sB kB vs hl; match vs, hl with | [_, _, _, _], _ => first | exact BindsTo.of_eq rfl | exact binds_K kB rfl (by k_is) rfl rfl rfl
    · rfl
    · exact locsC_of rfl
    · rfl
    · rfl
    · rfl
    · decide
    · apply exs_cons
      · kwd_rel
      · apply exs_cons
        · apply ex_ifF
          · kt_ors
          · exact exs_nil
        · apply exs_cons
          · apply ex_ifF
            · kt_ors
            · exact exs_nil
          · apply exs_cons
            · kwd_rel
            · apply exs_ret
              apply ex_ret
              apply ev_comp (φf := [((PySem.Str.ofString "x"), .int 0), ((PySem.Str.ofString "y"), .int 0), ((PySem.Str.ofString "row"), .lst [.int x0, .int y0])]) (ds := [.int 0])
              · rfl
              · apply seen_of
                · exact List.forall_mem_cons.mpr ⟨⟨rfl, rfl, rfl⟩, List.forall_mem_cons.mpr ⟨⟨rfl, rfl, rfl⟩, List.forall_mem_cons.mpr ⟨⟨rfl, rfl, rfl⟩, fun _ h => absurd h List.not_mem_nil⟩⟩⟩
                · rfl
                · rfl
                · rfl
                · rfl
              · apply itr_R2 (b' := 2) (n := 1)
                · apply ev_rng3
                  · k_is
                  · boot_by_name
                  · kwd_less
                  · kpc_turns
                  · decide
                  · rfl
                  · decide
                  · intro _; rfl
                  · intro _; rfl
                · rfl
                · decide +kernel
                · decide +kernel
                · rfl
              · apply Fc.cons
                · kpt_turns
                · exact Fc.nil
              · rfl
              · rfl
              · decide
              · intro _ _; rfl
    · rfl
theorem pointsM : ∀ (w : World) (σ : Sto) (s : PS) (rel : Bool) (x0 y0 : Int), CaL w 1 (.ref 240) [pt s.here, .str (PySem.Str.ofString "M"), .bool rel, .lst [.int x0, .int y0]] σ (.lst [pt (endP s rel x0 y0)]) σ := by
  unfold CaL
  k_fill
  intro w σ s rel x0 y0
  cases rel with
  | true =>
    apply ca_defC (lv := 0) (xs := [(PySem.Str.ofString "here"), (PySem.Str.ofString "letter"), (PySem.Str.ofString "is_relative"), (PySem.Str.ofString "numbers")])
    · k_is
    · k_is
    · intro sB kB vs hl; match vs, hl with | [_, _, _, _], _ => first | exact BindsTo.of_eq rfl | exact binds_K kB rfl (by k_is) rfl rfl rfl
    · rfl
    · exact locsC_of rfl
    · rfl
    · rfl
    · rfl
    · decide
    · apply exs_cons
      · kwd_rel
      · apply exs_cons
        · apply ex_ifF
          · kt_ors
          · exact exs_nil
        · apply exs_cons
          · apply ex_ifF
            · kt_ors
            · exact exs_nil
          · apply exs_cons
            · kwd_rel
            · apply exs_ret
              apply ex_ret
              apply ev_comp (φf := [((PySem.Str.ofString "x"), .int s.here.1), ((PySem.Str.ofString "y"), .int s.here.2), ((PySem.Str.ofString "row"), .lst [.int x0, .int y0])]) (ds := [.int 0])
              · rfl
              · apply seen_of
                · exact List.forall_mem_cons.mpr ⟨⟨rfl, rfl, rfl⟩, List.forall_mem_cons.mpr ⟨⟨rfl, rfl, rfl⟩, List.forall_mem_cons.mpr ⟨⟨rfl, rfl, rfl⟩, fun _ h => absurd h List.not_mem_nil⟩⟩⟩
                · rfl
                · rfl
                · rfl
                · rfl
              · apply itr_R2 (b' := 2) (n := 1)
                · apply ev_rng3
                  · k_is
                  · boot_by_name
                  · kwd_less
                  · kpc_turns
                  · decide
                  · rfl
                  · decide
                  · intro _; rfl
                  · intro _; rfl
                · rfl
                · decide +kernel
                · decide +kernel
                · rfl
              · apply Fc.cons
                · kpt_turns
                · exact Fc.nil
              · rfl
              · rfl
              · decide
              · intro _ _; rfl
    · rfl
  | false =>
    refine ca_to (d := .lst [pt (0 + x0, 0 + y0)]) ?_ (by simp [endP])
    apply ca_defC (lv := 0) (xs := [(PySem.Str.ofString "here"), (PySem.Str.ofString "letter"), (PySem.Str.ofString "is_relative"), (PySem.Str.ofString "numbers")])
    · k_is
    · k_is
    · intro sB kB vs hl; match vs, hl with | [_, _, _, _], _ => first | exact BindsTo.of_eq rfl | exact binds_K kB rfl (by k_is) rfl rfl rfl
    · rfl
    · exact locsC_of rfl
    · rfl
    · rfl
    · rfl
    · decide
    · apply exs_cons
      · kwd_rel
      · apply exs_cons
        · apply ex_ifF
          · kt_ors
          · exact exs_nil
        · apply exs_cons
          · apply ex_ifF
            · kt_ors
            · exact exs_nil
          · apply exs_cons
            · kwd_rel
            · apply exs_ret
              apply ex_ret
              apply ev_comp (φf := [((PySem.Str.ofString "x"), .int 0), ((PySem.Str.ofString "y"), .int 0), ((PySem.Str.ofString "row"), .lst [.int x0, .int y0])]) (ds := [.int 0])
              · rfl
              · apply seen_of
                · exact List.forall_mem_cons.mpr ⟨⟨rfl, rfl, rfl⟩, List.forall_mem_cons.mpr ⟨⟨rfl, rfl, rfl⟩, List.forall_mem_cons.mpr ⟨⟨rfl, rfl, rfl⟩, fun _ h => absurd h List.not_mem_nil⟩⟩⟩
                · rfl
                · rfl
                · rfl
                · rfl
              · apply itr_R2 (b' := 2) (n := 1)
                · apply ev_rng3
                  · k_is
                  · boot_by_name
                  · kwd_less
                  · kpc_turns
                  · decide
                  · rfl
                  · decide
                  · intro _; rfl
                  · intro _; rfl
                · rfl
                · decide +kernel
                · decide +kernel
                · rfl
              · apply Fc.cons
                · kpt_turns
                · exact Fc.nil
              · rfl
              · rfl
              · decide
              · intro _ _; rfl
    · rfl
theorem pointsT : ∀ (w : World) (σ : Sto) (s : PS) (rel : Bool) (x0 y0 : Int), CaL w 1 (.ref 240) [pt s.here, .str (PySem.Str.ofString "T"), .bool rel, .lst [.int x0, .int y0]] σ (.lst [pt (endP s rel x0 y0)]) σ := by
  unfold CaL
  k_fill
  intro w σ s rel x0 y0
  cases rel with
  | true =>
    apply ca_defC (lv := 0) (xs := [(PySem.Str.ofString "here"), (PySem.Str.ofString "letter"), (PySem.Str.ofString "is_relative"), (PySem.Str.ofString "numbers")])
    · k_is
    · k_is
    · intro sB kB vs hl; match vs, hl with | [_, _, _, _], _ => first | exact BindsTo.of_eq rfl | exact binds_K kB rfl (by k_is) rfl rfl rfl
    · rfl
    · exact locsC_of rfl
    · rfl
    · rfl
    · rfl
    · decide
    · apply exs_cons
      · kwd_rel
      · apply exs_cons
        · apply ex_ifF
          · kt_ors
          · exact exs_nil
        · apply exs_cons
          · apply ex_ifF
            · kt_ors
            · exact exs_nil
          · apply exs_cons
            · kwd_rel
            · apply exs_ret
              apply ex_ret
              apply ev_comp (φf := [((PySem.Str.ofString "x"), .int s.here.1), ((PySem.Str.ofString "y"), .int s.here.2), ((PySem.Str.ofString "row"), .lst [.int x0, .int y0])]) (ds := [.int 0])
              · rfl
              · apply seen_of
                · exact List.forall_mem_cons.mpr ⟨⟨rfl, rfl, rfl⟩, List.forall_mem_cons.mpr ⟨⟨rfl, rfl, rfl⟩, List.forall_mem_cons.mpr ⟨⟨rfl, rfl, rfl⟩, fun _ h => absurd h List.not_mem_nil⟩⟩⟩
                · rfl
                · rfl
                · rfl
                · rfl
              · apply itr_R2 (b' := 2) (n := 1)
                · apply ev_rng3
                  · k_is
                  · boot_by_name
                  · kwd_less
                  · kpc_turns
                  · decide
                  · rfl
                  · decide
                  · intro _; rfl
                  · intro _; rfl
                · rfl
                · decide +kernel
                · decide +kernel
                · rfl
              · apply Fc.cons
                · kpt_turns
                · exact Fc.nil
              · rfl
              · rfl
              · decide
              · intro _ _; rfl
    · rfl
  | false =>
    refine ca_to (d := .lst [pt (0 + x0, 0 + y0)]) ?_ (by simp [endP])
    apply ca_defC (lv := 0) (xs := [(PySem.Str.ofString "here"), (PySem.Str.ofString "letter"), (PySem.Str.ofString "is_relative"), (PySem.Str.ofString "numbers")])
    · k_is
    · k_is
    · intro sB kB vs hl; match vs, hl with | [_, _, _, _], _ => first | exact BindsTo.of_eq rfl | exact binds_K kB rfl (by k_is) rfl rfl rfl
    · rfl
    · exact locsC_of rfl
    · rfl
    · rfl
    · rfl
    · decide
    · apply exs_cons
      · kwd_rel
      · apply exs_cons
        · apply ex_ifF
          · kt_ors
          · exact exs_nil
        · apply exs_cons
          · apply ex_ifF
            · kt_ors
            · exact exs_nil
          · apply exs_cons
            · kwd_rel
            · apply exs_ret
              apply ex_ret
              apply ev_comp (φf := [((PySem.Str.ofString "x"), .int 0), ((PySem.Str.ofString "y"), .int 0), ((PySem.Str.ofString "row"), .lst [.int x0, .int y0])]) (ds := [.int 0])
              · rfl
              · apply seen_of
                · exact List.forall_mem_cons.mpr ⟨⟨rfl, rfl, rfl⟩, List.forall_mem_cons.mpr ⟨⟨rfl, rfl, rfl⟩, List.forall_mem_cons.mpr ⟨⟨rfl, rfl, rfl⟩, fun _ h => absurd h List.not_mem_nil⟩⟩⟩
                · rfl
                · rfl
                · rfl
                · rfl
              · apply itr_R2 (b' := 2) (n := 1)
                · apply ev_rng3
                  · k_is
                  · boot_by_name
                  · kwd_less
                  · kpc_turns
                  · decide
                  · rfl
                  · decide
                  · intro _; rfl
                  · intro _; rfl
                · rfl
                · decide +kernel
                · decide +kernel
                · rfl
              · apply Fc.cons
                · kpt_turns
                · exact Fc.nil
              · rfl
              · rfl
              · decide
              · intro _ _; rfl
    · rfl
theorem pointsC : ∀ (w : World) (σ : Sto) (s : PS) (rel : Bool) (x0 y0 x1 y1 x2 y2 : Int), CaL w 1 (.ref 240) [pt s.here, .str (PySem.Str.ofString "C"), .bool rel, .lst [.int x0, .int y0, .int x1, .int y1, .int x2, .int y2]] σ (.lst [pt (endP s rel x0 y0), pt (endP s rel x1 y1), pt (endP s rel x2 y2)]) σ := by
  unfold CaL
  k_fill
  intro w σ s rel x0 y0 x1 y1 x2 y2
  cases rel with
  | true =>
    apply ca_defC (lv := 0) (xs := [(PySem.Str.ofString "here"), (PySem.Str.ofString "letter"), (PySem.Str.ofString "is_relative"), (PySem.Str.ofString "numbers")])
    · k_is
    · k_is
    · intro sB kB vs hl; match vs, hl with | [_, _, _, _], _ => first | exact BindsTo.of_eq rfl | exact binds_K kB rfl (by k_is) rfl rfl rfl
    · rfl
    · exact locsC_of rfl
    · rfl
    · rfl
    · rfl
    · decide
    · apply exs_cons
      · kwd_rel
      · apply exs_cons
        · apply ex_ifF
          · kt_ors
          · exact exs_nil
        · apply exs_cons
          · apply ex_ifF
            · kt_ors
            · exact exs_nil
          · apply exs_cons
            · kwd_rel
            · apply exs_ret
              apply ex_ret
              apply ev_comp (φf := [((PySem.Str.ofString "x"), .int s.here.1), ((PySem.Str.ofString "y"), .int s.here.2), ((PySem.Str.ofString "row"), .lst [.int x0, .int y0, .int x1, .int y1, .int x2, .int y2])]) (ds := [.int 0, .int 2, .int 4])
              · rfl
              · apply seen_of
                · exact List.forall_mem_cons.mpr ⟨⟨rfl, rfl, rfl⟩, List.forall_mem_cons.mpr ⟨⟨rfl, rfl, rfl⟩, List.forall_mem_cons.mpr ⟨⟨rfl, rfl, rfl⟩, fun _ h => absurd h List.not_mem_nil⟩⟩⟩
                · rfl
                · rfl
                · rfl
                · rfl
              · apply itr_R2 (b' := 6) (n := 3)
                · apply ev_rng3
                  · k_is
                  · boot_by_name
                  · kwd_less
                  · kpc_turns
                  · decide
                  · rfl
                  · decide
                  · intro _; rfl
                  · intro _; rfl
                · rfl
                · decide +kernel
                · decide +kernel
                · rfl
              · apply Fc.cons
                · kpt_turns
                · apply Fc.cons
                  · kpt_turns
                  · apply Fc.cons
                    · kpt_turns
                    · exact Fc.nil
              · rfl
              · rfl
              · decide
              · intro _ _; rfl
    · rfl
  | false =>
    refine ca_to (d := .lst [pt (0 + x0, 0 + y0), pt (0 + x1, 0 + y1), pt (0 + x2, 0 + y2)]) ?_ (by simp [endP])
    apply ca_defC (lv := 0) (xs := [(PySem.Str.ofString "here"), (PySem.Str.ofString "letter"), (PySem.Str.ofString "is_relative"), (PySem.Str.ofString "numbers")])
    · k_is
    · k_is
    · intro sB kB vs hl; match vs, hl with | [_, _, _, _], _ => first | exact BindsTo.of_eq rfl | exact binds_K kB rfl (by k_is) rfl rfl rfl
    · rfl
    · exact locsC_of rfl
    · rfl
    · rfl
    · rfl
    · decide
    · apply exs_cons
      · kwd_rel
      · apply exs_cons
        · apply ex_ifF
          · kt_ors
          · exact exs_nil
        · apply exs_cons
          · apply ex_ifF
            · kt_ors
            · exact exs_nil
          · apply exs_cons
            · kwd_rel
            · apply exs_ret
              apply ex_ret
              apply ev_comp (φf := [((PySem.Str.ofString "x"), .int 0), ((PySem.Str.ofString "y"), .int 0), ((PySem.Str.ofString "row"), .lst [.int x0, .int y0, .int x1, .int y1, .int x2, .int y2])]) (ds := [.int 0, .int 2, .int 4])
              · rfl
              · apply seen_of
                · exact List.forall_mem_cons.mpr ⟨⟨rfl, rfl, rfl⟩, List.forall_mem_cons.mpr ⟨⟨rfl, rfl, rfl⟩, List.forall_mem_cons.mpr ⟨⟨rfl, rfl, rfl⟩, fun _ h => absurd h List.not_mem_nil⟩⟩⟩
                · rfl
                · rfl
                · rfl
                · rfl
              · apply itr_R2 (b' := 6) (n := 3)
                · apply ev_rng3
                  · k_is
                  · boot_by_name
                  · kwd_less
                  · kpc_turns
                  · decide
                  · rfl
                  · decide
                  · intro _; rfl
                  · intro _; rfl
                · rfl
                · decide +kernel
                · decide +kernel
                · rfl
              · apply Fc.cons
                · kpt_turns
                · apply Fc.cons
                  · kpt_turns
                  · apply Fc.cons
                    · kpt_turns
                    · exact Fc.nil
              · rfl
              · rfl
              · decide
              · intro _ _; rfl
    · rfl
theorem pointsS : ∀ (w : World) (σ : Sto) (s : PS) (rel : Bool) (x0 y0 x1 y1 : Int), CaL w 1 (.ref 240) [pt s.here, .str (PySem.Str.ofString "S"), .bool rel, .lst [.int x0, .int y0, .int x1, .int y1]] σ (.lst [pt (endP s rel x0 y0), pt (endP s rel x1 y1)]) σ := by
  unfold CaL
  k_fill
  intro w σ s rel x0 y0 x1 y1
  cases rel with
  | true =>
    apply ca_defC (lv := 0) (xs := [(PySem.Str.ofString "here"), (PySem.Str.ofString "letter"), (PySem.Str.ofString "is_relative"), (PySem.Str.ofString "numbers")])
    · k_is
    · k_is
    · intro sB kB vs hl; match vs, hl with | [_, _, _, _], _ => first | exact BindsTo.of_eq rfl | exact binds_K kB rfl (by k_is) rfl rfl rfl
    · rfl
    · exact locsC_of rfl
    · rfl
    · rfl
    · rfl
    · decide
    · apply exs_cons
      · kwd_rel
      · apply exs_cons
        · apply ex_ifF
          · kt_ors
          · exact exs_nil
        · apply exs_cons
          · apply ex_ifF
            · kt_ors
            · exact exs_nil
          · apply exs_cons
            · kwd_rel
            · apply exs_ret
              apply ex_ret
              apply ev_comp (φf := [((PySem.Str.ofString "x"), .int s.here.1), ((PySem.Str.ofString "y"), .int s.here.2), ((PySem.Str.ofString "row"), .lst [.int x0, .int y0, .int x1, .int y1])]) (ds := [.int 0, .int 2])
              · rfl
              · apply seen_of
                · exact List.forall_mem_cons.mpr ⟨⟨rfl, rfl, rfl⟩, List.forall_mem_cons.mpr ⟨⟨rfl, rfl, rfl⟩, List.forall_mem_cons.mpr ⟨⟨rfl, rfl, rfl⟩, fun _ h => absurd h List.not_mem_nil⟩⟩⟩
                · rfl
                · rfl
                · rfl
                · rfl
              · apply itr_R2 (b' := 4) (n := 2)
                · apply ev_rng3
                  · k_is
                  · boot_by_name
                  · kwd_less
                  · kpc_turns
                  · decide
                  · rfl
                  · decide
                  · intro _; rfl
                  · intro _; rfl
                · rfl
                · decide +kernel
                · decide +kernel
                · rfl
              · apply Fc.cons
                · kpt_turns
                · apply Fc.cons
                  · kpt_turns
                  · exact Fc.nil
              · rfl
              · rfl
              · decide
              · intro _ _; rfl
    · rfl
  | false =>
    refine ca_to (d := .lst [pt (0 + x0, 0 + y0), pt (0 + x1, 0 + y1)]) ?_ (by simp [endP])
    apply ca_defC (lv := 0) (xs := [(PySem.Str.ofString "here"), (PySem.Str.ofString "letter"), (PySem.Str.ofString "is_relative"), (PySem.Str.ofString "numbers")])
    · k_is
    · k_is
    · intro sB kB vs hl; match vs, hl with | [_, _, _, _], _ => first | exact BindsTo.of_eq rfl | exact binds_K kB rfl (by k_is) rfl rfl rfl
    · rfl
    · exact locsC_of rfl
    · rfl
    · rfl
    · rfl
    · decide
    · apply exs_cons
      · kwd_rel
      · apply exs_cons
        · apply ex_ifF
          · kt_ors
          · exact exs_nil
        · apply exs_cons
          · apply ex_ifF
            · kt_ors
            · exact exs_nil
          · apply exs_cons
            · kwd_rel
            · apply exs_ret
              apply ex_ret
              apply ev_comp (φf := [((PySem.Str.ofString "x"), .int 0), ((PySem.Str.ofString "y"), .int 0), ((PySem.Str.ofString "row"), .lst [.int x0, .int y0, .int x1, .int y1])]) (ds := [.int 0, .int 2])
              · rfl
              · apply seen_of
                · exact List.forall_mem_cons.mpr ⟨⟨rfl, rfl, rfl⟩, List.forall_mem_cons.mpr ⟨⟨rfl, rfl, rfl⟩, List.forall_mem_cons.mpr ⟨⟨rfl, rfl, rfl⟩, fun _ h => absurd h List.not_mem_nil⟩⟩⟩
                · rfl
                · rfl
                · rfl
                · rfl
              · apply itr_R2 (b' := 4) (n := 2)
                · apply ev_rng3
                  · k_is
                  · boot_by_name
                  · kwd_less
                  · kpc_turns
                  · decide
                  · rfl
                  · decide
                  · intro _; rfl
                  · intro _; rfl
                · rfl
                · decide +kernel
                · decide +kernel
                · rfl
              · apply Fc.cons
                · kpt_turns
                · apply Fc.cons
                  · kpt_turns
                  · exact Fc.nil
              · rfl
              · rfl
              · decide
              · intro _ _; rfl
    · rfl
theorem pointsQ : ∀ (w : World) (σ : Sto) (s : PS) (rel : Bool) (x0 y0 x1 y1 : Int), CaL w 1 (.ref 240) [pt s.here, .str (PySem.Str.ofString "Q"), .bool rel, .lst [.int x0, .int y0, .int x1, .int y1]] σ (.lst [pt (endP s rel x0 y0), pt (endP s rel x1 y1)]) σ := by
  unfold CaL
  k_fill
  intro w σ s rel x0 y0 x1 y1
  cases rel with
  | true =>
    apply ca_defC (lv := 0) (xs := [(PySem.Str.ofString "here"), (PySem.Str.ofString "letter"), (PySem.Str.ofString "is_relative"), (PySem.Str.ofString "numbers")])
    · k_is
    · k_is
    · intro sB kB vs hl; match vs, hl with | [_, _, _, _], _ => first | exact BindsTo.of_eq rfl | exact binds_K kB rfl (by k_is) rfl rfl rfl
    · rfl
    · exact locsC_of rfl
    · rfl
    · rfl
    · rfl
    · decide
    · apply exs_cons
      · kwd_rel
      · apply exs_cons
        · apply ex_ifF
          · kt_ors
          · exact exs_nil
        · apply exs_cons
          · apply ex_ifF
            · kt_ors
            · exact exs_nil
          · apply exs_cons
            · kwd_rel
            · apply exs_ret
              apply ex_ret
              apply ev_comp (φf := [((PySem.Str.ofString "x"), .int s.here.1), ((PySem.Str.ofString "y"), .int s.here.2), ((PySem.Str.ofString "row"), .lst [.int x0, .int y0, .int x1, .int y1])]) (ds := [.int 0, .int 2])
              · rfl
              · apply seen_of
                · exact List.forall_mem_cons.mpr ⟨⟨rfl, rfl, rfl⟩, List.forall_mem_cons.mpr ⟨⟨rfl, rfl, rfl⟩, List.forall_mem_cons.mpr ⟨⟨rfl, rfl, rfl⟩, fun _ h => absurd h List.not_mem_nil⟩⟩⟩
                · rfl
                · rfl
                · rfl
                · rfl
              · apply itr_R2 (b' := 4) (n := 2)
                · apply ev_rng3
                  · k_is
                  · boot_by_name
                  · kwd_less
                  · kpc_turns
                  · decide
                  · rfl
                  · decide
                  · intro _; rfl
                  · intro _; rfl
                · rfl
                · decide +kernel
                · decide +kernel
                · rfl
              · apply Fc.cons
                · kpt_turns
                · apply Fc.cons
                  · kpt_turns
                  · exact Fc.nil
              · rfl
              · rfl
              · decide
              · intro _ _; rfl
    · rfl
  | false =>
    refine ca_to (d := .lst [pt (0 + x0, 0 + y0), pt (0 + x1, 0 + y1)]) ?_ (by simp [endP])
    apply ca_defC (lv := 0) (xs := [(PySem.Str.ofString "here"), (PySem.Str.ofString "letter"), (PySem.Str.ofString "is_relative"), (PySem.Str.ofString "numbers")])
    · k_is
    · k_is
    · intro sB kB vs hl; match vs, hl with | [_, _, _, _], _ => first | exact BindsTo.of_eq rfl | exact binds_K kB rfl (by k_is) rfl rfl rfl
    · rfl
    · exact locsC_of rfl
    · rfl
    · rfl
    · rfl
    · decide
    · apply exs_cons
      · kwd_rel
      · apply exs_cons
        · apply ex_ifF
          · kt_ors
          · exact exs_nil
        · apply exs_cons
          · apply ex_ifF
            · kt_ors
            · exact exs_nil
          · apply exs_cons
            · kwd_rel
            · apply exs_ret
              apply ex_ret
              apply ev_comp (φf := [((PySem.Str.ofString "x"), .int 0), ((PySem.Str.ofString "y"), .int 0), ((PySem.Str.ofString "row"), .lst [.int x0, .int y0, .int x1, .int y1])]) (ds := [.int 0, .int 2])
              · rfl
              · apply seen_of
                · exact List.forall_mem_cons.mpr ⟨⟨rfl, rfl, rfl⟩, List.forall_mem_cons.mpr ⟨⟨rfl, rfl, rfl⟩, List.forall_mem_cons.mpr ⟨⟨rfl, rfl, rfl⟩, fun _ h => absurd h List.not_mem_nil⟩⟩⟩
                · rfl
                · rfl
                · rfl
                · rfl
              · apply itr_R2 (b' := 4) (n := 2)
                · apply ev_rng3
                  · k_is
                  · boot_by_name
                  · kwd_less
                  · kpc_turns
                  · decide
                  · rfl
                  · decide
                  · intro _; rfl
                  · intro _; rfl
                · rfl
                · decide +kernel
                · decide +kernel
                · rfl
              · apply Fc.cons
                · kpt_turns
                · apply Fc.cons
                  · kpt_turns
                  · exact Fc.nil
              · rfl
              · rfl
              · decide
              · intro _ _; rfl
    · rfl
theorem pointsA : ∀ (w : World) (σ : Sto) (s : PS) (rel : Bool) (x0 y0 r0 r1 r2 r3 r4 : Int), CaL w 1 (.ref 240) [pt s.here, .str (PySem.Str.ofString "A"), .bool rel, .lst [.int r0, .int r1, .int r2, .int r3, .int r4, .int x0, .int y0]] σ (.lst [pt (endP s rel x0 y0)]) σ := by
  unfold CaL
  k_fill
  intro w σ s rel x0 y0 r0 r1 r2 r3 r4
  cases rel with
  | true =>
    apply ca_defC (lv := 0) (xs := [(PySem.Str.ofString "here"), (PySem.Str.ofString "letter"), (PySem.Str.ofString "is_relative"), (PySem.Str.ofString "numbers")])
    · k_is
    · k_is
    · intro sB kB vs hl; match vs, hl with | [_, _, _, _], _ => first | exact BindsTo.of_eq rfl | exact binds_K kB rfl (by k_is) rfl rfl rfl
    · rfl
    · exact locsC_of rfl
    · rfl
    · rfl
    · rfl
    · decide
    · apply exs_cons
      · kwd_rel
      · apply exs_cons
        · apply ex_ifF
          · kt_ors
          · exact exs_nil
        · apply exs_cons
          · apply ex_ifF
            · kt_ors
            · exact exs_nil
          · apply exs_cons
            · kwd_rel
            · apply exs_ret
              apply ex_ret
              apply ev_comp (φf := [((PySem.Str.ofString "x"), .int s.here.1), ((PySem.Str.ofString "y"), .int s.here.2), ((PySem.Str.ofString "row"), .lst [.int x0, .int y0])]) (ds := [.int 0])
              · rfl
              · apply seen_of
                · exact List.forall_mem_cons.mpr ⟨⟨rfl, rfl, rfl⟩, List.forall_mem_cons.mpr ⟨⟨rfl, rfl, rfl⟩, List.forall_mem_cons.mpr ⟨⟨rfl, rfl, rfl⟩, fun _ h => absurd h List.not_mem_nil⟩⟩⟩
                · rfl
                · rfl
                · rfl
                · rfl
              · apply itr_R2 (b' := 2) (n := 1)
                · apply ev_rng3
                  · k_is
                  · boot_by_name
                  · kwd_less
                  · kpc_turns
                  · decide
                  · rfl
                  · decide
                  · intro _; rfl
                  · intro _; rfl
                · rfl
                · decide +kernel
                · decide +kernel
                · rfl
              · apply Fc.cons
                · kpt_turns
                · exact Fc.nil
              · rfl
              · rfl
              · decide
              · intro _ _; rfl
    · rfl
  | false =>
    refine ca_to (d := .lst [pt (0 + x0, 0 + y0)]) ?_ (by simp [endP])
    apply ca_defC (lv := 0) (xs := [(PySem.Str.ofString "here"), (PySem.Str.ofString "letter"), (PySem.Str.ofString "is_relative"), (PySem.Str.ofString "numbers")])
    · k_is
    · k_is
    · intro sB kB vs hl; match vs, hl with | [_, _, _, _], _ => first | exact BindsTo.of_eq rfl | exact binds_K kB rfl (by k_is) rfl rfl rfl
    · rfl
    · exact locsC_of rfl
    · rfl
    · rfl
    · rfl
    · decide
    · apply exs_cons
      · kwd_rel
      · apply exs_cons
        · apply ex_ifF
          · kt_ors
          · exact exs_nil
        · apply exs_cons
          · apply ex_ifF
            · kt_ors
            · exact exs_nil
          · apply exs_cons
            · kwd_rel
            · apply exs_ret
              apply ex_ret
              apply ev_comp (φf := [((PySem.Str.ofString "x"), .int 0), ((PySem.Str.ofString "y"), .int 0), ((PySem.Str.ofString "row"), .lst [.int x0, .int y0])]) (ds := [.int 0])
              · rfl
              · apply seen_of
                · exact List.forall_mem_cons.mpr ⟨⟨rfl, rfl, rfl⟩, List.forall_mem_cons.mpr ⟨⟨rfl, rfl, rfl⟩, List.forall_mem_cons.mpr ⟨⟨rfl, rfl, rfl⟩, fun _ h => absurd h List.not_mem_nil⟩⟩⟩
                · rfl
                · rfl
                · rfl
                · rfl
              · apply itr_R2 (b' := 2) (n := 1)
                · apply ev_rng3
                  · k_is
                  · boot_by_name
                  · kwd_less
                  · kpc_turns
                  · decide
                  · rfl
                  · decide
                  · intro _; rfl
                  · intro _; rfl
                · rfl
                · decide +kernel
                · decide +kernel
                · rfl
              · apply Fc.cons
                · kpt_turns
                · exact Fc.nil
              · rfl
              · rfl
              · decide
              · intro _ _; rfl
    · rfl
end
section
local macro_rules | `(tactic| kpf_close) => `(tactic| first | (with_reducible exact Tg.nil) | ((with_reducible apply Tg.name); rfl; rfl; kpf_close) | ((with_reducible apply Tg.cell); rfl; rfl; kpf_close))
local macro_rules | `(tactic| keq_hits) => `(tactic| first
  | ((with_reducible apply ev_sliceD); kpt_turns; decide; tlg_ne; (intro _ _; with_unfolding_all rfl))
  | ((with_reducible apply ev_sliceU); kpt_turns; decide; tlg_ne; (intro _ _; with_unfolding_all rfl))
  | ((with_reducible apply ev_list); kpc_turns; tlg_ne)
  | ((with_reducible apply ev_and_one); kpt_turns)
  | ((with_reducible apply ev_dgetF); rfl; rfl; decide +kernel; rfl; rfl; (exact List.cons_ne_nil _ _); (exact Nat.le_of_ble_eq_true rfl); kpc_turns; (first | kernel_rfl | rfl); (intro _; exact ⟨_, rfl⟩); (intro _; rfl); (intro _; rfl)))
local macro_rules | `(tactic| kwd_rel) => `(tactic| first
  | ((with_reducible apply ex_assign); kpt_turns; rfl; rfl; (intro _; rfl))
  | ((with_reducible apply ex_assignC'); kpt_turns; rfl; rfl; (intro _; rfl))
  | ((with_reducible apply ex_swap); (intros; rfl); (intro _; rfl); kpt_turns; rfl; exact locs_of rfl)
  | ((with_reducible apply ex_unpk); (intros; rfl); (intro _; rfl); kpt_turns; kpf_close; (intro _; rfl); (intro _; rfl))
  | ((with_reducible apply ex_expr); kpt_turns; (intro _ _ _ _ _; rfl); (intro _; rfl)))
local macro_rules | `(tactic| kaf_pre) => `(tactic| ((with_reducible apply op_addT); tlg_ne))
local macro_rules | `(tactic| tlg_ne) => `(tactic| (simp only [List.length_append, List.length_cons, List.length_nil, List.length_map]; omega))
local macro_rules | `(tactic| keq_rows) => `(tactic| first | (with_reducible exact told_c _ _ _) | (with_reducible exact spot_c _ _ _))
local macro_rules | `(tactic| lsm_bools) => `(tactic| ((with_reducible apply cb_tupL); tlg_ne))
theorem segM : ∀ (w : World) (σ : Sto) (ns : List PV) (es : List (Int × Int)), es.length ≤ 1000 → CaL w 3 (.ref 245) [.str (PySem.Str.ofString "M"), .lst ns, .lst (es.map pt)] σ (.tup (.str (PySem.Str.ofString "move") :: es.map spot)) σ := by
  unfold CaL
  k_fill
  intro w σ ns es hz
  apply ca_def (lv := 2) (xs := [(PySem.Str.ofString "letter"), (PySem.Str.ofString "numbers"), (PySem.Str.ofString "points")])
  · k_is
  · k_is
  · intro sB kB vs hl; match vs, hl with | [_, _, _], _ => first | exact BindsTo.of_eq rfl | exact binds_K kB rfl (by k_is) rfl rfl rfl
  · rfl
  · exact locs_of rfl
  · rfl
  · rfl
  · rfl
  · exact noCell_of rfl
  · apply exs_cons
    · apply ex_assign
      · apply ev_dget (r := .str (PySem.Str.ofString "move"))
        · rfl
        · rfl
        · decide +kernel
        · rfl
        · rfl
        · exact List.cons_ne_nil _ _
        · exact Nat.le_of_ble_eq_true rfl
        · kpc_turns
        · first | rfl | kernel_rfl
        · first | rfl | kernel_rfl
        · intro _; exact ⟨_, rfl⟩
        · intro _; rfl
        · intro _; rfl
      · rfl
      · rfl
      · intro _; rfl
    · apply exs_cons
      · apply ex_ifF
        · apply tr_and_false
          kt_ors
        · exact exs_nil
      · apply exs_ret
        apply ex_ret
        apply ev_binop
        · kpt_turns
        · apply ev_cT
          · k_is
          · boot_by_name
          · apply evs_cons
            · apply ev_comp (φf := []) (ds := es.map pt) (ys := es.map spot)
              · rfl
              · apply seen_of
                · exact fun _ h => absurd h List.not_mem_nil
                · rfl
                · rfl
                · rfl
                · rfl
              · apply itr_L
                kpt_turns
              · apply fc_map
                intro e he
                kpt_turns
              · rfl
              · rfl
              · rw [List.length_map]; exact hz
              · intro _ _; rfl
            · kpc_turns
            · intro _; rfl
          · apply cb_tupL
            rw [List.length_map]; omega
          · decide
          · kwd_less
          · intro _; rfl
          · intro _; rfl
        · apply op_addT
          simp only [List.length_cons, List.length_nil, List.length_map]; omega
  · rfl
theorem segC : ∀ (w : World) (σ : Sto) (ns : List PV) (es : List (Int × Int)), es.length ≤ 1000 → CaL w 3 (.ref 245) [.str (PySem.Str.ofString "C"), .lst ns, .lst (es.map pt)] σ (.tup (.str (PySem.Str.ofString "cubic") :: es.map spot)) σ := by
  unfold CaL
  k_fill
  intro w σ ns es hz
  apply ca_def (lv := 2) (xs := [(PySem.Str.ofString "letter"), (PySem.Str.ofString "numbers"), (PySem.Str.ofString "points")])
  · k_is
  · k_is
  · intro sB kB vs hl; match vs, hl with | [_, _, _], _ => first | exact BindsTo.of_eq rfl | exact binds_K kB rfl (by k_is) rfl rfl rfl
  · rfl
  · exact locs_of rfl
  · rfl
  · rfl
  · rfl
  · exact noCell_of rfl
  · apply exs_cons
    · apply ex_assign
      · apply ev_dget (r := .str (PySem.Str.ofString "cubic"))
        · rfl
        · rfl
        · decide +kernel
        · rfl
        · rfl
        · exact List.cons_ne_nil _ _
        · exact Nat.le_of_ble_eq_true rfl
        · kpc_turns
        · first | rfl | kernel_rfl
        · first | rfl | kernel_rfl
        · intro _; exact ⟨_, rfl⟩
        · intro _; rfl
        · intro _; rfl
      · rfl
      · rfl
      · intro _; rfl
    · apply exs_cons
      · apply ex_ifF
        · apply tr_and_false
          kt_ors
        · exact exs_nil
      · apply exs_ret
        apply ex_ret
        apply ev_binop
        · kpt_turns
        · apply ev_cT
          · k_is
          · boot_by_name
          · apply evs_cons
            · apply ev_comp (φf := []) (ds := es.map pt) (ys := es.map spot)
              · rfl
              · apply seen_of
                · exact fun _ h => absurd h List.not_mem_nil
                · rfl
                · rfl
                · rfl
                · rfl
              · apply itr_L
                kpt_turns
              · apply fc_map
                intro e he
                kpt_turns
              · rfl
              · rfl
              · rw [List.length_map]; exact hz
              · intro _ _; rfl
            · kpc_turns
            · intro _; rfl
          · apply cb_tupL
            rw [List.length_map]; omega
          · decide
          · kwd_less
          · intro _; rfl
          · intro _; rfl
        · apply op_addT
          simp only [List.length_cons, List.length_nil, List.length_map]; omega
  · rfl
theorem segS : ∀ (w : World) (σ : Sto) (ns : List PV) (es : List (Int × Int)), es.length ≤ 1000 → CaL w 3 (.ref 245) [.str (PySem.Str.ofString "S"), .lst ns, .lst (es.map pt)] σ (.tup (.str (PySem.Str.ofString "cubic") :: es.map spot)) σ := by
  unfold CaL
  k_fill
  intro w σ ns es hz
  apply ca_def (lv := 2) (xs := [(PySem.Str.ofString "letter"), (PySem.Str.ofString "numbers"), (PySem.Str.ofString "points")])
  · k_is
  · k_is
  · intro sB kB vs hl; match vs, hl with | [_, _, _], _ => first | exact BindsTo.of_eq rfl | exact binds_K kB rfl (by k_is) rfl rfl rfl
  · rfl
  · exact locs_of rfl
  · rfl
  · rfl
  · rfl
  · exact noCell_of rfl
  · apply exs_cons
    · apply ex_assign
      · apply ev_dget (r := .str (PySem.Str.ofString "cubic"))
        · rfl
        · rfl
        · decide +kernel
        · rfl
        · rfl
        · exact List.cons_ne_nil _ _
        · exact Nat.le_of_ble_eq_true rfl
        · kpc_turns
        · first | rfl | kernel_rfl
        · first | rfl | kernel_rfl
        · intro _; exact ⟨_, rfl⟩
        · intro _; rfl
        · intro _; rfl
      · rfl
      · rfl
      · intro _; rfl
    · apply exs_cons
      · apply ex_ifF
        · apply tr_and_false
          kt_ors
        · exact exs_nil
      · apply exs_ret
        apply ex_ret
        apply ev_binop
        · kpt_turns
        · apply ev_cT
          · k_is
          · boot_by_name
          · apply evs_cons
            · apply ev_comp (φf := []) (ds := es.map pt) (ys := es.map spot)
              · rfl
              · apply seen_of
                · exact fun _ h => absurd h List.not_mem_nil
                · rfl
                · rfl
                · rfl
                · rfl
              · apply itr_L
                kpt_turns
              · apply fc_map
                intro e he
                kpt_turns
              · rfl
              · rfl
              · rw [List.length_map]; exact hz
              · intro _ _; rfl
            · kpc_turns
            · intro _; rfl
          · apply cb_tupL
            rw [List.length_map]; omega
          · decide
          · kwd_less
          · intro _; rfl
          · intro _; rfl
        · apply op_addT
          simp only [List.length_cons, List.length_nil, List.length_map]; omega
  · rfl
theorem segQ : ∀ (w : World) (σ : Sto) (ns : List PV) (es : List (Int × Int)), es.length ≤ 1000 → CaL w 3 (.ref 245) [.str (PySem.Str.ofString "Q"), .lst ns, .lst (es.map pt)] σ (.tup (.str (PySem.Str.ofString "quad") :: es.map spot)) σ := by
  unfold CaL
  k_fill
  intro w σ ns es hz
  apply ca_def (lv := 2) (xs := [(PySem.Str.ofString "letter"), (PySem.Str.ofString "numbers"), (PySem.Str.ofString "points")])
  · k_is
  · k_is
  · intro sB kB vs hl; match vs, hl with | [_, _, _], _ => first | exact BindsTo.of_eq rfl | exact binds_K kB rfl (by k_is) rfl rfl rfl
  · rfl
  · exact locs_of rfl
  · rfl
  · rfl
  · rfl
  · exact noCell_of rfl
  · apply exs_cons
    · apply ex_assign
      · apply ev_dget (r := .str (PySem.Str.ofString "quad"))
        · rfl
        · rfl
        · decide +kernel
        · rfl
        · rfl
        · exact List.cons_ne_nil _ _
        · exact Nat.le_of_ble_eq_true rfl
        · kpc_turns
        · first | rfl | kernel_rfl
        · first | rfl | kernel_rfl
        · intro _; exact ⟨_, rfl⟩
        · intro _; rfl
        · intro _; rfl
      · rfl
      · rfl
      · intro _; rfl
    · apply exs_cons
      · apply ex_ifF
        · apply tr_and_false
          kt_ors
        · exact exs_nil
      · apply exs_ret
        apply ex_ret
        apply ev_binop
        · kpt_turns
        · apply ev_cT
          · k_is
          · boot_by_name
          · apply evs_cons
            · apply ev_comp (φf := []) (ds := es.map pt) (ys := es.map spot)
              · rfl
              · apply seen_of
                · exact fun _ h => absurd h List.not_mem_nil
                · rfl
                · rfl
                · rfl
                · rfl
              · apply itr_L
                kpt_turns
              · apply fc_map
                intro e he
                kpt_turns
              · rfl
              · rfl
              · rw [List.length_map]; exact hz
              · intro _ _; rfl
            · kpc_turns
            · intro _; rfl
          · apply cb_tupL
            rw [List.length_map]; omega
          · decide
          · kwd_less
          · intro _; rfl
          · intro _; rfl
        · apply op_addT
          simp only [List.length_cons, List.length_nil, List.length_map]; omega
  · rfl
theorem segT : ∀ (w : World) (σ : Sto) (ns : List PV) (es : List (Int × Int)), es.length ≤ 1000 → CaL w 3 (.ref 245) [.str (PySem.Str.ofString "T"), .lst ns, .lst (es.map pt)] σ (.tup (.str (PySem.Str.ofString "quad") :: es.map spot)) σ := by
  unfold CaL
  k_fill
  intro w σ ns es hz
  apply ca_def (lv := 2) (xs := [(PySem.Str.ofString "letter"), (PySem.Str.ofString "numbers"), (PySem.Str.ofString "points")])
  · k_is
  · k_is
  · intro sB kB vs hl; match vs, hl with | [_, _, _], _ => first | exact BindsTo.of_eq rfl | exact binds_K kB rfl (by k_is) rfl rfl rfl
  · rfl
  · exact locs_of rfl
  · rfl
  · rfl
  · rfl
  · exact noCell_of rfl
  · apply exs_cons
    · apply ex_assign
      · apply ev_dget (r := .str (PySem.Str.ofString "quad"))
        · rfl
        · rfl
        · decide +kernel
        · rfl
        · rfl
        · exact List.cons_ne_nil _ _
        · exact Nat.le_of_ble_eq_true rfl
        · kpc_turns
        · first | rfl | kernel_rfl
        · first | rfl | kernel_rfl
        · intro _; exact ⟨_, rfl⟩
        · intro _; rfl
        · intro _; rfl
      · rfl
      · rfl
      · intro _; rfl
    · apply exs_cons
      · apply ex_ifF
        · apply tr_and_false
          kt_ors
        · exact exs_nil
      · apply exs_ret
        apply ex_ret
        apply ev_binop
        · kpt_turns
        · apply ev_cT
          · k_is
          · boot_by_name
          · apply evs_cons
            · apply ev_comp (φf := []) (ds := es.map pt) (ys := es.map spot)
              · rfl
              · apply seen_of
                · exact fun _ h => absurd h List.not_mem_nil
                · rfl
                · rfl
                · rfl
                · rfl
              · apply itr_L
                kpt_turns
              · apply fc_map
                intro e he
                kpt_turns
              · rfl
              · rfl
              · rw [List.length_map]; exact hz
              · intro _ _; rfl
            · kpc_turns
            · intro _; rfl
          · apply cb_tupL
            rw [List.length_map]; omega
          · decide
          · kwd_less
          · intro _; rfl
          · intro _; rfl
        · apply op_addT
          simp only [List.length_cons, List.length_nil, List.length_map]; omega
  · rfl
theorem segH : ∀ (w : World) (σ : Sto) (ns : List PV) (es : List (Int × Int)), es.length ≤ 1000 → CaL w 3 (.ref 245) [.str (PySem.Str.ofString "H"), .lst ns, .lst (es.map pt)] σ (.tup (.str (PySem.Str.ofString "line") :: es.map spot)) σ := by
  unfold CaL
  k_fill
  intro w σ ns es hz
  apply ca_def (lv := 2) (xs := [(PySem.Str.ofString "letter"), (PySem.Str.ofString "numbers"), (PySem.Str.ofString "points")])
  · k_is
  · k_is
  · intro sB kB vs hl; match vs, hl with | [_, _, _], _ => first | exact BindsTo.of_eq rfl | exact binds_K kB rfl (by k_is) rfl rfl rfl
  · rfl
  · exact locs_of rfl
  · rfl
  · rfl
  · rfl
  · exact noCell_of rfl
  · apply exs_cons
    · apply ex_assign
      · apply ev_dget (r := .str (PySem.Str.ofString "line"))
        · rfl
        · rfl
        · decide +kernel
        · rfl
        · rfl
        · exact List.cons_ne_nil _ _
        · exact Nat.le_of_ble_eq_true rfl
        · kpc_turns
        · first | rfl | kernel_rfl
        · first | rfl | kernel_rfl
        · intro _; exact ⟨_, rfl⟩
        · intro _; rfl
        · intro _; rfl
      · rfl
      · rfl
      · intro _; rfl
    · apply exs_cons
      · apply ex_ifF
        · apply tr_and_false
          kt_ors
        · exact exs_nil
      · apply exs_ret
        apply ex_ret
        apply ev_binop
        · kpt_turns
        · apply ev_cT
          · k_is
          · boot_by_name
          · apply evs_cons
            · apply ev_comp (φf := []) (ds := es.map pt) (ys := es.map spot)
              · rfl
              · apply seen_of
                · exact fun _ h => absurd h List.not_mem_nil
                · rfl
                · rfl
                · rfl
                · rfl
              · apply itr_L
                kpt_turns
              · apply fc_map
                intro e he
                kpt_turns
              · rfl
              · rfl
              · rw [List.length_map]; exact hz
              · intro _ _; rfl
            · kpc_turns
            · intro _; rfl
          · apply cb_tupL
            rw [List.length_map]; omega
          · decide
          · kwd_less
          · intro _; rfl
          · intro _; rfl
        · apply op_addT
          simp only [List.length_cons, List.length_nil, List.length_map]; omega
  · rfl
theorem segV : ∀ (w : World) (σ : Sto) (ns : List PV) (es : List (Int × Int)), es.length ≤ 1000 → CaL w 3 (.ref 245) [.str (PySem.Str.ofString "V"), .lst ns, .lst (es.map pt)] σ (.tup (.str (PySem.Str.ofString "line") :: es.map spot)) σ := by
  unfold CaL
  k_fill
  intro w σ ns es hz
  apply ca_def (lv := 2) (xs := [(PySem.Str.ofString "letter"), (PySem.Str.ofString "numbers"), (PySem.Str.ofString "points")])
  · k_is
  · k_is
  · intro sB kB vs hl; match vs, hl with | [_, _, _], _ => first | exact BindsTo.of_eq rfl | exact binds_K kB rfl (by k_is) rfl rfl rfl
  · rfl
  · exact locs_of rfl
  · rfl
  · rfl
  · rfl
  · exact noCell_of rfl
  · apply exs_cons
    · apply ex_assign
      · apply ev_dget (r := .str (PySem.Str.ofString "line"))
        · rfl
        · rfl
        · decide +kernel
        · rfl
        · rfl
        · exact List.cons_ne_nil _ _
        · exact Nat.le_of_ble_eq_true rfl
        · kpc_turns
        · first | rfl | kernel_rfl
        · first | rfl | kernel_rfl
        · intro _; exact ⟨_, rfl⟩
        · intro _; rfl
        · intro _; rfl
      · rfl
      · rfl
      · intro _; rfl
    · apply exs_cons
      · apply ex_ifF
        · apply tr_and_false
          kt_ors
        · exact exs_nil
      · apply exs_ret
        apply ex_ret
        apply ev_binop
        · kpt_turns
        · apply ev_cT
          · k_is
          · boot_by_name
          · apply evs_cons
            · apply ev_comp (φf := []) (ds := es.map pt) (ys := es.map spot)
              · rfl
              · apply seen_of
                · exact fun _ h => absurd h List.not_mem_nil
                · rfl
                · rfl
                · rfl
                · rfl
              · apply itr_L
                kpt_turns
              · apply fc_map
                intro e he
                kpt_turns
              · rfl
              · rfl
              · rw [List.length_map]; exact hz
              · intro _ _; rfl
            · kpc_turns
            · intro _; rfl
          · apply cb_tupL
            rw [List.length_map]; omega
          · decide
          · kwd_less
          · intro _; rfl
          · intro _; rfl
        · apply op_addT
          simp only [List.length_cons, List.length_nil, List.length_map]; omega
  · rfl
theorem segL : ∀ (w : World) (σ : Sto) (ns : List PV) (es : List (Int × Int)), es.length ≤ 1000 → CaL w 3 (.ref 245) [.str (PySem.Str.ofString "L"), .lst ns, .lst (es.map pt)] σ (.tup (.str (PySem.Str.ofString "line") :: es.map spot)) σ := by
  unfold CaL
  k_fill
  intro w σ ns es hz
  apply ca_def (lv := 2) (xs := [(PySem.Str.ofString "letter"), (PySem.Str.ofString "numbers"), (PySem.Str.ofString "points")])
  · k_is
  · k_is
  · intro sB kB vs hl; match vs, hl with | [_, _, _], _ => first | exact BindsTo.of_eq rfl | exact binds_K kB rfl (by k_is) rfl rfl rfl
  · rfl
  · exact locs_of rfl
  · rfl
  · rfl
  · rfl
  · exact noCell_of rfl
  · apply exs_cons
    · apply ex_assign
      · apply ev_dget (r := .str (PySem.Str.ofString "line"))
        · rfl
        · rfl
        · decide +kernel
        · rfl
        · rfl
        · exact List.cons_ne_nil _ _
        · exact Nat.le_of_ble_eq_true rfl
        · kpc_turns
        · first | rfl | kernel_rfl
        · first | rfl | kernel_rfl
        · intro _; exact ⟨_, rfl⟩
        · intro _; rfl
        · intro _; rfl
      · rfl
      · rfl
      · intro _; rfl
    · apply exs_cons
      · apply ex_ifF
        · apply tr_and_false
          kt_ors
        · exact exs_nil
      · apply exs_ret
        apply ex_ret
        apply ev_binop
        · kpt_turns
        · apply ev_cT
          · k_is
          · boot_by_name
          · apply evs_cons
            · apply ev_comp (φf := []) (ds := es.map pt) (ys := es.map spot)
              · rfl
              · apply seen_of
                · exact fun _ h => absurd h List.not_mem_nil
                · rfl
                · rfl
                · rfl
                · rfl
              · apply itr_L
                kpt_turns
              · apply fc_map
                intro e he
                kpt_turns
              · rfl
              · rfl
              · rw [List.length_map]; exact hz
              · intro _ _; rfl
            · kpc_turns
            · intro _; rfl
          · apply cb_tupL
            rw [List.length_map]; omega
          · decide
          · kwd_less
          · intro _; rfl
          · intro _; rfl
        · apply op_addT
          simp only [List.length_cons, List.length_nil, List.length_map]; omega
  · rfl
theorem segA_line : ∀ (w : World) (σ : Sto) (a b t f g x y : Int) (es : List (Int × Int)), es.length ≤ 1000 → (a = 0 ∨ b = 0) → CaL w 3 (.ref 245) [.str (PySem.Str.ofString "A"), .lst [.int a, .int b, .int t, .int f, .int g, .int x, .int y], .lst (es.map pt)] σ (.tup (.str (PySem.Str.ofString "line") :: es.map spot)) σ := by
  unfold CaL
  k_fill
  intro w σ a b t f g x y es hz hab
  apply ca_def (lv := 2) (xs := [(PySem.Str.ofString "letter"), (PySem.Str.ofString "numbers"), (PySem.Str.ofString "points")])
  · k_is
  · k_is
  · intro sB kB vs hl; match vs, hl with | [_, _, _], _ => first | exact BindsTo.of_eq rfl | exact binds_K kB rfl (by k_is) rfl rfl rfl
  · rfl
  · exact locs_of rfl
  · rfl
  · rfl
  · rfl
  · exact noCell_of rfl
  · apply exs_cons
    · apply ex_assign
      · apply ev_dget (r := .str (PySem.Str.ofString "line"))
        · rfl
        · rfl
        · decide +kernel
        · rfl
        · rfl
        · exact List.cons_ne_nil _ _
        · exact Nat.le_of_ble_eq_true rfl
        · kpc_turns
        · first | rfl | kernel_rfl
        · first | rfl | kernel_rfl
        · intro _; exact ⟨_, rfl⟩
        · intro _; rfl
        · intro _; rfl
      · rfl
      · rfl
      · intro _; rfl
    · apply exs_cons
      · apply ex_ifF
        · apply tr_and_true
          · kt_ors
          · apply tr_and_false
            apply tr_to
            · apply tr_cmp
              · kpt_turns
              · kpt_turns
              · exact op_notinL (n := 1) rfl rfl (by decide)
              · with_unfolding_all rfl
            · show (!((PyData.eqv (.int a) (.int 0)) || ((PyData.eqv (.int b) (.int 0)) || false))) = false
              rcases hab with rfl | rfl <;> simp [PyData.eqv]
        · exact exs_nil
      · apply exs_ret
        apply ex_ret
        apply ev_binop
        · kpt_turns
        · apply ev_cT
          · k_is
          · boot_by_name
          · apply evs_cons
            · apply ev_comp (φf := []) (ds := es.map pt) (ys := es.map spot)
              · rfl
              · apply seen_of
                · exact fun _ h => absurd h List.not_mem_nil
                · rfl
                · rfl
                · rfl
                · rfl
              · apply itr_L
                kpt_turns
              · apply fc_map
                intro e he
                kpt_turns
              · rfl
              · rfl
              · rw [List.length_map]; exact hz
              · intro _ _; rfl
            · kpc_turns
            · intro _; rfl
          · apply cb_tupL
            rw [List.length_map]; omega
          · decide
          · kwd_less
          · intro _; rfl
          · intro _; rfl
        · apply op_addT
          simp only [List.length_cons, List.length_nil, List.length_map]; omega
  · rfl
theorem segA_arc : ∀ (w : World) (σ : Sto) (a b t f g x y : Int) (e : Int × Int), a ≠ 0 → b ≠ 0 → CaL w 3 (.ref 245) [.str (PySem.Str.ofString "A"), .lst [.int a, .int b, .int t, .int f, .int g, .int x, .int y], .lst [pt e]] σ (arcSg a b t f g e) σ := by
  unfold CaL
  k_fill
  intro w σ a b t f g x y e ha hb
  apply ca_def (lv := 2) (xs := [(PySem.Str.ofString "letter"), (PySem.Str.ofString "numbers"), (PySem.Str.ofString "points")])
  · k_is
  · k_is
  · intro sB kB vs hl; match vs, hl with | [_, _, _], _ => first | exact BindsTo.of_eq rfl | exact binds_K kB rfl (by k_is) rfl rfl rfl
  · rfl
  · exact locs_of rfl
  · rfl
  · rfl
  · rfl
  · exact noCell_of rfl
  · apply exs_cons
    · apply ex_assign
      · apply ev_dget (r := .str (PySem.Str.ofString "line"))
        · rfl
        · rfl
        · decide +kernel
        · rfl
        · rfl
        · exact List.cons_ne_nil _ _
        · exact Nat.le_of_ble_eq_true rfl
        · kpc_turns
        · first | rfl | kernel_rfl
        · first | rfl | kernel_rfl
        · intro _; exact ⟨_, rfl⟩
        · intro _; rfl
        · intro _; rfl
      · rfl
      · rfl
      · intro _; rfl
    · apply exs_ret
      apply ex_ifT
      · apply tr_and_true
        · kt_ors
        · apply tr_and_true
          · apply tr_to
            · apply tr_cmp
              · kpt_turns
              · kpt_turns
              · exact op_notinL (n := 1) rfl rfl (by decide)
              · with_unfolding_all rfl
            · show (!((PyData.eqv (.int a) (.int 0)) || ((PyData.eqv (.int b) (.int 0)) || false))) = true
              simp [PyData.eqv, ha, hb]
          · exact tr_and_nil
      · apply exs_cons
        · kwd_rel
        · kwd_inv
  · rfl
end
section
local macro_rules | `(tactic| kpf_close) => `(tactic| first | (with_reducible exact Tg.nil) | ((with_reducible apply Tg.name); rfl; rfl; kpf_close) | ((with_reducible apply Tg.cell); rfl; rfl; kpf_close))
local macro_rules | `(tactic| keq_hits) => `(tactic| first
  | ((with_reducible apply ev_sliceD); kpt_turns; decide; tlg_ne; (intro _ _; with_unfolding_all rfl))
  | ((with_reducible apply ev_sliceU); kpt_turns; decide; tlg_ne; (intro _ _; with_unfolding_all rfl))
  | ((with_reducible apply ev_list); kpc_turns; tlg_ne)
  | ((with_reducible apply ev_and_one); kpt_turns)
  | ((with_reducible apply ev_dgetF); rfl; rfl; decide +kernel; rfl; rfl; (exact List.cons_ne_nil _ _); (exact Nat.le_of_ble_eq_true rfl); kpc_turns; (first | kernel_rfl | rfl); (intro _; exact ⟨_, rfl⟩); (intro _; rfl); (intro _; rfl)))
local macro_rules | `(tactic| kwd_rel) => `(tactic| first
  | ((with_reducible apply ex_assign); kpt_turns; rfl; rfl; (intro _; rfl))
  | ((with_reducible apply ex_assignC'); kpt_turns; rfl; rfl; (intro _; rfl))
  | ((with_reducible apply ex_swap); (intros; rfl); (intro _; rfl); kpt_turns; rfl; exact locs_of rfl)
  | ((with_reducible apply ex_unpk); (intros; rfl); (intro _; rfl); kpt_turns; kpf_close; (intro _; rfl); (intro _; rfl))
  | ((with_reducible apply ex_expr); kpt_turns; (intro _ _ _ _ _; rfl); (intro _; rfl)))
local macro_rules | `(tactic| kba_ints) => `(tactic| first
  | (with_reducible exact tr_and_nil) | (with_reducible exact tr_or_nil)
  | ((with_reducible apply tr_and_true); kt_ors; kba_ints)
  | ((with_reducible apply tr_and_false); kt_ors)
  | ((with_reducible apply tr_or_true); kt_ors)
  | ((with_reducible apply tr_or_false); kt_ors; kba_ints)
  | ((with_reducible apply tr_cmp); kpt_turns; kpt_turns; kaf_pre; with_unfolding_all rfl)
  | ((with_reducible apply tr_plain); kpt_turns; kbo_bools; (intro _ _; rfl)))
local macro_rules | `(tactic| kt_eqs) => `(tactic| ((with_reducible apply ev_to); kpt_turns; (first | rfl | (exact congrArg PV.bool (by assumption)))))
local macro_rules | `(tactic| keq_hits) => `(tactic| first
  | ((with_reducible apply ev_list); kpc_turns; tlg_ne)
  | ((with_reducible apply ev_and_one); kpt_turns)
  | ((with_reducible apply ev_and_true); kt_eqs; kpt_turns)
  | ((with_reducible apply ev_and_false); kt_eqs)
  | ((with_reducible apply ev_or_true); kt_eqs)
  | ((with_reducible apply ev_or_false); kt_eqs; kpt_turns))
local macro_rules | `(tactic| kaf_pre) => `(tactic| first | ((with_reducible apply op_addL); tlg_ne) | ((with_reducible apply op_addT); tlg_ne))
local macro_rules | `(tactic| kaf_pre) => `(tactic| exact op_eqD (n := 1) rfl rfl (by decide))
local macro_rules | `(tactic| keq_rows) => `(tactic| first | (with_reducible exact spot_c _ _ _) | assumption)
noncomputable def stP (s : PS) (c : Int × Int) : PV := .tup [pt s.here, pt s.start, pt c, .str s.kind, .bool s.closed]
theorem eqv_pt (e h : Int × Int) : PyData.eqv (pt e).py (pt h).py = decide (e = h) := by
  unfold pt
  rw [eqv_two]
  by_cases h1 : e.1 = h.1 <;> by_cases h2 : e.2 = h.2 <;> simp [h1, h2, Prod.ext_iff]
noncomputable def zSt (s : PS) : PS := { s with here := s.start, closed := true, kind := PySem.Str.ofString "" }
noncomputable def sameSt (s : PS) : PS := { s with kind := PySem.Str.ofString "" }
theorem lastC_yes {s : PS} {c : Int × Int} {k : PySem.Str} (hk : s.kind = k) (h : s.control = some c) : lastC s k = (2 * s.here.1 - c.1, 2 * s.here.2 - c.2) := by
  unfold lastC
  rw [if_pos hk, h]
  rfl
theorem lastC_no {s : PS} {k : PySem.Str} (hk : s.kind ≠ k) : lastC s k = (2 * s.here.1 - s.here.1, 2 * s.here.2 - s.here.2) := by
  unfold lastC
  rw [if_neg hk]
  ext <;> simp <;> omega
theorem doneH : ∀ (w : World) (σ : Sto) (s : PS) (c : Int × Int) (rel : Bool) (x : Int), CaL w 4 (.ref 252) [stP s c, .str (PySem.Str.ofString "H"), .bool rel, .lst [.int x]] σ (.tup [stP (lineSt s (endH s rel x)) (c), .lst (aheadL s true ++ [lineSg (endH s rel x)])]) σ := by
  unfold CaL
  k_fill
  intro w σ s c rel x 
  have hp := pointsH w σ s rel x
  have hs := segH w σ [.int x] [endH s rel x] (by simp)
  cases hc : s.closed
  all_goals
    apply ca_def (lv := 3) (xs := [(PySem.Str.ofString "stand"), (PySem.Str.ofString "letter"), (PySem.Str.ofString "is_relative"), (PySem.Str.ofString "numbers")])
    · k_is
    · k_is
    · intro sB kB vs hl; match vs, hl with | [_, _, _, _], _ => first | exact BindsTo.of_eq rfl | exact binds_K kB rfl (by k_is) rfl rfl rfl
    · rfl
    · exact locs_of rfl
    · rfl
    · rfl
    · rfl
    · exact noCell_of rfl
    · kwd_inv
    · first | rfl | (unfold aheadL; rw [hc]; rfl)
theorem doneV : ∀ (w : World) (σ : Sto) (s : PS) (c : Int × Int) (rel : Bool) (x : Int), CaL w 4 (.ref 252) [stP s c, .str (PySem.Str.ofString "V"), .bool rel, .lst [.int x]] σ (.tup [stP (lineSt s (endV s rel x)) (c), .lst (aheadL s true ++ [lineSg (endV s rel x)])]) σ := by
  unfold CaL
  k_fill
  intro w σ s c rel x 
  have hp := pointsV w σ s rel x
  have hs := segV w σ [.int x] [endV s rel x] (by simp)
  cases hc : s.closed
  all_goals
    apply ca_def (lv := 3) (xs := [(PySem.Str.ofString "stand"), (PySem.Str.ofString "letter"), (PySem.Str.ofString "is_relative"), (PySem.Str.ofString "numbers")])
    · k_is
    · k_is
    · intro sB kB vs hl; match vs, hl with | [_, _, _, _], _ => first | exact BindsTo.of_eq rfl | exact binds_K kB rfl (by k_is) rfl rfl rfl
    · rfl
    · exact locs_of rfl
    · rfl
    · rfl
    · rfl
    · exact noCell_of rfl
    · kwd_inv
    · first | rfl | (unfold aheadL; rw [hc]; rfl)
theorem doneL : ∀ (w : World) (σ : Sto) (s : PS) (c : Int × Int) (rel : Bool) (x0 y0 : Int), CaL w 4 (.ref 252) [stP s c, .str (PySem.Str.ofString "L"), .bool rel, .lst [.int x0, .int y0]] σ (.tup [stP (lineSt s (endP s rel x0 y0)) (c), .lst (aheadL s true ++ [lineSg (endP s rel x0 y0)])]) σ := by
  unfold CaL
  k_fill
  intro w σ s c rel x0 y0 
  have hp := pointsL w σ s rel x0 y0
  have hs := segL w σ [.int x0, .int y0] [(endP s rel x0 y0)] (by simp)
  cases hc : s.closed
  all_goals
    apply ca_def (lv := 3) (xs := [(PySem.Str.ofString "stand"), (PySem.Str.ofString "letter"), (PySem.Str.ofString "is_relative"), (PySem.Str.ofString "numbers")])
    · k_is
    · k_is
    · intro sB kB vs hl; match vs, hl with | [_, _, _, _], _ => first | exact BindsTo.of_eq rfl | exact binds_K kB rfl (by k_is) rfl rfl rfl
    · rfl
    · exact locs_of rfl
    · rfl
    · rfl
    · rfl
    · exact noCell_of rfl
    · kwd_inv
    · first | rfl | (unfold aheadL; rw [hc]; rfl)
theorem doneM : ∀ (w : World) (σ : Sto) (s : PS) (c : Int × Int) (rel : Bool) (x0 y0 : Int), CaL w 4 (.ref 252) [stP s c, .str (PySem.Str.ofString "M"), .bool rel, .lst [.int x0, .int y0]] σ (.tup [stP (moveSt s (endP s rel x0 y0)) (c), .lst ([moveSg (endP s rel x0 y0)])]) σ := by
  unfold CaL
  k_fill
  intro w σ s c rel x0 y0 
  have hp := pointsM w σ s rel x0 y0
  have hs := segM w σ [.int x0, .int y0] [(endP s rel x0 y0)] (by simp)
  cases hc : s.closed
  all_goals
    apply ca_def (lv := 3) (xs := [(PySem.Str.ofString "stand"), (PySem.Str.ofString "letter"), (PySem.Str.ofString "is_relative"), (PySem.Str.ofString "numbers")])
    · k_is
    · k_is
    · intro sB kB vs hl; match vs, hl with | [_, _, _, _], _ => first | exact BindsTo.of_eq rfl | exact binds_K kB rfl (by k_is) rfl rfl rfl
    · rfl
    · exact locs_of rfl
    · rfl
    · rfl
    · rfl
    · exact noCell_of rfl
    · kwd_inv
    · first | rfl | (unfold aheadL; rw [hc]; rfl)
theorem doneC : ∀ (w : World) (σ : Sto) (s : PS) (c : Int × Int) (rel : Bool) (x0 y0 x1 y1 x2 y2 : Int), CaL w 4 (.ref 252) [stP s c, .str (PySem.Str.ofString "C"), .bool rel, .lst [.int x0, .int y0, .int x1, .int y1, .int x2, .int y2]] σ (.tup [stP (cubicSt s (endP s rel x1 y1) (endP s rel x2 y2)) ((endP s rel x1 y1)), .lst (aheadL s true ++ [cubicSg (endP s rel x0 y0) (endP s rel x1 y1) (endP s rel x2 y2)])]) σ := by
  unfold CaL
  k_fill
  intro w σ s c rel x0 y0 x1 y1 x2 y2 
  have hp := pointsC w σ s rel x0 y0 x1 y1 x2 y2
  have hs := segC w σ [.int x0, .int y0, .int x1, .int y1, .int x2, .int y2] [(endP s rel x0 y0), (endP s rel x1 y1), (endP s rel x2 y2)] (by simp)
  cases hc : s.closed
  all_goals
    apply ca_def (lv := 3) (xs := [(PySem.Str.ofString "stand"), (PySem.Str.ofString "letter"), (PySem.Str.ofString "is_relative"), (PySem.Str.ofString "numbers")])
    · k_is
    · k_is
    · intro sB kB vs hl; match vs, hl with | [_, _, _, _], _ => first | exact BindsTo.of_eq rfl | exact binds_K kB rfl (by k_is) rfl rfl rfl
    · rfl
    · exact locs_of rfl
    · rfl
    · rfl
    · rfl
    · exact noCell_of rfl
    · kwd_inv
    · first | rfl | (unfold aheadL; rw [hc]; rfl)
theorem doneQ : ∀ (w : World) (σ : Sto) (s : PS) (c : Int × Int) (rel : Bool) (x0 y0 x1 y1 : Int), CaL w 4 (.ref 252) [stP s c, .str (PySem.Str.ofString "Q"), .bool rel, .lst [.int x0, .int y0, .int x1, .int y1]] σ (.tup [stP (quadSt s (endP s rel x0 y0) (endP s rel x1 y1)) ((endP s rel x0 y0)), .lst (aheadL s true ++ [quadSg (endP s rel x0 y0) (endP s rel x1 y1)])]) σ := by
  unfold CaL
  k_fill
  intro w σ s c rel x0 y0 x1 y1 
  have hp := pointsQ w σ s rel x0 y0 x1 y1
  have hs := segQ w σ [.int x0, .int y0, .int x1, .int y1] [(endP s rel x0 y0), (endP s rel x1 y1)] (by simp)
  cases hc : s.closed
  all_goals
    apply ca_def (lv := 3) (xs := [(PySem.Str.ofString "stand"), (PySem.Str.ofString "letter"), (PySem.Str.ofString "is_relative"), (PySem.Str.ofString "numbers")])
    · k_is
    · k_is
    · intro sB kB vs hl; match vs, hl with | [_, _, _, _], _ => first | exact BindsTo.of_eq rfl | exact binds_K kB rfl (by k_is) rfl rfl rfl
    · rfl
    · exact locs_of rfl
    · rfl
    · rfl
    · rfl
    · exact noCell_of rfl
    · kwd_inv
    · first | rfl | (unfold aheadL; rw [hc]; rfl)
theorem doneS : ∀ (w : World) (σ : Sto) (s : PS) (c : Int × Int) (rel : Bool) (x0 y0 x1 y1 : Int), (s.kind = (PySem.Str.ofString "cubic") → s.control = some c) → CaL w 4 (.ref 252) [stP s c, .str (PySem.Str.ofString "S"), .bool rel, .lst [.int x0, .int y0, .int x1, .int y1]] σ (.tup [stP (cubicSt s (endP s rel x0 y0) (endP s rel x1 y1)) ((endP s rel x0 y0)), .lst (aheadL s true ++ [cubicSg (lastC s (PySem.Str.ofString "cubic")) (endP s rel x0 y0) (endP s rel x1 y1)])]) σ := by
  unfold CaL
  k_fill
  intro w σ s c rel x0 y0 x1 y1 hkc
  have hp := pointsS w σ s rel x0 y0 x1 y1
  have hs := segS w σ [.int x0, .int y0, .int x1, .int y1] [lastC s (PySem.Str.ofString "cubic"), (endP s rel x0 y0), (endP s rel x1 y1)] (by simp)
  by_cases hk : s.kind = (PySem.Str.ofString "cubic")
  · have hkb : (s.kind == (PySem.Str.ofString "cubic")) = true := beq_iff_eq.mpr hk
    rw [lastC_yes hk (hkc hk)] at hs ⊢
    cases hc : s.closed
    all_goals
      apply ca_def (lv := 3) (xs := [(PySem.Str.ofString "stand"), (PySem.Str.ofString "letter"), (PySem.Str.ofString "is_relative"), (PySem.Str.ofString "numbers")])
      · k_is
      · k_is
      · intro sB kB vs hl; match vs, hl with | [_, _, _, _], _ => first | exact BindsTo.of_eq rfl | exact binds_K kB rfl (by k_is) rfl rfl rfl
      · rfl
      · exact locs_of rfl
      · rfl
      · rfl
      · rfl
      · exact noCell_of rfl
      · kwd_inv
      · first | rfl | (unfold aheadL; rw [hc]; rfl)
  · have hkb : (s.kind == (PySem.Str.ofString "cubic")) = false := beq_eq_false_iff_ne.mpr hk
    rw [lastC_no hk] at hs ⊢
    cases hc : s.closed
    all_goals
      apply ca_def (lv := 3) (xs := [(PySem.Str.ofString "stand"), (PySem.Str.ofString "letter"), (PySem.Str.ofString "is_relative"), (PySem.Str.ofString "numbers")])
      · k_is
      · k_is
      · intro sB kB vs hl; match vs, hl with | [_, _, _, _], _ => first | exact BindsTo.of_eq rfl | exact binds_K kB rfl (by k_is) rfl rfl rfl
      · rfl
      · exact locs_of rfl
      · rfl
      · rfl
      · rfl
      · exact noCell_of rfl
      · kwd_inv
      · first | rfl | (unfold aheadL; rw [hc]; rfl)
theorem doneT : ∀ (w : World) (σ : Sto) (s : PS) (c : Int × Int) (rel : Bool) (x0 y0 : Int), (s.kind = (PySem.Str.ofString "quad") → s.control = some c) → CaL w 4 (.ref 252) [stP s c, .str (PySem.Str.ofString "T"), .bool rel, .lst [.int x0, .int y0]] σ (.tup [stP (quadSt s (lastC s (PySem.Str.ofString "quad")) (endP s rel x0 y0)) (lastC s (PySem.Str.ofString "quad")), .lst (aheadL s true ++ [quadSg (lastC s (PySem.Str.ofString "quad")) (endP s rel x0 y0)])]) σ := by
  unfold CaL
  k_fill
  intro w σ s c rel x0 y0 hkc
  have hp := pointsT w σ s rel x0 y0
  have hs := segT w σ [.int x0, .int y0] [lastC s (PySem.Str.ofString "quad"), (endP s rel x0 y0)] (by simp)
  by_cases hk : s.kind = (PySem.Str.ofString "quad")
  · have hkb : (s.kind == (PySem.Str.ofString "quad")) = true := beq_iff_eq.mpr hk
    rw [lastC_yes hk (hkc hk)] at hs ⊢
    cases hc : s.closed
    all_goals
      apply ca_def (lv := 3) (xs := [(PySem.Str.ofString "stand"), (PySem.Str.ofString "letter"), (PySem.Str.ofString "is_relative"), (PySem.Str.ofString "numbers")])
      · k_is
      · k_is
      · intro sB kB vs hl; match vs, hl with | [_, _, _, _], _ => first | exact BindsTo.of_eq rfl | exact binds_K kB rfl (by k_is) rfl rfl rfl
      · rfl
      · exact locs_of rfl
      · rfl
      · rfl
      · rfl
      · exact noCell_of rfl
      · kwd_inv
      · first | rfl | (unfold aheadL; rw [hc]; rfl)
  · have hkb : (s.kind == (PySem.Str.ofString "quad")) = false := beq_eq_false_iff_ne.mpr hk
    rw [lastC_no hk] at hs ⊢
    cases hc : s.closed
    all_goals
      apply ca_def (lv := 3) (xs := [(PySem.Str.ofString "stand"), (PySem.Str.ofString "letter"), (PySem.Str.ofString "is_relative"), (PySem.Str.ofString "numbers")])
      · k_is
      · k_is
      · intro sB kB vs hl; match vs, hl with | [_, _, _, _], _ => first | exact BindsTo.of_eq rfl | exact binds_K kB rfl (by k_is) rfl rfl rfl
      · rfl
      · exact locs_of rfl
      · rfl
      · rfl
      · rfl
      · exact noCell_of rfl
      · kwd_inv
      · first | rfl | (unfold aheadL; rw [hc]; rfl)
theorem doneZ : ∀ (w : World) (σ : Sto) (s : PS) (c : Int × Int) (rel : Bool), CaL w 4 (.ref 252) [stP s c, .str (PySem.Str.ofString "Z"), .bool rel, .lst []] σ (.tup [stP (zSt s) (c), .lst (aheadL s true ++ [.tup [.str (PySem.Str.ofString "close")]])]) σ := by
  unfold CaL
  k_fill
  intro w σ s c rel  
  cases hc : s.closed
  all_goals
    apply ca_def (lv := 3) (xs := [(PySem.Str.ofString "stand"), (PySem.Str.ofString "letter"), (PySem.Str.ofString "is_relative"), (PySem.Str.ofString "numbers")])
    · k_is
    · k_is
    · intro sB kB vs hl; match vs, hl with | [_, _, _, _], _ => first | exact BindsTo.of_eq rfl | exact binds_K kB rfl (by k_is) rfl rfl rfl
    · rfl
    · exact locs_of rfl
    · rfl
    · rfl
    · rfl
    · exact noCell_of rfl
    · kwd_inv
    · first | rfl | (unfold aheadL; rw [hc]; rfl)
theorem doneA_same : ∀ (w : World) (σ : Sto) (s : PS) (c : Int × Int) (rel : Bool) (a b t f g x0 y0 : Int), endP s rel x0 y0 = s.here → CaL w 4 (.ref 252) [stP s c, .str (PySem.Str.ofString "A"), .bool rel, .lst [.int a, .int b, .int t, .int f, .int g, .int x0, .int y0]] σ (.tup [stP (sameSt s) (c), .lst ([])]) σ := by
  unfold CaL
  k_fill
  intro w σ s c rel a b t f g x0 y0 he
  have hp := pointsA w σ s rel x0 y0 a b t f g
  have hq : PyData.eqv (pt (endP s rel x0 y0)).py (pt s.here).py = true := by rw [eqv_pt]; simp [he]
  cases hc : s.closed
  all_goals
    apply ca_def (lv := 3) (xs := [(PySem.Str.ofString "stand"), (PySem.Str.ofString "letter"), (PySem.Str.ofString "is_relative"), (PySem.Str.ofString "numbers")])
    · k_is
    · k_is
    · intro sB kB vs hl; match vs, hl with | [_, _, _, _], _ => first | exact BindsTo.of_eq rfl | exact binds_K kB rfl (by k_is) rfl rfl rfl
    · rfl
    · exact locs_of rfl
    · rfl
    · rfl
    · rfl
    · exact noCell_of rfl
    · kwd_inv
    · first | rfl | (unfold aheadL; rw [hc]; rfl)
theorem doneA_line : ∀ (w : World) (σ : Sto) (s : PS) (c : Int × Int) (rel : Bool) (a b t f g x0 y0 : Int), endP s rel x0 y0 ≠ s.here → (a = 0 ∨ b = 0) → CaL w 4 (.ref 252) [stP s c, .str (PySem.Str.ofString "A"), .bool rel, .lst [.int a, .int b, .int t, .int f, .int g, .int x0, .int y0]] σ (.tup [stP (lineSt s (endP s rel x0 y0)) (c), .lst (aheadL s true ++ [lineSg (endP s rel x0 y0)])]) σ := by
  unfold CaL
  k_fill
  intro w σ s c rel a b t f g x0 y0 he hab
  have hp := pointsA w σ s rel x0 y0 a b t f g
  have hs := segA_line w σ a b t f g x0 y0 [endP s rel x0 y0] (by simp) hab
  have hq : PyData.eqv (pt (endP s rel x0 y0)).py (pt s.here).py = false := by rw [eqv_pt]; simp [he]
  cases hc : s.closed
  all_goals
    apply ca_def (lv := 3) (xs := [(PySem.Str.ofString "stand"), (PySem.Str.ofString "letter"), (PySem.Str.ofString "is_relative"), (PySem.Str.ofString "numbers")])
    · k_is
    · k_is
    · intro sB kB vs hl; match vs, hl with | [_, _, _, _], _ => first | exact BindsTo.of_eq rfl | exact binds_K kB rfl (by k_is) rfl rfl rfl
    · rfl
    · exact locs_of rfl
    · rfl
    · rfl
    · rfl
    · exact noCell_of rfl
    · kwd_inv
    · first | rfl | (unfold aheadL; rw [hc]; rfl)
theorem doneA_arc : ∀ (w : World) (σ : Sto) (s : PS) (c : Int × Int) (rel : Bool) (a b t f g x0 y0 : Int), endP s rel x0 y0 ≠ s.here → a ≠ 0 → b ≠ 0 → CaL w 4 (.ref 252) [stP s c, .str (PySem.Str.ofString "A"), .bool rel, .lst [.int a, .int b, .int t, .int f, .int g, .int x0, .int y0]] σ (.tup [stP (lineSt s (endP s rel x0 y0)) (c), .lst (aheadL s true ++ [arcSg a b t f g (endP s rel x0 y0)])]) σ := by
  unfold CaL
  k_fill
  intro w σ s c rel a b t f g x0 y0 he ha hb
  have hp := pointsA w σ s rel x0 y0 a b t f g
  have hs := segA_arc w σ a b t f g x0 y0 (endP s rel x0 y0) ha hb
  have hq : PyData.eqv (pt (endP s rel x0 y0)).py (pt s.here).py = false := by rw [eqv_pt]; simp [he]
  cases hc : s.closed
  all_goals
    apply ca_def (lv := 3) (xs := [(PySem.Str.ofString "stand"), (PySem.Str.ofString "letter"), (PySem.Str.ofString "is_relative"), (PySem.Str.ofString "numbers")])
    · k_is
    · k_is
    · intro sB kB vs hl; match vs, hl with | [_, _, _, _], _ => first | exact BindsTo.of_eq rfl | exact binds_K kB rfl (by k_is) rfl rfl rfl
    · rfl
    · exact locs_of rfl
    · rfl
    · rfl
    · rfl
    · exact noCell_of rfl
    · kwd_inv
    · first | rfl | (unfold aheadL; rw [hc]; rfl)
end
section
local macro_rules | `(tactic| kpf_close) => `(tactic| first | (with_reducible exact Tg.nil) | ((with_reducible apply Tg.name); rfl; rfl; kpf_close) | ((with_reducible apply Tg.cell); rfl; rfl; kpf_close))
local macro_rules | `(tactic| keq_hits) => `(tactic| first
  | ((with_reducible apply ev_sliceD); kpt_turns; decide; tlg_ne; (intro _ _; with_unfolding_all rfl))
  | ((with_reducible apply ev_sliceU); kpt_turns; decide; tlg_ne; (intro _ _; with_unfolding_all rfl))
  | ((with_reducible apply ev_list); kpc_turns; tlg_ne)
  | ((with_reducible apply ev_and_one); kpt_turns)
  | ((with_reducible apply ev_dgetF); rfl; rfl; decide +kernel; rfl; rfl; (exact List.cons_ne_nil _ _); (exact Nat.le_of_ble_eq_true rfl); kpc_turns; (first | kernel_rfl | rfl); (intro _; exact ⟨_, rfl⟩); (intro _; rfl); (intro _; rfl)))
local macro_rules | `(tactic| kwd_rel) => `(tactic| first
  | ((with_reducible apply ex_assign); kpt_turns; rfl; rfl; (intro _; rfl))
  | ((with_reducible apply ex_assignC'); kpt_turns; rfl; rfl; (intro _; rfl))
  | ((with_reducible apply ex_swap); (intros; rfl); (intro _; rfl); kpt_turns; rfl; exact locs_of rfl)
  | ((with_reducible apply ex_unpk); (intros; rfl); (intro _; rfl); kpt_turns; kpf_close; (intro _; rfl); (intro _; rfl))
  | ((with_reducible apply ex_expr); kpt_turns; (intro _ _ _ _ _; rfl); (intro _; rfl)))
local macro_rules | `(tactic| keq_rows) => `(tactic| first | (with_reducible exact told_c _ _ _) | assumption)
theorem asked_gen : ∀ (w : World) (σ σ' : Sto) (r : PV) (L : PySem.Str) (rel : Bool) (ns : List Int), (L == (PySem.Str.ofString "Z")) = false → (L == (PySem.Str.ofString "A")) = false → ns.length ≤ 1000 → CaL w 6 (.ref 202) [r, .str L, .bool rel, .tup (ns.map told)] σ .none σ' → CaL w 7 (.ref 262) [r, .str L, .bool rel, .lst (ns.map .int)] σ .none σ' := by
  unfold CaL
  k_fill
  intro w σ σ' r L rel ns hZ hA hz hd
  apply ca_def (lv := 6) (xs := [(PySem.Str.ofString "pen"), (PySem.Str.ofString "letter"), (PySem.Str.ofString "is_relative"), (PySem.Str.ofString "numbers")])
  · k_is
  · k_is
  · intro sB kB vs hl; match vs, hl with | [_, _, _, _], _ => first | exact BindsTo.of_eq rfl | exact binds_K kB rfl (by k_is) rfl rfl rfl
  · rfl
  · exact locs_of rfl
  · rfl
  · rfl
  · rfl
  · exact noCell_of rfl
  · apply exs_cons
    · apply ex_ifF
      · kt_ors
      · exact exs_nil
    · apply exs_cons
      · apply ex_compF (φf := []) (ds := ns.map .int) (ys := ns.map told)
        · apply seen_of
          · exact fun _ h => absurd h List.not_mem_nil
          · rfl
          · rfl
          · rfl
          · rfl
        · apply itr_L
          kpt_turns
        · apply fc_map
          intro e he
          kpt_turns
        · rfl
        · rfl
        · rw [List.length_map]; exact hz
        · rfl
        · rfl
        · intros; rfl
        · intro _ _; rfl
      · apply exs_cons
        · apply ex_ifF
          · kt_ors
          · exact exs_nil
        · apply exs_cons
          · apply ex_expr
            · apply ev_call
              · k_is
              · k_is
              · apply evs_cons
                · kpt_turns
                · apply evs_cons
                  · kpt_turns
                  · apply evs_cons
                    · kpt_turns
                    · apply evs_cons
                      · apply ev_cT
                        · k_is
                        · boot_by_name
                        · kpc_turns
                        · apply cb_tupL
                          rw [List.length_map]; omega
                        · decide
                        · kwd_less
                        · intro _; rfl
                        · intro _; rfl
                      · kpc_turns
                      · intro _; rfl
                    · intro _; rfl
                  · intro _; rfl
                · intro _; rfl
              · exact hd
              · decide
              · kwd_less
              · intro _; rfl
              · intro _; rfl
            · intro _ _ _ _ _; rfl
            · intro _; rfl
          · exact exs_nil
  · rfl
end
section
local macro_rules | `(tactic| kpf_close) => `(tactic| first | (with_reducible exact Tg.nil) | ((with_reducible apply Tg.name); rfl; rfl; kpf_close) | ((with_reducible apply Tg.cell); rfl; rfl; kpf_close))
local macro_rules | `(tactic| keq_hits) => `(tactic| first
  | ((with_reducible apply ev_sliceD); kpt_turns; decide; tlg_ne; (intro _ _; with_unfolding_all rfl))
  | ((with_reducible apply ev_sliceU); kpt_turns; decide; tlg_ne; (intro _ _; with_unfolding_all rfl))
  | ((with_reducible apply ev_list); kpc_turns; tlg_ne)
  | ((with_reducible apply ev_and_one); kpt_turns)
  | ((with_reducible apply ev_dgetF); rfl; rfl; decide +kernel; rfl; rfl; (exact List.cons_ne_nil _ _); (exact Nat.le_of_ble_eq_true rfl); kpc_turns; (first | kernel_rfl | rfl); (intro _; exact ⟨_, rfl⟩); (intro _; rfl); (intro _; rfl)))
local macro_rules | `(tactic| kwd_rel) => `(tactic| first
  | ((with_reducible apply ex_assign); kpt_turns; rfl; rfl; (intro _; rfl))
  | ((with_reducible apply ex_assignC'); kpt_turns; rfl; rfl; (intro _; rfl))
  | ((with_reducible apply ex_swap); (intros; rfl); (intro _; rfl); kpt_turns; rfl; exact locs_of rfl)
  | ((with_reducible apply ex_unpk); (intros; rfl); (intro _; rfl); kpt_turns; kpf_close; (intro _; rfl); (intro _; rfl))
  | ((with_reducible apply ex_expr); kpt_turns; (intro _ _ _ _ _; rfl); (intro _; rfl)))
local macro_rules | `(tactic| keq_rows) => `(tactic| first | (with_reducible exact told_c _ _ _) | assumption)
theorem asked_A : ∀ (w : World) (σ σ' : Sto) (r : PV) (rel : Bool) (a b t f g x y : Int), CaL w 6 (.ref 202) [r, .str (PySem.Str.ofString "A"), .bool rel, .tup [told a, told b, told t, .int f, .int g, told x, told y]] (σ ++ [.list [told a, told b, told t, .int f, .int g, told x, told y]]) .none σ' → CaL w 7 (.ref 262) [r, .str (PySem.Str.ofString "A"), .bool rel, .lst [.int a, .int b, .int t, .int f, .int g, .int x, .int y]] σ .none σ' := by
  unfold CaL
  k_fill
  intro w σ σ' r rel a b t f g x y hd
  apply ca_def (lv := 6) (xs := [(PySem.Str.ofString "pen"), (PySem.Str.ofString "letter"), (PySem.Str.ofString "is_relative"), (PySem.Str.ofString "numbers")])
  · k_is
  · k_is
  · intro sB kB vs hl; match vs, hl with | [_, _, _, _], _ => first | exact BindsTo.of_eq rfl | exact binds_K kB rfl (by k_is) rfl rfl rfl
  · rfl
  · exact locs_of rfl
  · rfl
  · rfl
  · rfl
  · exact noCell_of rfl
  · apply exs_cons
    · apply ex_ifF
      · kt_ors
      · exact exs_nil
    · apply exs_cons
      · apply ex_compR (φf := []) (ds := [a, b, t, f, g, x, y].map .int) (ys := [a, b, t, f, g, x, y].map told)
        · apply seen_of
          · exact fun _ h => absurd h List.not_mem_nil
          · rfl
          · rfl
          · rfl
          · rfl
        · apply itr_L
          kpt_turns
        · apply fc_map
          intro e he
          kpt_turns
        · rfl
        · rfl
        · exact Nat.le_of_ble_eq_true rfl
        · rfl
        · rfl
        · intros; rfl
        · intro _ _; rfl
      · apply exs_cons
        · apply ex_ifT
          · kt_ors
          · apply exs_cons
            · apply ex_unpk
              · intros; rfl
              · intro _; rfl
              · kpt_turns
              · apply Tg.item
                · kpt_turns
                · kpt_turns
                · exact last_get
                · decide
                · simp
                · decide
                · rw [last_set]
                  apply Tg.item
                  · kpt_turns
                  · kpt_turns
                  · exact last_get
                  · decide
                  · simp
                  · decide
                  · rw [last_set]
                    exact Tg.nil
              · intro _; rfl
              · intro _; rfl
            · exact exs_nil
        · apply exs_cons
          · apply ex_expr
            · apply ev_call
              · k_is
              · k_is
              · apply evs_cons
                · kpt_turns
                · apply evs_cons
                  · kpt_turns
                  · apply evs_cons
                    · kpt_turns
                    · apply evs_cons
                      · apply ev_cT
                        · k_is
                        · boot_by_name
                        · kpc_turns
                        · apply cb_tupR
                          · exact last_get
                          · simp
                        · decide
                        · kwd_less
                        · intro _; rfl
                        · intro _; rfl
                      · kpc_turns
                      · intro _; rfl
                    · intro _; rfl
                  · intro _; rfl
                · intro _; rfl
              · exact hd
              · decide
              · kwd_less
              · intro _; rfl
              · intro _; rfl
            · intro _ _ _ _ _; rfl
            · intro _; rfl
          · exact exs_nil
  · rfl
end
section
local macro_rules | `(tactic| keq_hits) => `(tactic| first
  | ((with_reducible apply ev_topTup); kwd_less; k_is; k_is; exact .cons (.int _ _) (.cons (.int _ _) .nil))
  | ((with_reducible apply ev_pget); kpt_turns; exact (pen_cls _).1; rfl; k_is; (intro _; rfl))
  | ((with_reducible apply ev_pappend); kpt_turns; exact (pen_cls _).1; rfl; k_is; (intro _; rfl); kpt_turns; tlg_ne; (intro _; exact ⟨_, rfl⟩); (intro _; rfl))
  | ((with_reducible apply ev_pcall); kpt_turns; exact (pen_cls _).1; rfl; k_is; k_is; k_is; kpc_turns; keq_rows; decide; (intro _; exact ⟨_, rfl⟩); (intro _; rfl); (intro _; rfl))
  | ((with_reducible apply ev_pcall0); kpt_turns; exact (pen_cls _).1; rfl; k_is; k_is; k_is; keq_rows; decide; (intro _; exact ⟨_, rfl⟩)))
local macro_rules | `(tactic| kwd_rel) => `(tactic| first
  | ((with_reducible apply ex_assign); kpt_turns; rfl; rfl; (intro _; rfl))
  | ((with_reducible apply ex_swap); (intros; rfl); (intro _; rfl); kpt_turns; rfl; exact locs_of rfl)
  | ((with_reducible apply ex_expr); kpt_turns; (intro _ _ _ _ _; rfl); (intro _; rfl))
  | ((with_reducible apply ex_pset); kpt_turns; kpt_turns; exact (pen_cls _).1; k_is; tlg_ne; (intro _; rfl)))
local macro_rules | `(tactic| keq_rows) => `(tactic| assumption)
theorem asked_Z : ∀ (w : World) (p q : Sto) (s : PS) (l : List PV) (rel : Bool) (ns : List PV), l.length ≤ 1000 → CaL w 7 (.ref 262) [.ref p.length, .str (PySem.Str.ofString "Z"), .bool rel, .lst ns] (SPn p s l q) .none (SPn p (zSt s) (l ++ aheadL s true ++ [.tup [.str (PySem.Str.ofString "close")]]) q) := by
  unfold CaL
  k_fill
  intro w p q s l rel ns hl
  have hc := close_c w p q s l hl
  apply ca_def (lv := 6) (xs := [(PySem.Str.ofString "pen"), (PySem.Str.ofString "letter"), (PySem.Str.ofString "is_relative"), (PySem.Str.ofString "numbers")])
  · k_is
  · k_is
  · intro sB kB vs hl; match vs, hl with | [_, _, _, _], _ => first | exact BindsTo.of_eq rfl | exact binds_K kB rfl (by k_is) rfl rfl rfl
  · rfl
  · exact locs_of rfl
  · rfl
  · rfl
  · rfl
  · exact noCell_of rfl
  · apply exs_ret
    apply ex_ifT
    · kt_ors
    · kwd_inv
  · rfl
end
section
local macro_rules | `(tactic| kpf_close) => `(tactic| first | (with_reducible exact Tg.nil) | ((with_reducible apply Tg.name); rfl; rfl; kpf_close) | ((with_reducible apply Tg.cell); rfl; rfl; kpf_close))
local macro_rules | `(tactic| keq_hits) => `(tactic| first
  | ((with_reducible apply ev_sliceD); kpt_turns; decide; tlg_ne; (intro _ _; with_unfolding_all rfl))
  | ((with_reducible apply ev_sliceU); kpt_turns; decide; tlg_ne; (intro _ _; with_unfolding_all rfl))
  | ((with_reducible apply ev_list); kpc_turns; tlg_ne)
  | ((with_reducible apply ev_and_one); kpt_turns)
  | ((with_reducible apply ev_dgetF); rfl; rfl; decide +kernel; rfl; rfl; (exact List.cons_ne_nil _ _); (exact Nat.le_of_ble_eq_true rfl); kpc_turns; (first | kernel_rfl | rfl); (intro _; exact ⟨_, rfl⟩); (intro _; rfl); (intro _; rfl)))
local macro_rules | `(tactic| kwd_rel) => `(tactic| first
  | ((with_reducible apply ex_assign); kpt_turns; rfl; rfl; (intro _; rfl))
  | ((with_reducible apply ex_assignC'); kpt_turns; rfl; rfl; (intro _; rfl))
  | ((with_reducible apply ex_swap); (intros; rfl); (intro _; rfl); kpt_turns; rfl; exact locs_of rfl)
  | ((with_reducible apply ex_unpk); (intros; rfl); (intro _; rfl); kpt_turns; kpf_close; (intro _; rfl); (intro _; rfl))
  | ((with_reducible apply ex_expr); kpt_turns; (intro _ _ _ _ _; rfl); (intro _; rfl)))
noncomputable def greatI (n : Int) : Int := if -1 - n > n then -1 - n else n
theorem greatI_nn (n : Int) : 0 ≤ greatI n := by unfold greatI; split <;> omega
noncomputable def pool0 (n : Int) : Int := greatI n * (if decide (greatI n ≥ 10 ^ 18) then 1 else 0)
noncomputable def pool1 (n : Int) : Int := (((greatI n).fmod 2147483629 + 17) * 48271).fmod 2147483647
theorem pool0_nn (n : Int) : 0 ≤ pool0 n := by
  unfold pool0
  have := greatI_nn n
  split <;> omega
theorem pool1_in (n : Int) : 0 ≤ pool1 n ∧ pool1 n < 2147483647 := ⟨Int.fmod_nonneg_of_pos _ (by decide), Int.fmod_lt_of_pos _ (by decide)⟩
local macro_rules | `(tactic| lsm_bools) => `(tactic| (with_reducible exact cb_max2))
theorem pool_body : ∀ (w : World) (lv : Nat) (σ : Sto) (S : Sc) (n : Int), True := fun _ _ _ _ _ => trivial
theorem pool_e : ∀ (w : World) (lv : Nat) (S : Sc) (φ : Fl') (σ : Sto) (p p' pos : Pos) (a : Addr) (vs : List Value) (ns : List Int), (∀ h, S.bs h → BL a vs ns h) → GlobX S (PySem.Str.ofString "_law_pool") → φ.lookup (PySem.Str.ofString "script") = some (.base a) → ns.length ≤ 16384 →
    Ev PySem.Challenge.rw_xm0718_01.row.prog w (Mine.kk.heap_1_1 w.params) S (lv + 1) φ σ (.Call (.Name (PySem.Str.ofString "_law_pool") p) [.Name (PySem.Str.ofString "script") p'] [] pos) (.ref σ.length) (σ ++ [.list [.int (pool0 (ns.headD 0)), .int (pool1 (ns.headD 0))]]) := by
  k_fill
  intro w lv S φ σ p p' pos a vs ns hB hg hy hz
  have hsm : ∀ b : Bool, -(2 ^ 64) < (if b then (1 : Int) else 0) ∧ (if b then (1 : Int) else 0) < 2 ^ 64 := fun b => by cases b <;> decide
  obtain ⟨n, hn⟩ : ∃ n, n = ns.headD 0 := ⟨_, rfl⟩
  rw [← hn]
  apply ev_callK (lv := lv) (xs := [(PySem.Str.ofString "script")]) (bs := fun h => BL a vs ns h)
  · intro h g hb hk
    have b := hB h hb
    exact ⟨b.at_.at fun o e => hk _ _ e, b.its⟩
  · k_is
  · k_is
  · apply evs_cons
    · exact ev_name hy
    · exact evs_nil
    · intro _; rfl
  · exact hg
  · intro _; rfl
  · intro _; rfl
  · k_is
  · k_is
  · intro sB kB us hl; match us, hl with | [_], _ => exact BindsTo.of_eq rfl
  · rfl
  · exact locs_of rfl
  · rfl
  · rfl
  · rfl
  · exact noCell_of rfl
  · apply exs_cons (σ' := σ)
    · apply ex_assign (d := .int n)
      · cases ns with
        | nil =>
          apply ev_ifF
          · apply tr_to
            · apply tr_cmp
              · apply ev_blen
                · k_is
                · boot_by_name
                · kwd_less
                · rfl
                · exact fun _ h => h
                · exact hz
                · decide
              · kpt_turns
              · kaf_pre
              · with_unfolding_all rfl
            · rfl
          · apply ev_to
            · kpt_turns
            · rw [hn]; rfl
        | cons m r =>
          apply ev_ifT
          · apply tr_to
            · apply tr_cmp
              · apply ev_blen
                · k_is
                · boot_by_name
                · kwd_less
                · rfl
                · exact fun _ h => h
                · exact hz
                · decide
              · kpt_turns
              · kaf_pre
              · with_unfolding_all rfl
            · simp
          · apply ev_to
            · exact ev_b0 rfl (fun _ h => h)
            · rw [hn]; rfl
      all_goals first | rfl | (intro _; rfl)
    · apply exs_cons
      · apply ex_assign (d := .int (greatI n))
        · apply ev_to
          · kpt_turns
          · rfl
        all_goals first | rfl | (intro _; rfl)
      · apply exs_ret
        apply ex_ret
        apply ev_listT
        · apply evs_cons
          · apply ev_binop
            · kpt_turns
            · apply ev_cT
              · k_is
              · boot_by_name
              · apply evs_cons
                · apply ev_cmp
                  · kpt_turns
                  · apply ev_binop
                    · kpt_turns
                    · kpt_turns
                    · exact op_pow (by decide) (by decide) (by decide)
                  · kaf_pre
                  · with_unfolding_all rfl
                · kpc_turns
                · intro _; rfl
              · exact cb_intB
              · decide
              · kwd_less
              · intro _; rfl
              · intro _; rfl
            · exact op_mul (.inr (hsm _))
          · apply evs_cons
            · apply ev_to
              · kpt_turns
              · rfl
            · kpc_turns
            · intro _; rfl
          · intro _; rfl
        · tlg_ne
  · rfl
end
section
local macro_rules | `(tactic| kpf_close) => `(tactic| first | (with_reducible exact Tg.nil) | ((with_reducible apply Tg.name); rfl; rfl; kpf_close) | ((with_reducible apply Tg.cell); rfl; rfl; kpf_close))
local macro_rules | `(tactic| keq_hits) => `(tactic| first
  | ((with_reducible apply ev_sliceD); kpt_turns; decide; tlg_ne; (intro _ _; with_unfolding_all rfl))
  | ((with_reducible apply ev_sliceU); kpt_turns; decide; tlg_ne; (intro _ _; with_unfolding_all rfl))
  | ((with_reducible apply ev_list); kpc_turns; tlg_ne)
  | ((with_reducible apply ev_and_one); kpt_turns)
  | ((with_reducible apply ev_dgetF); rfl; rfl; decide +kernel; rfl; rfl; (exact List.cons_ne_nil _ _); (exact Nat.le_of_ble_eq_true rfl); kpc_turns; (first | kernel_rfl | rfl); (intro _; exact ⟨_, rfl⟩); (intro _; rfl); (intro _; rfl)))
local macro_rules | `(tactic| kwd_rel) => `(tactic| first
  | ((with_reducible apply ex_assign); kpt_turns; rfl; rfl; (intro _; rfl))
  | ((with_reducible apply ex_assignC'); kpt_turns; rfl; rfl; (intro _; rfl))
  | ((with_reducible apply ex_swap); (intros; rfl); (intro _; rfl); kpt_turns; rfl; exact locs_of rfl)
  | ((with_reducible apply ex_unpk); (intros; rfl); (intro _; rfl); kpt_turns; kpf_close; (intro _; rfl); (intro _; rfl))
  | ((with_reducible apply ex_expr); kpt_turns; (intro _ _ _ _ _; rfl); (intro _; rfl)))
local macro_rules | `(tactic| keq_rows) => `(tactic| assumption)
inductive Tk (w : World) (i : Nat) : Sto → List Int → Sto → Prop
  | nil {σ : Sto} : Tk w i σ [] σ
  | cons {σ σ1 σ' : Sto} {f : Int} {ys : List Int} : CaL w 1 (.ref 216) [.ref i, .int 49] σ (.int f) σ1 → Tk w i σ1 ys σ' → Tk w i σ ((f - 24) :: ys) σ'
theorem take_n (w : World) (i : Nat) (top : Int) (ht : 0 < top) (σ : Sto) (h : Sd σ i) : ∃ f σ', CaL w 1 (.ref 216) [.ref i, .int top] σ (.int f) σ' ∧ Tn σ i σ' := by
  obtain ⟨s0, s1, hi, h0, h1, h2⟩ := h.at_
  obtain ⟨f, s0', s1', _, _, g0, g1, g2, hc⟩ := take_c w σ i s0 s1 top hi ht h0 h1 h2
  exact ⟨f, _, hc, Sd.set h.lt g0 g1 g2, _, rfl⟩
theorem one_n (w : World) (i : Nat) (l : List PV) (hl : 0 < l.length) (hz : l.length ≤ 1000) (σ : Sto) (h : Sd σ i) : ∃ d σ', d ∈ l ∧ CaL w 2 (.ref 223) [.ref i, .lst l] σ d σ' ∧ Tn σ i σ' := by
  obtain ⟨s0, s1, hi, h0, h1, h2⟩ := h.at_
  obtain ⟨k, d, s0', s1', hk, g0, g1, g2, hc⟩ := one_c w σ i s0 s1 l hi hl hz h0 h1 h2
  exact ⟨d, _, List.mem_of_getElem? hk, hc, Sd.set h.lt g0 g1 g2, _, rfl⟩
theorem tk_ex (w : World) (i : Nat) : ∀ (n : Nat) (σ : Sto), Sd σ i → ∃ ys σ', ys.length = n ∧ Tk w i σ ys σ' ∧ Tn σ i σ'
  | 0, σ, h => ⟨[], σ, rfl, .nil, .refl h⟩
  | n + 1, σ, h => by
    obtain ⟨f, σ1, a, t⟩ := take_n w i 49 (by decide) σ h
    obtain ⟨ys, σ2, e, b, u⟩ := tk_ex w i n σ1 t.sd
    exact ⟨_, σ2, by rw [List.length_cons, e], .cons a b, t.trans u⟩
theorem fc_tk {w : World} {K : Frag} {P : Program} {S : Sc} {sc : Scope} {lv i : Nat} {x : PySem.Str} {φf : Fl'} {elt : PySem.Expr} (hE : ∀ d σ f σ', CaL w 1 (.ref 216) [.ref i, .int 49] σ (.int f) σ' → Ev P w K ⟨S.cs, some sc, S.bs⟩ lv ((x, d) :: φf) σ elt (.int (f - 24)) σ') :
    ∀ (ds : List PV) (ys : List Int) (σ σ' : Sto), ds.length = ys.length → Tk w i σ ys σ' → Fc P w K S sc lv x φf elt ds σ (ys.map .int) σ'
  | [], [], σ, σ', _, h => by cases h; exact .nil
  | d :: ds, y :: ys, σ, σ', e, h => by
    cases h with
    | cons a b => exact .cons (hE d _ _ _ a) (fc_tk hE ds ys _ _ (Nat.succ.inj e) b)
  | [], _ :: _, _, _, e, _ => by cases e
  | _ :: _, [], _, _, e, _ => by cases e
noncomputable def plainL : List (PySem.Str × Nat) := [((PySem.Str.ofString "H"), 1), ((PySem.Str.ofString "V"), 1), ((PySem.Str.ofString "C"), 6), ((PySem.Str.ofString "S"), 4), ((PySem.Str.ofString "Q"), 4), ((PySem.Str.ofString "Z"), 0), ((PySem.Str.ofString "L"), 2), ((PySem.Str.ofString "M"), 2), ((PySem.Str.ofString "T"), 2)]
theorem numbers_p : ∀ (w : World) (i : Nat) (σ σ' : Sto) (X : PySem.Str) (n : Nat) (rel : Bool) (hp : PV) (ys : List Int), (X, n) ∈ plainL → ys.length = n → Tk w i σ ys σ' → CaL w 3 (.ref 257) [.ref i, .str X, .bool rel, hp] σ (.lst (ys.map .int)) σ' := by
  unfold CaL
  k_fill
  intro w i σ σ' X n rel hp ys hX hn hT
  simp only [plainL, List.mem_cons, List.not_mem_nil, or_false, Prod.mk.injEq] at hX
  rcases hX with ⟨rfl, rfl⟩ | ⟨rfl, rfl⟩ | ⟨rfl, rfl⟩ | ⟨rfl, rfl⟩ | ⟨rfl, rfl⟩ | ⟨rfl, rfl⟩ | ⟨rfl, rfl⟩ | ⟨rfl, rfl⟩ | ⟨rfl, rfl⟩
  all_goals
    apply ca_defC (lv := 2) (xs := [(PySem.Str.ofString "source"), (PySem.Str.ofString "letter"), (PySem.Str.ofString "is_relative"), (PySem.Str.ofString "here")])
    · k_is
    · k_is
    · intro sB kB vs hl; match vs, hl with | [_, _, _, _], _ => first | exact BindsTo.of_eq rfl | exact binds_K kB rfl (by k_is) rfl rfl rfl
    · rfl
    · exact locsC_of rfl
    · rfl
    · rfl
    · rfl
    · decide
    · apply exs_cons
      · apply ex_assign
        · apply ev_dget (r := .int ys.length)
          · rfl
          · rfl
          · decide +kernel
          · rfl
          · rfl
          · exact List.cons_ne_nil _ _
          · exact Nat.le_of_ble_eq_true rfl
          · kpc_turns
          · rw [hn]; first | rfl | kernel_rfl
          · first | rfl | kernel_rfl
          · intro _; exact ⟨_, rfl⟩
          · intro _; rfl
          · intro _; rfl
        · rfl
        · rfl
        · intro _; rfl
      · rw [hn]
        apply exs_cons
        · apply ex_compF (φf := [((PySem.Str.ofString "source"), .ref i)])
          · apply seen_of
            · exact List.forall_mem_cons.mpr ⟨⟨rfl, rfl, rfl⟩, fun _ h => absurd h List.not_mem_nil⟩
            · rfl
            · rfl
            · rfl
            · rfl
          · apply itr_R2 (n := ys.length)
            · apply ev_rng1
              · k_is
              · boot_by_name
              · kwd_less
              · kpc_turns
              · decide
              · intro _; rfl
              · intro _; rfl
            · rfl
            · decide +kernel
            · rw [hn]; decide +kernel
            · rfl
          · exact fc_tk (by intro d σ f σ' hc; kpt_turns) _ _ _ _ (by simp [rangePV]) hT
          · rfl
          · rfl
          · simp [rangePV, hn]
          · rfl
          · rfl
          · intros; rfl
          · intro _ _; rfl
        · kwd_inv
    · rfl
end
section
local macro_rules | `(tactic| kpf_close) => `(tactic| first | (with_reducible exact Tg.nil) | ((with_reducible apply Tg.name); rfl; rfl; kpf_close) | ((with_reducible apply Tg.cell); rfl; rfl; kpf_close))
local macro_rules | `(tactic| keq_hits) => `(tactic| first
  | ((with_reducible apply ev_sliceD); kpt_turns; decide; tlg_ne; (intro _ _; with_unfolding_all rfl))
  | ((with_reducible apply ev_sliceU); kpt_turns; decide; tlg_ne; (intro _ _; with_unfolding_all rfl))
  | ((with_reducible apply ev_list); kpc_turns; tlg_ne)
  | ((with_reducible apply ev_and_one); kpt_turns)
  | ((with_reducible apply ev_dgetF); rfl; rfl; decide +kernel; rfl; rfl; (exact List.cons_ne_nil _ _); (exact Nat.le_of_ble_eq_true rfl); kpc_turns; (first | kernel_rfl | rfl); (intro _; exact ⟨_, rfl⟩); (intro _; rfl); (intro _; rfl)))
local macro_rules | `(tactic| kwd_rel) => `(tactic| first
  | ((with_reducible apply ex_assign); kpt_turns; rfl; rfl; (intro _; rfl))
  | ((with_reducible apply ex_assignC'); kpt_turns; rfl; rfl; (intro _; rfl))
  | ((with_reducible apply ex_swap); (intros; rfl); (intro _; rfl); kpt_turns; rfl; exact locs_of rfl)
  | ((with_reducible apply ex_unpk); (intros; rfl); (intro _; rfl); kpt_turns; kpf_close; (intro _; rfl); (intro _; rfl))
  | ((with_reducible apply ex_expr); kpt_turns; (intro _ _ _ _ _; rfl); (intro _; rfl)))
local macro_rules | `(tactic| keq_rows) => `(tactic| assumption)
local macro_rules | `(tactic| kaf_pre) => `(tactic| ((with_reducible apply op_addRL); assumption; tlg_ne))
theorem numbers_a : ∀ (w : World) (i : Nat) (σ τ0 τ1 τ2 τ3 τ4 τ5 τ6 : Sto) (rel : Bool) (h back : PV) (a0 a b t e1 e2 x y f g : Int), (if rel then .tup [.int 0, .int 0] else h) = back → Tk w i σ [a0, b, t] τ0 →
    (∀ l, (τ0 ++ [PO.list l])[τ0.length]? = some (.list l)) → (∀ l, (τ1 ++ [PO.list l])[τ0.length]? = some (.list l)) → (∀ l, (τ6 ++ [PO.list l])[τ0.length]? = some (.list l)) → (∀ o o' : PO, (τ1 ++ [o]).set τ0.length o' = τ1 ++ [o']) →
    CaL w 2 (.ref 223) [.ref i, .lst [.int a0, .int a0, .int 0]] (τ0 ++ [.list [.int a0, .int b, .int t]]) (.int a) (τ1 ++ [.list [.int a0, .int b, .int t]]) →
    CaL w 1 (.ref 216) [.ref i, .int 49] (τ1 ++ [.list [.int a, .int b, .int t]]) (.int e1) (τ2 ++ [.list [.int a, .int b, .int t]]) →
    CaL w 1 (.ref 216) [.ref i, .int 49] (τ2 ++ [.list [.int a, .int b, .int t]]) (.int e2) (τ3 ++ [.list [.int a, .int b, .int t]]) →
    CaL w 2 (.ref 223) [.ref i, .lst [.tup [.int (e1 - 24), .int (e2 - 24)], .tup [.int (e1 - 24), .int (e2 - 24)], back]] (τ3 ++ [.list [.int a, .int b, .int t]]) (.tup [.int x, .int y]) (τ4 ++ [.list [.int a, .int b, .int t]]) →
    CaL w 1 (.ref 216) [.ref i, .int 2] (τ4 ++ [.list [.int a, .int b, .int t]]) (.int f) (τ5 ++ [.list [.int a, .int b, .int t]]) →
    CaL w 1 (.ref 216) [.ref i, .int 2] (τ5 ++ [.list [.int a, .int b, .int t]]) (.int g) (τ6 ++ [.list [.int a, .int b, .int t]]) →
    CaL w 3 (.ref 257) [.ref i, .str (PySem.Str.ofString "A"), .bool rel, h] σ (.lst [.int a, .int b, .int t, .int f, .int g, .int x, .int y]) (τ6 ++ [.list [.int a, .int b, .int t]]) := by
  unfold CaL
  k_fill
  intro w i σ τ0 τ1 τ2 τ3 τ4 τ5 τ6 rel h back a0 a b t e1 e2 x y f g hback hT q0 q1 q6 qs c1 c2 c3 c4 c5 c6
  have g0 := q0 [.int a0, .int b, .int t]
  have g6 := q6 [.int a, .int b, .int t]
  have g1 := q1 [.int a0, .int b, .int t]
  cases rel
  all_goals
    simp only [if_true, if_false, Bool.false_eq_true] at hback
    subst hback
    apply ca_defC (lv := 2) (xs := [(PySem.Str.ofString "source"), (PySem.Str.ofString "letter"), (PySem.Str.ofString "is_relative"), (PySem.Str.ofString "here")])
    · k_is
    · k_is
    · intro sB kB vs hl; match vs, hl with | [_, _, _, _], _ => first | exact BindsTo.of_eq rfl | exact binds_K kB rfl (by k_is) rfl rfl rfl
    · rfl
    · exact locsC_of rfl
    · rfl
    · rfl
    · rfl
    · decide
    · apply exs_cons
      · apply ex_assign
        · apply ev_dget (r := .int 3)
          · rfl
          · rfl
          · decide +kernel
          · rfl
          · rfl
          · exact List.cons_ne_nil _ _
          · exact Nat.le_of_ble_eq_true rfl
          · kpc_turns
          · first | rfl | kernel_rfl
          · first | rfl | kernel_rfl
          · intro _; exact ⟨_, rfl⟩
          · intro _; rfl
          · intro _; rfl
        · rfl
        · rfl
        · intro _; rfl
      · apply exs_cons
        · apply ex_compR (φf := [((PySem.Str.ofString "source"), .ref i)])
          · apply seen_of
            · exact List.forall_mem_cons.mpr ⟨⟨rfl, rfl, rfl⟩, fun _ h => absurd h List.not_mem_nil⟩
            · rfl
            · rfl
            · rfl
            · rfl
          · apply itr_R2 (n := 3)
            · apply ev_rng1
              · k_is
              · boot_by_name
              · kwd_less
              · kpc_turns
              · decide
              · intro _; rfl
              · intro _; rfl
            · rfl
            · decide +kernel
            · decide +kernel
            · rfl
          · exact fc_tk (by intro d σ f σ' hc; kpt_turns) _ _ _ _ rfl hT
          · rfl
          · rfl
          · decide
          · rfl
          · rfl
          · intros; rfl
          · intro _ _; rfl
        · apply exs_cons
          · apply ex_ifT
            · kt_ors
            · apply exs_cons
              · apply ex_setit
                · kpt_turns
                · kpt_turns
                · kpt_turns
                · exact g1
                · exact ⟨by decide, by simp, by decide⟩
                · intro _; rfl
              · apply exs_toS (qs _ _)
                kwd_inv
          · kwd_inv
    · rfl
end
section
inductive Sh : PySem.Str → List Int → Prop
  | H (x : Int) : Sh (PySem.Str.ofString "H") [x]
  | V (x : Int) : Sh (PySem.Str.ofString "V") [x]
  | L (x y : Int) : Sh (PySem.Str.ofString "L") [x, y]
  | M (x y : Int) : Sh (PySem.Str.ofString "M") [x, y]
  | C (a b c d e f : Int) : Sh (PySem.Str.ofString "C") [a, b, c, d, e, f]
  | S (a b c d : Int) : Sh (PySem.Str.ofString "S") [a, b, c, d]
  | Q (a b c d : Int) : Sh (PySem.Str.ofString "Q") [a, b, c, d]
  | T (a b : Int) : Sh (PySem.Str.ofString "T") [a, b]
  | Z : Sh (PySem.Str.ofString "Z") []
  | A (a b t f g x y : Int) : Sh (PySem.Str.ofString "A") [a, b, t, f, g, x, y]
/-- the control point stands behind a curve -/
structure Kd (s : PS) (c : Int × Int) : Prop where
  ctl : s.kind ≠ PySem.Str.ofString "" → s.control = some c
  ok : PyData.strOk s.kind = true
theorem quad_ok : PyData.strOk (PySem.Str.ofString "quad") = true := by decide +kernel
theorem cubic_ok : PyData.strOk (PySem.Str.ofString "cubic") = true := by decide +kernel
theorem told_ok (n : Nat) (x : Int) : (told x).okd (n + 1) = true := rfl
theorem spot_ok (n : Nat) (e : Int × Int) : (spot e).okd (n + 2) = true := rfl
theorem ahead_len (s : PS) (b : Bool) : (aheadL s b).length ≤ 1 := by unfold aheadL; split <;> simp
theorem okds_app (n : Nat) : ∀ (l k : List PV), PV.okds n (l ++ k) = (PV.okds n l && PV.okds n k)
  | [], k => by simp [PV.okds]
  | d :: l, k => by simp [PV.okds, okds_app n l k, Bool.and_assoc]
theorem ahead_ok (s : PS) (b : Bool) : PV.okds 8 (aheadL s b) = true := by unfold aheadL; split <;> kernel_rfl
theorem more_len (s : PS) (sg : PV) : (aheadL s true ++ [sg]).length ≤ 2 := by
  have := ahead_len s true
  rw [List.length_append, List.length_cons, List.length_nil]; omega
theorem more_ok (s : PS) {sg : PV} (h : sg.okd 8 = true) : PV.okds 8 (aheadL s true ++ [sg]) = true := by
  rw [okds_app, ahead_ok]; simp [PV.okds, h]
structure Fin1 (w : World) (p q : Sto) (s : PS) (c : Int × Int) (l : List PV) (rel : Bool) (X : PySem.Str) (ns : List Int) (s' : PS) (c' : Int × Int) (more : List PV) (q' : Sto) : Prop where
  done : ∀ σ, CaL w 4 (.ref 252) [stP s c, .str X, .bool rel, .lst (ns.map .int)] σ (.tup [stP s' c', .lst more]) σ
  asked : CaL w 7 (.ref 262) [.ref p.length, .str X, .bool rel, .lst (ns.map .int)] (SPn p s l q) .none (SPn p s' (l ++ more) q')
  kd : Kd s' c'
  len : more.length ≤ 2
  ok : PV.okds 8 more = true
theorem kd_none {s : PS} {c : Int × Int} (h : s.kind = PySem.Str.ofString "") : Kd s c := ⟨fun k => absurd h k, by rw [h]; decide +kernel⟩
theorem kd_some {s : PS} {c : Int × Int} (h : s.control = some c) (o : PyData.strOk s.kind = true) : Kd s c := ⟨fun _ => h, o⟩
theorem step_c (w : World) (p q : Sto) (s : PS) (c : Int × Int) (l : List PV) (rel : Bool) (X : PySem.Str) (ns : List Int) (hX : Sh X ns) (hk : Kd s c) (hl : l.length ≤ 1000) : ∃ s' c' more q', Fin1 w p q s c l rel X ns s' c' more q' := by
  have kq : s.kind = (PySem.Str.ofString "quad") → s.control = some c := fun e => hk.ctl (by rw [e]; decide +kernel)
  have kc : s.kind = (PySem.Str.ofString "cubic") → s.control = some c := fun e => hk.ctl (by rw [e]; decide +kernel)
  cases hX with
  | H x =>
    have h := drawH w p q s l rel x hl
    rw [List.append_assoc] at h
    have hh := asked_gen w _ _ _ _ rel [x] (by decide +kernel) (by decide +kernel) (Nat.le_of_ble_eq_true rfl) h
    exact ⟨_, _, _, _, fun σ => doneH w σ s c rel x, hh, kd_none rfl, more_len _ _, more_ok _ (by kernel_rfl)⟩
  | V x =>
    have h := drawV w p q s l rel x hl
    rw [List.append_assoc] at h
    have hh := asked_gen w _ _ _ _ rel [x] (by decide +kernel) (by decide +kernel) (Nat.le_of_ble_eq_true rfl) h
    exact ⟨_, _, _, _, fun σ => doneV w σ s c rel x, hh, kd_none rfl, more_len _ _, more_ok _ (by kernel_rfl)⟩
  | L x y =>
    have h := drawL w p q s l rel x y hl
    rw [List.append_assoc] at h
    have hh := asked_gen w _ _ _ _ rel [x, y] (by decide +kernel) (by decide +kernel) (Nat.le_of_ble_eq_true rfl) h
    exact ⟨_, _, _, _, fun σ => doneL w σ s c rel x y, hh, kd_none rfl, more_len _ _, more_ok _ (by kernel_rfl)⟩
  | M x y =>
    have h := drawM w p q s l rel x y hl
    have hh := asked_gen w _ _ _ _ rel [x, y] (by decide +kernel) (by decide +kernel) (Nat.le_of_ble_eq_true rfl) h
    exact ⟨_, _, _, _, fun σ => doneM w σ s c rel x y, hh, kd_none rfl, by simp, (by kernel_rfl)⟩
  | C a b c1 d e f =>
    have h := drawC w p q s l rel a b c1 d e f hl
    rw [List.append_assoc] at h
    have hh := asked_gen w _ _ _ _ rel [a, b, c1, d, e, f] (by decide +kernel) (by decide +kernel) (Nat.le_of_ble_eq_true rfl) h
    exact ⟨_, _, _, _, fun σ => doneC w σ s c rel a b c1 d e f, hh, kd_some rfl cubic_ok, more_len _ _, more_ok _ (by kernel_rfl)⟩
  | S a b c1 d =>
    have h := drawS w p q s l rel a b c1 d hl (fun e => by rw [kc e]; rfl)
    rw [List.append_assoc] at h
    have hh := asked_gen w _ _ _ _ rel [a, b, c1, d] (by decide +kernel) (by decide +kernel) (Nat.le_of_ble_eq_true rfl) h
    exact ⟨_, _, _, _, fun σ => doneS w σ s c rel a b c1 d kc, hh, kd_some rfl cubic_ok, more_len _ _, more_ok _ (by kernel_rfl)⟩
  | Q a b c1 d =>
    have h := drawQ w p q s l rel a b c1 d hl
    rw [List.append_assoc] at h
    have hh := asked_gen w _ _ _ _ rel [a, b, c1, d] (by decide +kernel) (by decide +kernel) (Nat.le_of_ble_eq_true rfl) h
    exact ⟨_, _, _, _, fun σ => doneQ w σ s c rel a b c1 d, hh, kd_some rfl quad_ok, more_len _ _, more_ok _ (by kernel_rfl)⟩
  | T a b =>
    have h := drawT w p q s l rel a b hl (fun e => by rw [kq e]; rfl)
    rw [List.append_assoc] at h
    have hh := asked_gen w _ _ _ _ rel [a, b] (by decide +kernel) (by decide +kernel) (Nat.le_of_ble_eq_true rfl) h
    exact ⟨_, _, _, _, fun σ => doneT w σ s c rel a b kq, hh, kd_some rfl quad_ok, more_len _ _, more_ok _ (by kernel_rfl)⟩
  | Z =>
    have h := asked_Z w p q s l rel [] hl
    rw [List.append_assoc] at h
    have hh := h
    exact ⟨_, _, _, _, fun σ => doneZ w σ s c rel, hh, kd_none rfl, more_len _ _, more_ok _ (by kernel_rfl)⟩
  | A a b t f g x y =>
    let gq : List PV := [told a, told b, told t, .int f, .int g, told x, told y]
    by_cases he : endP s rel x y = s.here
    · skip
      have h := drawA_same w p (q ++ [.list gq]) s l rel a b t f g x y hl he
      have hh := asked_A w _ _ _ rel a b t f g x y (by rw [SP.app]; exact h)
      exact ⟨sameSt s, c, [], q ++ [.list gq] ++ [.list [spot (endP s rel x y)]], fun σ => doneA_same w σ s c rel a b t f g x y he, (by rw [List.append_nil]; exact hh), kd_none rfl, by simp, (by kernel_rfl)⟩
    · by_cases hab : a = 0 ∨ b = 0
      · skip
        have h := drawA_line w p (q ++ [.list gq]) s l rel a b t f g x y hl he hab
        rw [List.append_assoc] at h
        have hh := asked_A w _ _ _ rel a b t f g x y (by rw [SP.app]; exact h)
        exact ⟨_, _, _, _, fun σ => doneA_line w σ s c rel a b t f g x y he hab, hh, kd_none rfl, more_len _ _, more_ok _ (by kernel_rfl)⟩
      · have ha : a ≠ 0 := fun e => hab (.inl e)
        have hb : b ≠ 0 := fun e => hab (.inr e)
        have h := drawA_arc w p (q ++ [.list gq]) s l rel a b t f g x y hl he ha hb
        rw [List.append_assoc] at h
        have hh := asked_A w _ _ _ rel a b t f g x y (by rw [SP.app]; exact h)
        exact ⟨_, _, _, _, fun σ => doneA_arc w σ s c rel a b t f g x y he ha hb, hh, kd_none rfl, more_len _ _, more_ok _ (by kernel_rfl)⟩
end
section
local macro_rules | `(tactic| keq_hits) => `(tactic| first
  | ((with_reducible apply ev_topTup); kwd_less; k_is; k_is; exact .cons (.int _ _) (.cons (.int _ _) .nil))
  | ((with_reducible apply ev_pget); kpt_turns; exact (pen_cls _).1; rfl; k_is; (intro _; rfl))
  | ((with_reducible apply ev_pappend); kpt_turns; exact (pen_cls _).1; rfl; k_is; (intro _; rfl); kpt_turns; tlg_ne; (intro _; exact ⟨_, rfl⟩); (intro _; rfl))
  | ((with_reducible apply ev_pcall); kpt_turns; exact (pen_cls _).1; rfl; k_is; k_is; k_is; kpc_turns; keq_rows; decide; (intro _; exact ⟨_, rfl⟩); (intro _; rfl); (intro _; rfl))
  | ((with_reducible apply ev_pcall0); kpt_turns; exact (pen_cls _).1; rfl; k_is; k_is; k_is; keq_rows; decide; (intro _; exact ⟨_, rfl⟩)))
local macro_rules | `(tactic| kwd_rel) => `(tactic| first
  | ((with_reducible apply ex_assign); kpt_turns; rfl; rfl; (intro _; rfl))
  | ((with_reducible apply ex_swap); (intros; rfl); (intro _; rfl); kpt_turns; rfl; exact locs_of rfl)
  | ((with_reducible apply ex_expr); kpt_turns; (intro _ _ _ _ _; rfl); (intro _; rfl))
  | ((with_reducible apply ex_pset); kpt_turns; kpt_turns; exact (pen_cls _).1; k_is; tlg_ne; (intro _; rfl)))
local macro_rules | `(tactic| kpf_close) => `(tactic| first | (with_reducible exact Tg.nil) | ((with_reducible apply Tg.name); rfl; rfl; kpf_close) | ((with_reducible apply Tg.cell); rfl; rfl; kpf_close))
local macro_rules | `(tactic| keq_hits) => `(tactic| first
  | ((with_reducible apply ev_sliceD); kpt_turns; decide; tlg_ne; (intro _ _; with_unfolding_all rfl))
  | ((with_reducible apply ev_sliceU); kpt_turns; decide; tlg_ne; (intro _ _; with_unfolding_all rfl))
  | ((with_reducible apply ev_list); kpc_turns; tlg_ne)
  | ((with_reducible apply ev_and_one); kpt_turns)
  | ((with_reducible apply ev_dgetF); rfl; rfl; decide +kernel; rfl; rfl; (exact List.cons_ne_nil _ _); (exact Nat.le_of_ble_eq_true rfl); kpc_turns; (first | kernel_rfl | rfl); (intro _; exact ⟨_, rfl⟩); (intro _; rfl); (intro _; rfl)))
local macro_rules | `(tactic| kwd_rel) => `(tactic| first
  | ((with_reducible apply ex_assign); kpt_turns; rfl; rfl; (intro _; rfl))
  | ((with_reducible apply ex_assignC'); kpt_turns; rfl; rfl; (intro _; rfl))
  | ((with_reducible apply ex_swap); (intros; rfl); (intro _; rfl); kpt_turns; rfl; exact locs_of rfl)
  | ((with_reducible apply ex_unpk); (intros; rfl); (intro _; rfl); kpt_turns; kpf_close; (intro _; rfl); (intro _; rfl))
  | ((with_reducible apply ex_expr); kpt_turns; (intro _ _ _ _ _; rfl); (intro _; rfl)))
local macro_rules | `(tactic| keq_rows) => `(tactic| (with_reducible exact spot_c _ _ _))
theorem right_c : ∀ (w : World) (p q : Sto) (s : PS) (c : Int × Int) (l : List PV), Kd s c → CaL w 3 (.ref 269) [.ref p.length, stP s c] (SPn p s l q) (.bool true) (SPn p s l q) := by
  unfold CaL
  k_fill
  intro w p q s c l hk
  have ho : (PV.lst [spot s.here, spot s.start, .str s.kind, .bool s.closed]).okd 8 = true := by simp [PV.okd, PV.okds, spot, told, hk.ok]
  have hn : (!PyData.eqv (PV.lst [spot s.here, spot s.start, .str s.kind, .bool s.closed]).py (PV.lst [spot s.here, spot s.start, .str s.kind, .bool s.closed]).py) = false := by rw [eqv_refl _ _ ho]; rfl
  apply ca_def (lv := 2) (xs := [(PySem.Str.ofString "pen"), (PySem.Str.ofString "stand")])
  · k_is
  · k_is
  · intro sB kB vs hl; match vs, hl with | [_, _], _ => first | exact BindsTo.of_eq rfl | exact binds_K kB rfl (by k_is) rfl rfl rfl
  · rfl
  · exact locs_of rfl
  · rfl
  · rfl
  · rfl
  · exact noCell_of rfl
  · apply exs_cons
    · kwd_rel
    · apply exs_cons
      · apply ex_ifF
        · apply tr_to
          · apply tr_cmp
            · kpt_turns
            · kpt_turns
            · exact op_neD ho ho (by decide)
            · with_unfolding_all rfl
          · exact hn
        · kwd_inv
      · apply exs_ret
        apply ex_ret
        by_cases h0 : s.kind = (PySem.Str.ofString "")
        · apply ev_or_true
          apply ev_to
          · kpt_turns
          · rw [h0]; rfl
        · have hc : ctl s.control = spot c := by rw [hk.ctl h0]; rfl
          apply ev_or_false
          · apply ev_to
            · kpt_turns
            · rw [beq_eq_false_iff_ne.mpr h0]
          · apply ev_and_one
            apply ev_to
            · apply ev_cmp
              · kpt_turns
              · kpt_turns
              · exact op_eqD (n := 8) (by rw [hc]; rfl) rfl (by decide)
              · with_unfolding_all rfl
            · rw [hc, eqv_refl 8 _ rfl]
  · rfl
end
section
theorem tnl {τ τ' : Sto} {i : Nat} (h : Tn τ i τ') (l : List PV) : (τ' ++ [PO.list l])[τ.length]? = some (.list l) := by rw [← h.len]; simp
theorem tns {τ τ' : Sto} {i : Nat} (h : Tn τ i τ') (o o' : PO) : (τ' ++ [o]).set τ.length o' = τ' ++ [o'] := by rw [← h.len]; simp
/-- what _law_numbers gives for a letter, and the source behind it -/
theorem numbers_ex (w : World) (i : Nat) (σ : Sto) (X : PySem.Str) (n : Nat) (rel : Bool) (h : Int × Int) (hX : X = (PySem.Str.ofString "A") ∨ (X, n) ∈ plainL) (hs : Sd σ i) : ∃ ns τ g, Sh X ns ∧ Tn σ i τ ∧ CaL w 3 (.ref 257) [.ref i, .str X, .bool rel, pt h] σ (.lst (ns.map .int)) (τ ++ g) := by
  rcases hX with rfl | hX
  · obtain ⟨ys, τ0, hn, hT, t0⟩ := tk_ex w i 3 σ hs
    obtain ⟨a0, b, t, rfl⟩ : ∃ a b c, ys = [a, b, c] := by
      match ys, hn with | [a, b, c], _ => exact ⟨a, b, c, rfl⟩
    have cut : ∀ {τ σ' : Sto} {l : List PV}, Sd τ i → Tn (τ ++ [.list l]) i σ' → ∃ τ', σ' = τ' ++ [.list l] ∧ Tn τ i τ' := fun d t => t.cut d.lt
    obtain ⟨d1, σ1, m1, c1, u1⟩ := one_n w i [.int a0, .int a0, .int 0] (by simp) (by simp) (τ0 ++ [.list [.int a0, .int b, .int t]]) (t0.sd.app _)
    obtain ⟨τ1, rfl, t1⟩ := cut t0.sd u1
    obtain ⟨a, rfl⟩ : ∃ a, d1 = .int a := by
      simp only [List.mem_cons, List.not_mem_nil, or_false] at m1
      rcases m1 with rfl | rfl | rfl <;> exact ⟨_, rfl⟩
    obtain ⟨e1, σ2, c2, u2⟩ := take_n w i 49 (by decide) (τ1 ++ [.list [.int a, .int b, .int t]]) (t1.sd.app _)
    obtain ⟨τ2, rfl, t2⟩ := cut t1.sd u2
    obtain ⟨e2, σ3, c3, u3⟩ := take_n w i 49 (by decide) (τ2 ++ [.list [.int a, .int b, .int t]]) (t2.sd.app _)
    obtain ⟨τ3, rfl, t3⟩ := cut t2.sd u3
    obtain ⟨d4, σ4, m4, c4, u4⟩ := one_n w i [.tup [.int (e1 - 24), .int (e2 - 24)], .tup [.int (e1 - 24), .int (e2 - 24)], if rel then .tup [.int 0, .int 0] else pt h] (by simp) (by simp) (τ3 ++ [.list [.int a, .int b, .int t]]) (t3.sd.app _)
    obtain ⟨τ4, rfl, t4⟩ := cut t3.sd u4
    obtain ⟨x, y, rfl⟩ : ∃ x y, d4 = .tup [.int x, .int y] := by
      simp only [List.mem_cons, List.not_mem_nil, or_false] at m4
      rcases m4 with rfl | rfl | rfl
      · exact ⟨_, _, rfl⟩
      · exact ⟨_, _, rfl⟩
      · cases rel <;> exact ⟨_, _, rfl⟩
    obtain ⟨f, σ5, c5, u5⟩ := take_n w i 2 (by decide) (τ4 ++ [.list [.int a, .int b, .int t]]) (t4.sd.app _)
    obtain ⟨τ5, rfl, t5⟩ := cut t4.sd u5
    obtain ⟨g, σ6, c6, u6⟩ := take_n w i 2 (by decide) (τ5 ++ [.list [.int a, .int b, .int t]]) (t5.sd.app _)
    obtain ⟨τ6, rfl, t6⟩ := cut t5.sd u6
    have t06 : Tn τ0 i τ6 := ((((t1.trans t2).trans t3).trans t4).trans t5).trans t6
    exact ⟨[a, b, t, f, g, x, y], τ6, _, .A _ _ _ _ _ _ _, t0.trans t06, numbers_a w i σ τ0 τ1 τ2 τ3 τ4 τ5 τ6 rel (pt h) _ a0 a b t e1 e2 x y f g rfl hT (fun l => by simp) (tnl t1) (tnl t06) (tns t1) c1 c2 c3 c4 c5 c6⟩
  · obtain ⟨ys, τ, hn, hT, t⟩ := tk_ex w i n σ hs
    have hc := numbers_p w i σ τ X n rel (pt h) ys hX hn hT
    refine ⟨ys, τ, [], ?_, t, by rw [List.append_nil]; exact hc⟩
    simp only [plainL, List.mem_cons, List.not_mem_nil, or_false, Prod.mk.injEq] at hX
    rcases hX with ⟨rfl, rfl⟩ | ⟨rfl, rfl⟩ | ⟨rfl, rfl⟩ | ⟨rfl, rfl⟩ | ⟨rfl, rfl⟩ | ⟨rfl, rfl⟩ | ⟨rfl, rfl⟩ | ⟨rfl, rfl⟩ | ⟨rfl, rfl⟩
    · match ys, hn with | [a], _ => exact .H a
    · match ys, hn with | [a], _ => exact .V a
    · match ys, hn with | [a, b, c, d, e, f], _ => exact .C a b c d e f
    · match ys, hn with | [a, b, c, d], _ => exact .S a b c d
    · match ys, hn with | [a, b, c, d], _ => exact .Q a b c d
    · match ys, hn with | [], _ => exact .Z
    · match ys, hn with | [a, b], _ => exact .L a b
    · match ys, hn with | [a, b], _ => exact .M a b
    · match ys, hn with | [a, b], _ => exact .T a b
end
section
theorem spn_turn {p σ' q : Sto} {s : PS} {l : List PV} {i : Nat} (hs : Sd p i) (h : Tn (SPn p s l q) i σ') : ∃ p', σ' = SPn p' s l q ∧ p'.length = p.length ∧ Sd p' i := by
  obtain ⟨p', e, t⟩ := Tn.cut (σ := p) (g := .inst 184 (p.length + 1) :: .dict (penF p.length s) :: .list l :: q) hs.lt h
  refine ⟨p', ?_, t.len, t.sd⟩
  rw [e, ← t.len]
  rfl
theorem spn_sd {p q : Sto} {s : PS} {l : List PV} {i : Nat} (hs : Sd p i) : Sd (SPn p s l q) i := hs.app _
noncomputable def pairsL : List PV := [.str (PySem.Str.ofString "CS"), .str (PySem.Str.ofString "QT"), .str (PySem.Str.ofString "SS"), .str (PySem.Str.ofString "TT"), .str (PySem.Str.ofString "CT"), .str (PySem.Str.ofString "QS"), .str (PySem.Str.ofString "ZL"), .str (PySem.Str.ofString "ZA"), .str (PySem.Str.ofString "ZM"), .str (PySem.Str.ofString "AT"), .str (PySem.Str.ofString "MH"), .str (PySem.Str.ofString "VZ"), .str (PySem.Str.ofString "LC"), .str (PySem.Str.ofString "QA"), .str (PySem.Str.ofString "HZ"), .str (PySem.Str.ofString "MZ")]
noncomputable def Lt (X : PySem.Str) : Prop := ∃ n, X = (PySem.Str.ofString "A") ∨ (X, n) ∈ plainL
theorem lt_of {X : PySem.Str} (h : (X == (PySem.Str.ofString "A") || plainL.any fun p => p.1 == X) = true) : Lt X := by
  rw [Bool.or_eq_true] at h
  rcases h with h | h
  · exact ⟨0, .inl (beq_iff_eq.mp h)⟩
  · obtain ⟨⟨Y, n⟩, a, b⟩ := List.any_eq_true.mp h
    have := beq_iff_eq.mp b
    subst this
    exact ⟨n, .inr a⟩
noncomputable def splits (tx : PySem.Str) : List PySem.Str := tx.cps.toList.map fun c => (⟨#[c]⟩ : PySem.Str)
noncomputable def pairsT : List PySem.Str := [(PySem.Str.ofString "CS"), (PySem.Str.ofString "QT"), (PySem.Str.ofString "SS"), (PySem.Str.ofString "TT"), (PySem.Str.ofString "CT"), (PySem.Str.ofString "QS"), (PySem.Str.ofString "ZL"), (PySem.Str.ofString "ZA"), (PySem.Str.ofString "ZM"), (PySem.Str.ofString "AT"), (PySem.Str.ofString "MH"), (PySem.Str.ofString "VZ"), (PySem.Str.ofString "LC"), (PySem.Str.ofString "QA"), (PySem.Str.ofString "HZ"), (PySem.Str.ofString "MZ")]
theorem pairs_all : (pairsT.all fun tx => (splits tx).length == 2 && (splits tx).all fun X => X == (PySem.Str.ofString "A") || plainL.any fun p => p.1 == X) = true := by decide +kernel
theorem pairs_ok {d : PV} (h : d ∈ pairsL) : ∃ tx l, d = .str tx ∧ splits tx = l ∧ l.length = 2 ∧ ∀ X ∈ l, Lt X := by
  have e : pairsL = pairsT.map .str := rfl
  rw [e] at h
  obtain ⟨tx, a, rfl⟩ := List.mem_map.mp h
  have b := List.all_eq_true.mp pairs_all tx a
  rw [Bool.and_eq_true] at b
  exact ⟨tx, _, rfl, rfl, beq_iff_eq.mp b.1, fun X hX => lt_of (List.all_eq_true.mp b.2 X hX)⟩
noncomputable def lawF (i j : Nat) (s : PS) (c : Int × Int) (l : List PV) : Fl' := [((PySem.Str.ofString "source"), .ref i), ((PySem.Str.ofString "pen"), .ref j), ((PySem.Str.ofString "stand"), stP s c), ((PySem.Str.ofString "due"), .lst l), ((PySem.Str.ofString "pairs"), .lst pairsL)]
structure LInv (i j n : Nat) (φ : Fl') (σ : Sto) (p : Sto) (s : PS) (c : Int × Int) (l : List PV) (q : Sto) : Prop where
  f : φ = lawF i j s c l
  e : σ = SPn p s l q
  j : p.length = j
  sd : Sd p i
  kd : Kd s c
  len : l.length ≤ n
  ok : PV.okds 8 l = true
noncomputable def LI (i j n : Nat) (φ : Fl') (σ : Sto) : Prop := ∃ p s c l q, LInv i j n φ σ p s c l q
/-- all that one letter calls -/
structure Turn (w : World) (i j : Nat) (X : PySem.Str) (p : Sto) (s : PS) (c : Int × Int) (l : List PV) (q : Sto) (f : Int) (ns : List Int) (p1 p2 g q' : Sto) (s' : PS) (c' : Int × Int) (more : List PV) : Prop where
  h1 : CaL w 1 (.ref 216) [.ref i, .int 2] (SPn p s l q) (.int f) (SPn p1 s l q)
  h2 : CaL w 3 (.ref 257) [.ref i, .str X, .bool (f == 1), pt s.here] (SPn p1 s l q) (.lst (ns.map .int)) (SPn p2 s l (q ++ g))
  h3 : CaL w 4 (.ref 252) [stP s c, .str X, .bool (f == 1), .lst (ns.map .int)] (SPn p2 s l (q ++ g)) (.tup [stP s' c', .lst more]) (SPn p2 s l (q ++ g))
  h4 : CaL w 7 (.ref 262) [.ref j, .str X, .bool (f == 1), .lst (ns.map .int)] (SPn p2 s l (q ++ g)) .none (SPn p2 s' (l ++ more) q')
  len : more.length ≤ 2
  ok : PV.okds 8 more = true
  kd : Kd s' c'
  sd : Sd p2 i
  j : p2.length = j
theorem turn_ex (w : World) (i j : Nat) (X : PySem.Str) (hX : Lt X) (p : Sto) (s : PS) (c : Int × Int) (l : List PV) (q : Sto) (hj : p.length = j) (hs : Sd p i) (hk : Kd s c) (hl : l.length ≤ 1000) : ∃ f ns p1 p2 g q' s' c' more, Turn w i j X p s c l q f ns p1 p2 g q' s' c' more := by
  obtain ⟨n, hX⟩ := hX
  obtain ⟨f, σ1, h1, t1⟩ := take_n w i 2 (by decide) (SPn p s l q) (spn_sd hs)
  obtain ⟨p1, rfl, e1, d1⟩ := spn_turn hs t1
  obtain ⟨ns, τ, g, sh, t2, h2⟩ := numbers_ex w i (SPn p1 s l q) X n (f == 1) s.here hX (spn_sd d1)
  obtain ⟨p2, rfl, e2, d2⟩ := spn_turn d1 t2
  obtain ⟨s', c', more, q', F⟩ := step_c w p2 (q ++ g) s c l (f == 1) X ns sh hk hl
  have h4 := F.asked
  have e3 : p2.length = j := by rw [e2, e1, hj]
  rw [e3] at h4
  rw [SP.app] at h2
  exact ⟨f, ns, p1, p2, g, q', s', c', more, h1, h2, F.done _, h4, F.len, F.ok, F.kd, d2, e3⟩
theorem toldN0 : told 0 = .tup [.int 0, .int 1] := by kernel_rfl
theorem toldN12 : told 12 = .tup [.int 1, .int 1] := by kernel_rfl
theorem toldN24 : told 24 = .tup [.int 2, .int 1] := by kernel_rfl
theorem toldN36 : told 36 = .tup [.int 3, .int 1] := by kernel_rfl
theorem toldN60 : told 60 = .tup [.int 5, .int 1] := by kernel_rfl
noncomputable def dueQ : PV := .tup [.str (PySem.Str.ofString "quad"), .tup [.tup [.int 5, .int 1], .tup [.int (-2), .int 1]], .tup [.tup [.int 5, .int 1], .tup [.int 0, .int 1]]]
/-- the first pen of the law -/
theorem first_pen (w : World) : ∃ (σ1 : Sto) (s : PS) (l : List PV) (q : Sto) (d : PV) (j : Nat),
    CaL w 6 (.ref 202) [.ref ([] : Sto).length, .str (PySem.Str.ofString "Q"), .bool false, .tup [.tup [.int 1, .int 1], .tup [.int 2, .int 1], .tup [.int 3, .int 1], .tup [.int 0, .int 1]]] (SPn [] ps0 [] []) .none σ1 ∧
    CaL w 6 (.ref 202) [.ref ([] : Sto).length, .str (PySem.Str.ofString "T"), .bool false, .tup [.tup [.int 5, .int 1], .tup [.int 0, .int 1]]] σ1 .none (SPn [] s l q) ∧
    seqIndex? (-1) l.length = some j ∧ l[j]? = some d ∧ d.okd 8 = true ∧ (!PyData.eqv d.py dueQ.py) = false := by
  have h2 := drawQ w [] [] ps0 [] false 12 24 36 0 (Nat.zero_le _)
  rw [toldN12, toldN24, toldN36, toldN0] at h2
  have h3 := fun q => drawT w [] q (quadSt ps0 (endP ps0 false 12 24) (endP ps0 false 36 0)) ([] ++ aheadL ps0 true ++ [quadSg (endP ps0 false 12 24) (endP ps0 false 36 0)]) false 60 0 (Nat.le_of_ble_eq_true rfl) (fun _ => rfl)
  rw [toldN60, toldN0] at h3
  exact ⟨_, _, _, _, _, _, h2, h3 _, rfl, rfl, by kernel_rfl, by kernel_rfl⟩
end
section
local macro_rules | `(tactic| keq_hits) => `(tactic| first
  | ((with_reducible apply ev_topTup); kwd_less; k_is; k_is; exact .cons (.int _ _) (.cons (.int _ _) .nil))
  | ((with_reducible apply ev_pget); kpt_turns; exact (pen_cls _).1; rfl; k_is; (intro _; rfl))
  | ((with_reducible apply ev_pappend); kpt_turns; exact (pen_cls _).1; rfl; k_is; (intro _; rfl); kpt_turns; tlg_ne; (intro _; exact ⟨_, rfl⟩); (intro _; rfl))
  | ((with_reducible apply ev_pcall); kpt_turns; exact (pen_cls _).1; rfl; k_is; k_is; k_is; kpc_turns; keq_rows; decide; (intro _; exact ⟨_, rfl⟩); (intro _; rfl); (intro _; rfl))
  | ((with_reducible apply ev_pcall0); kpt_turns; exact (pen_cls _).1; rfl; k_is; k_is; k_is; keq_rows; decide; (intro _; exact ⟨_, rfl⟩)))
local macro_rules | `(tactic| kwd_rel) => `(tactic| first
  | ((with_reducible apply ex_assign); kpt_turns; rfl; rfl; (intro _; rfl))
  | ((with_reducible apply ex_swap); (intros; rfl); (intro _; rfl); kpt_turns; rfl; exact locs_of rfl)
  | ((with_reducible apply ex_expr); kpt_turns; (intro _ _ _ _ _; rfl); (intro _; rfl))
  | ((with_reducible apply ex_pset); kpt_turns; kpt_turns; exact (pen_cls _).1; k_is; tlg_ne; (intro _; rfl)))
local macro_rules | `(tactic| kpf_close) => `(tactic| first | (with_reducible exact Tg.nil) | ((with_reducible apply Tg.name); rfl; rfl; kpf_close) | ((with_reducible apply Tg.cell); rfl; rfl; kpf_close))
local macro_rules | `(tactic| keq_hits) => `(tactic| first
  | ((with_reducible apply ev_sliceD); kpt_turns; decide; tlg_ne; (intro _ _; with_unfolding_all rfl))
  | ((with_reducible apply ev_sliceU); kpt_turns; decide; tlg_ne; (intro _ _; with_unfolding_all rfl))
  | ((with_reducible apply ev_list); kpc_turns; tlg_ne)
  | ((with_reducible apply ev_and_one); kpt_turns)
  | ((with_reducible apply ev_dgetF); rfl; rfl; decide +kernel; rfl; rfl; (exact List.cons_ne_nil _ _); (exact Nat.le_of_ble_eq_true rfl); kpc_turns; (first | kernel_rfl | rfl); (intro _; exact ⟨_, rfl⟩); (intro _; rfl); (intro _; rfl)))
local macro_rules | `(tactic| kwd_rel) => `(tactic| first
  | ((with_reducible apply ex_assign); kpt_turns; rfl; rfl; (intro _; rfl))
  | ((with_reducible apply ex_assignC'); kpt_turns; rfl; rfl; (intro _; rfl))
  | ((with_reducible apply ex_swap); (intros; rfl); (intro _; rfl); kpt_turns; rfl; exact locs_of rfl)
  | ((with_reducible apply ex_unpk); (intros; rfl); (intro _; rfl); kpt_turns; kpf_close; (intro _; rfl); (intro _; rfl))
  | ((with_reducible apply ex_expr); kpt_turns; (intro _ _ _ _ _; rfl); (intro _; rfl)))
local macro_rules | `(tactic| keq_rows) => `(tactic| assumption)
local macro_rules | `(tactic| keq_hits) => `(tactic| ((with_reducible apply ev_call0); k_is; k_is; keq_rows; decide; kwd_less))
/-! names laid ahead, so that the head makes no twins of its objects (they are not needed, and large) -/
theorem law_holds.tw1000039296851248412 : True := trivial
theorem law_holds.tw10007947361888340627 : True := trivial
theorem law_holds.tw10028117763298573888 : True := trivial
theorem law_holds.tw10183868598434131010 : True := trivial
theorem law_holds.tw10188763426450519768 : True := trivial
theorem law_holds.tw10264638600885302300 : True := trivial
theorem law_holds.tw10368410895845634921 : True := trivial
theorem law_holds.tw10465528174321978529 : True := trivial
theorem law_holds.tw10486713781251687710 : True := trivial
theorem law_holds.tw10566571302883470556 : True := trivial
theorem law_holds.tw10609929442622069884 : True := trivial
theorem law_holds.tw10666784280354678857 : True := trivial
theorem law_holds.tw10817052189556005596 : True := trivial
theorem law_holds.tw10829313771624777081 : True := trivial
theorem law_holds.tw10841264019214440115 : True := trivial
theorem law_holds.tw10853073101087482815 : True := trivial
theorem law_holds.tw11097350217990362986 : True := trivial
theorem law_holds.tw11098625913536864229 : True := trivial
theorem law_holds.tw11100686419730198450 : True := trivial
theorem law_holds.tw11182679623053108816 : True := trivial
theorem law_holds.tw11223184984439025696 : True := trivial
theorem law_holds.tw11404014056486942332 : True := trivial
theorem law_holds.tw11484002064277903863 : True := trivial
theorem law_holds.tw11609493526922420660 : True := trivial
theorem law_holds.tw11625900857008200698 : True := trivial
theorem law_holds.tw11633083819707477107 : True := trivial
theorem law_holds.tw11677100312832694166 : True := trivial
theorem law_holds.tw11781800970755023335 : True := trivial
theorem law_holds.tw11803358882649189518 : True := trivial
theorem law_holds.tw11841787010450559717 : True := trivial
theorem law_holds.tw1186782194237197914 : True := trivial
theorem law_holds.tw11898870104197049998 : True := trivial
theorem law_holds.tw11924911360389889469 : True := trivial
theorem law_holds.tw11966672015165255308 : True := trivial
theorem law_holds.tw12038593971548452464 : True := trivial
theorem law_holds.tw12116493165278983582 : True := trivial
theorem law_holds.tw12134408205421670959 : True := trivial
theorem law_holds.tw12223724995276690173 : True := trivial
theorem law_holds.tw12303009252429188658 : True := trivial
theorem law_holds.tw123295346585929383 : True := trivial
theorem law_holds.tw12342728606916771844 : True := trivial
theorem law_holds.tw12459966957829302596 : True := trivial
theorem law_holds.tw12476058986133298565 : True := trivial
theorem law_holds.tw12626328134170644701 : True := trivial
theorem law_holds.tw12732824653754844360 : True := trivial
theorem law_holds.tw12780804625047726367 : True := trivial
theorem law_holds.tw12831907817818079685 : True := trivial
theorem law_holds.tw1285599515219305098 : True := trivial
theorem law_holds.tw12889056044993165476 : True := trivial
theorem law_holds.tw12889673554181485818 : True := trivial
theorem law_holds.tw13028658284911697911 : True := trivial
theorem law_holds.tw13154458805202713791 : True := trivial
theorem law_holds.tw13182730311906835528 : True := trivial
theorem law_holds.tw13220211186989608806 : True := trivial
theorem law_holds.tw13280740594461564331 : True := trivial
theorem law_holds.tw13392613628428298086 : True := trivial
theorem law_holds.tw13397297893571687751 : True := trivial
theorem law_holds.tw13402424001964919149 : True := trivial
theorem law_holds.tw13709617746848070560 : True := trivial
theorem law_holds.tw13766487248619392586 : True := trivial
theorem law_holds.tw1377309892636839040 : True := trivial
theorem law_holds.tw13780023080261437657 : True := trivial
theorem law_holds.tw1414043511812021011 : True := trivial
theorem law_holds.tw14160533322030094474 : True := trivial
theorem law_holds.tw14289194402921355359 : True := trivial
theorem law_holds.tw14326059299131336239 : True := trivial
theorem law_holds.tw14335913921861858828 : True := trivial
theorem law_holds.tw14385925486924208373 : True := trivial
theorem law_holds.tw14390095281932903014 : True := trivial
theorem law_holds.tw14390768473861134807 : True := trivial
theorem law_holds.tw14498155544194170393 : True := trivial
theorem law_holds.tw14545874151571354728 : True := trivial
theorem law_holds.tw14571795756577361901 : True := trivial
theorem law_holds.tw14596297492920191028 : True := trivial
theorem law_holds.tw14774650325386425613 : True := trivial
theorem law_holds.tw14822640431511872941 : True := trivial
theorem law_holds.tw14828999820898988419 : True := trivial
theorem law_holds.tw14883556706271630602 : True := trivial
theorem law_holds.tw14904137174637212347 : True := trivial
theorem law_holds.tw14925382992726071281 : True := trivial
theorem law_holds.tw14983226153234331074 : True := trivial
theorem law_holds.tw14988988175077273356 : True := trivial
theorem law_holds.tw14991590004735058009 : True := trivial
theorem law_holds.tw14997073306097389879 : True := trivial
theorem law_holds.tw15006436103509636135 : True := trivial
theorem law_holds.tw15014403891855920072 : True := trivial
theorem law_holds.tw15154110283740273250 : True := trivial
theorem law_holds.tw15191720212996534143 : True := trivial
theorem law_holds.tw15274831704391544125 : True := trivial
theorem law_holds.tw15352839923633478061 : True := trivial
theorem law_holds.tw15472126771306010800 : True := trivial
theorem law_holds.tw15527639110640922598 : True := trivial
theorem law_holds.tw15544829507116839252 : True := trivial
theorem law_holds.tw15607887362523206001 : True := trivial
theorem law_holds.tw15617896438947887921 : True := trivial
theorem law_holds.tw15661869461025623997 : True := trivial
theorem law_holds.tw15759456685926392790 : True := trivial
theorem law_holds.tw15802469936163623734 : True := trivial
theorem law_holds.tw15806970514647361693 : True := trivial
theorem law_holds.tw16099233806120587224 : True := trivial
theorem law_holds.tw1622690429015379626 : True := trivial
theorem law_holds.tw16273140198857503625 : True := trivial
theorem law_holds.tw16406091861079842607 : True := trivial
theorem law_holds.tw16461882675039125421 : True := trivial
theorem law_holds.tw16470317323979864763 : True := trivial
theorem law_holds.tw16614716721108272449 : True := trivial
theorem law_holds.tw1670043908289496885 : True := trivial
theorem law_holds.tw16805829885119392726 : True := trivial
theorem law_holds.tw16836969012518115619 : True := trivial
theorem law_holds.tw16883458599210261866 : True := trivial
theorem law_holds.tw16893121556090616931 : True := trivial
theorem law_holds.tw1689763614830377041 : True := trivial
theorem law_holds.tw17180001009569633970 : True := trivial
theorem law_holds.tw17237755526102222789 : True := trivial
theorem law_holds.tw17253691774821329096 : True := trivial
theorem law_holds.tw17253903310271361901 : True := trivial
theorem law_holds.tw17255088995462705879 : True := trivial
theorem law_holds.tw1762888911704233025 : True := trivial
theorem law_holds.tw17713402740875732926 : True := trivial
theorem law_holds.tw17911580528928914924 : True := trivial
theorem law_holds.tw17942709131360195518 : True := trivial
theorem law_holds.tw18203989763732354715 : True := trivial
theorem law_holds.tw18234560199702728603 : True := trivial
theorem law_holds.tw18261290160731607033 : True := trivial
theorem law_holds.tw18269650602155537469 : True := trivial
theorem law_holds.tw18314611188513448851 : True := trivial
theorem law_holds.tw18326849912455186884 : True := trivial
theorem law_holds.tw1832781179975386347 : True := trivial
theorem law_holds.tw18340598423539479173 : True := trivial
theorem law_holds.tw2006301483956418059 : True := trivial
theorem law_holds.tw2055734563569237896 : True := trivial
theorem law_holds.tw2075624079617657780 : True := trivial
theorem law_holds.tw2102315897755806987 : True := trivial
theorem law_holds.tw2136269947727277649 : True := trivial
theorem law_holds.tw2143268655074302082 : True := trivial
theorem law_holds.tw2269544990204364226 : True := trivial
theorem law_holds.tw2295933128562542503 : True := trivial
theorem law_holds.tw2322801206320994539 : True := trivial
theorem law_holds.tw2503670479209048990 : True := trivial
theorem law_holds.tw2558664710541493025 : True := trivial
theorem law_holds.tw2578278018795888234 : True := trivial
theorem law_holds.tw2618386414584295968 : True := trivial
theorem law_holds.tw2644310842459337959 : True := trivial
theorem law_holds.tw2856731137302751260 : True := trivial
theorem law_holds.tw2907507879108658156 : True := trivial
theorem law_holds.tw302768837105346163 : True := trivial
theorem law_holds.tw3035144380315620824 : True := trivial
theorem law_holds.tw3158129796062787159 : True := trivial
theorem law_holds.tw3186734533307500241 : True := trivial
theorem law_holds.tw3253568177066640346 : True := trivial
theorem law_holds.tw3253820488102484341 : True := trivial
theorem law_holds.tw3366817510852727610 : True := trivial
theorem law_holds.tw3426384778480675251 : True := trivial
theorem law_holds.tw3438298445031660282 : True := trivial
theorem law_holds.tw3756308257209627903 : True := trivial
theorem law_holds.tw3850334171643177529 : True := trivial
theorem law_holds.tw3850375180904979519 : True := trivial
theorem law_holds.tw3850404396616230974 : True := trivial
theorem law_holds.tw3910120701321347557 : True := trivial
theorem law_holds.tw3956099054510807996 : True := trivial
theorem law_holds.tw4037582482628031876 : True := trivial
theorem law_holds.tw4076842338520785924 : True := trivial
theorem law_holds.tw4273555757443719353 : True := trivial
theorem law_holds.tw4329158554759489670 : True := trivial
theorem law_holds.tw4370086069003782432 : True := trivial
theorem law_holds.tw443672432690018514 : True := trivial
theorem law_holds.tw4439653461905209652 : True := trivial
theorem law_holds.tw4441770287765753910 : True := trivial
theorem law_holds.tw445335354869643106 : True := trivial
theorem law_holds.tw4464252984393422682 : True := trivial
theorem law_holds.tw4515466672771955728 : True := trivial
theorem law_holds.tw4581845663705801772 : True := trivial
theorem law_holds.tw4593294709026258786 : True := trivial
theorem law_holds.tw4614512636035447770 : True := trivial
theorem law_holds.tw4781243967656130014 : True := trivial
theorem law_holds.tw4818577856007422655 : True := trivial
theorem law_holds.tw4889031023730116350 : True := trivial
theorem law_holds.tw4916342969005030805 : True := trivial
theorem law_holds.tw498061464947678834 : True := trivial
theorem law_holds.tw4992725456586698614 : True := trivial
theorem law_holds.tw5062152199769849712 : True := trivial
theorem law_holds.tw5112083995522966620 : True := trivial
theorem law_holds.tw5212653520564569363 : True := trivial
theorem law_holds.tw5389484754426515990 : True := trivial
theorem law_holds.tw545109181885906688 : True := trivial
theorem law_holds.tw5506821171919863439 : True := trivial
theorem law_holds.tw5640673133297012132 : True := trivial
theorem law_holds.tw5731563423909890137 : True := trivial
theorem law_holds.tw575232530192455986 : True := trivial
theorem law_holds.tw602461330855297101 : True := trivial
theorem law_holds.tw6159533029260741167 : True := trivial
theorem law_holds.tw6317479115527610633 : True := trivial
theorem law_holds.tw6499956759230125245 : True := trivial
theorem law_holds.tw6507877686720480950 : True := trivial
theorem law_holds.tw653560878884961445 : True := trivial
theorem law_holds.tw6564709946809587534 : True := trivial
theorem law_holds.tw6629495429873386292 : True := trivial
theorem law_holds.tw6667284449218939238 : True := trivial
theorem law_holds.tw6709271908398517637 : True := trivial
theorem law_holds.tw6723812968561706957 : True := trivial
theorem law_holds.tw676263390381983339 : True := trivial
theorem law_holds.tw6765152471904792315 : True := trivial
theorem law_holds.tw6776455111828631412 : True := trivial
theorem law_holds.tw6861490101519172755 : True := trivial
theorem law_holds.tw6869992995446874880 : True := trivial
theorem law_holds.tw6896717019858035522 : True := trivial
theorem law_holds.tw699380112222796084 : True := trivial
theorem law_holds.tw7019463264422422977 : True := trivial
theorem law_holds.tw7075437091277307205 : True := trivial
theorem law_holds.tw7120836010843673076 : True := trivial
theorem law_holds.tw7185456241796803578 : True := trivial
theorem law_holds.tw7221428835167493151 : True := trivial
theorem law_holds.tw724200737284857819 : True := trivial
theorem law_holds.tw7304591109411159013 : True := trivial
theorem law_holds.tw7407239408455114201 : True := trivial
theorem law_holds.tw7497986649931050792 : True := trivial
theorem law_holds.tw7636989558263936852 : True := trivial
theorem law_holds.tw7696488724909661519 : True := trivial
theorem law_holds.tw784011647948385275 : True := trivial
theorem law_holds.tw7876116996976762471 : True := trivial
theorem law_holds.tw7910590604623066228 : True := trivial
theorem law_holds.tw8176227357466254829 : True := trivial
theorem law_holds.tw8191475993861738794 : True := trivial
theorem law_holds.tw8266603773606604290 : True := trivial
theorem law_holds.tw8330938851228082562 : True := trivial
theorem law_holds.tw8369274380968253667 : True := trivial
theorem law_holds.tw8441880690091102137 : True := trivial
theorem law_holds.tw8549365171731915398 : True := trivial
theorem law_holds.tw8553002610548859549 : True := trivial
theorem law_holds.tw8634839017697508684 : True := trivial
theorem law_holds.tw8652346329174877282 : True := trivial
theorem law_holds.tw8666519363043736892 : True := trivial
theorem law_holds.tw8720880381367431298 : True := trivial
theorem law_holds.tw8785698371604719795 : True := trivial
theorem law_holds.tw8835965917227929528 : True := trivial
theorem law_holds.tw8854015012368427407 : True := trivial
theorem law_holds.tw8857742495270377987 : True := trivial
theorem law_holds.tw8909828626151137519 : True := trivial
theorem law_holds.tw8957123355933967898 : True := trivial
theorem law_holds.tw8970147916757833333 : True := trivial
theorem law_holds.tw8984712037535005518 : True := trivial
theorem law_holds.tw9069877914133315304 : True := trivial
theorem law_holds.tw907578622648922086 : True := trivial
theorem law_holds.tw9168033884955339765 : True := trivial
theorem law_holds.tw9184033795430018204 : True := trivial
theorem law_holds.tw9207643191828677137 : True := trivial
theorem law_holds.tw9255152265573255198 : True := trivial
theorem law_holds.tw9288214680346807717 : True := trivial
theorem law_holds.tw9423440377400516374 : True := trivial
theorem law_holds.tw9529696498207198238 : True := trivial
theorem law_holds.tw9552830710289189752 : True := trivial
theorem law_holds.tw9606376775287448836 : True := trivial
theorem law_holds.tw9682718004065560343 : True := trivial
theorem law_holds.tw9779807473162285230 : True := trivial
theorem law_holds.tw9843604407834444796 : True := trivial
theorem law_holds.tw9849722394096787677 : True := trivial
theorem law_holds.tw9992725586745946429 : True := trivial
set_option Elab.async true in
theorem law_holds : PySem.Challenge.rw_xm0718_01.Holds := by
  w_on
  o_law
  k_head
  (case hw => w_witness2)
  w_strict (
    k_go0
    rename World => w
    refine join_core (K := Mine.kk.heap_1_1 w.params) (x := (PySem.Str.ofString "script")) (d := .bool true) (by assumption) (by assumption) (by rfl) (by assumption) (by assumption) (by assumption) (by rfl) (by rfl) (by assumption) (by assumption) (by omega) (by rfl) (by rfl) (by rfl) (by rfl) (by rfl) (by rfl) ?hE ?hk
    case hk =>
      intro v h' tk' m' news' ρ' F' r
      cases r
      show GoodW _ _ _ _ _ (.ok (.ret (.bool true))) _
      refine goodW_bool F' (by assumption) (raisesW_false ?_) ?_
      · wrow_none_raised
      · wrow_post
    case hE =>
      k_fill
      intro a vs ns hz
      obtain ⟨σ1, s, l, q, dd, jj, h2, h3, hj, hd, ho, hne⟩ := first_pen w
      have h1 := pen_new w []
      apply ends_cons
      · kwd_rel
      apply ends_cons
      · kwd_rel
      apply ends_cons
      · kwd_rel
      apply ends_cons
      · apply ex_ifF
        · apply tr_to
          · apply tr_cmp
            · apply ev_sub
              · kpt_turns
              · exact ev_lit Lit.neg
              · exact SubAt.ref SP.g2 hj hd
              · decide
              · intro _ _; rfl
            · kpt_turns
            · exact op_neD ho (by kernel_rfl) (by decide)
            · with_unfolding_all rfl
          · exact hne
        · exact exs_nil
      refine (fun (h : ∀ σ2, Ends _ _ _ _ _ _ σ2 _ _) => h _) ?_
      intro σ2
      have hp2 : Sd (σ2 ++ [.list [.int (pool0 (ns.headD 0)), .int (pool1 (ns.headD 0))]]) σ2.length := ⟨_, _, last_get, pool0_nn _, (pool1_in _).1, (pool1_in _).2⟩
      have h5 := pen_new w (σ2 ++ [.list [.int (pool0 (ns.headD 0)), .int (pool1 (ns.headD 0))]])
      apply ends_cons
      · apply ex_unpk
        · intros; rfl
        · intro _; rfl
        · apply ev_tuple
          · apply evs_cons
            · exact pool_e _ _ _ _ _ _ _ _ _ _ _ (fun _ h => h) (by kwd_less) rfl (by omega)
            · apply evs_cons
              · kpt_turns
              · kpc_turns
              · intro _; rfl
            · intro _; rfl
          · tlg_ne
        · kpf_close
        · intro _; rfl
        · intro _; rfl
      apply ends_cons
      · kwd_rel
      generalize σ2 ++ [.list [.int (pool0 (ns.headD 0)), .int (pool1 (ns.headD 0))]] = p2 at *
      obtain ⟨i, hi⟩ : ∃ i, i = σ2.length := ⟨_, rfl⟩
      obtain ⟨j, hj0⟩ : ∃ j, p2.length = j := ⟨_, rfl⟩
      rw [← hi] at hp2 ⊢
      apply ends_weak (φ0 := lawF i j ps0 (0, 0) [])
      · rw [← hj0]
        exact List.forall_mem_cons.mpr ⟨rfl, List.forall_mem_cons.mpr ⟨rfl, List.forall_mem_cons.mpr ⟨rfl, List.forall_mem_cons.mpr ⟨rfl, List.forall_mem_cons.mpr ⟨rfl, fun _ h => absurd h List.not_mem_nil⟩⟩⟩⟩⟩
      have hI : LI i j 0 (lawF i j ps0 (0, 0) []) (SPn p2 ps0 [] []) := ⟨p2, ps0, (0, 0), [], [], rfl, rfl, hj0, hp2, kd_none rfl, Nat.le_refl _, rfl⟩
      refine ends_inv (Inv := LI i j (0 + 4 * (rangePV 0 1 3).length)) ?_ ?_
      · apply for_rng (LI i j) 4 12 0 (m := 3) (ds := rangePV 0 1 3)
        · apply ev_rng1
          · k_is
          · boot_by_name
          · kwd_less
          · kpc_turns
          · decide
          · intro _; rfl
          · intro _; rfl
        · rfl
        · decide +kernel
        · decide +kernel
        · rfl
        · exact hI
        · decide
        · rfl
        · rfl
        · intro _ _; rfl
        · intro d hd n φ σ hn hI
          obtain ⟨p, s, c, l, q, hf, he, hj, sd, kd, len, ok⟩ := hI
          subst hf
          subst he
          apply weak_inv (φ0 := lawF i j s c l)
          · exact List.forall_mem_cons.mpr ⟨rfl, List.forall_mem_cons.mpr ⟨rfl, List.forall_mem_cons.mpr ⟨rfl, List.forall_mem_cons.mpr ⟨rfl, List.forall_mem_cons.mpr ⟨rfl, fun _ h => absurd h List.not_mem_nil⟩⟩⟩⟩⟩
          apply one_inv
          obtain ⟨pr, σ', hm, hc, ht⟩ := one_n w i pairsL (by decide) (by decide) (SPn p s l q) (spn_sd sd)
          obtain ⟨p', rfl, e, sd'⟩ := spn_turn sd ht
          obtain ⟨tx, ls, rfl, hsp, hl2, hlt⟩ := pairs_ok hm
          have e4 : n + 4 = n + 2 * ls.length := by omega
          rw [e4]
          apply for_str (LI i j) 2 12 n
          · kpt_turns
          · exact hsp
          · exact ⟨p', s, c, l, q, rfl, rfl, e.trans hj, sd', kd, len, ok⟩
          · omega
          · rfl
          · rfl
          · intro _ _; rfl
          · intro d hd n φ σ hn hI
            obtain ⟨X, hX, rfl⟩ := List.mem_map.mp hd
            obtain ⟨p, s, c, l, q, hf, he, hj, sd, kd, len, ok⟩ := hI
            subst hf
            subst he
            obtain ⟨f, ns', p1, p2, g, q', s', c', more, T⟩ := turn_ex w i j X (hlt X hX) p s c l q hj sd kd (by omega)
            obtain ⟨t1, t2, t3, t4, tl, tok, tk, tsd, tj⟩ := T
            refine ⟨lawF i j s' c' (l ++ more), SPn p2 s' (l ++ more) q', ?_, p2, s', c', l ++ more, q', rfl, rfl, tj, tsd, tk, by rw [List.length_append]; omega, by rw [okds_app, ok, tok]; rfl⟩
            apply exs_less
            · apply exs_cons
              · kwd_rel
              · apply exs_cons
                · kwd_rel
                · apply exs_cons
                  · kwd_rel
                  · apply exs_cons
                    · apply ex_assign
                      · apply ev_binop
                        · kpt_turns
                        · kpt_turns
                        · apply op_addL
                          omega
                      · rfl
                      · rfl
                      · intro _; rfl
                    · kwd_inv
            · exact List.forall_mem_cons.mpr ⟨rfl, List.forall_mem_cons.mpr ⟨rfl, List.forall_mem_cons.mpr ⟨rfl, List.forall_mem_cons.mpr ⟨rfl, List.forall_mem_cons.mpr ⟨rfl, fun _ h => absurd h List.not_mem_nil⟩⟩⟩⟩⟩
      · intro φ' σ' hI
        obtain ⟨p, s, c, l, q, hf, he, hj, sd, kd, len, ok⟩ := hI
        subst hf
        subst he
        subst hj
        have hr := right_c w p q s c l kd
        apply ends_ret
        apply ex_ret
        apply ev_and_true
        · apply ev_to
          · apply ev_cmp
            · kpt_turns
            · kpt_turns
            · exact op_eqRL SP.g2 ok ok (by decide)
            · with_unfolding_all rfl
          · rw [eqvs_refl 8 _ ok]
        · apply ev_and_one
          kpt_turns)
end
end Mine
theorem PySem.Challenge.cw_xm0718_01_holds : PySem.Challenge.rw_xm0718_01.Holds := by
  exact Mine.law_holds
