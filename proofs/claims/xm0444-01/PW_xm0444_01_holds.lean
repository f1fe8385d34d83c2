import PyProof.Rows.All
import Wide.All
import OpenK.AllK
import Wide.FinOn
import PySem.Challenge.RW_xm0444_01
set_option Elab.async false
set_option maxRecDepth 100000
set_option maxHeartbeats 8000000
namespace Mine
open PySem PySem.W PyProof.Rows PySem.Calls
set_option autoImplicit false

-- Head5
def keepIt (s : Stmt) : Bool := match s with
  | .FunctionDef .. => true
  | .ClassDef .. => true
  | _ => false
/-- the text without its plain assignments -/
noncomputable def view : Program := { PySem.Challenge.pw_xm0444_01 with main := { PySem.Challenge.pw_xm0444_01.main with body := PySem.Challenge.pw_xm0444_01.main.body.filter keepIt } }
abbrev row : OpenRow := OpenLaw.row PySem.Challenge.rw_xm0444_01
abbrev lo : List Str := [Str.ofString "NOUGHT", Str.ofString "UNIT"]
noncomputable abbrev xt (s : Shared) : Bool := xlAt view [] s && recOk row.toRowW.records s
/-- what is seen of the two written numbers when the text has run -/
def obs (s : Shared) : Bool × List (Option Value) × List (Option Obj) :=
  (s.heap.isNs mainGlobals, [s.heap.nsMap mainGlobals (Str.ofString "NOUGHT"), s.heap.nsMap mainGlobals (Str.ofString "UNIT")], [s.heap.get? 172, s.heap.get? 171, s.heap.get? 174, s.heap.get? 173])
def val (_ : World) : Bool × List (Option Value) × List (Option Obj) :=
  (true, [some (.ref 172), some (.ref 174)],
    [some { cls := .type "tuple", data := .seq #[.bool false, .ref 171] }, some { cls := .type "list", data := .seq #[] }, some { cls := .type "tuple", data := .seq #[.bool false, .ref 173] }, some { cls := .type "list", data := .seq #[.int 1 420] }])
structure Says (h : Heap) : Prop where
  ns : ∃ m, h.Ns mainGlobals m ∧ m (Str.ofString "NOUGHT") = some (.ref 172) ∧ m (Str.ofString "UNIT") = some (.ref 174)
  o1 : h.get? 172 = some { cls := .type "tuple", data := .seq #[.bool false, .ref 171] }
  o2 : h.get? 171 = some { cls := .type "list", data := .seq #[] }
  o3 : h.get? 174 = some { cls := .type "tuple", data := .seq #[.bool false, .ref 173] }
  o4 : h.get? 173 = some { cls := .type "list", data := .seq #[.int 1 420] }
theorem says_of (w : World) (s : Shared) (e : obs s = val w) : Says s.heap := by
  simp only [obs, val, Prod.mk.injEq, List.cons.injEq, and_true] at e
  obtain ⟨e1, ⟨e2, e3⟩, e4, e5, e6, e7⟩ := e
  exact ⟨⟨_, .of_isNs e1, e2, e3⟩, e4, e5, e6, e7⟩
theorem says_keeps (_w : World) (h h' : Heap) (x : Says h) (hk : ∀ b o, h.get? b = some o → h'.get? b = some o) : Says h' :=
  let ⟨m, a, b, c⟩ := x.ns
  ⟨⟨m, a.keeps hk, b, c⟩, hk _ _ x.o1, hk _ _ x.o2, hk _ _ x.o3, hk _ _ x.o4⟩
theorem law_of (h : row.wellSaid = true → row.Holds) : PySem.Challenge.rw_xm0444_01.Holds := by
  o_law
  apply h
  assumption
theorem left : LeftO row.prog view lo xt obs val 3958 := by
  intro w
  show Option.map _ (openEnds treeTable PySem.Challenge.pw_xm0444_01 w 3958) = _
  unfold openEnds topFrom fencedOpening xt view
  rw [PySem.W.Fast.te14082659384304107361, PySem.W.Fast.te10274390034422433532, PySem.W.Fast.te14289696077712309145, PySem.W.Fast.te14364793385576792824, PySem.W.Fast.te11373649545363218421, PySem.W.Fast.te4187177175401517315]
  kernel_rfl
theorem opens : (chainsOk view && opensWell row.prog && (frees row.toRowW && row.within.isEmpty)) = true := by decide +kernel
theorem bare : row.prog.bare := ⟨rfl, rfl, rfl, rfl, rfl, by decide +kernel⟩
theorem promised : row.toRowW.promised := by w_witness2

-- Lg1
/-- values as plain data -/
inductive V where
  | int (n : Int)
  | raw (v : Value)
  | tup (xs : List V)
  | lst (xs : List V)
  | mu (i : Nat)

abbrev V.bool (b : Bool) : V := .raw (.bool b)

abbrev lobj (vs : List Value) (n : Nat) : Obj := { cls := .type "list", data := .seq vs.toArray n }
abbrev tobj (vs : List Value) (n : Nat) : Obj := { cls := .type "tuple", data := .seq vs.toArray n }

mutual
inductive VR (O as : List Addr) (h : Heap) : V → Value → Prop
  | int (n t) : VR O as h (.int n) (.int n t)
  | raw (v) : VR O as h (.raw v) v
  | tup {a vs n xs} : a ∉ O → h.get? a = some (tobj vs n) → VRs O as h xs vs → VR O as h (.tup xs) (.ref a)
  | lst {a vs n xs} : a ∉ O → h.get? a = some (lobj vs n) → VRs O as h xs vs → VR O as h (.lst xs) (.ref a)
  | mu {i a} : as[i]? = some a → VR O as h (.mu i) (.ref a)
inductive VRs (O as : List Addr) (h : Heap) : List V → List Value → Prop
  | nil : VRs O as h [] []
  | cons {x v xs vs} : VR O as h x v → VRs O as h xs vs → VRs O as h (x :: xs) (v :: vs)
end

section
variable {O O' as as' : List Addr} {h h' : Heap}
mutual
theorem VR.mono (hk : ∀ a o, a ∉ O → h.get? a = some o → h'.get? a = some o) (hO : ∀ a, a ∈ O' → a ∈ O ∨ h.get? a = none)
    (ha : ∀ (i : Nat) (a : Addr), as[i]? = some a → as'[i]? = some a) : ∀ {x v}, VR O as h x v → VR O' as' h' x v
  | _, _, .int n t => .int n t
  | _, _, .raw v => .raw v
  | _, _, .tup n e r => .tup (fun m => (hO _ m).elim n fun z => by rw [z] at e; cases e) (hk _ _ n e) (VRs.mono hk hO ha r)
  | _, _, .lst n e r => .lst (fun m => (hO _ m).elim n fun z => by rw [z] at e; cases e) (hk _ _ n e) (VRs.mono hk hO ha r)
  | _, _, .mu e => .mu (ha _ _ e)
theorem VRs.mono (hk : ∀ a o, a ∉ O → h.get? a = some o → h'.get? a = some o) (hO : ∀ a, a ∈ O' → a ∈ O ∨ h.get? a = none)
    (ha : ∀ (i : Nat) (a : Addr), as[i]? = some a → as'[i]? = some a) : ∀ {xs vs}, VRs O as h xs vs → VRs O' as' h' xs vs
  | _, _, .nil => .nil
  | _, _, .cons x r => .cons (VR.mono hk hO ha x) (VRs.mono hk hO ha r)
end

theorem VRs.length : ∀ {xs : List V} {vs : List Value}, VRs O as h xs vs → xs.length = vs.length
  | _, _, .nil => rfl
  | _, _, .cons _ r => by rw [List.length_cons, List.length_cons, VRs.length r]
theorem VRs.get : ∀ {xs : List V} {vs : List Value} {i : Nat} {x : V}, VRs O as h xs vs → xs[i]? = some x → ∃ v, vs[i]? = some v ∧ VR O as h x v
  | _, _, _, _, .nil, e => by simp at e
  | _, _, 0, _, .cons y r, e => by simp at e; subst e; exact ⟨_, rfl, y⟩
  | _, _, i + 1, _, .cons y r, e => by
    rw [List.getElem?_cons_succ] at e
    obtain ⟨v, a, b⟩ := VRs.get r e
    exact ⟨v, by rw [List.getElem?_cons_succ]; exact a, b⟩
theorem VRs.append : ∀ {xs ys : List V} {vs ws : List Value}, VRs O as h xs vs → VRs O as h ys ws → VRs O as h (xs ++ ys) (vs ++ ws)
  | _, _, _, _, .nil, q => q
  | _, _, _, _, .cons x r, q => .cons x (VRs.append r q)
theorem VRs.set : ∀ {xs : List V} {vs : List Value} {i : Nat} {x : V} {v : Value}, VRs O as h xs vs → VR O as h x v → VRs O as h (xs.set i x) (vs.set i v)
  | _, _, _, _, _, .nil, _ => .nil
  | _, _, 0, _, _, .cons _ r, q => .cons q r
  | _, _, i + 1, _, _, .cons y r, q => .cons y (VRs.set r q)
theorem VRs.take : ∀ {xs : List V} {vs : List Value} (n : Nat), VRs O as h xs vs → VRs O as h (xs.take n) (vs.take n)
  | _, _, 0, _ => by rw [List.take_zero, List.take_zero]; exact .nil
  | _, _, n + 1, .nil => by simp; exact .nil
  | _, _, n + 1, .cons y r => by rw [List.take_succ_cons, List.take_succ_cons]; exact .cons y (VRs.take n r)
theorem VRs.repl {x : V} {v : Value} (q : VR O as h x v) : ∀ n, VRs O as h (List.replicate n x) (List.replicate n v)
  | 0 => .nil
  | n + 1 => .cons q (VRs.repl q n)
end

/-- a frame: its environment, the outer volatile addresses, how many mutable lists were handed in, its own cells -/
structure Fm where
  env : Env
  X : List Addr
  n0 : Nat
  wc : List Addr

def Fm.own (F : Fm) : List Addr := F.env.locals :: F.wc
def Fm.vol (F : Fm) (as : List Addr) : List Addr := F.X ++ (F.own ++ as)

structure St where
  loc : List (Str × V)
  mu : List (List V)

structure Inv (H0 : Heap) (F : Fm) (σ : St) (as : List Addr) (h : Heap) : Prop where
  base : ∀ a o, H0.get? a = some o → h.get? a = some o
  off : ∀ a ∈ F.vol as, H0.get? a = none
  nodup : (F.own ++ as).Nodup
  apart : ∀ (i : Nat) (a : Addr), F.n0 ≤ i → as[i]? = some a → a ∉ F.X
  ns : ∃ m, h.Ns F.env.locals m ∧ ∀ x v, σ.loc.lookup x = some v → F.env.kindOf x = some .local → ∃ v', m x = some v' ∧ VR (F.vol as) as h v v'
  cel : ∀ x v, σ.loc.lookup x = some v → F.env.kindOf x ≠ some .local → ∃ c v', F.env.cells.lookup x = some c ∧ h.IsCell c (some v') ∧ VR (F.vol as) as h v v'
  cex : ∀ c ∈ F.wc, ∃ v0, h.IsCell c v0
  ro : ∀ x c, F.env.cells.lookup x = some c → c ∈ F.wc ∨ (c ∈ F.X ∧ c ∉ F.own ++ as)
  len : as.length = σ.mu.length
  muts : ∀ (i : Nat) xs, σ.mu[i]? = some xs → ∃ a vs n, as[i]? = some a ∧ h.get? a = some (lobj vs n) ∧ VRs (F.vol as) as h xs vs
  live : ∀ a ∈ F.X, ∃ o, h.get? a = some o

structure Stp (F : Fm) (as : List Addr) (s : Shared) (as' : List Addr) (s' : Shared) : Prop where
  kept : ∀ a o, a ∉ F.own ++ as → s.heap.get? a = some o → s'.heap.get? a = some o
  alive : ∀ a o, s.heap.get? a = some o → ∃ o', s'.heap.get? a = some o'
  fresh : ∀ a ∈ as', a ∈ as ∨ s.heap.get? a = none
  pre : ∀ (i : Nat) (a : Addr), as[i]? = some a → as'[i]? = some a
  rest : ∃ h tk, s' = { s with heap := h, toks := tk }

theorem mem_vol {F : Fm} {as : List Addr} {a : Addr} : a ∈ F.vol as ↔ a ∈ F.X ∨ a ∈ F.own ∨ a ∈ as := by
  simp only [Fm.vol, List.mem_append]

theorem Stp.refl (F : Fm) (as : List Addr) (s : Shared) : Stp F as s as s := ⟨fun _ _ _ e => e, fun _ o e => ⟨o, e⟩, fun _ m => .inl m, fun _ _ e => e, ⟨_, _, rfl⟩⟩
theorem Stp.trans {F : Fm} {as as' as'' : List Addr} {s s' s'' : Shared} (a : Stp F as s as' s') (b : Stp F as' s' as'' s'') : Stp F as s as'' s'' where
  kept c o n e := b.kept c o (fun m => by
    rcases List.mem_append.mp m with m | m
    · exact n (List.mem_append.mpr (.inl m))
    · rcases a.fresh c m with m | z
      · exact n (List.mem_append.mpr (.inr m))
      · rw [z] at e; cases e) (a.kept c o n e)
  alive c o e := by obtain ⟨o', e'⟩ := a.alive c o e; exact b.alive c o' e'
  fresh c m := by
    rcases b.fresh c m with m | z
    · exact a.fresh c m
    · right
      cases e : s.heap.get? c with
      | none => rfl
      | some o => obtain ⟨o', e'⟩ := a.alive c o e; rw [z] at e'; cases e'
  pre i c e := b.pre i c (a.pre i c e)
  rest := by
    obtain ⟨h, t, rfl⟩ := a.rest
    obtain ⟨h', t', rfl⟩ := b.rest
    exact ⟨h', t', rfl⟩

theorem VR.stp {F : Fm} {as as' : List Addr} {s s' : Shared} (S : Stp F as s as' s') {x : V} {v : Value} (q : VR (F.vol as) as s.heap x v) : VR (F.vol as') as' s'.heap x v :=
  q.mono (fun a o n e => S.kept a o (fun m => n (by
    rcases List.mem_append.mp m with m | m
    · exact mem_vol.mpr (.inr (.inl m))
    · exact mem_vol.mpr (.inr (.inr m)))) e)
    (fun a m => by
      rcases mem_vol.mp m with m | m | m
      · exact .inl (mem_vol.mpr (.inl m))
      · exact .inl (mem_vol.mpr (.inr (.inl m)))
      · exact (S.fresh a m).imp (fun m => mem_vol.mpr (.inr (.inr m))) id) S.pre
theorem VRs.stp {F : Fm} {as as' : List Addr} {s s' : Shared} (S : Stp F as s as' s') {x : List V} {v : List Value} (q : VRs (F.vol as) as s.heap x v) : VRs (F.vol as') as' s'.heap x v :=
  q.mono (fun a o n e => S.kept a o (fun m => n (by
    rcases List.mem_append.mp m with m | m
    · exact mem_vol.mpr (.inr (.inl m))
    · exact mem_vol.mpr (.inr (.inr m)))) e)
    (fun a m => by
      rcases mem_vol.mp m with m | m | m
      · exact .inl (mem_vol.mpr (.inl m))
      · exact .inl (mem_vol.mpr (.inr (.inl m)))
      · exact (S.fresh a m).imp (fun m => mem_vol.mpr (.inr (.inr m))) id) S.pre

def Okay (n : Nat) (A : Around) : Prop := A.handled = none ∧ A.depth + n ≤ 400 ∧ A.units + 10 * n ≤ 1000

/-- a tree, from an abstract state to an abstract state -/
def Tr (prog : Program) (w : World) (H0 : Heap) (F : Fm) (n : Nat) {α : Type} (t : Sem α) (σ : St) (P : List Addr → Heap → α → Prop) (σ' : St) : Prop :=
  ∀ A as s E, Okay n A → Inv H0 F σ as s.heap →
    wpAny (model prog w) A t (fun a s' => ∃ as', Inv H0 F σ' as' s'.heap ∧ P as' s'.heap a ∧ Stp F as s as' s') E s

-- Lg2
section
variable {H0 : Heap} {F : Fm} {σ : St} {as : List Addr} {h h' : Heap}

theorem Inv.vol_live (I : Inv H0 F σ as h) : ∀ a ∈ F.vol as, ∃ o, h.get? a = some o := by
  intro a m
  rcases mem_vol.mp m with m | m | m
  · exact I.live a m
  · rcases List.mem_cons.mp m with rfl | m
    · obtain ⟨m, ⟨o, _, _, e, _⟩, _⟩ := I.ns; exact ⟨o, e⟩
    · obtain ⟨v0, o, e, _⟩ := I.cex a m; exact ⟨o, e⟩
  · obtain ⟨i, hi, e⟩ := List.mem_iff_getElem.mp m
    have hi' : i < σ.mu.length := by rw [← I.len]; exact hi
    obtain ⟨b, vs, n, e1, e2, _⟩ := I.muts i σ.mu[i] (List.getElem?_eq_getElem hi')
    rw [List.getElem?_eq_getElem hi] at e1
    cases e1
    exact ⟨_, e ▸ e2⟩
theorem Inv.new_off (I : Inv H0 F σ as h) {a : Addr} (z : h.get? a = none) : a ∉ F.vol as := fun m => by
  obtain ⟨o, e⟩ := I.vol_live a m; rw [z] at e; cases e
theorem size_none (h : Heap) : h.get? h.objs.size = none := Heap.get?_none_of_le (Nat.le_refl _)

theorem VR.keeps {O as : List Addr} (hk : ∀ a o, h.get? a = some o → h'.get? a = some o) {x : V} {v : Value} (q : VR O as h x v) : VR O as h' x v :=
  q.mono (fun a o _ e => hk a o e) (fun _ m => .inl m) fun _ _ e => e
theorem VRs.keeps {O as : List Addr} (hk : ∀ a o, h.get? a = some o → h'.get? a = some o) {x : List V} {v : List Value} (q : VRs O as h x v) : VRs O as h' x v :=
  q.mono (fun a o _ e => hk a o e) (fun _ m => .inl m) fun _ _ e => e

theorem Inv.keeps (I : Inv H0 F σ as h) (hk : ∀ a o, h.get? a = some o → h'.get? a = some o) : Inv H0 F σ as h' where
  base a o e := hk a o (I.base a o e)
  off := I.off
  nodup := I.nodup
  apart := I.apart
  ns := by
    obtain ⟨m, q, r⟩ := I.ns
    exact ⟨m, q.keeps hk, fun x v e k => by obtain ⟨v', a, b⟩ := r x v e k; exact ⟨v', a, b.keeps hk⟩⟩
  cel x v e k := by obtain ⟨c, v', a, b, d⟩ := I.cel x v e k; exact ⟨c, v', a, b.keeps hk, d.keeps hk⟩
  cex c m := by obtain ⟨v0, q⟩ := I.cex c m; exact ⟨v0, q.keeps hk⟩
  ro := I.ro
  len := I.len
  muts i xs e := by obtain ⟨a, vs, n, e1, e2, q⟩ := I.muts i xs e; exact ⟨a, vs, n, e1, hk _ _ e2, q.keeps hk⟩
  live a m := by obtain ⟨o, e⟩ := I.live a m; exact ⟨o, hk _ _ e⟩

theorem Stp.keeps {s s' : Shared} (hk : ∀ a o, s.heap.get? a = some o → s'.heap.get? a = some o) (hr : ∃ h tk, s' = { s with heap := h, toks := tk }) : Stp F as s as s' :=
  ⟨fun a o _ e => hk a o e, fun a o e => ⟨o, hk a o e⟩, fun _ m => .inl m, fun _ _ e => e, hr⟩

theorem VR.same {a₀ : Addr} (hs : ∀ a o, a ≠ a₀ → h.get? a = some o → h'.get? a = some o) (hm : a₀ ∈ F.vol as) {x : V} {v : Value} (q : VR (F.vol as) as h x v) : VR (F.vol as) as h' x v :=
  q.mono (fun a o n e => hs a o (fun z => n (z ▸ hm)) e) (fun _ m => .inl m) fun _ _ e => e
theorem VRs.same {a₀ : Addr} (hs : ∀ a o, a ≠ a₀ → h.get? a = some o → h'.get? a = some o) (hm : a₀ ∈ F.vol as) {x : List V} {v : List Value} (q : VRs (F.vol as) as h x v) : VRs (F.vol as) as h' x v :=
  q.mono (fun a o n e => hs a o (fun z => n (z ▸ hm)) e) (fun _ m => .inl m) fun _ _ e => e

theorem own_loc : F.env.locals ∈ F.own := List.mem_cons_self
theorem own_cell {c : Addr} (m : c ∈ F.wc) : c ∈ F.own := List.mem_cons_of_mem _ m

theorem Inv.loc_ne_cell (I : Inv H0 F σ as h) {c : Addr} (m : c ∈ F.wc) : c ≠ F.env.locals := fun e => by
  have := I.nodup
  rw [Fm.own, List.cons_append, List.nodup_cons] at this
  exact this.1 (e ▸ List.mem_append_left _ m)
theorem Inv.loc_ne_as (I : Inv H0 F σ as h) {c : Addr} (m : c ∈ as) : c ≠ F.env.locals := fun e => by
  have := I.nodup
  rw [Fm.own, List.cons_append, List.nodup_cons] at this
  exact this.1 (e ▸ List.mem_append_right _ m)
theorem Inv.cell_ne_as (I : Inv H0 F σ as h) {c d : Addr} (m : c ∈ F.wc) (m' : d ∈ as) : c ≠ d := fun e => by
  have := I.nodup
  rw [Fm.own, List.cons_append, List.nodup_cons, List.nodup_append] at this
  exact this.2.2.2 c m d m' e

theorem Inv.look_ne_loc (I : Inv H0 F σ as h) {x : Str} {c : Addr} (e : F.env.cells.lookup x = some c) : c ≠ F.env.locals := by
  rcases I.ro x c e with m | m
  · exact I.loc_ne_cell m
  · exact fun z => m.2 (List.mem_append_left _ (z ▸ own_loc))
theorem Inv.look_ne_as (I : Inv H0 F σ as h) {x : Str} {c d : Addr} (e : F.env.cells.lookup x = some c) (m' : d ∈ as) : c ≠ d := by
  rcases I.ro x c e with m | m
  · exact I.cell_ne_as m m'
  · exact fun z => m.2 (List.mem_append_right _ (z ▸ m'))
theorem Inv.look_live (I : Inv H0 F σ as h) {x : Str} {c : Addr} (e : F.env.cells.lookup x = some c) : ∃ o, h.get? c = some o := by
  rcases I.ro x c e with m | m
  · obtain ⟨v0, o, e, _⟩ := I.cex c m; exact ⟨o, e⟩
  · exact I.live c m.1

theorem Inv.setLoc (I : Inv H0 F σ as h) {x : Str} {v : V} {v' : Value} {m : Str → Option Value}
    (hm : ∀ y u, σ.loc.lookup y = some u → F.env.kindOf y = some .local → ∃ v', m y = some v' ∧ VR (F.vol as) as h u v')
    (hx : F.env.kindOf x = some .local) (q : VR (F.vol as) as h v v')
    (hn : h'.Ns F.env.locals (fun y => if y = x then some v' else m y)) (hs : Heap.SameBut F.env.locals h h') : Inv H0 F ⟨(x, v) :: σ.loc, σ.mu⟩ as h' where
  base a o e := hs.extBut a o (fun z => by have := I.off _ (mem_vol.mpr (.inr (.inl own_loc))); rw [z] at e; rw [e] at this; cases this) (I.base a o e)
  off := I.off
  nodup := I.nodup
  apart := I.apart
  ns := by
    refine ⟨_, hn, fun y u e k => ?_⟩
    dsimp only at e
    rw [List.lookup_cons] at e
    by_cases hy : y = x
    · subst hy
      simp only [beq_self_eq_true] at e
      cases e
      exact ⟨v', by simp, q.same hs.extBut (mem_vol.mpr (.inr (.inl own_loc)))⟩
    · rw [show (y == x) = false from beq_eq_false_iff_ne.mpr hy] at e
      obtain ⟨u', a, b⟩ := hm y u e k
      exact ⟨u', by simp [hy, a], b.same hs.extBut (mem_vol.mpr (.inr (.inl own_loc)))⟩
  cel y u e k := by
    dsimp only at e
    rw [List.lookup_cons] at e
    have hy : y ≠ x := fun z => k (z ▸ hx)
    rw [show (y == x) = false from beq_eq_false_iff_ne.mpr hy] at e
    obtain ⟨c, u', a, b, d⟩ := I.cel y u e k
    exact ⟨c, u', a, b.sameBut hs (I.look_ne_loc a), d.same hs.extBut (mem_vol.mpr (.inr (.inl own_loc)))⟩
  cex c m := by obtain ⟨v0, q⟩ := I.cex c m; exact ⟨v0, q.sameBut hs (I.loc_ne_cell m)⟩
  ro := I.ro
  len := I.len
  muts i xs e := by
    obtain ⟨a, vs, n, e1, e2, q⟩ := I.muts i xs e
    exact ⟨a, vs, n, e1, hs.extBut _ _ (I.loc_ne_as (List.mem_of_getElem? e1)) e2, q.same hs.extBut (mem_vol.mpr (.inr (.inl own_loc)))⟩
  live a m := by
    obtain ⟨o, e⟩ := I.live a m
    by_cases z : a = F.env.locals
    · obtain ⟨o', _, _, e', _⟩ := hn; exact ⟨o', z ▸ e'⟩
    · exact ⟨o, hs.extBut _ _ z e⟩

theorem Inv.setCell (I : Inv H0 F σ as h) {x : Str} {v : V} {v' : Value} {c : Addr} (hx : F.env.kindOf x ≠ some .local) (hc : F.env.cells.lookup x = some c)
    (hcm : c ∈ F.wc) (hap : F.env.cells.Pairwise fun x y => x.2 ≠ y.2) (q : VR (F.vol as) as h v v')
    (hn : h'.IsCell c (some v')) (hs : Heap.SameBut c h h') : Inv H0 F ⟨(x, v) :: σ.loc, σ.mu⟩ as h' := by
  have hv : c ∈ F.vol as := mem_vol.mpr (.inr (.inl (own_cell hcm)))
  exact {
    base := fun a o e => hs.extBut a o (fun z => by have := I.off _ hv; rw [z] at e; rw [e] at this; cases this) (I.base a o e)
    off := I.off
    nodup := I.nodup
    apart := I.apart
    ns := by
      obtain ⟨m, n, r⟩ := I.ns
      refine ⟨m, n.sameBut hs (Ne.symm (I.loc_ne_cell hcm)), fun y u e k => ?_⟩
      dsimp only at e
      rw [List.lookup_cons] at e
      have hy : y ≠ x := fun z => hx (z ▸ k)
      rw [show (y == x) = false from beq_eq_false_iff_ne.mpr hy] at e
      obtain ⟨u', a, b⟩ := r y u e k
      exact ⟨u', a, b.same hs.extBut hv⟩
    cel := fun y u e k => by
      dsimp only at e
      rw [List.lookup_cons] at e
      by_cases hy : y = x
      · subst hy
        simp only [beq_self_eq_true] at e
        cases e
        exact ⟨c, v', hc, hn, q.same hs.extBut hv⟩
      · rw [show (y == x) = false from beq_eq_false_iff_ne.mpr hy] at e
        obtain ⟨d, u', a, b, z⟩ := I.cel y u e k
        have hd : d ≠ c := fun e => hy (name_of_addr hap (mem_of_lookup a) (e ▸ mem_of_lookup hc))
        exact ⟨d, u', a, b.sameBut hs hd, z.same hs.extBut hv⟩
    cex := fun d m => by
      by_cases hd : d = c
      · subst hd; exact ⟨_, hn⟩
      · obtain ⟨v0, q⟩ := I.cex d m; exact ⟨v0, q.sameBut hs hd⟩
    ro := I.ro
    len := I.len
    muts := fun i xs e => by
      obtain ⟨a, vs, n, e1, e2, q⟩ := I.muts i xs e
      exact ⟨a, vs, n, e1, hs.extBut _ _ (Ne.symm (I.cell_ne_as hcm (List.mem_of_getElem? e1))) e2, q.same hs.extBut hv⟩
    live := fun a m => by
      obtain ⟨o, e⟩ := I.live a m
      by_cases z : a = c
      · obtain ⟨o', e', _⟩ := hn; exact ⟨o', z ▸ e'⟩
      · exact ⟨o, hs.extBut _ _ z e⟩ }

theorem Inv.setMu (I : Inv H0 F σ as h) {i : Nat} {a : Addr} {xs : List V} {vs : List Value} {n : Nat} (ha : as[i]? = some a)
    (hn : h'.get? a = some (lobj vs n)) (q : VRs (F.vol as) as h xs vs) (hs : Heap.SameBut a h h') : Inv H0 F ⟨σ.loc, σ.mu.set i xs⟩ as h' := by
  have hm : a ∈ as := List.mem_of_getElem? ha
  have hv : a ∈ F.vol as := mem_vol.mpr (.inr (.inr hm))
  have hi : i < σ.mu.length := by rw [← I.len]; exact (List.getElem?_eq_some_iff.mp ha).1
  exact {
    base := fun b o e => hs.extBut b o (fun z => by have := I.off _ hv; rw [z] at e; rw [e] at this; cases this) (I.base b o e)
    off := I.off
    nodup := I.nodup
    apart := I.apart
    ns := by
      obtain ⟨m, k, r⟩ := I.ns
      exact ⟨m, k.sameBut hs (Ne.symm (I.loc_ne_as hm)), fun y u e k => by obtain ⟨u', a, b⟩ := r y u e k; exact ⟨u', a, b.same hs.extBut hv⟩⟩
    cel := fun y u e k => by
      obtain ⟨c, u', b, d, z⟩ := I.cel y u e k
      exact ⟨c, u', b, d.sameBut hs (I.look_ne_as b hm), z.same hs.extBut hv⟩
    cex := fun d m => by obtain ⟨v0, q⟩ := I.cex d m; exact ⟨v0, q.sameBut hs (I.cell_ne_as m hm)⟩
    ro := I.ro
    len := by simp only [List.length_set]; exact I.len
    muts := fun j ys e => by
      dsimp only at e
      by_cases hj : i = j
      · subst hj
        rw [List.getElem?_set_self hi] at e
        cases e
        exact ⟨a, vs, n, ha, hn, q.same hs.extBut hv⟩
      · rw [List.getElem?_set_ne hj] at e
        obtain ⟨b, ws, k, e1, e2, r⟩ := I.muts j ys e
        have hb : b ≠ a := fun z => hj (by
          have nd : as.Nodup := (List.nodup_append.mp I.nodup).2.1
          obtain ⟨h1, e1'⟩ := List.getElem?_eq_some_iff.mp e1
          obtain ⟨h2, e2'⟩ := List.getElem?_eq_some_iff.mp ha
          exact (List.getElem_inj nd).mp (e2'.trans (z ▸ e1'.symm)))
        exact ⟨b, ws, k, e1, hs.extBut _ _ hb e2, r.same hs.extBut hv⟩
    live := fun b m => by
      obtain ⟨o, e⟩ := I.live b m
      by_cases z : b = a
      · exact ⟨_, z ▸ hn⟩
      · exact ⟨o, hs.extBut _ _ z e⟩ }

theorem VR.more {O : List Addr} {b : Addr} (z : h.get? b = none) (hO : ∀ a, a ∈ O → a ∈ F.vol as ∨ a = b) {x : V} {v : Value} (q : VR (F.vol as) as h x v) : VR O (as ++ [b]) h x v :=
  q.mono (fun a o _ e => e) (fun a m => (hO a m).imp id fun e => e ▸ z) fun i a e => by
    rw [List.getElem?_append_left (List.getElem?_eq_some_iff.mp e).1]; exact e
theorem VRs.more {O : List Addr} {b : Addr} (z : h.get? b = none) (hO : ∀ a, a ∈ O → a ∈ F.vol as ∨ a = b) {x : List V} {v : List Value} (q : VRs (F.vol as) as h x v) : VRs O (as ++ [b]) h x v :=
  q.mono (fun a o _ e => e) (fun a m => (hO a m).imp id fun e => e ▸ z) fun i a e => by
    rw [List.getElem?_append_left (List.getElem?_eq_some_iff.mp e).1]; exact e
theorem vol_snoc {b a : Addr} : a ∈ F.vol (as ++ [b]) → a ∈ F.vol as ∨ a = b := fun m => by
  rcases mem_vol.mp m with m | m | m
  · exact .inl (mem_vol.mpr (.inl m))
  · exact .inl (mem_vol.mpr (.inr (.inl m)))
  · rcases List.mem_append.mp m with m | m
    · exact .inl (mem_vol.mpr (.inr (.inr m)))
    · exact .inr (List.mem_singleton.mp m)

theorem Inv.addMu (I : Inv H0 F σ as h) {b : Addr} {xs : List V} {vs : List Value} {n : Nat} (z : h.get? b = none)
    (hk : ∀ a o, h.get? a = some o → h'.get? a = some o) (hn : h'.get? b = some (lobj vs n)) (q : VRs (F.vol as) as h xs vs) : Inv H0 F ⟨σ.loc, σ.mu ++ [xs]⟩ (as ++ [b]) h' := by
  have bo : b ∉ F.vol as := I.new_off z
  have up : ∀ {x : V} {v : Value}, VR (F.vol as) as h x v → VR (F.vol (as ++ [b])) (as ++ [b]) h' x v := fun q => (q.more z fun a m => vol_snoc m).keeps hk
  have ups : ∀ {x : List V} {v : List Value}, VRs (F.vol as) as h x v → VRs (F.vol (as ++ [b])) (as ++ [b]) h' x v := fun q => (q.more z fun a m => vol_snoc m).keeps hk
  exact {
    base := fun a o e => hk a o (I.base a o e)
    off := fun a m => by
      rcases vol_snoc m with m | rfl
      · exact I.off a m
      · cases e : H0.get? a with
        | none => rfl
        | some o => rw [I.base a o e] at z; cases z
    nodup := by
      rw [← List.append_assoc]
      refine List.nodup_append.mpr ⟨I.nodup, by simp, fun a m c m' e => bo ?_⟩
      rw [List.mem_singleton.mp m'] at e
      subst e
      rcases List.mem_append.mp m with m | m
      · exact mem_vol.mpr (.inr (.inl m))
      · exact mem_vol.mpr (.inr (.inr m))
    apart := fun i a hi e => by
      by_cases hl : i < as.length
      · rw [List.getElem?_append_left hl] at e; exact I.apart i a hi e
      · rw [List.getElem?_append_right (Nat.not_lt.mp hl)] at e
        have := List.mem_singleton.mp (List.mem_of_getElem? e)
        subst this
        exact fun m => bo (mem_vol.mpr (.inl m))
    ns := by
      obtain ⟨m, k, r⟩ := I.ns
      exact ⟨m, k.keeps hk, fun y u e k => by obtain ⟨u', a, b⟩ := r y u e k; exact ⟨u', a, up b⟩⟩
    cel := fun y u e k => by obtain ⟨c, u', a, d, e⟩ := I.cel y u e k; exact ⟨c, u', a, d.keeps hk, up e⟩
    cex := fun d m => by obtain ⟨v0, q⟩ := I.cex d m; exact ⟨v0, q.keeps hk⟩
    ro := fun x d e => (I.ro x d e).imp id fun m => ⟨m.1, fun q => by
      rw [← List.append_assoc] at q
      rcases List.mem_append.mp q with q | q
      · exact m.2 q
      · obtain ⟨o, e'⟩ := I.look_live e
        rw [List.mem_singleton.mp q, z] at e'; cases e'⟩
    len := by simp only [List.length_append, List.length_singleton, I.len]
    muts := fun j ys e => by
      dsimp only at e
      by_cases hl : j < σ.mu.length
      · rw [List.getElem?_append_left hl] at e
        obtain ⟨c, ws, k, e1, e2, r⟩ := I.muts j ys e
        exact ⟨c, ws, k, by rw [List.getElem?_append_left (by rw [I.len]; exact hl)]; exact e1, hk _ _ e2, ups r⟩
      · rw [List.getElem?_append_right (Nat.not_lt.mp hl)] at e
        have hj : j - σ.mu.length = 0 := by
          have := (List.getElem?_eq_some_iff.mp e).1
          simp only [List.length_singleton] at this; omega
        rw [hj] at e
        cases e
        exact ⟨b, vs, n, by rw [List.getElem?_append_right (by rw [I.len]; omega), I.len, hj]; rfl, hn, ups q⟩
    live := fun a m => by obtain ⟨o, e⟩ := I.live a m; exact ⟨o, hk _ _ e⟩ }

/-- the abstract state may forget names -/
theorem Inv.weaken (I : Inv H0 F σ as h) {loc : List (Str × V)} (hw : ∀ x v, loc.lookup x = some v → σ.loc.lookup x = some v) : Inv H0 F ⟨loc, σ.mu⟩ as h where
  base := I.base
  off := I.off
  nodup := I.nodup
  apart := I.apart
  ns := by obtain ⟨m, k, r⟩ := I.ns; exact ⟨m, k, fun y u e => r y u (hw y u e)⟩
  cel y u e := I.cel y u (hw y u e)
  cex := I.cex
  ro := I.ro
  len := I.len
  muts := I.muts
  live := I.live
end

-- Lg3
structure Cx where
  prog : Program
  w : World
  H0 : Heap
  mg : Str → Option Value
  mb : Str → Option Value
  g : H0.Ns mainGlobals mg
  b : H0.Ns builtinsNs mb
  nolimit : H0.NoLimit

def Ev (c : Cx) (F : Fm) (n : Nat) (e : Expr) (σ : St) (v : V) (σ' : St) : Prop :=
  Tr c.prog c.w c.H0 F n (eval e F.env) σ (fun as h v' => VR (F.vol as) as h v v') σ'
def Tst (c : Cx) (F : Fm) (n : Nat) (e : Expr) (σ : St) (b : Bool) (σ' : St) : Prop :=
  Tr c.prog c.w c.H0 F n (isTrue e F.env (eval e F.env)) σ (fun _ _ r => r = b) σ'

def St.items (σ : St) : V → Option (List V)
  | .lst xs => some xs
  | .mu i => σ.mu[i]?
  | _ => none

section
variable {c : Cx} {F : Fm} {n : Nat} {σ σ1 σ2 σ3 : St}

theorem Inv.items {H0 : Heap} {as : List Addr} {h : Heap} (I : Inv H0 F σ as h) {v : V} {v' : Value} {xs : List V} (q : VR (F.vol as) as h v v') (e : σ.items v = some xs) :
    ∃ a vs n, v' = .ref a ∧ h.get? a = some (lobj vs n) ∧ VRs (F.vol as) as h xs vs := by
  cases q with
  | int n t => cases e
  | raw v => cases e
  | tup => cases e
  | lst m g r => cases e; exact ⟨_, _, _, rfl, g, r⟩
  | mu ea =>
    obtain ⟨a, vs, k, e1, e2, r⟩ := I.muts _ _ e
    rw [ea] at e1; cases e1
    exact ⟨_, _, _, rfl, e2, r⟩

theorem Okay.units {A : Around} (ok : Okay n A) : A.units + 64 < cLine := by
  have := ok.2.2; rw [show cLine = 9900 from rfl]; omega
theorem Okay.h {A : Around} (ok : Okay n A) : A.handled = none := ok.1

theorem Ev.weaken {e : Expr} {v : V} {loc : List (Str × V)} (h : Ev c F n e σ v σ1) (hw : ∀ x v, loc.lookup x = some v → σ1.loc.lookup x = some v) : Ev c F n e σ v ⟨loc, σ1.mu⟩ :=
  fun A as s E ok I => wpAny_mono (h A as s E ok I) (fun _ _ ⟨as', I', q, S⟩ => ⟨as', I'.weaken hw, q, S⟩) fun _ _ x => x

-- literals
theorem Ev.int {i : Int} {k} {p : Pos} : Ev c F n (.Constant (.int i) k p) σ (.int i) σ :=
  fun _ as _ _ _ I => wpAny_Constant_int ⟨as, I, .int _ _, Stp.keeps (fun _ _ e => e) ⟨_, _, rfl⟩⟩
theorem Ev.bool {b : Bool} {k} {p : Pos} : Ev c F n (.Constant (.bool b) k p) σ (.bool b) σ :=
  fun _ as s _ _ I => Constant_bool ⟨as, I, .raw _, Stp.refl F as s⟩

-- names
theorem Ev.loc {x : Str} {p : Pos} {v : V} (hv : σ.loc.lookup x = some v) (hl : F.env.kindOf x = some .local) (hk : F.env.scope.kind = .function) (hd : (x == ("__debug__" : Str)) = false) :
    Ev c F n (.Name x p) σ v σ := fun _ as s _ _ I => by
  obtain ⟨m, hn, r⟩ := I.ns
  obtain ⟨v', e, q⟩ := r x v hv hl
  exact wpAny_Name (wpAny_loadName_local hk hl hn e ⟨as, I, q, Stp.refl F as s⟩) hd
theorem Ev.cell {x : Str} {p : Pos} {v : V} (hv : σ.loc.lookup x = some v) (hl : F.env.kindOf x = some .cell) (hk : F.env.scope.kind = .function) (hd : (x == ("__debug__" : Str)) = false) :
    Ev c F n (.Name x p) σ v σ := fun _ as s _ _ I => by
  obtain ⟨a, v', e, q, r⟩ := I.cel x v hv (by rw [hl]; simp)
  exact wpAny_Name (wpAny_loadName_cell hk hl e q ⟨as, I, r, Stp.refl F as s⟩) hd
theorem Ev.free {x : Str} {p : Pos} {v : V} (hv : σ.loc.lookup x = some v) (hl : F.env.kindOf x = some .free) (hk : F.env.scope.kind = .function) (hd : (x == ("__debug__" : Str)) = false)
    (hn : (x == ("__classdict__" : Str)) = false) :
    Ev c F n (.Name x p) σ v σ := fun _ as s _ _ I => by
  obtain ⟨a, v', e, q, r⟩ := I.cel x v hv (by rw [hl]; simp)
  exact wpAny_Name (wpAny_loadName_free hk hl e q ⟨as, I, r, Stp.refl F as s⟩ hn) hd
theorem Ev.glob {x : Str} {p : Pos} {v : Value} (hv : c.mg x = some v) (hl : F.env.kindOf x = some .globalImplicit) (hk : F.env.scope.kind = .function) (hd : (x == ("__debug__" : Str)) = false)
    (hg : F.env.globals = mainGlobals) : Ev c F n (.Name x p) σ (.raw v) σ := fun _ as s _ _ I =>
  Calls.Name_function_global hk hl (Calls.loadGlobal_global (by rw [hg]; exact c.g.keeps I.base) hv ⟨as, I, .raw _, Stp.refl F as s⟩) hd
theorem Ev.bi {x : Str} {p : Pos} {v : Value} (hv : c.mg x = none) (hb : c.mb x = some v) (hl : F.env.kindOf x = some .globalImplicit) (hk : F.env.scope.kind = .function) (hd : (x == ("__debug__" : Str)) = false)
    (hg : F.env.globals = mainGlobals) (hg' : F.env.builtins = builtinsNs) : Ev c F n (.Name x p) σ (.raw v) σ := fun _ as s _ _ I =>
  Calls.Name_function_global hk hl (Calls.loadGlobal_builtin (by rw [hg]; exact c.g.keeps I.base) hv (by rw [hg']; exact c.b.keeps I.base) hb ⟨as, I, .raw _, Stp.refl F as s⟩) hd

-- operators on ints
def IntOp (op : Operator) (a b r : Int) : Prop := ∀ (prog : Program) (w : World) (A : Around) (E : Value → Shared → Prop) (s : Shared) (t u : Tok) (Q : Value → Shared → Prop),
  (∀ v tk, Q (.int r v) { s with toks := tk }) → wpAny (model prog w) A (binaryOp op (.int a t) (.int b u)) Q E s
def IopOp (op : Operator) (a b r : Int) : Prop := ∀ (prog : Program) (w : World) (A : Around) (E : Value → Shared → Prop) (s : Shared) (t u : Tok) (Q : Value → Shared → Prop),
  (∀ v tk, Q (.int r v) { s with toks := tk }) → wpAny (model prog w) A (inplaceOp op (.int a t) (.int b u)) Q E s
def CmpI (op : CmpOp) (a b : Int) (r : Bool) : Prop := ∀ (prog : Program) (w : World) (A : Around) (E : Value → Shared → Prop) (s : Shared) (t u : Tok) (Q : Value → Shared → Prop),
  Q (.bool r) s → wpAny (model prog w) A (compareOp op (.int a t) (.int b u)) Q E s

theorem Stp.toks {as : List Addr} {s : Shared} {tk : Nat} : Stp F as s as { s with toks := tk } := Stp.keeps (fun _ _ e => e) ⟨_, _, rfl⟩

theorem Ev.binop {op : Operator} {l r : Expr} {p : Pos} {a b k : Int} (hl : Ev c F n l σ (.int a) σ1) (hr : Ev c F n r σ1 (.int b) σ2) (ho : IntOp op a b k) :
    Ev c F n (.BinOp l op r p) σ (.int k) σ2 := fun A as s E ok I =>
  wpAny_BinOp (wpAny_mono (hl A as s E ok I) (fun v1 s1 ⟨as1, I1, q1, S1⟩ => by
    cases q1 with
    | int _ t =>
      refine wpAny_mono (hr A as1 s1 E ok I1) (fun v2 s2 ⟨as2, I2, q2, S2⟩ => ?_) fun _ _ x => x
      cases q2 with
      | int _ u => exact ho _ _ A E s2 t u _ fun v tk => ⟨as2, I2, .int _ _, (S1.trans S2).trans Stp.toks⟩) fun _ _ x => x)

theorem Ev.cmp {op : CmpOp} {l r : Expr} {p : Pos} {a b : Int} {k : Bool} (hl : Ev c F n l σ (.int a) σ1) (hr : Ev c F n r σ1 (.int b) σ2) (ho : CmpI op a b k)
    (hm : behindInMarks op r = false) : Ev c F n (.Compare l [op] [r] p) σ (.bool k) σ2 := fun A as s E ok I =>
  wpAny_Compare1 (wpAny_mono (hl A as s E ok I) (fun v1 s1 ⟨as1, I1, q1, S1⟩ => by
    cases q1 with
    | int _ t =>
      refine wpAny_mono (hr A as1 s1 E ok I1) (fun v2 s2 ⟨as2, I2, q2, S2⟩ => ?_) fun _ _ x => x
      cases q2 with
      | int _ u => exact ho _ _ A E s2 t u _ ⟨as2, I2, .raw _, S1.trans S2⟩) fun _ _ x => x) hm
theorem Tst.cmp {op : CmpOp} {l r : Expr} {p : Pos} {a b : Int} {k : Bool} (hl : Ev c F n l σ (.int a) σ1) (hr : Ev c F n r σ1 (.int b) σ2) (ho : CmpI op a b k)
    (hm : behindInMarks op r = false) : Tst c F n (.Compare l [op] [r] p) σ k σ2 := fun A as s E ok I =>
  wpAny_isTrue_Compare1 (wpAny_mono (hl A as s E ok I) (fun v1 s1 ⟨as1, I1, q1, S1⟩ => by
    cases q1 with
    | int _ t =>
      refine wpAny_mono (hr A as1 s1 E ok I1) (fun v2 s2 ⟨as2, I2, q2, S2⟩ => ?_) fun _ _ x => x
      cases q2 with
      | int _ u => exact ho _ _ A E s2 t u _ (wpAny_truthy_bool ⟨as2, I2, rfl, S1.trans S2⟩)) fun _ _ x => x) hm

-- comparisons of two bools, and of any two values that a rule of the heap compares
def CmpV (op : CmpOp) (a b : V) (r : Bool) : Prop := ∀ (prog : Program) (w : World) (A : Around) (E : Value → Shared → Prop) (s : Shared) (O as : List Addr) (x y : Value) (Q : Value → Shared → Prop),
  A.units + 64 < cLine → VR O as s.heap a x → VR O as s.heap b y → Q (.bool r) s → wpAny (model prog w) A (compareOp op x y) Q E s
theorem Ev.cmpV {op : CmpOp} {l r : Expr} {p : Pos} {a b : V} {k : Bool} (hl : Ev c F n l σ a σ1) (hr : Ev c F n r σ1 b σ2) (ho : CmpV op a b k)
    (hm : behindInMarks op r = false) : Ev c F n (.Compare l [op] [r] p) σ (.bool k) σ2 := fun A as s E ok I =>
  wpAny_Compare1 (wpAny_mono (hl A as s E ok I) (fun v1 s1 ⟨as1, I1, q1, S1⟩ =>
    wpAny_mono (hr A as1 s1 E ok I1) (fun v2 s2 ⟨as2, I2, q2, S2⟩ => ho _ _ A E s2 _ _ _ _ _ ok.units (q1.stp S2) q2 ⟨as2, I2, .raw _, S1.trans S2⟩) fun _ _ x => x) fun _ _ x => x) hm
theorem Tst.cmpV {op : CmpOp} {l r : Expr} {p : Pos} {a b : V} {k : Bool} (hl : Ev c F n l σ a σ1) (hr : Ev c F n r σ1 b σ2) (ho : CmpV op a b k)
    (hm : behindInMarks op r = false) : Tst c F n (.Compare l [op] [r] p) σ k σ2 := fun A as s E ok I =>
  wpAny_isTrue_Compare1 (wpAny_mono (hl A as s E ok I) (fun v1 s1 ⟨as1, I1, q1, S1⟩ =>
    wpAny_mono (hr A as1 s1 E ok I1) (fun v2 s2 ⟨as2, I2, q2, S2⟩ => ho _ _ A E s2 _ _ _ _ _ ok.units (q1.stp S2) q2 (wpAny_truthy_bool ⟨as2, I2, rfl, S1.trans S2⟩)) fun _ _ x => x) fun _ _ x => x) hm

theorem Ev.not {x : Expr} {p : Pos} {b : Bool} (h : Ev c F n x σ (.bool b) σ1) : Ev c F n (.UnaryOp .Not x p) σ (.bool (!b)) σ1 := fun A as s E ok I =>
  UnaryOp_ (wpAny_mono (h A as s E ok I) (fun v s1 ⟨as1, I1, q, S⟩ => by
    cases q with
    | raw v => exact not_of (wpAny_truthy_bool ⟨as1, I1, .raw _, S⟩)) fun _ _ x => x)
theorem Tst.not {x : Expr} {p : Pos} {b : Bool} (h : Tst c F n x σ b σ1) : Tst c F n (.UnaryOp .Not x p) σ (!b) σ1 := fun A as s E ok I =>
  isTrue_not (wpAny_mono (h A as s E ok I) (fun v s1 ⟨as1, I1, q, S⟩ => ⟨as1, I1, by rw [q], S⟩) fun _ _ x => x)
theorem Tst.bool {e : Expr} {b : Bool} (h : Ev c F n e σ (.bool b) σ1) (he : ∀ whole, isTrue e F.env whole = (do let v ← whole; standAt e.pos; holding [v] (truthy v))) : Tst c F n e σ b σ1 := fun A as s E ok I =>
  isTrue_plain (wpAny_mono (h A as s E ok I) (fun v s1 ⟨as1, I1, q, S⟩ => by
    cases q with
    | raw v => exact wpAny_truthy_bool ⟨as1, I1, rfl, S⟩) fun _ _ x => x) (he _)

theorem Tst.and {x y : Expr} {p : Pos} {a b : Bool} (hx : Tst c F n x σ a σ1) (hy : a = true → Tst c F n y σ1 b σ2) (hf : a = false → σ2 = σ1) : Tst c F n (.BoolOp .And [x, y] p) σ (a && b) σ2 := fun A as s E ok I =>
  isTrue_and (wpAny_mono (hx A as s E ok I) (fun v s1 ⟨as1, I1, q, S⟩ => by
    subst q
    cases v with
    | false => obtain rfl := hf rfl; exact ⟨as1, I1, rfl, S⟩
    | true =>
      refine isTrue_and (wpAny_mono (hy rfl A as1 s1 E ok I1) (fun v s2 ⟨as2, I2, q2, S2⟩ => ?_) fun _ _ x => x)
      subst q2
      cases v with
      | false => exact ⟨as2, I2, rfl, S.trans S2⟩
      | true => exact isTrue_and_nil ⟨as2, I2, rfl, S.trans S2⟩) fun _ _ x => x)
theorem Tst.or {x y : Expr} {p : Pos} {a b : Bool} (hx : Tst c F n x σ a σ1) (hy : a = false → Tst c F n y σ1 b σ2) (hf : a = true → σ2 = σ1) : Tst c F n (.BoolOp .Or [x, y] p) σ (a || b) σ2 := fun A as s E ok I =>
  isTrue_or (wpAny_mono (hx A as s E ok I) (fun v s1 ⟨as1, I1, q, S⟩ => by
    subst q
    cases v with
    | true => obtain rfl := hf rfl; exact ⟨as1, I1, rfl, S⟩
    | false =>
      refine isTrue_or (wpAny_mono (hy rfl A as1 s1 E ok I1) (fun v s2 ⟨as2, I2, q2, S2⟩ => ?_) fun _ _ x => x)
      subst q2
      cases v with
      | true => exact ⟨as2, I2, rfl, S.trans S2⟩
      | false => exact isTrue_or_nil ⟨as2, I2, rfl, S.trans S2⟩) fun _ _ x => x)
theorem Ev.and {x y : Expr} {p : Pos} {a b : Bool} (hx : Ev c F n x σ (.bool a) σ1) (hy : a = true → Ev c F n y σ1 (.bool b) σ2) (hf : a = false → σ2 = σ1) : Ev c F n (.BoolOp .And [x, y] p) σ (.bool (a && b)) σ2 := fun A as s E ok I =>
  BoolOp_and (wpAny_mono (hx A as s E ok I) (fun v s1 ⟨as1, I1, q, S⟩ => by
    cases q with
    | raw v =>
      refine wpAny_truthy_bool ?_
      cases a with
      | false => obtain rfl := hf rfl; exact ⟨as1, I1, .raw _, S⟩
      | true => exact BoolOp_one (wpAny_mono (hy rfl A as1 s1 E ok I1) (fun v s2 ⟨as2, I2, q2, S2⟩ => ⟨as2, I2, q2, S.trans S2⟩) fun _ _ x => x)) fun _ _ x => x)
theorem Ev.ite {t x y : Expr} {p : Pos} {b : Bool} {v : V} (ht : Tst c F n t σ b σ1) (hx : b = true → Ev c F n x σ1 v σ2) (hy : b = false → Ev c F n y σ1 v σ2) : Ev c F n (.IfExp t x y p) σ v σ2 := fun A as s E ok I =>
  IfExp_ (wpAny_mono (ht A as s E ok I) (fun r s1 ⟨as1, I1, q, S⟩ => by
    subst q
    cases r with
    | true => exact wpAny_mono (hx rfl A as1 s1 E ok I1) (fun v s2 ⟨as2, I2, q2, S2⟩ => ⟨as2, I2, q2, S.trans S2⟩) fun _ _ x => x
    | false => exact wpAny_mono (hy rfl A as1 s1 E ok I1) (fun v s2 ⟨as2, I2, q2, S2⟩ => ⟨as2, I2, q2, S.trans S2⟩) fun _ _ x => x) fun _ _ x => x)
end

-- Lg4
theorem IntOp.add (a b : Int) : IntOp .Add a b (a + b) := fun _ _ _ _ _ _ _ _ h => PyProof.Rows.add_int (h _ _)
theorem IntOp.sub (a b : Int) : IntOp .Sub a b (a - b) := fun _ _ _ _ _ _ _ _ h => PyProof.Rows.sub_int' (h _ _)
theorem intBits_le {a : Int} (h : a.natAbs < 2 ^ 64) : Builtin.Int.intBits a ≤ 64 := by
  unfold Builtin.Int.intBits
  split
  · omega
  · rename_i q
    have q' : a.natAbs ≠ 0 := by simpa using q
    have := (Nat.log2_lt q').mpr h
    omega
theorem IntOp.mul {a b : Int} (h : a.natAbs < 2 ^ 64) : IntOp .Mult a b (a * b) := fun _ _ _ _ _ _ _ _ hq => PyProof.Rows.mul_int (hq _ _) (IntMulOk.of_left (intBits_le h))
theorem IntOp.div {a b : Int} (hb : 0 < b) (h : b.natAbs < 1073741824) : IntOp .FloorDiv a b (a / b) := fun _ _ _ _ _ _ _ _ hq =>
  PyProof.Rows.floordiv_int (by omega) (by rw [Int.fdiv_eq_ediv_of_nonneg _ (by omega)]; exact hq _ _) (.inl (PyProof.noPylong_small h))
theorem IntOp.mod {a b : Int} (hb : 0 < b) : IntOp .Mod a b (a % b) := fun _ _ _ _ _ _ _ _ hq =>
  PyProof.Rows.mod_int (by omega) (by rw [Int.fmod_eq_emod_of_nonneg _ (by omega)]; exact hq _ _)
theorem IntOp.shl {a : Int} {k : Nat} (h : a.natAbs < 2 ^ 64) (hk : k ≤ 1000) : IntOp .LShift a (k : Int) (a * 2 ^ k) := fun _ _ _ _ _ _ _ _ hq =>
  PyProof.Rows.lshift_int_small (by omega) (by omega) h (hq _ _)
theorem IntOp.shl1 {k : Nat} (hk : k ≤ 1000) : IntOp .LShift 1 (k : Int) (2 ^ k) := by
  have := IntOp.shl (a := 1) (k := k) (by decide) hk
  rwa [Int.one_mul] at this
theorem IntOp.pow2 {k : Nat} (hk : k ≤ 1000) : IntOp .Pow 2 (k : Int) (2 ^ k) := fun _ _ _ _ _ _ _ _ hq =>
  PyProof.Rows.pow_int (by omega) (by rw [show Builtin.Int.intBits 2 = 2 from rfl]; omega) (hq _ _)
theorem IntOp.sq {a : Int} (h : a.natAbs < 2 ^ 64) : IntOp .Pow a 2 (a * a) := fun _ _ _ _ _ _ _ _ hq =>
  PyProof.Rows.pow_int (by omega) (by have := intBits_le h; omega) (by
    have e : a ^ (2 : Int).toNat = a * a := by show a ^ 2 = a * a; rw [Int.pow_succ, Int.pow_succ, Int.pow_zero, Int.one_mul]
    rw [e]; exact hq _ _)
theorem bitAnd_mask {a : Int} {k : Nat} (h : 0 ≤ a) : Builtin.bitAnd a (2 ^ k - 1) = a % 2 ^ k := by
  obtain ⟨m, rfl⟩ := Int.eq_ofNat_of_zero_le h
  have e : ((2 : Int) ^ k - 1) = ((2 ^ k - 1 : Nat) : Int) := by
    rw [Int.ofNat_sub Nat.one_le_two_pow]; simp
  unfold Builtin.bitAnd
  rw [e]
  have h1 : decide ((0 : Int) ≤ ((m : Nat) : Int)) = true := by simp
  have h2 : decide ((0 : Int) ≤ ((2 ^ k - 1 : Nat) : Int)) = true := decide_eq_true (Int.natCast_nonneg _)
  rw [h1, h2]
  simp only [Int.toNat_natCast, Nat.and_two_pow_sub_one_eq_mod]
  simp
theorem IntOp.mask {a : Int} {k : Nat} (h : 0 ≤ a) : IntOp .BitAnd a (2 ^ k - 1) (a % 2 ^ k) := fun _ _ _ _ _ _ _ _ hq =>
  PyProof.Rows.and_int (by rw [bitAnd_mask h]; exact hq _ _)
theorem bitOr_shift {a b : Int} {k : Nat} (ha : 0 ≤ a) (hb : 0 ≤ b) (hk : b < 2 ^ k) : Builtin.bitOr (a * 2 ^ k) b = a * 2 ^ k + b := by
  obtain ⟨m, rfl⟩ := Int.eq_ofNat_of_zero_le ha
  obtain ⟨l, rfl⟩ := Int.eq_ofNat_of_zero_le hb
  have hk' : l < 2 ^ k := by have : ((l : Nat) : Int) < ((2 ^ k : Nat) : Int) := by simpa using hk
                             omega
  have e : ((m : Nat) : Int) * 2 ^ k = ((m * 2 ^ k : Nat) : Int) := by simp
  rw [e]
  unfold Builtin.bitOr Builtin.bitAnd
  have n1 : ¬ (0 ≤ Builtin.bitNot ((m * 2 ^ k : Nat) : Int)) := by unfold Builtin.bitNot; omega
  have n2 : ¬ (0 ≤ Builtin.bitNot ((l : Nat) : Int)) := by unfold Builtin.bitNot; omega
  rw [decide_eq_false n1, decide_eq_false n2]
  simp only
  have f : ∀ x : Int, Builtin.bitNot (Builtin.bitNot x) = x := by intro x; unfold Builtin.bitNot; omega
  rw [f, f, f]
  simp only [Int.toNat_natCast]
  rw [show m * 2 ^ k = m <<< k from (Nat.shiftLeft_eq m k).symm, ← Nat.shiftLeft_add_eq_or_of_lt hk']
  simp
theorem IntOp.or {a b : Int} {k : Nat} (ha : 0 ≤ a) (hb : 0 ≤ b) (hk : b < 2 ^ k) : IntOp .BitOr (a * 2 ^ k) b (a * 2 ^ k + b) := fun _ _ _ _ _ _ _ _ hq =>
  PyProof.Rows.or_int (by rw [bitOr_shift ha hb hk]; exact hq _ _)

theorem IopOp.add (a b : Int) : IopOp .Add a b (a + b) := fun _ _ _ _ _ _ _ _ h => PyProof.Rows.iadd_int (h _ _)
theorem IopOp.sub (a b : Int) : IopOp .Sub a b (a - b) := fun _ _ _ _ _ _ _ _ h => PyProof.Rows.isub_int (h _ _)
theorem IopOp.shr {a : Int} {k : Nat} : IopOp .RShift a (k : Int) (a / 2 ^ k) := fun _ _ _ _ _ _ _ _ hq =>
  PyProof.Rows.irshift_int (by omega) (by
    rw [Int.toNat_natCast, Int.fdiv_eq_ediv_of_nonneg _ (Int.le_of_lt (Int.pow_pos (by decide)))]; exact hq _ _)
theorem IopOp.mod {a b : Int} (hb : 0 < b) : IopOp .Mod a b (a % b) := fun _ _ _ _ _ _ _ _ hq =>
  PyProof.Rows.imod_int (by omega) (by rw [Int.fmod_eq_emod_of_nonneg _ (by omega)]; exact hq _ _)

theorem CmpI.lt (a b : Int) : CmpI .Lt a b (decide (a < b)) := fun _ _ _ _ _ _ _ _ h => PyProof.Rows.lt_int h
theorem CmpI.gt (a b : Int) : CmpI .Gt a b (decide (b < a)) := fun _ _ _ _ _ _ _ _ h => PyProof.Rows.gt_int h
theorem CmpI.le (a b : Int) : CmpI .LtE a b (decide (a ≤ b)) := fun _ _ _ _ _ _ _ _ h => PyProof.Rows.le_int h
theorem CmpI.ge (a b : Int) : CmpI .GtE a b (decide (b ≤ a)) := fun _ _ _ _ _ _ _ _ h => PyProof.Rows.ge_int h
theorem CmpI.eq (a b : Int) : CmpI .Eq a b (a == b) := fun _ _ _ _ _ _ _ _ h => PyProof.Rows.eq_int h
theorem CmpI.ne (a b : Int) : CmpI .NotEq a b (a != b) := fun _ _ _ _ _ _ _ _ h => PyProof.Rows.ne_int h

theorem CmpV.eqb (a b : Bool) : CmpV .Eq (.bool a) (.bool b) (a == b) := fun _ _ _ _ _ _ _ _ _ _ _ q r h => by
  cases q; cases r; exact PyProof.Rows.eq_bool h
theorem CmpV.neb (a b : Bool) : CmpV .NotEq (.bool a) (.bool b) (a != b) := fun _ _ _ _ _ _ _ _ _ _ _ q r h => by
  cases q; cases r; exact PyProof.Rows.ne_bool h

-- data of values, for comparisons
mutual
def V.data : V → PyData
  | .int n => .int n
  | .raw v => match v with | .bool b => .bool b | _ => .none
  | .tup xs => .tuple (V.datas xs)
  | .lst xs => .list (V.datas xs)
  | .mu _ => .none
def V.datas : List V → List PyData
  | [] => []
  | x :: r => x.data :: V.datas r
end
mutual
def V.flat : V → Bool
  | .int _ => true
  | .raw v => match v with | .bool _ => true | _ => false
  | .tup xs => V.flats xs
  | .lst xs => V.flats xs
  | .mu _ => false
def V.flats : List V → Bool
  | [] => true
  | x :: r => x.flat && V.flats r
end
section
variable {O as : List Addr} {h : Heap}
mutual
theorem VR.reads : ∀ {x : V} {v : Value}, VR O as h x v → x.flat = true → ∃ bs, Reads h v x.data bs
  | _, _, .int n t, _ => ⟨_, .int n t⟩
  | _, _, .raw v, e => by
    cases v <;> first | (simp [V.flat] at e; done) | exact ⟨_, .bool _⟩
  | _, _, .tup _ g r, e => by
    obtain ⟨bs, q⟩ := VRs.reads r (by simpa only [V.flat] using e)
    exact ⟨_, .tuple g rfl rfl (by simpa using q)⟩
  | _, _, .lst _ g r, e => by
    obtain ⟨bs, q⟩ := VRs.reads r (by simpa only [V.flat] using e)
    exact ⟨_, .list g rfl rfl (by simpa using q)⟩
  | _, _, .mu _, e => by simp [V.flat] at e
theorem VRs.reads : ∀ {xs : List V} {vs : List Value}, VRs O as h xs vs → V.flats xs = true → ∃ bs, ReadsAll h vs (V.datas xs) bs
  | _, _, .nil, _ => ⟨_, .nil⟩
  | _, _, .cons x r, e => by
    simp only [V.flats, Bool.and_eq_true] at e
    obtain ⟨b1, q1⟩ := VR.reads x e.1
    obtain ⟨b2, q2⟩ := VRs.reads r e.2
    exact ⟨_, .cons q1 q2⟩
end
end
theorem CmpV.eqd {a b : V} (ha : a.flat = true) (hb : b.flat = true) (sa : SeqAt.shaped a.data = true) (sb : SeqAt.shaped b.data = true) : CmpV .Eq a b (PyData.eqv a.data b.data) :=
  fun _ _ _ _ _ _ _ _ _ _ hu q r h => by
    obtain ⟨_, q'⟩ := q.reads ha
    obtain ⟨_, r'⟩ := r.reads hb
    exact eq_dataH q' r' sa sb hu h
theorem CmpV.ned {a b : V} (ha : a.flat = true) (hb : b.flat = true) (sa : SeqAt.shaped a.data = true) (sb : SeqAt.shaped b.data = true) : CmpV .NotEq a b (!PyData.eqv a.data b.data) :=
  fun _ _ _ _ _ _ _ _ _ _ hu q r h => by
    obtain ⟨_, q'⟩ := q.reads ha
    obtain ⟨_, r'⟩ := r.reads hb
    exact ne_dataH q' r' sa sb hu h

-- Lg5
def Evs (c : Cx) (F : Fm) (n : Nat) (p : Pos) (es : List Expr) (σ : St) (vs : List V) (σ' : St) : Prop :=
  Tr c.prog c.w c.H0 F n (spliced (backTo p (starEach es F.env))) σ (fun as h vs' => VRs (F.vol as) as h vs vs') σ'

section
variable {M : Model} {A : Around} {E : Value → Shared → Prop} {s : Shared}
theorem sub_tail {prog : Program} {w : World} {value slice : Expr} {o i : Value} {T id : String} {Q : Value → Shared → Prop} (hT : s.TypeIs o T)
    (hl : typeLookup (.type T) "__getitem__" = pure (some (.builtin id))) (h : wpAny (model prog w) A (getItem o i) Q E s)
    (hs : ∃ ops, subscripted slice false o i = operate ops (getItem o i)) : wpAny (model prog w) A (subscriptTail value slice o i) Q E s := by
  unfold subscriptTail
  refine wpAny_bind ?_
  rw [getitemInPython_of_ne hT.not_modules]
  refine wpAny_bind (wpAny_specialOf hT hl ?_)
  obtain ⟨ops, hs⟩ := hs
  have fin : wpAny (model prog w) A (subscripted slice false o i) (fun r s₃ => wpAny (model prog w) A (letTemporaryGo value o r >>= fun _ => pure r) Q E s₃) E s := by
    rw [hs]
    exact wpAny_operating (wpAny_mono h (fun r s₃ h₃ => wpAny_bind (wpAny_letTemporaryGo (wpAny_pure h₃))) fun _ _ x => x)
  first
    | exact wpAny_pure (wpAny_bind fin)
    | exact wpAny_bind (wpAny_pure (wpAny_bind fin))
    | exact wpAny_bind fin
end

section
variable {c : Cx} {F : Fm} {n : Nat} {σ σ1 σ2 σ3 : St} {as as0 : List Addr} {s0 : Shared}

abbrev Post (c : Cx) (F : Fm) (as : List Addr) (s : Shared) (σ' : St) (v : V) (v' : Value) (s' : Shared) : Prop :=
  ∃ as', Inv c.H0 F σ' as' s'.heap ∧ VR (F.vol as') as' s'.heap v v' ∧ Stp F as s as' s'

theorem plain_list {h : Heap} {a : Addr} {vs : List Value} {k : Nat} (e : h.get? a = some (lobj vs k)) : h.PlainList a vs.toArray := ⟨k, e⟩
theorem is_list {h : Heap} {a : Addr} {vs : List Value} {k : Nat} (e : h.get? a = some (lobj vs k)) : h.IsList a vs.toArray := (plain_list e).isList
theorem is_tup {h : Heap} {a : Addr} {vs : List Value} {k : Nat} (e : h.get? a = some (tobj vs k)) : IsTup h a vs.toArray := ⟨_, e, rfl, k, rfl⟩

theorem Out.lst {h : Heap} {s : Shared} {xs : List V} {vs : List Value} {b : Addr} {k : Nat} (I : Inv c.H0 F σ as h) (S : Stp F as0 s0 as s) (q : VRs (F.vol as) as h xs vs)
    (e : s.heap = h) (h' : Heap) (tk : Nat) (hk : ∀ a o, h.get? a = some o → h'.get? a = some o) (hb : h.get? b = none) (hn : h'.get? b = some (lobj vs k)) :
    Post c F as0 s0 σ (.lst xs) (.ref b) { s with heap := h', toks := tk } := by
  subst e
  exact ⟨as, I.keeps hk, .lst (I.new_off hb) hn (q.keeps hk), S.trans (Stp.keeps hk ⟨_, _, rfl⟩)⟩
theorem Out.tup {h : Heap} {s : Shared} {xs : List V} {vs : List Value} {b : Addr} {k : Nat} (I : Inv c.H0 F σ as h) (S : Stp F as0 s0 as s) (q : VRs (F.vol as) as h xs vs)
    (e : s.heap = h) (h' : Heap) (tk : Nat) (hk : ∀ a o, h.get? a = some o → h'.get? a = some o) (hb : h.get? b = none) (hn : h'.get? b = some (tobj vs k)) :
    Post c F as0 s0 σ (.tup xs) (.ref b) { s with heap := h', toks := tk } := by
  subst e
  exact ⟨as, I.keeps hk, .tup (I.new_off hb) hn (q.keeps hk), S.trans (Stp.keeps hk ⟨_, _, rfl⟩)⟩
theorem Out.mu {h : Heap} {s : Shared} {xs : List V} {vs : List Value} {b : Addr} {k : Nat} (I : Inv c.H0 F σ as h) (S : Stp F as0 s0 as s) (q : VRs (F.vol as) as h xs vs)
    (e : s.heap = h) (h' : Heap) (tk : Nat) (hk : ∀ a o, h.get? a = some o → h'.get? a = some o) (hb : h.get? b = none) (hn : h'.get? b = some (lobj vs k)) :
    Post c F as0 s0 ⟨σ.loc, σ.mu ++ [xs]⟩ (.mu σ.mu.length) (.ref b) { s with heap := h', toks := tk } := by
  subst e
  refine ⟨as ++ [b], I.addMu hb hk hn q, .mu (by rw [List.getElem?_append_right (by rw [I.len]; exact Nat.le_refl _), I.len, Nat.sub_self]; rfl), S.trans ⟨fun a o _ e => hk a o e, fun a o e => ⟨o, hk a o e⟩, fun a m => ?_, fun i a e => ?_, ⟨_, _, rfl⟩⟩⟩
  · rcases List.mem_append.mp m with m | m
    · exact .inl m
    · rw [List.mem_singleton.mp m]; exact .inr hb
  · rw [List.getElem?_append_left (List.getElem?_eq_some_iff.mp e).1]; exact e

-- an item
theorem Ev.item {e1 e2 : Expr} {p : Pos} {o x : V} {xs : List V} {k : Int} (ho : Ev c F n e1 σ o σ1) (hi : Ev c F n e2 σ1 (.int k) σ2) (hx : σ2.items o = some xs) (h0 : 0 ≤ k) (hk : k < 2 ^ 63)
    (hg : xs[k.toNat]? = some x) (hs : ∀ a b, ∃ ops, subscripted e2 false a b = operate ops (getItem a b)) : Ev c F n (.Subscript e1 e2 p) σ x σ2 := fun A as s E ok I =>
  Subscript_ (wpAny_mono (ho A as s E ok I) (fun v1 s1 ⟨as1, I1, q1, S1⟩ =>
    wpAny_mono (hi A as1 s1 E ok I1) (fun v2 s2 ⟨as2, I2, q2, S2⟩ => by
      cases q2 with
      | int _ t =>
        obtain ⟨a, vs, m, rfl, e, r⟩ := I2.items (q1.stp S2) hx
        obtain ⟨v, ev, q⟩ := r.get hg
        exact sub_tail (is_list e).typeIs slot_list_getitem.lookup (wpAny_getItem_list (is_list e) h0 hk (by simpa using ev) ⟨as2, I2, q, S1.trans S2⟩) (hs _ _)) fun _ _ x => x) fun _ _ x => x)
theorem Ev.itemNeg {e1 e2 : Expr} {p : Pos} {o x : V} {xs : List V} {k : Int} (ho : Ev c F n e1 σ o σ1) (hi : Ev c F n e2 σ1 (.int k) σ2) (hx : σ2.items o = some xs) (h0 : k < 0) (hk : -(xs.length : Int) ≤ k) (hk2 : -(2 ^ 63) ≤ k)
    (hg : xs[(k + xs.length).toNat]? = some x) (hs : ∀ a b, ∃ ops, subscripted e2 false a b = operate ops (getItem a b)) : Ev c F n (.Subscript e1 e2 p) σ x σ2 := fun A as s E ok I =>
  Subscript_ (wpAny_mono (ho A as s E ok I) (fun v1 s1 ⟨as1, I1, q1, S1⟩ =>
    wpAny_mono (hi A as1 s1 E ok I1) (fun v2 s2 ⟨as2, I2, q2, S2⟩ => by
      cases q2 with
      | int _ t =>
        obtain ⟨a, vs, m, rfl, e, r⟩ := I2.items (q1.stp S2) hx
        obtain ⟨v, ev, q⟩ := r.get hg
        have hl := r.length
        exact sub_tail (is_list e).typeIs slot_list_getitem.lookup (wpAny_getItem_list_neg (is_list e) h0 (by simpa [← hl] using hk) hk2 (by simpa [← hl] using ev) ⟨as2, I2, q, S1.trans S2⟩) (hs _ _)) fun _ _ x => x) fun _ _ x => x)
theorem Ev.tupItem {e1 e2 : Expr} {p : Pos} {x : V} {xs : List V} {k : Int} {j : Nat} (ho : Ev c F n e1 σ (.tup xs) σ1) (hi : Ev c F n e2 σ1 (.int k) σ2) (h0 : -(2 ^ 63) ≤ k) (hk : k < 2 ^ 63) (hj : seqIndex? k xs.length = some j)
    (hg : xs[j]? = some x) (hs : ∀ a b, ∃ ops, subscripted e2 false a b = operate ops (getItem a b)) : Ev c F n (.Subscript e1 e2 p) σ x σ2 := fun A as s E ok I =>
  Subscript_ (wpAny_mono (ho A as s E ok I) (fun v1 s1 ⟨as1, I1, q1, S1⟩ =>
    wpAny_mono (hi A as1 s1 E ok I1) (fun v2 s2 ⟨as2, I2, q2, S2⟩ => by
      cases q2 with
      | int _ t =>
        cases q1.stp S2 with
        | tup hm e r =>
          obtain ⟨v, ev, q⟩ := r.get hg
          have hl := r.length
          exact sub_tail (is_tup e).typeIs slot_tuple_getitem.lookup (getItem_tuple (is_tup e) h0 hk (by simpa [← hl] using hj) (by simpa using ev) ⟨as2, I2, q, S1.trans S2⟩) (hs _ _)) fun _ _ x => x) fun _ _ x => x)
theorem Ev.neg {e : Expr} {p : Pos} {k : Int} (h : Ev c F n e σ (.int k) σ1) : Ev c F n (.UnaryOp .USub e p) σ (.int (-k)) σ1 := fun A as s E ok I =>
  UnaryOp_ (wpAny_mono (h A as s E ok I) (fun v s1 ⟨as1, I1, q, S⟩ => by
    cases q with
    | int _ t => exact PyProof.Rows.neg_int ⟨as1, I1, .int _ _, S.trans Stp.toks⟩) fun _ _ x => x)

-- slices
theorem push2_keeps {h : Heap} {o1 o2 : Obj} (a : Addr) (o : Obj) (e : h.get? a = some o) : ((h.push o1).push o2).get? a = some o := Heap.get?_push_of_some _ (Heap.get?_push_of_some _ e)
theorem push2_none {h : Heap} {o : Obj} : h.get? (h.push o).objs.size = none := Heap.get?_none_of_le (by rw [Heap.size_push]; exact Nat.le_succ _)
theorem none_of_lt {h h' : Heap} {a : Addr} (hk : ∀ a o, h.get? a = some o → h'.get? a = some o) (e : h'.get? a = none) : h.get? a = none := by
  cases q : h.get? a with
  | none => rfl
  | some o => rw [hk a o q] at e; cases e

theorem slice_core {value u1 : Expr} {lo up : Option Expr} {p p' : Pos} {o : V} {xs ys : List V} {lo' hi' : Option Int} {P : Value → Shared → Prop} {A : Around} {s : Shared} {E : Value → Shared → Prop}
    (ok : Okay n A) (I : Inv c.H0 F σ as0 s.heap) (ho : Ev c F n value σ o σ1)
    (hp : ∀ as1 s1, Inv c.H0 F σ1 as1 s1.heap → wpAny (model c.prog c.w) A (evalPart lo F.env) (fun l s2 => wpAny (model c.prog c.w) A (evalPart up F.env) (fun u s3 => ∃ as3, Inv c.H0 F σ2 as3 s3.heap ∧ Stp F as1 s1 as3 s3 ∧ IsPart l lo' ∧ IsPart u hi') E s2) E s1)
    (hx : σ2.items o = some xs) (hl : xs.length ≤ sizeLine)
    (hq : ∀ as3 s3 vs b h', Inv c.H0 F σ2 as3 s3.heap → Stp F as0 s as3 s3 → VRs (F.vol as3) as3 s3.heap xs vs → (∀ a o, s3.heap.get? a = some o → h'.get? a = some o) → s3.heap.get? b = none →
      h'.get? b = some { cls := .type "list", data := .seq (slicePick vs.toArray lo' hi' none) } → P (.ref b) { s3 with heap := h' }) :
    wpAny (model c.prog c.w) A (eval (.Subscript value (.Slice lo up none p') p) F.env) P E s := by
  refine Subscript_ (wpAny_mono (ho A as0 s E ok I) (fun v1 s1 ⟨as1, I1, q1, S1⟩ => ?_) fun _ _ x => x)
  refine wpAny_Slice (wpAny_mono (hp as1 s1 I1) (fun l s2 h2 => wpAny_mono h2 (fun u s3 ⟨as3, I3, S3, pl, pu⟩ => wpAny_pure ?_) fun _ _ x => x) fun _ _ x => x)
  obtain ⟨a, vs, m, rfl, e, r⟩ := I3.items (q1.stp S3) hx
  have e' : (s3.heap.push { cls := .type "slice", data := .fields #[l, u, Value.none] }).get? a = some (lobj vs m) := Heap.get?_push_of_some _ e
  refine sub_tail (is_list e').typeIs slot_list_getitem.lookup (wpAny_getItem_list_slice (is_list e') (Heap.IsSliceOf.new ..) pl pu .none (by simp) ?_ (by simpa [← r.length] using hl)) ⟨_, rfl⟩
  exact hq as3 s3 vs _ _ I3 (S1.trans S3) r push2_keeps push2_none (Heap.get?_push_size _ rfl)

theorem Ev.sliceTo {value u : Expr} {p p' : Pos} {o : V} {xs : List V} {k : Nat} (ho : Ev c F n value σ o σ1) (hu : Ev c F n u σ1 (.int (k : Int)) σ2) (hx : σ2.items o = some xs) (hl : xs.length ≤ sizeLine) :
    Ev c F n (.Subscript value (.Slice none (some u) none p') p) σ (.lst (xs.take k)) σ2 := fun A as s E ok I =>
  slice_core (u1 := u) (ys := []) (lo' := none) (hi' := some (k : Int)) ok I ho (fun as1 s1 I1 => wpAny_pure (wpAny_mono (hu A as1 s1 E ok I1) (fun v s3 ⟨as3, I3, q3, S3⟩ => by
      cases q3 with
      | int _ t => exact ⟨as3, I3, S3, .none, .int _ _⟩) fun _ _ x => x)) hx hl fun as3 s3 vs b h' I3 S3 r hk hb hn => by
    rw [slicePick_upto'] at hn
    exact Out.lst I3 S3 (r.take k) rfl h' _ hk hb hn
theorem Ev.sliceAll {value : Expr} {p p' : Pos} {o : V} {xs : List V} (ho : Ev c F n value σ o σ1) (hx : σ1.items o = some xs) (hl : xs.length ≤ sizeLine) :
    Ev c F n (.Subscript value (.Slice none none none p') p) σ (.lst xs) σ1 := fun A as s E ok I =>
  slice_core (u1 := value) (ys := []) (lo' := none) (hi' := none) ok I ho (fun as1 s1 I1 => wpAny_pure (wpAny_pure ⟨as1, I1, Stp.refl _ _ _, .none, .none⟩)) hx hl fun as3 s3 vs b h' I3 S3 r hk hb hn => by
    rw [slicePick_all] at hn
    exact Out.lst I3 S3 r rfl h' _ hk hb hn
theorem Ev.sliceAllMu {value : Expr} {p p' : Pos} {o : V} {xs : List V} (ho : Ev c F n value σ o σ1) (hx : σ1.items o = some xs) (hl : xs.length ≤ sizeLine) :
    Ev c F n (.Subscript value (.Slice none none none p') p) σ (.mu σ1.mu.length) ⟨σ1.loc, σ1.mu ++ [xs]⟩ := fun A as s E ok I =>
  slice_core (u1 := value) (ys := []) (lo' := none) (hi' := none) ok I ho (fun as1 s1 I1 => wpAny_pure (wpAny_pure ⟨as1, I1, Stp.refl _ _ _, .none, .none⟩)) hx hl fun as3 s3 vs b h' I3 S3 r hk hb hn => by
    rw [slicePick_all] at hn
    exact Out.mu I3 S3 r rfl h' _ hk hb hn

-- several values
theorem Evs.nil {p : Pos} : Evs c F n p [] σ [] σ := fun _ as s _ _ I => spliced_nil ⟨as, I, .nil, Stp.refl F as s⟩
theorem Evs.cons {p : Pos} {e : Expr} {es : List Expr} {v : V} {vs : List V} (h : Ev c F n e σ v σ1) (hr : Evs c F n p es σ1 vs σ2)
    (he : starEach (e :: es) F.env = (false, eval e F.env) :: starEach es F.env) : Evs c F n p (e :: es) σ (v :: vs) σ2 := fun A as s E ok I =>
  args_cons (wpAny_mono (h A as s E ok I) (fun v1 s1 ⟨as1, I1, q1, S1⟩ =>
    wpAny_mono (hr A as1 s1 E ok I1) (fun v2 s2 ⟨as2, I2, q2, S2⟩ => ⟨as2, I2, .cons (q1.stp S2) q2, S1.trans S2⟩) fun _ _ x => x) fun _ _ x => x) he
theorem Ev.tuple {es : List Expr} {k : Nat} {p : Pos} {vs : List V} (h : Evs c F n p es σ vs σ1) (hl : vs.length ≤ sizeLine) : Ev c F n (.Tuple es k p) σ (.tup vs) σ1 := fun A as s E ok I =>
  Tuple_ (wpAny_mono (h A as s E ok I) (fun ws s1 ⟨as1, I1, q1, S1⟩ =>
    wpAny_newObj_type (Out.tup I1 S1 q1 rfl _ _ (fun _ _ e => Heap.get?_push_of_some _ e) (size_none _) (Heap.get?_push_size _ rfl)) (by show ws.toArray.size ≤ sizeLine; rw [List.size_toArray, ← q1.length]; exact hl)) fun _ _ x => x)
theorem Ev.list {es : List Expr} {p : Pos} {vs : List V} (h : Evs c F n p es σ vs σ1) (hl : vs.length ≤ sizeLine) : Ev c F n (.List es p) σ (.lst vs) σ1 := fun A as s E ok I =>
  List_ (wpAny_mono (h A as s E ok I) (fun ws s1 ⟨as1, I1, q1, S1⟩ =>
    wpAny_newObj_type (Out.lst I1 S1 q1 rfl _ _ (fun _ _ e => Heap.get?_push_of_some _ e) (size_none _) (Heap.get?_push_size _ rfl)) (by show ws.toArray.size ≤ sizeLine; rw [List.size_toArray, ← q1.length]; exact hl)) fun _ _ x => x)
theorem Ev.listMu {es : List Expr} {p : Pos} {vs : List V} (h : Evs c F n p es σ vs σ1) (hl : vs.length ≤ sizeLine) : Ev c F n (.List es p) σ (.mu σ1.mu.length) ⟨σ1.loc, σ1.mu ++ [vs]⟩ := fun A as s E ok I =>
  List_ (wpAny_mono (h A as s E ok I) (fun ws s1 ⟨as1, I1, q1, S1⟩ =>
    wpAny_newObj_type (Out.mu I1 S1 q1 rfl _ _ (fun _ _ e => Heap.get?_push_of_some _ e) (size_none _) (Heap.get?_push_size _ rfl)) (by show ws.toArray.size ≤ sizeLine; rw [List.size_toArray, ← q1.length]; exact hl)) fun _ _ x => x)

-- [x] * k
theorem fold_repl (v : Value) (k : Nat) : List.foldl (fun (x1 x2 : Array Value) => x1 ++ x2) #[] (List.replicate k #[v]) = (List.replicate k v).toArray := by
  have : ∀ (k : Nat) (acc : Array Value), List.foldl (fun (x1 x2 : Array Value) => x1 ++ x2) acc (List.replicate k #[v]) = acc ++ (List.replicate k v).toArray := by
    intro k
    induction k with
    | zero => intro acc; simp
    | succ k ih => intro acc; rw [List.replicate_succ, List.foldl_cons, ih]; apply Array.ext'; simp [List.replicate_succ]
  rw [this]; simp
theorem mul_raw0 {prog : Program} {w : World} {A : Around} {E : Value → Shared → Prop} {s : Shared} {l : Addr} {items : Array Value} {k : Nat} {x : Int} {u : Tok} {Q : Value → Shared → Prop}
    (hl : s.heap.get? l = some { cls := .type "list", dict := none, data := .seq items k, slots := #[] })
    (hlo : -(2 ^ 63 : Int) ≤ x) (hhi : x < 2 ^ 63) (hsz : items.size * x.toNat ≤ 2 ^ 24)
    (h : Q (.ref s.heap.objs.size) { s with heap := s.heap.push { cls := .type "list", data := .seq (List.foldl (fun x1 x2 => x1 ++ x2) #[] (List.replicate (if items.isEmpty = true then 0 else x.toNat) items)) } }) :
    wpAny (model prog w) A (binaryOp .Mult (.ref l) (.int x u)) Q E s :=
  wpAny_binaryOp_repeat_ref (T := "list") (U := "int") (by decide) ⟨_, hl, rfl⟩ (fun s' => typeIs_int s' x u) noFill_list_mul F.fills_int_mul F.slot_int_rmul repeat_list F.slot_int_index.lookup
    (call_meets F.slot_int_rmul (typeIs_int s x u) F.entry_int_rmul (F.args_int_rmul_2 _ _) (int___rmul___int_list x u l items k)
      ⟨hl, rfl, ⟨_, hl, rfl⟩, call_meets F.slot_list_mul ⟨_, hl, rfl⟩ F.entry_list_mul (F.args_list_mul_2 _ _)
        (AutoListH.list___mul___list_int_3 l items k x u (by simp [Builtin.List.listFitsIndex]; omega) (by omega) (by simp [Builtin.List.listTooLong, sizeLine]; omega))
        ⟨hl, h⟩⟩)
theorem mul_raw {prog : Program} {w : World} {A : Around} {E : Value → Shared → Prop} {s : Shared} {l : Addr} {v : Value} {k : Nat} {x : Nat} {u : Tok} {Q : Value → Shared → Prop}
    (hl : s.heap.get? l = some (lobj [v] k)) (hhi : x ≤ 1000000)
    (h : Q (.ref s.heap.objs.size) { s with heap := s.heap.push (lobj (List.replicate x v) 0) }) :
    wpAny (model prog w) A (binaryOp .Mult (.ref l) (.int (x : Int) u)) Q E s := by
  have e : List.foldl (fun (x1 x2 : Array Value) => x1 ++ x2) #[] (List.replicate (if (List.toArray [v]).isEmpty = true then 0 else ((x : Nat) : Int).toNat) (List.toArray [v])) = (List.replicate x v).toArray := by
    rw [show (List.toArray [v]).isEmpty = false from rfl]
    simpa using fold_repl v x
  refine mul_raw0 hl (by omega) (by omega) (by rw [Int.toNat_natCast, List.size_toArray, List.length_singleton]; omega) ?_
  rw [e]; exact h
theorem repl_core {y r : Expr} {p p' : Pos} {v : V} {k : Nat} {P : Value → Shared → Prop} {A : Around} {s : Shared} {E : Value → Shared → Prop} (ok : Okay n A) (I : Inv c.H0 F σ as0 s.heap)
    (hy : Ev c F n y σ v σ1) (hr : Ev c F n r σ1 (.int (k : Int)) σ2) (hk : k ≤ 1000000) (he : starEach [y] F.env = [(false, eval y F.env)])
    (hq : ∀ as3 s3 v' h' b, Inv c.H0 F σ2 as3 s3.heap → Stp F as0 s as3 s3 → VR (F.vol as3) as3 s3.heap v v' → (∀ a o, s3.heap.get? a = some o → h'.get? a = some o) → s3.heap.get? b = none →
      h'.get? b = some (lobj (List.replicate k v') 0) → P (.ref b) { s3 with heap := h' }) :
    wpAny (model c.prog c.w) A (eval (.BinOp (.List [y] p') .Mult r p) F.env) P E s := by
  have hl : Ev c F n (.List [y] p') σ (.lst [v]) σ1 := Ev.list (Evs.cons hy Evs.nil he) (by simp [sizeLine])
  refine wpAny_BinOp (wpAny_mono (hl A as0 s E ok I) (fun v1 s1 ⟨as1, I1, q1, S1⟩ => wpAny_mono (hr A as1 s1 E ok I1) (fun v2 s2 ⟨as2, I2, q2, S2⟩ => ?_) fun _ _ x => x) fun _ _ x => x)
  cases q2 with
  | int _ t =>
    cases q1.stp S2 with
    | lst hm e r' =>
      cases r' with
      | cons q r'' =>
        cases r''
        exact mul_raw e hk (hq as2 s2 _ _ _ I2 (S1.trans S2) q (fun _ _ e => Heap.get?_push_of_some _ e) (size_none _) (Heap.get?_push_size _ rfl))
theorem Ev.repl {y r : Expr} {p p' : Pos} {v : V} {k : Nat} (hy : Ev c F n y σ v σ1) (hr : Ev c F n r σ1 (.int (k : Int)) σ2) (hk : k ≤ 1000000) (he : starEach [y] F.env = [(false, eval y F.env)]) :
    Ev c F n (.BinOp (.List [y] p') .Mult r p) σ (.lst (List.replicate k v)) σ2 := fun A as s E ok I =>
  repl_core ok I hy hr hk he fun as3 s3 v' h' b I3 S3 q hk hb hn => Out.lst I3 S3 (VRs.repl q k) rfl h' _ hk hb hn
theorem Ev.replMu {y r : Expr} {p p' : Pos} {v : V} {k : Nat} (hy : Ev c F n y σ v σ1) (hr : Ev c F n r σ1 (.int (k : Int)) σ2) (hk : k ≤ 1000000) (he : starEach [y] F.env = [(false, eval y F.env)]) :
    Ev c F n (.BinOp (.List [y] p') .Mult r p) σ (.mu σ2.mu.length) ⟨σ2.loc, σ2.mu ++ [List.replicate k v]⟩ := fun A as s E ok I =>
  repl_core ok I hy hr hk he fun as3 s3 v' h' b I3 S3 q hk hb hn => Out.mu I3 S3 (VRs.repl q k) rfl h' _ hk hb hn

-- calls of built-ins by their names
theorem Ev.len {x : Str} {p pos : Pos} {e : Expr} {o : V} {xs : List V} (hf : Ev c F n (.Name x p) σ (.raw (.builtin "len")) σ) (h : Ev c F n e σ o σ1) (hx : σ1.items o = some xs) (hl : xs.length ≤ sizeLine)
    (he : starEach [e] F.env = [(false, eval e F.env)]) : Ev c F n (.Call (.Name x p) [e] [] pos) σ (.int (xs.length : Int)) σ1 := fun A as s E ok I =>
  Call_ (wpAny_mono (hf A as s E ok I) (fun f s1 ⟨as1, I1, q1, S1⟩ => by
    cases q1 with
    | raw _ =>
      refine callWith_builtin1 (args_cons (wpAny_mono (h A as1 s1 E ok I1) (fun v2 s2 ⟨as2, I2, q2, S2⟩ => args_nil ?_) fun _ _ x => x) he) he rfl
      obtain ⟨a, vs, m, rfl, e, r⟩ := I2.items q2 hx
      have hl' : vs.toArray.size = xs.length := by rw [List.size_toArray, r.length]
      have hz : sizeLine = 16777216 := rfl
      exact Calls.call_len_list (is_list e) (by rw [hl']; omega) (by rw [hl']; exact ⟨as2, I2, .int _ _, (S1.trans S2).trans Stp.toks⟩)) fun _ _ x => x)
theorem Ev.abs {x : Str} {p pos : Pos} {e : Expr} {k : Int} (hf : Ev c F n (.Name x p) σ (.raw (.builtin "abs")) σ) (h : Ev c F n e σ (.int k) σ1)
    (he : starEach [e] F.env = [(false, eval e F.env)]) : Ev c F n (.Call (.Name x p) [e] [] pos) σ (.int (k.natAbs : Int)) σ1 := fun A as s E ok I =>
  Call_ (wpAny_mono (hf A as s E ok I) (fun f s1 ⟨as1, I1, q1, S1⟩ => by
    cases q1 with
    | raw _ =>
      refine callWith_builtin1 (args_cons (wpAny_mono (h A as1 s1 E ok I1) (fun v2 s2 ⟨as2, I2, q2, S2⟩ => args_nil ?_) fun _ _ x => x) he) he rfl
      cases q2 with
      | int _ t =>
        refine call_abs_int fun u tk => ⟨as2, I2, ?_, (S1.trans S2).trans Stp.toks⟩
        have : (if k < 0 then -k else k) = (k.natAbs : Int) := by split <;> omega
        rw [this]; exact .int _ _) fun _ _ x => x)
theorem Ev.toInt {x : Str} {p pos : Pos} {e : Expr} {k : Int} (hf : Ev c F n (.Name x p) σ (.raw (.type "int")) σ) (h : Ev c F n e σ (.int k) σ1)
    (he : starEach [e] F.env = [(false, eval e F.env)]) : Ev c F n (.Call (.Name x p) [e] [] pos) σ (.int k) σ1 := fun A as s E ok I =>
  Call_ (wpAny_mono (hf A as s E ok I) (fun f s1 ⟨as1, I1, q1, S1⟩ => by
    cases q1 with
    | raw _ =>
      refine callWith_type1 (args_cons (wpAny_mono (h A as1 s1 E ok I1) (fun v2 s2 ⟨as2, I2, q2, S2⟩ => args_nil ?_) fun _ _ x => x) he) he rfl
      cases q2 with
      | int _ t => exact call_int_int ⟨as2, I2, .int _ _, S1.trans S2⟩) fun _ _ x => x)
end

-- Lg6
inductive Fl where
  | next
  | ret (v : V)
inductive FlR (O as : List Addr) (h : Heap) : Fl → Flow → Prop
  | next : FlR O as h .next .next
  | ret {v v'} : VR O as h v v' → FlR O as h (.ret v) (.ret v')

def Ex (c : Cx) (F : Fm) (n : Nat) (t : Stmt) (σ : St) (f : Fl) (σ' : St) : Prop :=
  Tr c.prog c.w c.H0 F n (exec t F.env) σ (fun as h r => FlR (F.vol as) as h f r) σ'
def Exs (c : Cx) (F : Fm) (n : Nat) (ts : List Stmt) (σ : St) (f : Fl) (σ' : St) : Prop :=
  Tr c.prog c.w c.H0 F n (execs ts F.env) σ (fun as h r => FlR (F.vol as) as h f r) σ'
def Asg (c : Cx) (F : Fm) (n : Nat) (t : Expr) (v : V) (σ σ' : St) : Prop :=
  ∀ A as s E v', Okay n A → Inv c.H0 F σ as s.heap → VR (F.vol as) as s.heap v v' →
    wpAny (model c.prog c.w) A (assign t F.env v') (fun _ s' => ∃ as', Inv c.H0 F σ' as' s'.heap ∧ Stp F as s as' s') E s

section
variable {c : Cx} {F : Fm} {n : Nat} {σ σ1 σ2 σ3 : St} {as as0 : List Addr} {s0 : Shared}

theorem Exs.nil : Exs c F n [] σ .next σ := fun _ as s _ _ I => wpAny_execs_nil ⟨as, I, .next, Stp.refl F as s⟩
theorem Exs.cons {t : Stmt} {ts : List Stmt} {f : Fl} (h : Ex c F n t σ .next σ1) (hr : Exs c F n ts σ1 f σ2) : Exs c F n (t :: ts) σ f σ2 := fun A as s E ok I =>
  wpAny_execs_cons (wpAny_mono (h A as s E ok I) (fun v s1 ⟨as1, I1, q, S⟩ => by
    cases q
    exact wpAny_mono (hr A as1 s1 E ok I1) (fun v s2 ⟨as2, I2, q2, S2⟩ => ⟨as2, I2, q2, S.trans S2⟩) fun _ _ x => x) fun _ _ x => x)
theorem Exs.ret {t : Stmt} {ts : List Stmt} {v : V} (h : Ex c F n t σ (.ret v) σ1) : Exs c F n (t :: ts) σ (.ret v) σ1 := fun A as s E ok I =>
  wpAny_execs_cons (wpAny_mono (h A as s E ok I) (fun v s1 ⟨as1, I1, q, S⟩ => by
    cases q with
    | ret q => exact ⟨as1, I1, .ret q, S⟩) fun _ _ x => x)
theorem Exs.weaken {ts : List Stmt} {f : Fl} {loc : List (Str × V)} (h : Exs c F n ts σ f σ1) (hw : ∀ x v, loc.lookup x = some v → σ1.loc.lookup x = some v) : Exs c F n ts σ f ⟨loc, σ1.mu⟩ :=
  fun A as s E ok I => wpAny_mono (h A as s E ok I) (fun _ _ ⟨as', I', q, S⟩ => ⟨as', I'.weaken hw, q, S⟩) fun _ _ x => x
theorem Exs.pre {ts : List Stmt} {f : Fl} {loc : List (Str × V)} (h : Exs c F n ts ⟨loc, σ.mu⟩ f σ1) (hw : ∀ x v, loc.lookup x = some v → σ.loc.lookup x = some v) : Exs c F n ts σ f σ1 :=
  fun A as s E ok I => h A as s E ok (I.weaken hw)
theorem Ex.ret {e : Expr} {p : Pos} {v : V} (h : Ev c F n e σ v σ1) : Ex c F n (.Return (some e) p) σ (.ret v) σ1 := fun A as s E ok I =>
  wpAny_Return_some (wpAny_mono (h A as s E ok I) (fun v s1 ⟨as1, I1, q, S⟩ => ⟨as1, I1, .ret q, S⟩) fun _ _ x => x)
theorem Ex.if {t : Expr} {a b : List Stmt} {p : Pos} {k : Bool} {f : Fl} (ht : Tst c F n t σ k σ1) (h1 : k = true → Exs c F n a σ1 f σ2) (h0 : k = false → Exs c F n b σ1 f σ2) : Ex c F n (.If t a b p) σ f σ2 := fun A as s E ok I =>
  wpAny_If (wpAny_mono (ht A as s E ok I) (fun r s1 ⟨as1, I1, q, S⟩ => by
    subst q
    cases r with
    | true => exact wpAny_mono (h1 rfl A as1 s1 E ok I1) (fun v s2 ⟨as2, I2, q2, S2⟩ => ⟨as2, I2, q2, S.trans S2⟩) fun _ _ x => x
    | false => exact wpAny_mono (h0 rfl A as1 s1 E ok I1) (fun v s2 ⟨as2, I2, q2, S2⟩ => ⟨as2, I2, q2, S.trans S2⟩) fun _ _ x => x) fun _ _ x => x)

-- stores
theorem Stp.own {s : Shared} {h' : Heap} {tk : Nat} {a : Addr} (hm : a ∈ F.own ++ as) (hs : Heap.SameBut a s.heap h') (ha : ∃ o, h'.get? a = some o) : Stp F as s as { s with heap := h', toks := tk } :=
  ⟨fun b o nb e => hs.extBut b o (fun z => nb (z ▸ hm)) e, fun b o e => by
    by_cases z : b = a
    · exact z ▸ ha
    · exact ⟨o, hs.extBut b o z e⟩, fun _ m => .inl m, fun _ _ e => e, ⟨_, _, rfl⟩⟩

theorem store_loc {A : Around} {E : Value → Shared → Prop} {s : Shared} {x : Str} {v : V} {v' : Value} (hl : F.env.kindOf x = some .local) (hk : F.env.scope.kind = .function) (I : Inv c.H0 F σ as s.heap) (q : VR (F.vol as) as s.heap v v') :
    wpAny (model c.prog c.w) A (storeName F.env x v') (fun _ s' => ∃ as', Inv c.H0 F ⟨(x, v) :: σ.loc, σ.mu⟩ as' s'.heap ∧ Stp F as s as' s') E s := by
  obtain ⟨m, hn, r⟩ := I.ns
  refine wpAny_storeName_local hl hn (fun h' hn' hs => ⟨as, I.setLoc r hl q hn' hs, Stp.own (List.mem_append_left _ own_loc) hs ?_⟩) (by rw [hk]; rfl)
  obtain ⟨o, _, _, e, _⟩ := hn'; exact ⟨o, e⟩
theorem store_cell {A : Around} {E : Value → Shared → Prop} {s : Shared} {x : Str} {v : V} {v' : Value} {cx : Addr} (hl : F.env.kindOf x = some .cell) (hk : F.env.scope.kind = .function) (hc : F.env.cells.lookup x = some cx)
    (hcm : cx ∈ F.wc) (hap : F.env.cells.Pairwise fun x y => x.2 ≠ y.2) (I : Inv c.H0 F σ as s.heap) (q : VR (F.vol as) as s.heap v v') :
    wpAny (model c.prog c.w) A (storeName F.env x v') (fun _ s' => ∃ as', Inv c.H0 F ⟨(x, v) :: σ.loc, σ.mu⟩ as' s'.heap ∧ Stp F as s as' s') E s := by
  obtain ⟨v0, q0⟩ := I.cex cx hcm
  refine wpAny_storeName_cell hk hl hc q0 (fun h' hn' hs => ⟨as, I.setCell (by rw [hl]; simp) hc hcm hap q hn' hs, Stp.own (List.mem_append_left _ (own_cell hcm)) hs ?_⟩)
  obtain ⟨o, e, _⟩ := hn'; exact ⟨o, e⟩

theorem Asg.loc {x : Str} {p : Pos} {v : V} (hl : F.env.kindOf x = some .local) (hk : F.env.scope.kind = .function) : Asg c F n (.Name x p) v σ ⟨(x, v) :: σ.loc, σ.mu⟩ := fun _ _ _ _ _ _ I q =>
  PyProof.Rows.assign_Name (store_loc hl hk I q)
theorem Asg.cell {x : Str} {p : Pos} {v : V} {cx : Addr} (hl : F.env.kindOf x = some .cell) (hk : F.env.scope.kind = .function) (hc : F.env.cells.lookup x = some cx)
    (hcm : cx ∈ F.wc) (hap : F.env.cells.Pairwise fun x y => x.2 ≠ y.2) : Asg c F n (.Name x p) v σ ⟨(x, v) :: σ.loc, σ.mu⟩ := fun _ _ _ _ _ _ I q =>
  PyProof.Rows.assign_Name (store_cell hl hk hc hcm hap I q)

theorem set_core {A : Around} {E : Value → Shared → Prop} {s : Shared} {i : Nat} {a : Addr} {xs : List V} {k : Int} {t : Tok} {v : V} {v' : Value} (I : Inv c.H0 F σ as s.heap) (ha : as[i]? = some a) (hx : σ.mu[i]? = some xs)
    (h0 : 0 ≤ k) (hk : k < xs.length) (hk2 : k < 2 ^ 63) (q : VR (F.vol as) as s.heap v v') :
    wpAny (model c.prog c.w) A (setItem (.ref a) (.int k t) v') (fun _ s' => ∃ as', Inv c.H0 F ⟨σ.loc, σ.mu.set i (xs.set k.toNat v)⟩ as' s'.heap ∧ Stp F as s as' s') E s := by
  obtain ⟨b, vs, m, e1, e2, r⟩ := I.muts i xs hx
  rw [ha] at e1; cases e1
  have hl := r.length
  refine ki_setAt e2 h0 hk2 (by rw [List.size_toArray, ← hl]; exact hk) ?_
  have e : Obj.mapSeq (·.setIfInBounds k.toNat v') (lobj vs m) = lobj (vs.set k.toNat v') m := by
    simp [Obj.mapSeq]
  have hn : (s.heap.update a (Obj.mapSeq (·.setIfInBounds k.toNat v'))).get? a = some (lobj (vs.set k.toNat v') m) := by
    rw [Heap.get?_update_self _ e2 (by rw [e]; rfl), e]
  exact ⟨as, I.setMu ha hn (r.set q) (Heap.SameBut.update ..), Stp.own (tk := s.toks) (List.mem_append_right _ (List.mem_of_getElem? ha)) (Heap.SameBut.update ..) ⟨_, hn⟩⟩

theorem Ex.setItem {o i e : Expr} {p' p : Pos} {v : V} {j : Nat} {xs : List V} {k : Int} (he : Ev c F n e σ v σ1) (ho : Ev c F n o σ1 (.mu j) σ2) (hi : Ev c F n i σ2 (.int k) σ3) (hx : σ3.mu[j]? = some xs)
    (h0 : 0 ≤ k) (hk : k < xs.length) (hk2 : k < 2 ^ 63) (hs : swapsWith e (some (.Subscript o i p')) p.line F.env = pure false) :
    Ex c F n (.Assign [.Subscript o i p'] e p) σ .next ⟨σ3.loc, σ3.mu.set j (xs.set k.toNat v)⟩ := fun A as s E ok I =>
  wpAny_Assign_Subscript (wpAny_mono (he A as s E ok I) (fun v1 s1 ⟨as1, I1, q1, S1⟩ => wpAny_mono (ho A as1 s1 E ok I1) (fun v2 s2 ⟨as2, I2, q2, S2⟩ => wpAny_mono (hi A as2 s2 E ok I2) (fun v3 s3 ⟨as3, I3, q3, S3⟩ => by
    cases q2.stp S3 with
    | mu ea =>
      cases q3 with
      | int _ t =>
        exact wpAny_mono (set_core I3 ea hx h0 hk hk2 ((q1.stp S2).stp S3)) (fun _ s4 ⟨as4, I4, S4⟩ => ⟨as4, I4, .next, ((S1.trans S2).trans S3).trans S4⟩) fun _ _ x => x) fun _ _ x => x) fun _ _ x => x) fun _ _ x => x) hs
theorem Asg.item {o i : Expr} {p : Pos} {v : V} {j : Nat} {xs : List V} {k : Int} (ho : Ev c F n o σ (.mu j) σ1) (hi : Ev c F n i σ1 (.int k) σ2) (hx : σ2.mu[j]? = some xs)
    (h0 : 0 ≤ k) (hk : k < xs.length) (hk2 : k < 2 ^ 63) : Asg c F n (.Subscript o i p) v σ ⟨σ2.loc, σ2.mu.set j (xs.set k.toNat v)⟩ := fun A as s E v' ok I q => by
  rw [assign_Subscript]
  refine wpAny_bind (wpAny_holding (wpAny_mono (ho A as s E ok I) (fun v2 s2 ⟨as2, I2, q2, S2⟩ => wpAny_bind (wpAny_holding (wpAny_mono (hi A as2 s2 E ok I2) (fun v3 s3 ⟨as3, I3, q3, S3⟩ => wpAny_bind (wpAny_standAt (wpAny_bind (wpAny_holding ?_)))) fun _ _ x => x))) fun _ _ x => x))
  cases q2.stp S3 with
  | mu ea =>
    cases q3 with
    | int _ t =>
      refine wpAny_mono (set_core I3 ea hx h0 hk hk2 ((q.stp S2).stp S3)) (fun _ s4 ⟨as4, I4, S4⟩ => ?_) fun _ _ x => x
      exact fun Γ p hΓ => by rw [Sem.wp_release]; exact ⟨as4, I4, (S2.trans S3).trans S4⟩

theorem Ex.assign {x : Str} {p' p : Pos} {e : Expr} {v : V} (h : Ev c F n e σ v σ1) (hl : F.env.kindOf x = some .local) (hk : F.env.scope.kind = .function)
    (hs : swapsWith e (some (.Name x p')) p.line F.env = pure false) : Ex c F n (.Assign [.Name x p'] e p) σ .next ⟨(x, v) :: σ1.loc, σ1.mu⟩ := fun A as s E ok I =>
  wpAny_Assign_Name (wpAny_mono (h A as s E ok I) (fun v1 s1 ⟨as1, I1, q1, S1⟩ => wpAny_mono (store_loc hl hk I1 q1) (fun _ s2 ⟨as2, I2, S2⟩ => ⟨as2, I2, .next, S1.trans S2⟩) fun _ _ x => x) fun _ _ x => x) hs
theorem Ex.aug {x : Str} {p' p : Pos} {op : Operator} {e : Expr} {a b k : Int} (hv : σ.loc.lookup x = some (.int a)) (h : Ev c F n e σ (.int b) σ1) (ho : IopOp op a b k) (hl : F.env.kindOf x = some .local) (hk : F.env.scope.kind = .function) :
    Ex c F n (.AugAssign (.Name x p') op e p) σ .next ⟨(x, .int k) :: σ1.loc, σ1.mu⟩ := fun A as s E ok I => by
  obtain ⟨m, hn, r⟩ := I.ns
  obtain ⟨v', ev, q⟩ := r x _ hv hl
  cases q with
  | int _ t =>
    refine wpAny_AugAssign_Name (wpAny_loadName_local hk hl hn ev (wpAny_mono (h A as s E ok I) (fun v2 s2 ⟨as2, I2, q2, S2⟩ => ?_) fun _ _ x => x))
    cases q2 with
    | int _ u =>
      exact ho _ _ A E s2 t u _ fun w tk => wpAny_mono (store_loc (s := { s2 with toks := tk }) hl hk I2 (.int _ _)) (fun _ s3 ⟨as3, I3, S3⟩ => ⟨as3, I3, .next, (S2.trans Stp.toks).trans S3⟩) fun _ _ x => x

-- tuples unpacked
def AsgL (c : Cx) (F : Fm) (n : Nat) (ts : List Expr) (vs : List V) (σ σ' : St) : Prop :=
  ∀ A as s E vs', Okay n A → Inv c.H0 F σ as s.heap → VRs (F.vol as) as s.heap vs vs' →
    wpAny (model c.prog c.w) A (assignInOrder ((assignEach ts F.env).map (·.2)) vs') (fun _ s' => ∃ as', Inv c.H0 F σ' as' s'.heap ∧ Stp F as s as' s') E s
theorem AsgL.nil : AsgL c F n [] [] σ σ := fun _ as s _ _ _ I q => by
  cases q
  exact wpAny_pure ⟨as, I, Stp.refl F as s⟩
theorem AsgL.cons {t : Expr} {ts : List Expr} {v : V} {vs : List V} (h : Asg c F n t v σ σ1) (hr : AsgL c F n ts vs σ1 σ2) (he : assignEach (t :: ts) F.env = (false, assign t F.env) :: assignEach ts F.env) : AsgL c F n (t :: ts) (v :: vs) σ σ2 := fun A as s E vs' ok I q => by
  cases q with
  | cons q r =>
    rw [he]
    refine wpAny_bind (wpAny_holding (wpAny_mono (h A as s E _ ok I q) (fun _ s1 ⟨as1, I1, S1⟩ => ?_) fun _ _ x => x))
    exact wpAny_mono (hr A as1 s1 E _ ok I1 (r.stp S1)) (fun _ s2 ⟨as2, I2, S2⟩ => ⟨as2, I2, S1.trans S2⟩) fun _ _ x => x
theorem ext_keeps {h h' : Heap} (e : Heap.ExtBut h.objs.size h h') : ∀ a o, h.get? a = some o → h'.get? a = some o := fun a o q => e a o (Nat.ne_of_lt (Heap.lt_size q)) q
theorem Asg.tuple {ts : List Expr} {k : Nat} {p : Pos} {vs : List V} (h : AsgL c F n ts vs σ σ1) (hn : (assignEach ts F.env).length = vs.length) (hst : (assignEach ts F.env).findIdx? (·.1) = none) :
    Asg c F n (.Tuple ts k p) (.tup vs) σ σ1 := fun A as s E v' ok I q => by
  cases q with
  | tup hm e r =>
    refine wpAny_assign_Tuple ok.h (is_tup e) (by rw [List.size_toArray, ← r.length]; exact hn) hst fun h' hx => ?_
    have hk := ext_keeps hx
    exact wpAny_mono (h A as { s with heap := h' } E _ ok (I.keeps hk) (r.keeps hk)) (fun _ s2 ⟨as2, I2, S2⟩ => ⟨as2, I2, (Stp.keeps hk ⟨_, _, rfl⟩).trans S2⟩) fun _ _ x => x
theorem Ex.assignT {ts : List Expr} {k : Nat} {p' p : Pos} {e : Expr} {v : V} (h : Ev c F n e σ v σ1) (ha : Asg c F n (.Tuple ts k p') v σ1 σ2)
    (hs : swapsWithSole [.Tuple ts k p'] e p.line F.env = pure false) (hw : swappedStores [.Tuple ts k p'] e F.env = pure none) : Ex c F n (.Assign [.Tuple ts k p'] e p) σ .next σ2 := fun A as s E ok I =>
  PyProof.Rows.Assign_Tuple (wpAny_mono (h A as s E ok I) (fun v1 s1 ⟨as1, I1, q1, S1⟩ => wpAny_mono (ha A as1 s1 E _ ok I1 q1) (fun _ s2 ⟨as2, I2, S2⟩ => ⟨as2, I2, .next, S1.trans S2⟩) fun _ _ x => x) fun _ _ x => x) hs hw
-- the stores of a pair or a triple of names go from the last
def BndL (c : Cx) (F : Fm) (n : Nat) (xs : List Str) (vs : List V) (σ σ' : St) : Prop :=
  ∀ A as s E vs', Okay n A → Inv c.H0 F σ as s.heap → VRs (F.vol as) as s.heap vs vs' →
    wpAny (model c.prog c.w) A (assignInOrder (xs.map fun x => bindName F.env x) vs') (fun _ s' => ∃ as', Inv c.H0 F σ' as' s'.heap ∧ Stp F as s as' s') E s
theorem BndL.nil : BndL c F n [] [] σ σ := fun _ as s _ _ _ I q => by
  cases q
  exact wpAny_pure ⟨as, I, Stp.refl F as s⟩
theorem BndL.cons {x : Str} {xs : List Str} {v : V} {vs : List V} (hl : F.env.kindOf x = some .local) (hk : F.env.scope.kind = .function) (hr : BndL c F n xs vs ⟨(x, v) :: σ.loc, σ.mu⟩ σ2) : BndL c F n (x :: xs) (v :: vs) σ σ2 := fun A as s E vs' ok I q => by
  cases q with
  | cons q r =>
    refine wpAny_bind (wpAny_holding (wpAny_bindName (wpAny_mono (store_loc hl hk I q) (fun _ s1 ⟨as1, I1, S1⟩ => ?_) fun _ _ x => x)))
    exact wpAny_mono (hr A as1 s1 E _ ok I1 (r.stp S1)) (fun _ s2 ⟨as2, I2, S2⟩ => ⟨as2, I2, S1.trans S2⟩) fun _ _ x => x
theorem VRs.reverse {O as : List Addr} {h : Heap} : ∀ {xs : List V} {vs : List Value}, VRs O as h xs vs → VRs O as h xs.reverse vs.reverse
  | _, _, .nil => .nil
  | _, _, .cons x r => by rw [List.reverse_cons, List.reverse_cons]; exact (VRs.reverse r).append (.cons x .nil)
theorem Ex.assignS {ts : List Expr} {k : Nat} {p' p : Pos} {e : Expr} {vs : List V} {names : List Str} (h : Ev c F n e σ (.tup vs) σ1) (hb : BndL c F n names.reverse vs.reverse σ1 σ2) (hn : names.length = vs.length)
    (hs : swapsWithSole [.Tuple ts k p'] e p.line F.env = pure false) (hw : swappedStores [.Tuple ts k p'] e F.env = pure (some names)) : Ex c F n (.Assign [.Tuple ts k p'] e p) σ .next σ2 := fun A as s E ok I =>
  PyProof.Rows.Assign_Tuple_swapped (wpAny_mono (h A as s E ok I) (fun v1 s1 ⟨as1, I1, q1, S1⟩ => by
    cases q1 with
    | @tup a ws k xs hm e r =>
      have hl := r.length
      have h9 : names.length = ws.toArray.size := by rw [hn, hl, List.size_toArray]
      rw [h9]
      refine wpAny_unpackItems_tuple ok.h (is_tup e) fun h' hx => ?_
      have hk := ext_keeps hx
      exact wpAny_mono (hb A as1 { s1 with heap := h' } E _ ok (I1.keeps hk) ((r.keeps hk).reverse)) (fun _ s2 ⟨as2, I2, S2⟩ => ⟨as2, I2, .next, (S1.trans (Stp.keeps hk ⟨_, _, rfl⟩)).trans S2⟩) fun _ _ x => x) fun _ _ x => x) hs hw

-- x.append(e)
theorem Ex.append {o e : Expr} {pa pc p : Pos} {v : V} {j : Nat} {xs : List V} (ho : Ev c F n o σ (.mu j) σ1) (he : Ev c F n e σ1 v σ2) (hx : σ2.mu[j]? = some xs) (hl : xs.length ≤ 1000000)
    (hbase : attributeBase o "append" F.env (eval o F.env) = eval o F.env) (hx1 : ∃ ys, σ1.mu[j]? = some ys)
    (hfew : ((backTo pc (starEach [e] F.env)).all (fun x => !x.1) && (backToKw pc (keywordEach [] F.env)).all (fun x => x.1.isSome)
      && decide (([e] : List Expr).length + ([] : List Keyword).length + (if ([] : List Keyword).isEmpty then 0 else 1) < 30)) = true)
    (hline : (pa.endLine == pc.line) = true)
    (htrees : backTo pc (starEach [e] F.env) = [(false, eval e F.env)])
    (hi : interactive F.env = false) (hs : swapsWith (.Call (.Attribute o "append" pa) [e] [] pc) none p.line F.env = pure false) :
    Ex c F n (.Expr (.Call (.Attribute o "append" pa) [e] [] pc) p) σ .next ⟨σ2.loc, σ2.mu.set j (xs ++ [v])⟩ := fun A as s E ok I => by
  refine wpAny_Expr (wpAny_Call_append hbase hfew hline htrees (wpAny_mono (ho A as s E ok I) (fun v1 s1 ⟨as1, I1, q1, S1⟩ => ?_) fun _ _ x => x)) hi hs
  cases q1 with
  | @mu _ a0 ea =>
    obtain ⟨ys, hy⟩ := hx1
    obtain ⟨a, vs, m, e1, e2, r⟩ := I1.muts j ys hy
    rw [ea] at e1; cases e1
    refine ⟨_, vs.toArray, rfl, ⟨_, m, e2, rfl, rfl, rfl⟩, wpAny_mono (he A as1 s1 E ok I1) (fun v2 s2 ⟨as2, I2, q2, S2⟩ => ?_) fun _ _ x => x⟩
    obtain ⟨b, ws, m', e1', e2', r'⟩ := I2.muts j xs hx
    have ea' := S2.pre _ _ ea
    rw [ea'] at e1'; cases e1'
    have hz : sizeLine = 16777216 := rfl
    refine wpAny_list_append_plain (plain_list e2') (fun h' hp hs => ?_) (by rw [List.size_toArray, ← r'.length]; omega)
    obtain ⟨m2, hn⟩ := hp
    have hn' : h'.get? a0 = some (lobj (ws ++ [v2]) m2) := by rw [hn]; simp
    exact ⟨as2, I2.setMu ea' hn' (r'.append (.cons q2 .nil)) hs, .next, (S1.trans S2).trans (Stp.own (tk := s2.toks) (List.mem_append_right _ (List.mem_of_getElem? ea')) hs ⟨_, hn'⟩)⟩
end

-- Lg7
abbrev Fm.plus (F : Fm) (Z : List Addr) : Fm := ⟨F.env, Z ++ F.X, F.n0, F.wc⟩

section
variable {H0 : Heap} {F : Fm} {σ : St} {as : List Addr} {h h' : Heap} {Z X' : List Addr}
theorem VR.move (hk : ∀ a o, a ∉ Z → h.get? a = some o → h'.get? a = some o) (hZ : ∀ a ∈ Z, a ∈ F.X) (hX : ∀ a ∈ X', a ∈ F.X ∨ h.get? a = none) {x : V} {v : Value} (q : VR (F.vol as) as h x v) : VR (Fm.vol ⟨F.env, X', F.n0, F.wc⟩ as) as h' x v :=
  q.mono (fun a o n e => hk a o (fun m => n (mem_vol.mpr (.inl (hZ a m)))) e) (fun a m => by
    rcases mem_vol.mp m with m | m | m
    · exact (hX a m).imp (fun m => mem_vol.mpr (.inl m)) id
    · exact .inl (mem_vol.mpr (.inr (.inl m)))
    · exact .inl (mem_vol.mpr (.inr (.inr m)))) fun _ _ e => e
theorem VRs.move (hk : ∀ a o, a ∉ Z → h.get? a = some o → h'.get? a = some o) (hZ : ∀ a ∈ Z, a ∈ F.X) (hX : ∀ a ∈ X', a ∈ F.X ∨ h.get? a = none) {x : List V} {v : List Value} (q : VRs (F.vol as) as h x v) : VRs (Fm.vol ⟨F.env, X', F.n0, F.wc⟩ as) as h' x v :=
  q.mono (fun a o n e => hk a o (fun m => n (mem_vol.mpr (.inl (hZ a m)))) e) (fun a m => by
    rcases mem_vol.mp m with m | m | m
    · exact (hX a m).imp (fun m => mem_vol.mpr (.inl m)) id
    · exact .inl (mem_vol.mpr (.inr (.inl m)))
    · exact .inl (mem_vol.mpr (.inr (.inr m)))) fun _ _ e => e
theorem Inv.move (I : Inv H0 F σ as h) (hk : ∀ a o, a ∉ Z → h.get? a = some o → h'.get? a = some o) (hZ : ∀ a ∈ Z, a ∈ F.X) (hd : ∀ a ∈ Z, a ∉ F.own ++ as) (hc : ∀ x c, F.env.cells.lookup x = some c → c ∉ Z) (hc' : ∀ x c, F.env.cells.lookup x = some c → c ∈ F.X → c ∈ X')
    (hX : ∀ a ∈ X', a ∈ F.X ∨ h.get? a = none) (hl : ∀ a ∈ X', ∃ o, h'.get? a = some o) : Inv H0 ⟨F.env, X', F.n0, F.wc⟩ σ as h' where
  base a o e := hk a o (fun m => by have := I.off a (mem_vol.mpr (.inl (hZ a m))); rw [e] at this; cases this) (I.base a o e)
  off a m := by
    rcases mem_vol.mp m with m | m
    · rcases hX a m with m | z
      · exact I.off a (mem_vol.mpr (.inl m))
      · cases e : H0.get? a with
        | none => rfl
        | some o => rw [I.base a o e] at z; cases z
    · exact I.off a (mem_vol.mpr (.inr m))
  nodup := I.nodup
  apart i a hi e m := by
    rcases hX a m with m | z
    · exact I.apart i a hi e m
    · obtain ⟨o, e'⟩ := I.vol_live a (mem_vol.mpr (.inr (.inr (List.mem_of_getElem? e)))); rw [z] at e'; cases e'
  ns := by
    obtain ⟨m, ⟨o, es, ep, e, r⟩, q⟩ := I.ns
    exact ⟨m, ⟨o, es, ep, hk _ _ (fun m => hd _ m (List.mem_append_left _ own_loc)) e, r⟩, fun y u e k => by obtain ⟨u', a, b⟩ := q y u e k; exact ⟨u', a, b.move hk hZ hX⟩⟩
  cel y u e k := by
    obtain ⟨c, u', a, ⟨o, eo, d⟩, b⟩ := I.cel y u e k
    exact ⟨c, u', a, ⟨o, hk _ _ (hc _ _ a) eo, d⟩, b.move hk hZ hX⟩
  cex c m := by obtain ⟨v0, o, eo, d⟩ := I.cex c m; exact ⟨v0, o, hk _ _ (fun q => hd _ q (List.mem_append_left _ (own_cell m))) eo, d⟩
  ro x c e := (I.ro x c e).imp id fun m => ⟨hc' x c e m.1, m.2⟩
  len := I.len
  muts i xs e := by
    obtain ⟨a, vs, n, e1, e2, q⟩ := I.muts i xs e
    exact ⟨a, vs, n, e1, hk _ _ (fun m => hd _ m (List.mem_append_right _ (List.mem_of_getElem? e1))) e2, q.move hk hZ hX⟩
  live := hl
end

abbrev Fm.at (F : Fm) (Y : List Addr) : Fm := ⟨F.env, Y, F.n0, F.wc⟩

/-- how an iterator hands on its items, and what is in the way of the target -/
structure Nx (c : Cx) (F : Fm) (n : Nat) (tgt : Expr) (it : Value) (Z : List Addr) (S : Nat → St) (k : Nat) (X : Nat → V) (J : List Addr → Nat → List Addr → Heap → Prop) : Prop where
  live : ∀ Y i as h, J Y i as h → ∀ a ∈ Z, ∃ o, h.get? a = some o
  frame : ∀ Y i as h as' h', J Y i as h → (∀ a o, a ∉ (F.at Y).vol as → h.get? a = some o → h'.get? a = some o) → (∀ a ∈ as', a ∈ as ∨ h.get? a = none) → (∀ (j : Nat) (a : Addr), as[j]? = some a → as'[j]? = some a) →
    (∀ a ∈ Z, ∀ o, h.get? a = some o → h'.get? a = some o) → J Y i as' h'
  enl : ∀ Y Y' i as h h', J Y i as h → (∀ a o, h.get? a = some o → h'.get? a = some o) → (∀ a ∈ Y', a ∈ Y ∨ h.get? a = none) → J Y' i as h'
  item : ∀ Y i A as s E (QN : Shared → Prop) (QS : Value → Shared → Prop), (∀ a ∈ Z, a ∈ Y) → i < k → Okay n A → Inv c.H0 (F.at Y) (S i) as s.heap → J Y i as s.heap →
    (∀ v' h' tk, J Y (i + 1) as h' → (∀ a o, a ∉ Z → s.heap.get? a = some o → h'.get? a = some o) → VR ((F.at Y).vol as) as h' (X i) v' → QS v' { s with heap := h', toks := tk }) →
    wpAny (model c.prog c.w) A (pyNext it) (fun r s₁ => match r with | none => QN s₁ | some v => wpAny (model c.prog c.w) A (letOwnedTupleGo tgt it v) (fun _ s₂ => QS v s₂) E s₁) E s
  done : ∀ Y A as s E (Q : Option Value → Shared → Prop), (∀ a ∈ Z, a ∈ Y) → Okay n A → Inv c.H0 (F.at Y) (S k) as s.heap → J Y k as s.heap →
    (∀ h' tk, (∀ a o, a ∉ Z → s.heap.get? a = some o → h'.get? a = some o) → Q none { s with heap := h', toks := tk }) →
    wpAny (model c.prog c.w) A (pyNext it) Q E s
  self : ∀ Y A as s E (Q : Value → Shared → Prop), J Y 0 as s.heap → Q it s → wpAny (model c.prog c.w) A (pyIter it) Q E s

/-- the iterable, evaluated; its iterator, made -/
def Mk (c : Cx) (F : Fm) (n : Nat) (iter tgt : Expr) (σ : St) (S : Nat → St) (k : Nat) (X : Nat → V) : Prop :=
  ∀ A as s E (R : Value → Shared → Prop), Okay n A → Inv c.H0 F σ as s.heap →
    (∀ it Z J as1 s1, Nx c F n tgt it Z S k X J → J (Z ++ F.X) 0 as1 s1.heap → Inv c.H0 (F.plus Z) (S 0) as1 s1.heap → (∀ a ∈ Z, s.heap.get? a = none ∧ a ∉ F.own ++ as1) → Stp F as s as1 s1 → R it s1) →
    wpAny (model c.prog c.w) A (eval iter F.env) (fun x s1 => wpAny (model c.prog c.w) A (pyIter x) R E s1) E s

theorem vol_of_own {F : Fm} {as : List Addr} {a : Addr} (m : a ∈ F.own ++ as) : a ∈ F.vol as := mem_vol.mpr (.inr (List.mem_append.mp m))

section
variable {c : Cx} {F : Fm} {n : Nat} {σ σ1 σ2 σ3 : St} {as as0 : List Addr} {s0 : Shared}

theorem Inv.shrink {Z : List Addr} {h : Heap} (I : Inv c.H0 (F.plus Z) σ as h) (hC : ∀ x c, F.env.cells.lookup x = some c → c ∉ Z) : Inv c.H0 F σ as h :=
  I.move (Z := []) (X' := F.X) (fun _ _ _ e => e) (fun _ m => nomatch m) (fun _ m => nomatch m) (fun _ _ _ m => nomatch m) (fun x c e m => (List.mem_append.mp m).elim (fun z => absurd z (hC x c e)) id) (fun _ m => .inl (List.mem_append_right _ m)) fun a m => I.live a (List.mem_append_right _ m)
theorem VR.shrink {Z : List Addr} {h : Heap} {x : V} {v : Value} (q : VR ((F.plus Z).vol as) as h x v) : VR (F.vol as) as h x v :=
  q.move (Z := []) (X' := F.X) (fun _ _ _ e => e) (fun _ m => nomatch m) (fun _ m => .inl (List.mem_append_right _ m))

theorem stp_plus {Z : List Addr} {as' : List Addr} {s s' : Shared} (S : Stp (F.plus Z) as s as' s') : Stp F as s as' s' := ⟨S.kept, S.alive, S.fresh, S.pre, S.rest⟩
theorem Stp.iter {Z : List Addr} {as1 : List Addr} {s s1 : Shared} (S : Stp F as s as1 s1) (hZ : ∀ a ∈ Z, s.heap.get? a = none) {h' : Heap} {tk : Nat} (hk : ∀ a o, a ∉ Z → s1.heap.get? a = some o → h'.get? a = some o) (al : ∀ a o, s1.heap.get? a = some o → a ∉ Z → ∃ o', h'.get? a = some o') :
    Stp F as s as1 { s1 with heap := h', toks := tk } where
  kept a o n e := hk a o (fun m => by rw [hZ a m] at e; cases e) (S.kept a o n e)
  alive a o e := by obtain ⟨o', e'⟩ := S.alive a o e; exact al a o' e' fun m => by rw [hZ a m] at e; cases e
  fresh := S.fresh
  pre := S.pre
  rest := by obtain ⟨h, t, rfl⟩ := S.rest; exact ⟨h', tk, rfl⟩

theorem loop_core {tgt : Expr} {body : List Stmt} {it : Value} {Z : List Addr} {S T : Nat → St} {k : Nat} {X : Nat → V} {J : List Addr → Nat → List Addr → Heap → Prop} {f : Fl} {A : Around} {s s1 : Shared} {as1 : List Addr} {m : Nat} {R : Result → Shared → Prop}
    (ok : Okay n A) (N : Nx c F n tgt it Z S k X J) (J0 : J (Z ++ F.X) 0 as1 s1.heap) (I0 : Inv c.H0 (F.plus Z) (S 0) as1 s1.heap) (hZ : ∀ a ∈ Z, s.heap.get? a = none ∧ a ∉ F.own ++ as1) (hX : ∀ a ∈ F.X, ∃ o, s.heap.get? a = some o) (hC : ∀ x c, F.env.cells.lookup x = some c → c ∉ Z) (S0 : Stp F as0 s as1 s1) (hm : m ≤ k)
    (turn : ∀ i, i < m → ∀ X', Asg c ⟨F.env, X', F.n0, F.wc⟩ n tgt (X i) (S i) (T i) ∧ Exs c ⟨F.env, X', F.n0, F.wc⟩ n body (T i) .next (S (i + 1)))
    (last : (m = k ∧ f = .next ∧ σ2 = S k) ∨ (m < k ∧ (∃ v, f = .ret v) ∧ ∀ X', Asg c ⟨F.env, X', F.n0, F.wc⟩ n tgt (X m) (S m) (T m) ∧ Exs c ⟨F.env, X', F.n0, F.wc⟩ n body (T m) f σ2))
    (hR : ∀ as2 s2 fl, Inv c.H0 F σ2 as2 s2.heap → FlR (F.vol as2) as2 s2.heap f fl → Stp F as0 s as2 s2 → R (.ok fl) s2) :
    codeAny (model c.prog c.w) A (.forLoop tgt it body [] F.env) R s1 := by
  refine codeAny_forLoop_any (fun q s' => ∃ i as', i ≤ m ∧ q = k - i + 1 ∧ Inv c.H0 (F.plus Z) (S i) as' s'.heap ∧ J (Z ++ F.X) i as' s'.heap ∧ (∀ a ∈ Z, a ∉ F.own ++ as') ∧ Stp F as0 s as' s') ?_ (k - 0 + 1)
    ⟨0, as1, Nat.zero_le _, rfl, I0, J0, fun a m => (hZ a m).2, S0⟩
  rintro q s' ⟨i, as', hi, rfl, I, Ji, hd, S1⟩
  have fre : ∀ a ∈ Z, s.heap.get? a = none := fun a m => (hZ a m).1
  have XZ : ∀ a ∈ F.X, a ∉ Z := fun a m z => by obtain ⟨o, e⟩ := hX a m; rw [fre a z] at e; cases e
  -- what the item leaves
  have after : ∀ {h' : Heap} {tk : Nat}, J (Z ++ F.X) (i + 1) as' h' → (∀ a o, a ∉ Z → s'.heap.get? a = some o → h'.get? a = some o) → Inv c.H0 (F.plus Z) (S i) as' h' ∧ Stp F as0 s as' { s' with heap := h', toks := tk } := by
    intro h' tk j hk
    refine ⟨I.move (Z := Z) hk (fun a m => List.mem_append_left _ m) hd hC (fun _ _ _ m => m) (fun a m => .inl m) fun a m => ?_, S1.iter fre hk fun a o e nz => ⟨o, hk a o nz e⟩⟩
    rcases List.mem_append.mp m with m | m
    · exact N.live _ _ _ _ j a m
    · obtain ⟨o, e⟩ := I.live a (List.mem_append_right _ m); exact ⟨o, hk a o (XZ a m) e⟩
  have disj : ∀ {as2 : List Addr} {s2 s3 : Shared}, J (Z ++ F.X) (i + 1) as' s2.heap → Stp (F.plus Z) as' s2 as2 s3 → ∀ a ∈ Z, a ∉ F.own ++ as2 := by
    intro as2 s2 s3 j St a m q
    rcases List.mem_append.mp q with q | q
    · exact hd a m (List.mem_append_left _ q)
    · rcases St.fresh a q with q | z
      · exact hd a m (List.mem_append_right _ q)
      · obtain ⟨o, e⟩ := N.live _ _ _ _ j a m; rw [z] at e; cases e
  by_cases hlt : i < m
  · obtain ⟨ta, tb⟩ := turn i hlt (Z ++ F.X)
    refine wpAny_mono (N.item _ i A as' s' _ _ _ (fun a m => List.mem_append_left _ m) (Nat.lt_of_lt_of_le hlt hm) ok I Ji ?_) (fun r s₁ h₁ => by cases r <;> exact h₁) fun _ _ x => x
    intro v' h' tk j hk q
    obtain ⟨I', S'⟩ := after (tk := tk) j hk
    refine wpAny_mono (ta A as' { s' with heap := h', toks := tk } _ v' ok I' q) (fun _ s2 ⟨as2, I2, S2⟩ => ?_) fun _ _ x => x
    refine wpAny_mono (tb A as2 s2 _ ok I2) (fun fl s3 ⟨as3, I3, q3, S3⟩ => ?_) fun _ _ x => x
    cases q3
    have St := S2.trans S3
    exact ⟨k - (i + 1) + 1, by omega, i + 1, as3, hlt, rfl, I3, N.frame _ _ _ _ _ _ j (fun a o nv e => St.kept a o (fun m => nv (vol_of_own m)) e) St.fresh St.pre fun a m o e => St.kept a o (hd a m) e, disj (s2 := { s' with heap := h', toks := tk }) j St, S'.trans (stp_plus St)⟩
  · obtain rfl : i = m := Nat.le_antisymm hi (Nat.not_lt.mp hlt)
    rcases last with ⟨rfl, rfl, rfl⟩ | ⟨hmk, ⟨v0, rfl⟩, hl⟩
    · refine wpAny_mono (N.done _ A as' s' _ (fun r s₂ => r = none ∧ ∃ as2, Inv c.H0 F (S i) as2 s₂.heap ∧ Stp F as0 s as2 s₂) (fun a m => List.mem_append_left _ m) ok I Ji ?_) (fun r s₁ h₁ => ?_) fun _ _ x => x
      · intro h' tk hk
        refine ⟨rfl, as', I.move (Z := Z) (X' := F.X) hk (fun a m => List.mem_append_left _ m) hd hC (fun x c e m => (List.mem_append.mp m).elim (fun z => absurd z (hC x c e)) id) (fun a m => .inl (List.mem_append_right _ m)) (fun a m => ?_), S1.iter fre hk fun a o e nz => ⟨o, hk a o nz e⟩⟩
        obtain ⟨o, e⟩ := I.live a (List.mem_append_right _ m)
        exact ⟨o, hk a o (XZ a m) e⟩
      · obtain ⟨rfl, as2, I2, S2⟩ := h₁
        exact wpAny_execs_nil (hR as2 s₁ _ I2 .next S2)
    · obtain ⟨ta, tb⟩ := hl (Z ++ F.X)
      refine wpAny_mono (N.item _ i A as' s' _ _ _ (fun a m => List.mem_append_left _ m) hmk ok I Ji ?_) (fun r s₁ h₁ => by cases r <;> exact h₁) fun _ _ x => x
      intro v' h' tk j hk q
      obtain ⟨I', S'⟩ := after (tk := tk) j hk
      refine wpAny_mono (ta A as' { s' with heap := h', toks := tk } _ v' ok I' q) (fun _ s2 ⟨as2, I2, S2⟩ => ?_) fun _ _ x => x
      refine wpAny_mono (tb A as2 s2 _ ok I2) (fun fl s3 ⟨as3, I3, q3, S3⟩ => ?_) fun _ _ x => x
      cases q3 with
      | ret q4 => exact hR as3 s3 _ (I3.shrink hC) (.ret q4.shrink) (S'.trans (stp_plus (S2.trans S3)))

theorem Ex.for_ {tgt iter : Expr} {body : List Stmt} {p : Pos} {S T : Nat → St} {k : Nat} {X : Nat → V} (hm : Mk c F n iter tgt σ S k X)
    (turn : ∀ i, i < k → ∀ X', Asg c ⟨F.env, X', F.n0, F.wc⟩ n tgt (X i) (S i) (T i) ∧ Exs c ⟨F.env, X', F.n0, F.wc⟩ n body (T i) .next (S (i + 1)))
    (hs : ∀ x, foldedSetIterable iter F.env x = pure x) : Ex c F n (.For tgt iter body [] p) σ .next (S k) := fun A as s E ok I =>
  wpAny_For (hm A as s E _ ok I fun it Z J as1 s1 N J0 I0 hZ S0 => loop_core (m := k) (f := .next) ok N J0 I0 hZ I.live (fun x c e z => by obtain ⟨o, e'⟩ := I.look_live e; rw [(hZ c z).1] at e'; cases e') S0 (Nat.le_refl _) turn (.inl ⟨rfl, rfl, rfl⟩) fun as2 s2 fl I2 q S2 => ⟨as2, I2, q, S2⟩) hs
theorem Ex.forRet {tgt iter : Expr} {body : List Stmt} {p : Pos} {S T : Nat → St} {k : Nat} {X : Nat → V} {m : Nat} {v : V} (hm : Mk c F n iter tgt σ S k X) (hmk : m < k)
    (turn : ∀ i, i < m → ∀ X', Asg c ⟨F.env, X', F.n0, F.wc⟩ n tgt (X i) (S i) (T i) ∧ Exs c ⟨F.env, X', F.n0, F.wc⟩ n body (T i) .next (S (i + 1)))
    (last : ∀ X', Asg c ⟨F.env, X', F.n0, F.wc⟩ n tgt (X m) (S m) (T m) ∧ Exs c ⟨F.env, X', F.n0, F.wc⟩ n body (T m) (.ret v) σ2)
    (hs : ∀ x, foldedSetIterable iter F.env x = pure x) : Ex c F n (.For tgt iter body [] p) σ (.ret v) σ2 := fun A as s E ok I =>
  wpAny_For (hm A as s E _ ok I fun it Z J as1 s1 N J0 I0 hZ S0 => loop_core (m := m) ok N J0 I0 hZ I.live (fun x c e z => by obtain ⟨o, e'⟩ := I.look_live e; rw [(hZ c z).1] at e'; cases e') S0 (Nat.le_of_lt hmk) turn (.inr ⟨hmk, ⟨v, rfl⟩, last⟩) fun as2 s2 fl I2 q S2 => ⟨as2, I2, q, S2⟩) hs

theorem Ex.while_ {t : Expr} {body : List Stmt} {p : Pos} {S T : Nat → St} {k : Nat} (turn : ∀ i, i < k → Tst c F n t (S i) true (T i) ∧ Exs c F n body (T i) .next (S (i + 1)))
    (last : Tst c F n t (S k) false σ2) : Ex c F n (.While t body [] p) (S 0) .next σ2 := fun A as s E ok I => by
  refine wpAny_While (codeAny_whileLoop (fun q s' => ∃ i as', i ≤ k ∧ q = k - i + 1 ∧ Inv c.H0 F (S i) as' s'.heap ∧ Stp F as s as' s') ?_ (k - 0 + 1) ⟨0, as, Nat.zero_le _, rfl, I, Stp.refl _ _ _⟩)
  rintro q s' ⟨i, as', hi, rfl, I', S'⟩
  by_cases hlt : i < k
  · obtain ⟨ta, tb⟩ := turn i hlt
    refine wpAny_mono (ta A as' s' _ ok I') (fun r s2 ⟨as2, I2, q2, S2⟩ => ?_) fun _ _ x => x
    subst q2
    refine wpAny_mono (tb A as2 s2 _ ok I2) (fun fl s3 ⟨as3, I3, q3, S3⟩ => ?_) fun _ _ x => x
    cases q3
    exact ⟨k - (i + 1) + 1, by omega, i + 1, as3, hlt, rfl, I3, (S'.trans S2).trans S3⟩
  · obtain rfl : i = k := Nat.le_antisymm hi (Nat.not_lt.mp hlt)
    refine wpAny_mono (last A as' s' _ ok I') (fun r s2 ⟨as2, I2, q2, S2⟩ => ?_) fun _ _ x => x
    subst q2
    exact wpAny_execs_nil ⟨as2, I2, .next, S'.trans S2⟩
end

-- Lg8
section
variable {c : Cx} {F : Fm} {n : Nat} {σ σ1 σ2 σ3 : St} {as as0 : List Addr} {s0 : Shared}

theorem own_live (I : Inv c.H0 F σ as s0.heap) : ∀ a ∈ F.own ++ as, ∃ o, s0.heap.get? a = some o := fun a m => I.vol_live a (mem_vol.mpr (.inr (List.mem_append.mp m)))
theorem new_not_own (I : Inv c.H0 F σ as s0.heap) {b : Addr} (z : s0.heap.get? b = none) : b ∉ F.own ++ as := fun m => by obtain ⟨o, e⟩ := own_live I b m; rw [z] at e; cases e

theorem Inv.grow {h h' : Heap} {Z : List Addr} (I : Inv c.H0 F σ as h) (hk : ∀ a o, h.get? a = some o → h'.get? a = some o) (hz : ∀ a ∈ Z, h.get? a = none) (hl : ∀ a ∈ Z, ∃ o, h'.get? a = some o) : Inv c.H0 (F.plus Z) σ as h' :=
  I.move (Z := []) (fun a o _ e => hk a o e) (fun _ m => nomatch m) (fun _ m => nomatch m) (fun _ _ _ m => nomatch m) (fun _ _ _ m => List.mem_append_right _ m) (fun a m => (List.mem_append.mp m).elim (fun m => .inr (hz a m)) .inl) fun a m =>
    (List.mem_append.mp m).elim (hl a) fun m => by obtain ⟨o, e⟩ := I.live a m; exact ⟨o, hk a o e⟩
theorem VR.grow {h h' : Heap} {Z : List Addr} (hk : ∀ a o, h.get? a = some o → h'.get? a = some o) (hz : ∀ a ∈ Z, h.get? a = none) {x : V} {v : Value} (q : VR (F.vol as) as h x v) : VR ((F.plus Z).vol as) as h' x v :=
  q.move (Z := []) (X' := Z ++ F.X) (fun a o _ e => hk a o e) (fun _ m => nomatch m) (fun a m => (List.mem_append.mp m).elim (fun m => .inr (hz a m)) .inl)
theorem VR.turn {h h' : Heap} {Z Y : List Addr} (hZ : ∀ a ∈ Z, a ∈ Y) (hk : ∀ a o, a ∉ Z → h.get? a = some o → h'.get? a = some o) {x : V} {v : Value} (q : VR ((F.at Y).vol as) as h x v) : VR ((F.at Y).vol as) as h' x v :=
  q.move (F := F.at Y) (Z := Z) (X' := Y) hk hZ (fun a m => .inl m)
theorem VR.frame {h h' : Heap} {Y as' : List Addr} (hk : ∀ a o, a ∉ (F.at Y).vol as → h.get? a = some o → h'.get? a = some o) (hf : ∀ a ∈ as', a ∈ as ∨ h.get? a = none) (hp : ∀ (j : Nat) (a : Addr), as[j]? = some a → as'[j]? = some a)
    {x : V} {v : Value} (q : VR ((F.at Y).vol as) as h x v) : VR ((F.at Y).vol as') as' h' x v :=
  q.mono hk (fun a m => by
    rcases mem_vol.mp m with m | m | m
    · exact .inl (mem_vol.mpr (.inl m))
    · exact .inl (mem_vol.mpr (.inr (.inl m)))
    · exact (hf a m).imp (fun m => mem_vol.mpr (.inr (.inr m))) id) hp
theorem VR.enl {h h' : Heap} {Y Y' : List Addr} (hk : ∀ a o, h.get? a = some o → h'.get? a = some o) (hY : ∀ a ∈ Y', a ∈ Y ∨ h.get? a = none) {x : V} {v : Value} (q : VR ((F.at Y).vol as) as h x v) : VR ((F.at Y').vol as) as h' x v :=
  q.move (F := F.at Y) (Z := []) (X' := Y') (fun a o _ e => hk a o e) (fun _ m => nomatch m) hY

-- ranges
theorem Nx.range {tgt : Expr} {I : Addr} {a st : Int} {k : Nat} {S : Nat → St} (ht : ∀ v, letOwnedTupleGo tgt (.ref I) v = pure ()) :
    Nx c F n tgt (.ref I) [I] S k (fun i => .int (a + (i : Int) * st)) (fun _ i _ h => IsRangeIter h I (a + (i : Nat) * st) ((k : Int) - (i : Nat)) st) where
  live Y i as h j a m := by rw [List.mem_singleton.mp m]; exact ⟨_, j⟩
  frame Y i as h as' h' j _ _ _ hk := hk I (List.mem_singleton.mpr rfl) _ j
  enl Y Y' i as h h' j hk _ := hk I _ j
  item Y i A as s E QN QS hY hi ok _ j hQ := by
    refine wpAny_pyNext_range_item j (by omega) fun h' hit' hs' => ?_
    refine wpAny_of_eq (ht _) ?_
    refine hQ _ h' _ ?_ (fun b o nb e => hs'.extBut b o (fun z => nb (List.mem_singleton.mpr z)) e) (.int _ _)
    have e1 : a + ((i + 1 : Nat) : Int) * st = a + (i : Int) * st + st := by push_cast; rw [Int.add_mul, Int.one_mul, Int.add_assoc]
    have e2 : (k : Int) - ((i + 1 : Nat) : Int) = (k : Int) - (i : Int) - 1 := by push_cast; omega
    rw [e1, e2]; exact hit'
  done Y A as s E Q hY ok _ j hQ := wpAny_pyNext_range_end ok.h j (by omega) fun h' he' => hQ h' s.toks fun b o nb e => he' b o (fun z => nb (List.mem_singleton.mpr z)) e
  self Y A as s E Q j hQ := wpAny_pyIter_rangeiter j hQ

theorem Mk.range_core {x : Str} {p pos : Pos} {e1 : Expr} {es : List Expr} {tgt : Expr} {vs : List V} {a b st : Int} {k : Nat} {S : Nat → St} (hf : Ev c F n (.Name x p) σ (.raw (.type "range")) σ)
    (hargs : Evs c F n pos (e1 :: es) σ vs (S 0)) (hsm : Builtin.Range.small a b st = true) (hn : Builtin.Range.rangeSize a b st = (k : Int))
    (hcall : ∀ (A : Around) (E : Value → Shared → Prop) (s : Shared) (O as : List Addr) vs' (Q : Value → Shared → Prop), VRs O as s.heap vs vs' →
      (∀ t u v tk, Q (.ref s.heap.objs.size) { s with heap := s.heap.push { cls := .type "range", data := .fields #[.int a t, .int b u, .int st v] }, toks := tk }) → wpAny (model c.prog c.w) A (call (.type "range") vs') Q E s)
    (he : starEach (e1 :: es) F.env = (false, eval e1 F.env) :: starEach es F.env) (hp : (backTo pos (starEach es F.env)).any (·.1) = false) (ht : ∀ it v, letOwnedTupleGo tgt it v = pure ()) :
    Mk c F n (.Call (.Name x p) (e1 :: es) [] pos) tgt σ S k (fun i => .int (a + (i : Int) * st)) := fun A as s E R ok I hR => by
  refine Call_ (wpAny_mono (hf A as s E ok I) (fun f s1 ⟨as1, I1, q1, S1⟩ => ?_) fun _ _ x => x)
  cases q1 with
  | raw _ =>
    refine callWith_type1 (wpAny_mono (hargs A as1 s1 E ok I1) (fun vs' s2 ⟨as2, I2, q2, S2⟩ => ?_) fun _ _ x => x) he hp
    refine hcall A E s2 _ _ vs' _ q2 fun t u v tk => ?_
    refine wpAny_pyIter_range (Heap.get?_push_size _ rfl) hsm ?_
    have hk : ∀ d o, s2.heap.get? d = some o → ((s2.heap.push { cls := .type "range", data := .fields #[.int a t, .int b u, .int st v] }).push { cls := .type "range_iterator", data := .fields #[rawInt a, rawInt (Builtin.Range.rangeSize a b st), rawInt st] }).get? d = some o := fun d o e => push2_keeps d o e
    have hz : ∀ (d : Addr), d ∈ [(s2.heap.push { cls := .type "range", data := .fields #[.int a t, .int b u, .int st v] }).objs.size] → s2.heap.get? d = none := fun d m => by rw [List.mem_singleton.mp m]; exact push2_none
    refine hR _ [_] _ as2 _ (Nx.range (a := a) (st := st) (ht _)) ?_ (I2.grow hk hz fun d m => ?_) (fun d m => ⟨?_, new_not_own I2 (hz d m)⟩) ((S1.trans S2).trans (Stp.keeps hk ⟨_, _, rfl⟩))
    · show IsRangeIter _ _ _ _ _
      rw [hn]
      simpa using Heap.get?_push_size (s2.heap.push { cls := .type "range", data := .fields #[.int a t, .int b u, .int st v] }) (o := { cls := .type "range_iterator", data := .fields #[rawInt a, rawInt (k : Int), rawInt st] }) rfl
    · rw [List.mem_singleton.mp m]; exact ⟨_, Heap.get?_push_size _ rfl⟩
    · cases e : s.heap.get? d with
      | none => rfl
      | some o => obtain ⟨o', e'⟩ := (S1.trans S2).alive d o e; rw [hz d m] at e'; cases e'
theorem Mk.range1 {x : Str} {p pos : Pos} {e1 : Expr} {tgt : Expr} {k : Nat} {S : Nat → St} (hf : Ev c F n (.Name x p) σ (.raw (.type "range")) σ) (h1 : Ev c F n e1 σ (.int (k : Int)) (S 0)) (hk : k ≤ 1000000)
    (he : starEach [e1] F.env = [(false, eval e1 F.env)]) (ht : ∀ it v, letOwnedTupleGo tgt it v = pure ()) :
    Mk c F n (.Call (.Name x p) [e1] [] pos) tgt σ S k (fun i => .int (i : Int)) := by
  have := Mk.range_core (c := c) (F := F) (n := n) (σ := σ) (pos := pos) (tgt := tgt) (a := 0) (b := (k : Int)) (st := 1) (k := k) (S := S) hf (Evs.cons h1 Evs.nil he) (small_one (by omega) (by omega) (by omega) (by omega)) (by rw [rangeSize_one]; split <;> omega)
    (fun A E s O as vs' Q q hQ => by
      cases q with
      | cons q r =>
        cases r; cases q
        exact call_range_1 (hQ _ _ _ _)) he rfl ht
  simpa using this
theorem Mk.range2 {x : Str} {p pos : Pos} {e1 e2 : Expr} {tgt : Expr} {a b : Int} {k : Nat} {S : Nat → St} (hf : Ev c F n (.Name x p) σ (.raw (.type "range")) σ) (h1 : Ev c F n e1 σ (.int a) σ1) (h2 : Ev c F n e2 σ1 (.int b) (S 0))
    (ha : -1000000 ≤ a) (ha' : a ≤ 1000000) (hb : -1000000 ≤ b) (hb' : b ≤ 1000000) (hk : (b - a).toNat = k)
    (he : starEach [e1, e2] F.env = [(false, eval e1 F.env), (false, eval e2 F.env)]) (he2 : starEach [e2] F.env = [(false, eval e2 F.env)]) (ht : ∀ it v, letOwnedTupleGo tgt it v = pure ()) :
    Mk c F n (.Call (.Name x p) [e1, e2] [] pos) tgt σ S k (fun i => .int (a + (i : Int))) := by
  have he' : starEach (e1 :: [e2]) F.env = (false, eval e1 F.env) :: starEach [e2] F.env := by rw [he, he2]
  have := Mk.range_core (c := c) (F := F) (n := n) (σ := σ) (pos := pos) (tgt := tgt) (a := a) (b := b) (st := 1) (k := k) (S := S) hf (Evs.cons h1 (Evs.cons h2 Evs.nil he2) he') (small_one (by omega) (by omega) (by omega) (by omega)) (by rw [rangeSize_one]; split <;> omega)
    (fun A E s O as vs' Q q hQ => by
      cases q with
      | cons q r =>
        cases r with
        | cons q2 r2 =>
          cases r2; cases q; cases q2
          exact call_range_2 (hQ _ _ _ _)) he' (by rw [he2]; rfl) ht
  simpa using this
theorem Mk.rangeDown {x : Str} {p pos : Pos} {e1 e2 e3 : Expr} {tgt : Expr} {k : Nat} {S : Nat → St} (hf : Ev c F n (.Name x p) σ (.raw (.type "range")) σ) (h1 : Ev c F n e1 σ (.int ((k : Int) - 1)) σ1) (h2 : Ev c F n e2 σ1 (.int (-1)) σ2) (h3 : Ev c F n e3 σ2 (.int (-1)) (S 0))
    (hk : k ≤ 1000000)
    (he : starEach [e1, e2, e3] F.env = [(false, eval e1 F.env), (false, eval e2 F.env), (false, eval e3 F.env)]) (he2 : starEach [e2, e3] F.env = [(false, eval e2 F.env), (false, eval e3 F.env)]) (he3 : starEach [e3] F.env = [(false, eval e3 F.env)])
    (ht : ∀ it v, letOwnedTupleGo tgt it v = pure ()) :
    Mk c F n (.Call (.Name x p) [e1, e2, e3] [] pos) tgt σ S k (fun i => .int ((k : Int) - 1 - (i : Int))) := by
  have he' : starEach (e1 :: [e2, e3]) F.env = (false, eval e1 F.env) :: starEach [e2, e3] F.env := by rw [he, he2]
  have he2' : starEach (e2 :: [e3]) F.env = (false, eval e2 F.env) :: starEach [e3] F.env := by rw [he2, he3]
  have hz : Builtin.Range.rangeSize ((k : Int) - 1) (-1) (-1) = (k : Int) := by
    unfold Builtin.Range.rangeSize
    rw [if_neg (by decide)]
    split
    · rw [show (-(-1 : Int)) = 1 from rfl, Int.ediv_one]; omega
    · omega
  have := Mk.range_core (c := c) (F := F) (n := n) (σ := σ) (pos := pos) (tgt := tgt) (a := (k : Int) - 1) (b := -1) (st := -1) (k := k) (S := S) hf (Evs.cons h1 (Evs.cons h2 (Evs.cons h3 Evs.nil he3) he2') he') (small_down (by omega) (by omega) (by omega) (by omega)) hz
    (fun A E s O as vs' Q q hQ => by
      cases q with
      | cons q r =>
        cases r with
        | cons q2 r2 =>
          cases r2 with
          | cons q3 r3 =>
            cases r3; cases q; cases q2; cases q3
            exact call_range_3 (by decide) (hQ _ _ _ _) (.inl (PyProof.noPylong_small (by decide)))) he' (by rw [he2]; rfl) ht
  have e : (fun i : Nat => V.int ((k : Int) - 1 + (i : Int) * -1)) = fun i : Nat => V.int ((k : Int) - 1 - (i : Int)) := by
    funext i; congr 1; omega
  rw [e] at this
  exact this

-- lists
theorem IsListIter_keep {h h' : Heap} {I l : Addr} {i : Nat} (x : h.IsListIter I l i) (hk : ∀ o, h.get? I = some o → h'.get? I = some o) : h'.IsListIter I l i := x.at hk
theorem Nx.list {tgt : Expr} {I l : Addr} {o : V} {xs : List V} {S : Nat → St} {X : Nat → V} (hS : ∀ i, i ≤ xs.length → (S i).items o = some xs) (hX : ∀ i, i < xs.length → xs[i]? = some (X i)) (ht : ∀ v, letOwnedTupleGo tgt (.ref I) v = pure ()) :
    Nx c F n tgt (.ref I) [I] S xs.length X (fun Y i as h => h.IsListIter I l i ∧ VR ((F.at Y).vol as) as h o (.ref l)) where
  live Y i as h j a m := by rw [List.mem_singleton.mp m]; obtain ⟨⟨o, e, _⟩, _⟩ := j; exact ⟨o, e⟩
  frame Y i as h as' h' j hv hf hp hk := ⟨j.1.at fun o e => hk I (List.mem_singleton.mpr rfl) o e, j.2.frame hv hf hp⟩
  enl Y Y' i as h h' j hk hY := ⟨j.1.at fun o e => hk I o e, j.2.enl hk hY⟩
  item Y i A as s E QN QS hYZ hi ok Iv j hQ := by
    obtain ⟨a, vs, m, e1, e2, r⟩ := Iv.items j.2 (hS i (Nat.le_of_lt hi))
    cases e1
    obtain ⟨v, ev, q⟩ := r.get (hX i hi)
    refine wpAny_pyNext_list_item j.1 (is_list e2) (by simpa using ev) fun h' hit' hs' => ?_
    refine wpAny_of_eq (ht _) ?_
    have hk : ∀ a o, a ∉ [I] → s.heap.get? a = some o → h'.get? a = some o := fun b o nb e => hs'.extBut b o (fun z => nb (List.mem_singleton.mpr z)) e
    exact hQ _ h' _ ⟨hit', j.2.turn hYZ hk⟩ hk (q.turn hYZ hk)
  done Y A as s E Q hYZ ok Iv j hQ := by
    obtain ⟨a, vs, m, e1, e2, r⟩ := Iv.items j.2 (hS _ (Nat.le_refl _))
    cases e1
    exact wpAny_pyNext_list_end ok.h j.1 (is_list e2) (by simp [r.length]) fun h' he' => hQ h' s.toks fun b o nb e => he' b o (fun z => nb (List.mem_singleton.mpr z)) e
  self Y A as s E Q j hQ := wpAny_pyIter_listiter j.1 hQ
theorem Mk.list {e : Expr} {tgt : Expr} {o : V} {xs : List V} {S : Nat → St} {X : Nat → V} (h : Ev c F n e σ o (S 0)) (hS : ∀ i, i ≤ xs.length → (S i).items o = some xs) (hX : ∀ i, i < xs.length → xs[i]? = some (X i))
    (ht : ∀ it v, letOwnedTupleGo tgt it v = pure ()) : Mk c F n e tgt σ S xs.length X := fun A as s E R ok I hR => by
  refine wpAny_mono (h A as s E ok I) (fun v s1 ⟨as1, I1, q1, S1⟩ => ?_) fun _ _ x => x
  obtain ⟨a, vs, m, rfl, e2, r⟩ := I1.items q1 (hS 0 (Nat.zero_le _))
  refine wpAny_pyIter_list (is_list e2) ?_
  have hk : ∀ b o, s1.heap.get? b = some o → (s1.heap.push { cls := .type "list_iterator", data := .fields #[.ref a, .int 0 0] }).get? b = some o := fun b o e => Heap.get?_push_of_some _ e
  have hz : ∀ b ∈ [s1.heap.objs.size], s1.heap.get? b = none := fun b m => by rw [List.mem_singleton.mp m]; exact size_none _
  refine hR _ [_] _ as1 _ (Nx.list (l := a) hS hX (ht _)) ⟨⟨_, Heap.get?_push_size _ rfl, rfl, rfl⟩, q1.grow hk hz⟩ (I1.grow hk hz fun b m => ?_) (fun b m => ⟨?_, new_not_own I1 (hz b m)⟩) (S1.trans (Stp.keeps hk ⟨_, _, rfl⟩))
  · rw [List.mem_singleton.mp m]; exact ⟨_, Heap.get?_push_size _ rfl⟩
  · cases e : s.heap.get? b with
    | none => rfl
    | some o => obtain ⟨o', e'⟩ := S1.alive b o e; rw [hz b m] at e'; cases e'

-- enumerate
theorem Nx.enum {ts : List Expr} {tk : Nat} {tp : Pos} {I e l : Addr} {o : V} {xs : List V} {S : Nat → St} {X : Nat → V} (hne : e ≠ I) (hS : ∀ i, i ≤ xs.length → (S i).items o = some xs) (hX : ∀ i, i < xs.length → xs[i]? = some (X i)) :
    Nx c F n (.Tuple ts tk tp) (.ref e) [e, I] S xs.length (fun i => .tup [.int (i : Int), X i]) (fun Y i as h => (∃ old, IsEnum h e I ((i : Nat) : Int) old) ∧ h.IsListIter I l i ∧ VR ((F.at Y).vol as) as h o (.ref l)) where
  live Y i as h j a m := by
    rcases List.mem_cons.mp m with rfl | m
    · obtain ⟨⟨old, e⟩, _⟩ := j; exact ⟨_, e⟩
    · rw [List.mem_singleton.mp m]; obtain ⟨_, ⟨o, e, _⟩, _⟩ := j; exact ⟨o, e⟩
  frame Y i as h as' h' j hv hf hp hk := by
    obtain ⟨⟨old, q⟩, b, d⟩ := j
    exact ⟨⟨old, hk e List.mem_cons_self _ q⟩, b.at fun o x => hk I (by simp) o x, d.frame hv hf hp⟩
  enl Y Y' i as h h' j hk hY := by
    obtain ⟨⟨old, q⟩, b, d⟩ := j
    exact ⟨⟨old, hk e _ q⟩, b.at fun o x => hk I o x, d.enl hk hY⟩
  item Y i A as s E QN QS hYZ hi ok Iv j hQ := by
    obtain ⟨⟨old, he⟩, hit, hv⟩ := j
    obtain ⟨a, vs, m, e1, e2, r⟩ := Iv.items hv (hS i (Nat.le_of_lt hi))
    cases e1
    obtain ⟨v, ev, q⟩ := r.get (hX i hi)
    refine wpAny_pyNext_enum_item he hit (is_list e2) (by simpa using ev) hne fun h1 heo hit1 ht1 hz1 hk1 => ?_
    refine wpAny_letOwnedTupleGo_enum heo fun h2 he2 hs2 => ?_
    have hsz : e < s.heap.objs.size := Heap.lt_size he
    have hk : ∀ a o, a ∉ [e, I] → s.heap.get? a = some o → h2.get? a = some o := fun b o nb x => hs2.extBut b o (fun z => nb (z ▸ List.mem_cons_self)) (hk1 b o (fun z => nb (z ▸ List.mem_cons_self)) (fun z => nb (by rw [z]; simp)) x)
    have ht2 : h2.get? s.heap.objs.size = some (tobj [.int i s.toks, v] 0) := (hs2.2 _ (Nat.ne_of_gt hsz)).trans ht1
    refine hQ _ h2 _ ⟨⟨v, ?_⟩, hit1.extBut hs2.extBut (Ne.symm hne), hv.turn hYZ hk⟩ hk (.tup (Iv.new_off (size_none _)) ht2 (.cons (.int _ _) (.cons (q.turn hYZ hk) .nil)))
    have : ((i + 1 : Nat) : Int) = (i : Int) + 1 := by push_cast; rfl
    rw [this]; exact he2
  done Y A as s E Q hYZ ok Iv j hQ := by
    obtain ⟨⟨old, he⟩, hit, hv⟩ := j
    obtain ⟨a, vs, m, e1, e2, r⟩ := Iv.items hv (hS _ (Nat.le_refl _))
    cases e1
    exact wpAny_pyNext_enum_end ok.h he hit (is_list e2) (by simp [r.length]) fun h' he' => hQ h' s.toks fun b o nb x => he' b o (fun z => nb (by rw [z]; simp)) x
  self Y A as s E Q j hQ := by
    obtain ⟨⟨old, he⟩, _⟩ := j
    exact wpAny_pyIter_enum he hQ
theorem Mk.enum {x : Str} {p pos : Pos} {e1 : Expr} {ts : List Expr} {tk : Nat} {tp : Pos} {o : V} {xs : List V} {S : Nat → St} {X : Nat → V} (hf : Ev c F n (.Name x p) σ (.raw (.type "enumerate")) σ) (h : Ev c F n e1 σ o (S 0))
    (hS : ∀ i, i ≤ xs.length → (S i).items o = some xs) (hX : ∀ i, i < xs.length → xs[i]? = some (X i)) (he : starEach [e1] F.env = [(false, eval e1 F.env)]) :
    Mk c F n (.Call (.Name x p) [e1] [] pos) (.Tuple ts tk tp) σ S xs.length (fun i => .tup [.int (i : Int), X i]) := fun A as s E R ok I hR => by
  refine Call_ (wpAny_mono (hf A as s E ok I) (fun f s1 ⟨as1, I1, q1, S1⟩ => ?_) fun _ _ x => x)
  cases q1 with
  | raw _ =>
    refine callWith_type1 (args_cons (wpAny_mono (h A as1 s1 E ok I1) (fun v s2 ⟨as2, I2, q2, S2⟩ => args_nil ?_) fun _ _ x => x) he) he rfl
    obtain ⟨a, vs, m, rfl, e2, r⟩ := I2.items q2 (hS 0 (Nat.zero_le _))
    refine call_enumerate_1 e2 fun h' hen hit hsz hk => ?_
    refine wpAny_pyIter_enum hen ?_
    have hz : ∀ b ∈ [s2.heap.objs.size + 1, s2.heap.objs.size], s2.heap.get? b = none := fun b m => by
      rcases List.mem_cons.mp m with rfl | m
      · exact Heap.get?_none_of_le (Nat.le_succ _)
      · rw [List.mem_singleton.mp m]; exact size_none _
    refine hR _ [_, _] _ as2 _ (Nx.enum (l := a) (Nat.succ_ne_self _) hS hX) ⟨⟨_, hen⟩, hit, q2.grow hk hz⟩ (I2.grow hk hz fun b m => ?_) (fun b m => ⟨?_, new_not_own I2 (hz b m)⟩) ((S1.trans S2).trans (Stp.keeps hk ⟨h', s2.toks, rfl⟩))
    · rcases List.mem_cons.mp m with rfl | m
      · exact ⟨_, hen⟩
      · rw [List.mem_singleton.mp m]; obtain ⟨o, e, _⟩ := hit; exact ⟨o, e⟩
    · cases e : s.heap.get? b with
      | none => rfl
      | some o => obtain ⟨o', e'⟩ := (S1.trans S2).alive b o e; rw [hz b m] at e'; cases e'
end

-- Lg9
theorem cellsFrom_acc : ∀ (names : List (Str × NameKind)) (n : Nat) (acc : List (Str × Addr)), cellsFrom n names acc = cellsFrom n names [] ++ acc
  | [], _, _ => rfl
  | (x, k) :: r, n, acc => by
    unfold cellsFrom
    split
    · rw [cellsFrom_acc r (n + 1) ((x, n) :: acc), cellsFrom_acc r (n + 1) [(x, n)], List.append_assoc]; rfl
    · exact cellsFrom_acc r n acc

section
variable {M : Model} {A : Around} {E : Value → Shared → Prop} {s : Shared}
theorem newEnv_comp {scope : Scope} {globals : Addr} {cl : List (Str × Addr)} {qual : Str} {outer : Env} {Q : Env → Shared → Prop}
    (h : Q { scope, locals := s.heap.objs.size, globals, cells := cellsFrom (s.heap.objs.size + 1) scope.names cl, qual, func := none, code := outer.code, frame := outer.frame, builtins := outer.builtins }
      { s with heap := pushCells (s.heap.push { cls := .type "dict", data := .dict #[] }) scope.names }) :
    wpAny M A (newFunctionEnv scope globals cl [] qual none .none (some outer)) Q E s := by
  simp only [newFunctionEnv, Option.isSome_some, if_true]
  refine wpAny_bind (wpAny_alloc ?_)
  refine wpAny_bind (wpAny_layCells _ (fun name kind cells => by cases hkc : kind == NameKind.cell <;> simp [hkc]) _ _ _ _ ?_)
  rw [show ({ s with heap := s.heap.push { cls := .type "dict", data := .dict #[] } } : Shared).heap.objs.size = s.heap.objs.size + 1 from Heap.size_push ..]
  exact wpAny_bind (wpAny_pure (wpAny_pure h))
end

section
variable {prog : Program} {w : World} {A : Around} {R : Result → Shared → Prop} {s : Shared}
theorem compLoop_any {elt target iter : Expr} {scope : Scope} {pos : Pos} {it acc : Value} {env : Env} (I : Nat → Shared → Prop)
    (turn : ∀ n s, I n s → wpAny (model prog w) A (pyNext it) (fun r s₁ => match r with
      | none => R (.ok .next) s₁
      | some v => wpAny (model prog w) A (letOwnedTupleGo target it v) (fun _ s₁' => wpAny (model prog w) A (assign target env v) (fun _ s₂ => wpAny (model prog w) A (eval elt env) (fun x s₃ =>
          wpAny (model prog w) A (call (.builtin "list.append") [acc, x]) (fun _ s₄ => ∃ m, m < n ∧ I m s₄) (notedBy (model prog w) A env fun e s' => R (.error e) s') s₃)
          (notedBy (model prog w) A env fun e s' => R (.error e) s') s₂) (notedBy (model prog w) A env fun e s' => R (.error e) s') s₁') (notedBy (model prog w) A env fun e s' => R (.error e) s') s₁) (notedBy (model prog w) A env fun e s' => R (.error e) s') s)
    (n : Nat) (h : I n s) :
    codeAny (model prog w) A (.compLoop (.ListComp elt [⟨target, iter, [], 0⟩] scope pos) 0 it acc env) R s := by
  refine codeAny_loop rfl I (fun n s hI => ?_) n h
  show wpAny _ _ ((compTurn (.ListComp elt [⟨target, iter, [], 0⟩] scope pos) 0 it acc env).onRaise (fun x => do noteFrame x env; theTreesLotGoes x)) _ _ s
  refine wpAny_noted ?_
  rw [compTurn_list1]
  refine wpAny_bind (wpAny_standAt (wpAny_bind (wpAny_mono (turn n s hI) (fun r s₁ h₁ => ?_) fun _ _ h' => h')))
  cases r with
  | none => exact wpAny_pure h₁
  | some v =>
    refine wpAny_bind (wpAny_mono h₁ (fun _ s₁' h₁' => ?_) fun _ _ h' => h')
    exact wpAny_bind (wpAny_mono h₁' (fun _ s₂ h₂ => wpAny_bind (wpAny_bind (wpAny_mono h₂ (fun x s₃ h₃ => wpAny_bind (wpAny_mono h₃
      (fun _ s₄ h₄ => wpAny_pure (wpAny_pure ⟨rfl, h₄⟩)) fun _ _ h' => h')) fun _ _ h' => h'))) fun _ _ h' => h')
end

/-- the frame of a comprehension -/
abbrev Fm.comp (F : Fm) (scope : Scope) (cl : List (Str × Addr)) (C : Addr) (Y : List Addr) : Fm :=
  ⟨compEnvC scope (cellsFrom (C + 1) scope.names cl) C F.env, Y, F.n0, (cellsFrom (C + 1) scope.names []).map (·.2)⟩

section
variable {c : Cx} {F : Fm} {n : Nat} {as as3 : List Addr} {Y : List Addr} {scope : Scope} {cl : List (Str × Addr)} {C : Addr} {lo loc' : List (Str × V)} {mu : List (List V)} {h h3 : Heap} {U : St}

theorem VR.volEq {G : Fm} (hv : ∀ a, a ∈ G.vol as → a ∈ F.vol as) {x : V} {v : Value} (q : VR (F.vol as) as h x v) : VR (G.vol as) as h x v :=
  q.mono (fun _ _ _ e => e) (fun a m => .inl (hv a m)) fun _ _ e => e
theorem VRs.volEq {G : Fm} (hv : ∀ a, a ∈ G.vol as → a ∈ F.vol as) {x : List V} {v : List Value} (q : VRs (F.vol as) as h x v) : VRs (G.vol as) as h x v :=
  q.mono (fun _ _ _ e => e) (fun a m => .inl (hv a m)) fun _ _ e => e

theorem comp_vol (hW : ∀ a ∈ C :: (cellsFrom (C + 1) scope.names []).map (·.2), a ∈ Y) : ∀ a, a ∈ (F.comp scope cl C (F.own ++ Y)).vol as → a ∈ (F.at Y).vol as := fun a m => by
  rcases mem_vol.mp m with m | m | m
  · rcases List.mem_append.mp m with m | m
    · exact mem_vol.mpr (.inr (.inl m))
    · exact mem_vol.mpr (.inl m)
  · exact mem_vol.mpr (.inl (hW a m))
  · exact mem_vol.mpr (.inr (.inr m))
theorem comp_vol' : ∀ a, a ∈ (F.at Y).vol as → a ∈ (F.comp scope cl C (F.own ++ Y)).vol as := fun a m => by
  rcases mem_vol.mp m with m | m | m
  · exact mem_vol.mpr (.inl (List.mem_append_right _ m))
  · exact mem_vol.mpr (.inl (List.mem_append_left _ m))
  · exact mem_vol.mpr (.inr (.inr m))

theorem Inv.into (I : Inv c.H0 (F.at Y) ⟨lo, mu⟩ as h) (hW : ∀ a ∈ C :: (cellsFrom (C + 1) scope.names []).map (·.2), a ∈ Y) (hnd : (C :: (cellsFrom (C + 1) scope.names []).map (·.2)).Nodup)
    (hd : ∀ a ∈ C :: (cellsFrom (C + 1) scope.names []).map (·.2), a ∉ F.own ++ as) (hcn : ∀ x d, F.env.cells.lookup x = some d → d ∉ C :: (cellsFrom (C + 1) scope.names []).map (·.2))
    (hC : ∃ m, h.Ns C m) (hcx : ∀ d ∈ (cellsFrom (C + 1) scope.names []).map (·.2), ∃ v0, h.IsCell d v0) (hcl : ∀ p ∈ cl, F.env.cells.lookup p.1 = some p.2)
    (hcap : ∀ p ∈ loc', lo.lookup p.1 = some p.2 ∧ F.env.kindOf p.1 ≠ some .local ∧ (compEnvC scope (cellsFrom (C + 1) scope.names cl) C F.env).kindOf p.1 ≠ some .local ∧ (cellsFrom (C + 1) scope.names cl).lookup p.1 = F.env.cells.lookup p.1) :
    Inv c.H0 (F.comp scope cl C (F.own ++ Y)) ⟨loc', mu⟩ as h where
  base := I.base
  off a m := I.off a (comp_vol hW a m)
  nodup := List.nodup_append.mpr ⟨hnd, (List.nodup_append.mp I.nodup).2.1, fun a m b m' e => hd a m (List.mem_append_right _ (e ▸ m'))⟩
  apart i a hi e m := by
    rcases List.mem_append.mp m with m | m
    · exact (List.nodup_append.mp I.nodup).2.2 a m a (List.mem_of_getElem? e) rfl
    · exact I.apart i a hi e m
  ns := by
    obtain ⟨m, hm⟩ := hC
    exact ⟨m, hm, fun x v e k => absurd k (hcap _ (mem_of_lookup e)).2.2.1⟩
  cel x v e _ := by
    obtain ⟨h1, h2, h3, h4⟩ := hcap _ (mem_of_lookup e)
    obtain ⟨d, v', a, b, q⟩ := I.cel x v h1 h2
    exact ⟨d, v', h4.trans a, b, q.volEq (comp_vol hW)⟩
  cex := hcx
  ro x d e := by
    have e : (cellsFrom (C + 1) scope.names cl).lookup x = some d := e
    rw [cellsFrom_acc] at e
    rcases List.mem_append.mp (mem_of_lookup e) with m | m
    · exact .inl (List.mem_map.mpr ⟨_, m, rfl⟩)
    · right
      have e' := hcl _ m
      refine ⟨?_, fun q => ?_⟩
      · rcases I.ro _ _ e' with w | w
        · exact List.mem_append_left _ (own_cell w)
        · exact List.mem_append_right _ w.1
      · rcases List.mem_append.mp q with q | q
        · exact hcn _ _ e' q
        · exact I.look_ne_as e' q rfl
  len := I.len
  muts i xs e := by obtain ⟨a, vs, k, e1, e2, q⟩ := I.muts i xs e; exact ⟨a, vs, k, e1, e2, q.volEq (comp_vol hW)⟩
  live a m := by
    rcases List.mem_append.mp m with m | m
    · exact I.vol_live a (mem_vol.mpr (.inr (.inl m)))
    · exact I.live a m

theorem Inv.back {s s3 : Shared} (I : Inv c.H0 (F.at Y) ⟨lo, mu⟩ as s.heap) (hW : ∀ a ∈ C :: (cellsFrom (C + 1) scope.names []).map (·.2), a ∈ Y)
    (hd : ∀ a ∈ C :: (cellsFrom (C + 1) scope.names []).map (·.2), a ∉ F.own ++ as) (hcn : ∀ x d, F.env.cells.lookup x = some d → d ∉ C :: (cellsFrom (C + 1) scope.names []).map (·.2))
    (IG : Inv c.H0 (F.comp scope cl C (F.own ++ Y)) U as3 s3.heap) (S : Stp (F.comp scope cl C (F.own ++ Y)) as s as3 s3) : Inv c.H0 (F.at Y) ⟨lo, U.mu⟩ as3 s3.heap := by
  have keptL : ∀ a o, a ∈ F.own → s.heap.get? a = some o → s3.heap.get? a = some o := fun a o m e => S.kept a o (fun q => by
    rcases List.mem_append.mp q with q | q
    · exact hd a q (List.mem_append_left _ m)
    · exact (List.nodup_append.mp I.nodup).2.2 a m a q rfl) e
  have keptC : ∀ x d o, F.env.cells.lookup x = some d → s.heap.get? d = some o → s3.heap.get? d = some o := fun x d o e e' => S.kept d o (fun q => by
    rcases List.mem_append.mp q with q | q
    · exact hcn x d e q
    · exact I.look_ne_as e q rfl) e'
  have up : ∀ {x : V} {v : Value}, VR ((F.at Y).vol as) as s.heap x v → VR ((F.at Y).vol as3) as3 s3.heap x v := fun q =>
    q.mono (fun a o nv e => S.kept a o (fun q => nv (by
      rcases List.mem_append.mp q with q | q
      · exact mem_vol.mpr (.inl (hW a q))
      · exact mem_vol.mpr (.inr (.inr q)))) e) (fun a m => by
        rcases mem_vol.mp m with m | m | m
        · exact .inl (mem_vol.mpr (.inl m))
        · exact .inl (mem_vol.mpr (.inr (.inl m)))
        · exact (S.fresh a m).imp (fun m => mem_vol.mpr (.inr (.inr m))) id) S.pre
  have dis : ∀ a ∈ F.own, a ∉ as3 := fun a m q => by
    rcases S.fresh a q with q | z
    · exact (List.nodup_append.mp I.nodup).2.2 a m a q rfl
    · obtain ⟨o, e⟩ := I.vol_live a (mem_vol.mpr (.inr (.inl m))); rw [z] at e; cases e
  exact {
    base := IG.base
    off := fun a m => IG.off a (comp_vol' a m)
    nodup := List.nodup_append.mpr ⟨(List.nodup_append.mp I.nodup).1, (List.nodup_append.mp IG.nodup).2.1, fun a m b m' e => dis a m (e ▸ m')⟩
    apart := fun i a hi e m => IG.apart i a hi e (List.mem_append_right _ m)
    ns := by
      obtain ⟨m, ⟨o, es, ep, e, r⟩, q⟩ := I.ns
      exact ⟨m, ⟨o, es, ep, keptL _ _ own_loc e, r⟩, fun y u e k => by obtain ⟨u', a, b⟩ := q y u e k; exact ⟨u', a, up b⟩⟩
    cel := fun y u e k => by
      obtain ⟨d, u', a, ⟨o, eo, dd⟩, b⟩ := I.cel y u e k
      exact ⟨d, u', a, ⟨o, keptC _ _ _ a eo, dd⟩, up b⟩
    cex := fun d m => by obtain ⟨v0, o, eo, dd⟩ := I.cex d m; exact ⟨v0, o, keptL _ _ (own_cell m) eo, dd⟩
    ro := fun x d e => (I.ro x d e).imp id fun m => ⟨m.1, fun q => by
      rcases List.mem_append.mp q with q | q
      · exact m.2 (List.mem_append_left _ q)
      · rcases S.fresh d q with q | z
        · exact m.2 (List.mem_append_right _ q)
        · obtain ⟨o, e'⟩ := I.look_live e; rw [z] at e'; cases e'⟩
    len := IG.len
    muts := fun i xs e => by obtain ⟨a, vs, k, e1, e2, q⟩ := IG.muts i xs e; exact ⟨a, vs, k, e1, e2, q.volEq comp_vol'⟩
    live := fun a m => by obtain ⟨o, e⟩ := I.live a m; exact S.alive a o e }
end

-- Lg10
section
variable {c : Cx} {F : Fm} {n : Nat} {σ σ2 : St} {as as0 : List Addr} {scope : Scope} {cl : List (Str × Addr)} {lo loc' : List (Str × V)}

theorem cells_fresh {h : Heap} {names : List (Str × NameKind)} : CellsOk (pushCells (h.push { cls := .type "dict", data := .dict #[] }) names) (h.objs.size + 1) (cellsFrom (h.objs.size + 1) names []) := by
  have := cellsFrom_ok names (h.push { cls := .type "dict", data := .dict #[] }) (h.objs.size + 1) [] ⟨fun _ _ m => (nomatch m), List.Pairwise.nil⟩ (by rw [Heap.size_push]; exact Nat.le_refl _)
  rwa [Heap.size_push] at this

theorem vol_D {D a : Addr} : a ∈ F.vol (as ++ [D]) → a ∈ (F.plus [D]).vol as := fun m => by
  rcases vol_snoc m with m | m
  · rcases mem_vol.mp m with m | m | m
    · exact mem_vol.mpr (.inl (List.mem_append_right _ m))
    · exact mem_vol.mpr (.inr (.inl m))
    · exact mem_vol.mpr (.inr (.inr m))
  · exact mem_vol.mpr (.inl (List.mem_append_left _ (List.mem_singleton.mpr m)))
theorem Inv.addD {h : Heap} {D : Addr} {xs : List V} {vs : List Value} {m : Nat} (I : Inv c.H0 (F.plus [D]) σ as h) (hD : D ∉ F.own ++ as) (hX : D ∉ F.X) (hC : ∀ x d, F.env.cells.lookup x = some d → d ∉ [D]) (hn : h.get? D = some (lobj vs m))
    (q : VRs ((F.plus [D]).vol as) as h xs vs) : Inv c.H0 F ⟨σ.loc, σ.mu ++ [xs]⟩ (as ++ [D]) h := by
  have up : ∀ {x : V} {v : Value}, VR ((F.plus [D]).vol as) as h x v → VR (F.vol (as ++ [D])) (as ++ [D]) h x v := fun q =>
    q.mono (fun _ _ _ e => e) (fun a m => .inl (vol_D m)) fun i a e => by rw [List.getElem?_append_left (List.getElem?_eq_some_iff.mp e).1]; exact e
  have ups : ∀ {x : List V} {v : List Value}, VRs ((F.plus [D]).vol as) as h x v → VRs (F.vol (as ++ [D])) (as ++ [D]) h x v := fun q =>
    q.mono (fun _ _ _ e => e) (fun a m => .inl (vol_D m)) fun i a e => by rw [List.getElem?_append_left (List.getElem?_eq_some_iff.mp e).1]; exact e
  exact {
    base := I.base
    off := fun a m => I.off a (vol_D m)
    nodup := by
      rw [← List.append_assoc]
      refine List.nodup_append.mpr ⟨I.nodup, by simp, fun a m b m' e => hD ?_⟩
      rw [List.mem_singleton.mp m'] at e
      exact e ▸ m
    apart := fun i a hi e m => by
      by_cases hl : i < as.length
      · rw [List.getElem?_append_left hl] at e; exact I.apart i a hi e (List.mem_append_right _ m)
      · rw [List.getElem?_append_right (Nat.not_lt.mp hl)] at e
        have := List.mem_singleton.mp (List.mem_of_getElem? e)
        exact hX (this ▸ m)
    ns := by obtain ⟨m, k, r⟩ := I.ns; exact ⟨m, k, fun y u e k => by obtain ⟨u', a, b⟩ := r y u e k; exact ⟨u', a, up b⟩⟩
    cel := fun y u e k => by obtain ⟨c, u', a, d, e⟩ := I.cel y u e k; exact ⟨c, u', a, d, up e⟩
    cex := I.cex
    ro := fun x d e => (I.ro x d e).imp id fun m => ⟨(List.mem_append.mp m.1).elim (fun z => absurd z (hC x d e)) id, fun q => by
      rw [← List.append_assoc] at q
      rcases List.mem_append.mp q with q | q
      · exact m.2 q
      · exact hC x d e q⟩
    len := by simp only [List.length_append, List.length_singleton, I.len]
    muts := fun j ys e => by
      dsimp only at e
      by_cases hl : j < σ.mu.length
      · rw [List.getElem?_append_left hl] at e
        obtain ⟨a, ws, k, e1, e2, r⟩ := I.muts j ys e
        exact ⟨a, ws, k, by rw [List.getElem?_append_left (by rw [I.len]; exact hl)]; exact e1, e2, ups r⟩
      · rw [List.getElem?_append_right (Nat.not_lt.mp hl)] at e
        have hj : j - σ.mu.length = 0 := by
          have := (List.getElem?_eq_some_iff.mp e).1
          simp only [List.length_singleton] at this; omega
        rw [hj] at e
        cases e
        exact ⟨D, vs, m, by rw [List.getElem?_append_right (by rw [I.len]; omega), I.len, hj]; rfl, hn, ups q⟩
    live := fun a m => I.live a (List.mem_append_right _ m) }

theorem comp_core {elt iter tgt : Expr} {pos : Pos} {mus : Nat → List (List V)} {T U : Nat → St} {k : Nat} {X Yv : Nat → V} {ys : List V} {A : Around} {s : Shared} {E : Value → Shared → Prop} {P : Value → Shared → Prop}
    (ok : Okay n A) (I : Inv c.H0 F σ as s.heap)
    (hm : Mk c F n iter tgt σ (fun i => ⟨lo, mus i⟩) k X) (hclos : closureFor scope F.env = pure cl) (hkind : scope.kind = .function)
    (hnames : ∀ x ∈ scope.names, x.2 = .local → scope.names.lookup x.1 = some .local) (hs : ∀ x, foldedSetIterable iter F.env x = pure x)
    (hcl : ∀ p ∈ cl, F.env.cells.lookup p.1 = some p.2)
    (hcap : ∀ C, ∀ p ∈ loc', lo.lookup p.1 = some p.2 ∧ F.env.kindOf p.1 ≠ some .local ∧ (compEnvC scope (cellsFrom (C + 1) scope.names cl) C F.env).kindOf p.1 ≠ some .local ∧ (cellsFrom (C + 1) scope.names cl).lookup p.1 = F.env.cells.lookup p.1)
    (hlen : ys.length = k) (hys : ∀ i, i < k → ys[i]? = some (Yv i)) (hk : k ≤ 1000000)
    (turn : ∀ i, i < k → ∀ C Y', (∀ x d, F.env.cells.lookup x = some d → d ∉ C :: (cellsFrom (C + 1) scope.names []).map (·.2)) → Asg c (F.comp scope cl C Y') n tgt (X i) ⟨loc', mus i⟩ (T i) ∧ Ev c (F.comp scope cl C Y') n elt (T i) (Yv i) (U i))
    (hU : ∀ i, i < k → (U i).mu = mus (i + 1))
    (hq : ∀ as3 s3 vs D m3, Inv c.H0 (F.plus [D]) ⟨lo, mus k⟩ as3 s3.heap → Stp F as s as3 s3 → VRs ((F.plus [D]).vol as3) as3 s3.heap ys vs → D ∉ F.own ++ as3 → D ∉ F.X → (∀ x d, F.env.cells.lookup x = some d → d ∉ [D]) → s.heap.get? D = none →
      s3.heap.get? D = some (lobj vs m3) → P (.ref D) s3) :
    wpAny (model c.prog c.w) A (eval (.ListComp elt [⟨tgt, iter, [], 0⟩] scope pos) F.env) P E s := by
  rw [eval_ListComp]
  refine wpAny_comprehension_free (use := none) rfl hs hclos hkind hnames ?_
  refine hm A as s E _ ok I fun it Z J as1 s1 N J0 I0 hZ S0 => ?_
  refine wpAny_newObj_type (newEnv_comp ?_)
  -- the list, the frame, its cells
  generalize hDe : s1.heap.objs.size = D
  generalize hH2e : s1.heap.push { cls := .type "list", dict := none, data := .seq ([] : List Value).toArray } = H2
  have hC2 : H2.objs.size = D + 1 := by rw [← hH2e, Heap.size_push, hDe]
  generalize hCe : H2.objs.size = C at hC2
  dsimp only
  generalize hH4e : pushCells (H2.push { cls := .type "dict", data := .dict #[] }) scope.names = H4
  have cok : CellsOk H4 (C + 1) (cellsFrom (C + 1) scope.names []) := by rw [← hH4e, ← hCe]; exact cells_fresh
  have k12 : ∀ a o, s1.heap.get? a = some o → H2.get? a = some o := fun a o e => hH2e ▸ Heap.get?_push_of_some _ e
  have k24 : ∀ a o, H2.get? a = some o → H4.get? a = some o := fun a o e => hH4e ▸ pushCells_keeps _ _ a o (Heap.get?_push_of_some _ e)
  have k14 : ∀ a o, s1.heap.get? a = some o → H4.get? a = some o := fun a o e => k24 a o (k12 a o e)
  have zD : s1.heap.get? D = none := hDe ▸ size_none _
  have zC : s1.heap.get? C = none := Heap.get?_none_of_le (by rw [hDe, hC2]; exact Nat.le_succ _)
  have zN : ∀ a ∈ (cellsFrom (C + 1) scope.names []).map (·.2), s1.heap.get? a = none := fun a m => by
    obtain ⟨p, hp, rfl⟩ := List.mem_map.mp m
    have := (cok.empty p.1 p.2 hp).2
    exact Heap.get?_none_of_le (by rw [hDe]; omega)
  have zW : ∀ a ∈ C :: (cellsFrom (C + 1) scope.names []).map (·.2), s1.heap.get? a = none := fun a m => (List.mem_cons.mp m).elim (fun e => e ▸ zC) (zN a)
  have DnW : D ∉ C :: (cellsFrom (C + 1) scope.names []).map (·.2) := fun m => by
    rcases List.mem_cons.mp m with e | m
    · omega
    · obtain ⟨p, hp, e⟩ := List.mem_map.mp m
      have := (cok.empty p.1 p.2 hp).2
      omega
  have ndW : (C :: (cellsFrom (C + 1) scope.names []).map (·.2)).Nodup := by
    refine List.nodup_cons.mpr ⟨fun m => ?_, ?_⟩
    · obtain ⟨p, hp, e⟩ := List.mem_map.mp m
      have := (cok.empty p.1 p.2 hp).2
      omega
    · exact List.pairwise_map.mpr (cok.apart.imp fun h => h)
  have Dlist : H4.get? D = some (lobj [] 0) := k24 _ _ (by rw [← hH2e, ← hDe]; exact Heap.get?_push_size _ rfl)
  have CNs : ∃ m, H4.Ns C m := ⟨_, by
    have := (Heap.Ns.new H2 (.type "dict")).keeps (h' := H4) fun a o e => hH4e ▸ pushCells_keeps _ _ a o e
    rw [hCe] at this; exact this⟩
  have NcI : ∀ d ∈ (cellsFrom (C + 1) scope.names []).map (·.2), ∃ v0, H4.IsCell d v0 := fun d m => by
    obtain ⟨p, hp, rfl⟩ := List.mem_map.mp m
    exact ⟨_, (cok.empty p.1 p.2 hp).1⟩
  -- the volatile addresses
  let Y : List Addr := (D :: C :: (cellsFrom (C + 1) scope.names []).map (·.2)) ++ (Z ++ F.X)
  have zY : ∀ a ∈ D :: C :: (cellsFrom (C + 1) scope.names []).map (·.2), s1.heap.get? a = none := fun a m => (List.mem_cons.mp m).elim (fun e => e ▸ zD) (zW a)
  have hWY : ∀ a ∈ C :: (cellsFrom (C + 1) scope.names []).map (·.2), a ∈ Y := fun a m => List.mem_append_left _ (List.mem_cons_of_mem _ m)
  have hZY : ∀ a ∈ Z, a ∈ Y := fun a m => List.mem_append_right _ (List.mem_append_left _ m)
  have Ylive : ∀ a ∈ D :: C :: (cellsFrom (C + 1) scope.names []).map (·.2), ∃ o, H4.get? a = some o := fun a m => by
    rcases List.mem_cons.mp m with rfl | m
    · exact ⟨_, Dlist⟩
    · rcases List.mem_cons.mp m with rfl | m
      · obtain ⟨m, o, _, _, e, _⟩ := CNs; exact ⟨o, e⟩
      · obtain ⟨v0, o, e, _⟩ := NcI a m; exact ⟨o, e⟩
  have zS : ∀ a ∈ D :: C :: (cellsFrom (C + 1) scope.names []).map (·.2), s.heap.get? a = none := fun a m => by
    cases e : s.heap.get? a with
    | none => rfl
    | some o => obtain ⟨o', e'⟩ := S0.alive a o e; rw [zY a m] at e'; cases e'
  have I4 : Inv c.H0 (F.at Y) ⟨lo, mus 0⟩ as1 H4 := I0.move (Z := []) (X' := Y) (fun a o _ e => k14 a o e) (fun _ m => nomatch m) (fun _ m => nomatch m) (fun _ _ _ m => nomatch m) (fun _ _ _ m => List.mem_append_right _ m)
    (fun a m => (List.mem_append.mp m).elim (fun m => .inr (zY a m)) .inl) fun a m => (List.mem_append.mp m).elim (Ylive a) fun m => by obtain ⟨o, e⟩ := I0.live a m; exact ⟨o, k14 a o e⟩
  have J4 : J Y 0 as1 H4 := N.enl _ _ _ _ _ _ J0 k14 fun a m => (List.mem_append.mp m).elim (fun m => .inr (zY a m)) .inl
  have cellOff : ∀ x d, F.env.cells.lookup x = some d → ∃ o, s.heap.get? d = some o := fun x d e => I.look_live e
  have hcn : ∀ x d, F.env.cells.lookup x = some d → d ∉ C :: (cellsFrom (C + 1) scope.names []).map (·.2) := fun x d e m => by
    obtain ⟨o, e'⟩ := cellOff x d e; rw [zS d (List.mem_cons_of_mem _ m)] at e'; cases e'
  have hcZ : ∀ x d, F.env.cells.lookup x = some d → d ∉ Z := fun x d e m => by
    obtain ⟨o, e'⟩ := cellOff x d e; rw [(hZ d m).1] at e'; cases e'
  have hcD : ∀ x d, F.env.cells.lookup x = some d → d ∉ [D] := fun x d e m => by
    obtain ⟨o, e'⟩ := cellOff x d e; rw [zS d (by rw [List.mem_singleton.mp m]; exact List.mem_cons_self)] at e'; cases e'
  have ZnW : ∀ a ∈ D :: C :: (cellsFrom (C + 1) scope.names []).map (·.2), a ∉ Z := fun a m z => by
    obtain ⟨o, e⟩ := N.live _ _ _ _ J0 a z; rw [zY a m] at e; cases e
  have XnY : ∀ a ∈ F.X, a ∉ (D :: C :: (cellsFrom (C + 1) scope.names []).map (·.2)) ++ Z := fun a m q => by
    obtain ⟨o, e⟩ := I.live a m
    rcases List.mem_append.mp q with q | q
    · rw [zS a q] at e; cases e
    · rw [(hZ a q).1] at e; cases e
  have dis0 : ∀ a ∈ (D :: C :: (cellsFrom (C + 1) scope.names []).map (·.2)) ++ Z, a ∉ F.own ++ as1 := fun a m q => by
    rcases List.mem_append.mp m with m | m
    · obtain ⟨o, e⟩ := I0.vol_live a (mem_vol.mpr (.inr (List.mem_append.mp q))); rw [zY a m] at e; cases e
    · exact (hZ a m).2 q
  have loop : codeAny (model c.prog c.w) A (.compLoop (.ListComp elt [⟨tgt, iter, [], 0⟩] scope pos) 0 it (.ref D) (compEnvC scope (cellsFrom (C + 1) scope.names cl) C F.env)) (compPost (model c.prog c.w) A E none P (.ref D) C) { s1 with heap := H4 } := by
    refine compLoop_any (fun q s' => ∃ i as' vs mD, i ≤ k ∧ q = k - i + 1 ∧ Inv c.H0 (F.at Y) ⟨lo, mus i⟩ as' s'.heap ∧ J Y i as' s'.heap ∧ (∀ a ∈ (D :: C :: (cellsFrom (C + 1) scope.names []).map (·.2)) ++ Z, a ∉ F.own ++ as') ∧
      s'.heap.get? D = some (lobj vs mD) ∧ VRs ((F.at Y).vol as') as' s'.heap (ys.take i) vs ∧ (∃ m, s'.heap.Ns C m) ∧ (∀ d ∈ (cellsFrom (C + 1) scope.names []).map (·.2), ∃ v0, s'.heap.IsCell d v0) ∧ Stp F as s as' s') ?_ (k - 0 + 1)
      ⟨0, as1, [], 0, Nat.zero_le _, rfl, I4, J4, dis0, Dlist, .nil, CNs, NcI, S0.trans (Stp.keeps k14 ⟨H4, s1.toks, rfl⟩)⟩
    rintro q s' ⟨i, as', vs, mD, hi, rfl, I', J', hd, hD, hV, hC', hN', S'⟩
    have fre : ∀ a ∈ (D :: C :: (cellsFrom (C + 1) scope.names []).map (·.2)) ++ Z, s.heap.get? a = none := fun a m => (List.mem_append.mp m).elim (zS a) fun m => (hZ a m).1
    have hdW : ∀ a ∈ C :: (cellsFrom (C + 1) scope.names []).map (·.2), a ∉ F.own ++ as' := fun a m => hd a (List.mem_append_left _ (List.mem_cons_of_mem _ m))
    have hdZ : ∀ a ∈ Z, a ∉ F.own ++ as' := fun a m => hd a (List.mem_append_right _ m)
    by_cases hlt : i < k
    · obtain ⟨ta, tb⟩ := turn i hlt C (F.own ++ Y) hcn
      refine wpAny_mono (N.item Y i A as' s' _ _ _ hZY hlt ok I' J' ?_) (fun r s₁ h₁ => by cases r <;> exact h₁) fun _ _ x => x
      intro v' h' tk j hk' qv
      have I2 : Inv c.H0 (F.at Y) ⟨lo, mus i⟩ as' h' := I'.move (F := F.at Y) (Z := Z) (X' := Y) hk' hZY hdZ hcZ (fun _ _ _ m => m) (fun a m => .inl m) fun a m => by
        by_cases z : a ∈ Z
        · exact N.live _ _ _ _ j a z
        · obtain ⟨o, e⟩ := I'.live a m; exact ⟨o, hk' a o z e⟩
      have hD2 : h'.get? D = some (lobj vs mD) := hk' _ _ (ZnW D List.mem_cons_self) hD
      have hC2' : ∃ m, h'.Ns C m := by obtain ⟨m, o, es, ep, e, r⟩ := hC'; exact ⟨m, o, es, ep, hk' _ _ (ZnW C (by simp)) e, r⟩
      have hN2 : ∀ d ∈ (cellsFrom (C + 1) scope.names []).map (·.2), ∃ v0, h'.IsCell d v0 := fun d m => by
        obtain ⟨v0, o, e, r⟩ := hN' d m
        exact ⟨v0, o, hk' _ _ (ZnW d (List.mem_cons_of_mem _ (List.mem_cons_of_mem _ m))) e, r⟩
      have hV2 : VRs ((F.at Y).vol as') as' h' (ys.take i) vs := hV.move (F := F.at Y) (Z := Z) (X' := Y) hk' hZY fun a m => .inl m
      have S2' : Stp F as s as' { s' with heap := h', toks := tk } := S'.iter (fun a m => (hZ a m).1) hk' fun a o e nz => ⟨o, hk' a o nz e⟩
      have IG := I2.into (scope := scope) (cl := cl) (loc' := loc') hWY ndW hdW hcn hC2' hN2 hcl (hcap C)
      refine wpAny_mono (ta A as' { s' with heap := h', toks := tk } _ v' ok IG (qv.volEq (comp_vol hWY))) (fun _ s2 ⟨as2, IG2, SG2⟩ => ?_) fun _ _ x => x
      refine wpAny_mono (tb A as2 s2 _ ok IG2) (fun y s3 ⟨as3, IG3, qy, SG3⟩ => ?_) fun _ _ x => x
      have SG := SG2.trans SG3
      have I3 := Inv.back (s := { s' with heap := h', toks := tk }) I2 hWY hdW hcn IG3 SG
      rw [hU i hlt] at I3
      have Dn : D ∉ (F.comp scope cl C (F.own ++ Y)).own ++ as' := fun m => by
        rcases List.mem_append.mp m with m | m
        · exact DnW m
        · exact hd D (List.mem_append_left _ List.mem_cons_self) (List.mem_append_right _ m)
      have hD3 : s3.heap.get? D = some (lobj vs mD) := SG.kept _ _ Dn hD2
      have upV : VRs ((F.at Y).vol as3) as3 s3.heap (ys.take i) vs := by
        have := (hV2.volEq (comp_vol hWY) : VRs ((F.comp scope cl C (F.own ++ Y)).vol as') as' h' _ _)
        exact (VRs.stp (s := { s' with heap := h', toks := tk }) SG this).volEq comp_vol'
      have hd3 : ∀ a ∈ (D :: C :: (cellsFrom (C + 1) scope.names []).map (·.2)) ++ Z, a ∉ F.own ++ as3 := fun a m q => by
        rcases List.mem_append.mp q with q | q
        · exact hd a m (List.mem_append_left _ q)
        · rcases SG.fresh a q with q | z
          · exact hd a m (List.mem_append_right _ q)
          · have : ∃ o, h'.get? a = some o := by
              rcases List.mem_append.mp m with m | m
              · exact I2.live a (List.mem_append_left _ m)
              · exact N.live _ _ _ _ j a m
            obtain ⟨o, e⟩ := this
            have z : h'.get? a = none := z
            rw [z] at e; cases e
      have hl : vs.length = i := by rw [← hV.length, List.length_take, hlen]; omega
      have hz : sizeLine = 16777216 := rfl
      refine wpAny_list_append_plain (plain_list hD3) (fun h5 hp hs5 => ?_) (by rw [List.size_toArray, hl]; omega)
      obtain ⟨m5, hn5⟩ := hp
      have hn5' : h5.get? D = some (lobj (vs ++ [y]) m5) := by rw [hn5]; simp
      have k5 : ∀ a o, a ∉ [D] → s3.heap.get? a = some o → h5.get? a = some o := fun a o nd e => hs5.extBut a o (fun z => nd (List.mem_singleton.mpr z)) e
      have DY : ∀ a ∈ [D], a ∈ Y := fun a m => by rw [List.mem_singleton.mp m]; exact List.mem_append_left _ List.mem_cons_self
      have I5 : Inv c.H0 (F.at Y) ⟨lo, mus (i + 1)⟩ as3 h5 := I3.move (F := F.at Y) (Z := [D]) (X' := Y) k5 DY (fun a m => by rw [List.mem_singleton.mp m]; exact hd3 D (List.mem_append_left _ List.mem_cons_self)) hcD (fun _ _ _ m => m) (fun a m => .inl m) fun a m => by
        by_cases z : a = D
        · exact ⟨_, z ▸ hn5'⟩
        · obtain ⟨o, e⟩ := I3.live a m; exact ⟨o, hs5.extBut a o z e⟩
      have V5 : VRs ((F.at Y).vol as3) as3 h5 (ys.take (i + 1)) (vs ++ [y]) := by
        have e : ys.take (i + 1) = ys.take i ++ [Yv i] := by
          rw [List.take_add_one, hys i hlt]; rfl
        rw [e]
        have a1 : VRs ((F.at Y).vol as3) as3 h5 (ys.take i) vs := upV.move (F := F.at Y) (Z := [D]) (X' := Y) k5 DY fun a m => .inl m
        have a2 : VR ((F.at Y).vol as3) as3 h5 (Yv i) y := (qy.volEq comp_vol' : VR ((F.at Y).vol as3) as3 s3.heap _ _).move (F := F.at Y) (Z := [D]) (X' := Y) k5 DY fun a m => .inl m
        exact a1.append (.cons a2 .nil)
      refine ⟨k - (i + 1) + 1, by omega, i + 1, as3, vs ++ [y], m5, hlt, rfl, I5, ?_, hd3, hn5', V5, ?_, ?_, ?_⟩
      · refine N.frame Y (i + 1) as' h' as3 h5 j (fun a o nv e => ?_) SG.fresh SG.pre fun a m o e => ?_
        · refine hs5.extBut a o (fun z => nv (z ▸ mem_vol.mpr (.inl (DY D (List.mem_singleton.mpr rfl))))) (SG.kept a o (fun q => nv ?_) e)
          rcases List.mem_append.mp q with q | q
          · exact mem_vol.mpr (.inl (hWY a q))
          · exact mem_vol.mpr (.inr (.inr q))
        · refine hs5.extBut a o (fun z => ZnW D List.mem_cons_self (z ▸ m)) (SG.kept a o (fun q => ?_) e)
          rcases List.mem_append.mp q with q | q
          · exact ZnW a (List.mem_cons_of_mem _ q) m
          · exact hdZ a m (List.mem_append_right _ q)
      · obtain ⟨m, hn, _⟩ := IG3.ns
        exact ⟨m, hn.sameBut hs5 fun z => DnW (by rw [show D = C from z.symm]; exact List.mem_cons_self)⟩
      · exact fun d m => by
          obtain ⟨v0, qd⟩ := IG3.cex d m
          exact ⟨v0, qd.sameBut hs5 fun z => DnW (by rw [← z]; exact List.mem_cons_of_mem _ m)⟩
      · refine ⟨fun a o nb e => ?_, fun a o e => ?_, fun a m => ?_, fun j a e => SG.pre j a (S2'.pre j a e), ?_⟩
        · have na : a ∉ (D :: C :: (cellsFrom (C + 1) scope.names []).map (·.2)) ++ Z := fun m => by rw [fre a m] at e; cases e
          refine hs5.extBut a o (fun z => na (z ▸ List.mem_append_left _ List.mem_cons_self)) (SG.kept a o (fun q => ?_) (S2'.kept a o nb e))
          rcases List.mem_append.mp q with q | q
          · exact na (List.mem_append_left _ (List.mem_cons_of_mem _ q))
          · rcases S2'.fresh a q with q | z
            · exact nb (List.mem_append_right _ q)
            · rw [z] at e; cases e
        · have na : a ∉ (D :: C :: (cellsFrom (C + 1) scope.names []).map (·.2)) ++ Z := fun m => by rw [fre a m] at e; cases e
          obtain ⟨o1, e1⟩ := S2'.alive a o e
          obtain ⟨o2, e2⟩ := SG.alive a o1 e1
          exact ⟨o2, hs5.extBut a o2 (fun z => na (z ▸ List.mem_append_left _ List.mem_cons_self)) e2⟩
        · rcases SG.fresh a m with m | z
          · exact S2'.fresh a m
          · right
            cases e : s.heap.get? a with
            | none => rfl
            | some o => obtain ⟨o1, e1⟩ := S2'.alive a o e; rw [z] at e1; cases e1
        · obtain ⟨ha, ta', e1⟩ := S'.rest
          obtain ⟨hb, tb', e2⟩ := SG.rest
          exact ⟨h5, tb', by rw [e2, e1]⟩
    · obtain rfl : i = k := Nat.le_antisymm hi (Nat.not_lt.mp hlt)
      refine N.done Y A as' s' _ _ hZY ok I' J' fun h' tk hk' => ?_
      have ht : ys.take i = ys := List.take_of_length_le (by omega)
      rw [ht] at hV
      obtain ⟨m, o, es, ep, eC, rC⟩ := hC'
      refine ⟨m, ⟨o, es, ep, hk' _ _ (ZnW C (by simp)) eC, rC⟩, fun h6 hs6 => ?_⟩
      -- all that may have turned
      have k6 : ∀ a o, a ∉ C :: Z → s'.heap.get? a = some o → h6.get? a = some o := fun a o na e => hs6.extBut a o (fun z => na (z ▸ List.mem_cons_self)) (hk' a o (fun z => na (List.mem_cons_of_mem _ z)) e)
      have CZY : ∀ a ∈ C :: Z, a ∈ Y := fun a m => (List.mem_cons.mp m).elim (fun e => hWY a (e ▸ List.mem_cons_self)) (hZY a)
      have DnCZ : D ∉ C :: Z := fun m => (List.mem_cons.mp m).elim (fun e => DnW (e ▸ List.mem_cons_self)) (ZnW D List.mem_cons_self)
      have hX : ∀ a ∈ [D] ++ F.X, a ∈ Y := fun a m => (List.mem_append.mp m).elim (fun m => by rw [List.mem_singleton.mp m]; exact List.mem_append_left _ List.mem_cons_self) fun m => List.mem_append_right _ (List.mem_append_right _ m)
      have XnCZ : ∀ a ∈ F.X, a ∉ C :: Z := fun a m q => XnY a m ((List.mem_cons.mp q).elim (fun e => List.mem_append_left _ (e ▸ by simp)) fun q => List.mem_append_right _ q)
      have hD6 : h6.get? D = some (lobj vs mD) := k6 _ _ DnCZ hD
      refine hq as' { s' with heap := h6, toks := tk } vs D mD ?_ ?_ (hV.move (F := F.at Y) (Z := C :: Z) (X' := [D] ++ F.X) k6 CZY fun a m => .inl (hX a m)) (hd D (List.mem_append_left _ List.mem_cons_self)) (fun m => XnY D m (List.mem_append_left _ List.mem_cons_self)) hcD (zS D List.mem_cons_self) hD6
      · refine I'.move (F := F.at Y) (Z := C :: Z) (X' := [D] ++ F.X) k6 CZY (fun a m => (List.mem_cons.mp m).elim (fun e => e ▸ hdW C List.mem_cons_self) (hdZ a)) (fun x d e m => (List.mem_cons.mp m).elim (fun z => hcn x d e (z ▸ List.mem_cons_self)) (hcZ x d e)) (fun x d e m => ?_) (fun a m => .inl (hX a m)) fun a m => ?_
        · rcases List.mem_append.mp m with m | m
          · rcases List.mem_cons.mp m with z | m
            · exact absurd (List.mem_singleton.mpr z) (hcD x d e)
            · exact absurd m (hcn x d e)
          · rcases List.mem_append.mp m with m | m
            · exact absurd m (hcZ x d e)
            · exact List.mem_append_right _ m
        · rcases List.mem_append.mp m with m | m
          · rw [List.mem_singleton.mp m]; exact ⟨_, hD6⟩
          · obtain ⟨o, e⟩ := I'.live a (hX a (List.mem_append_right _ m))
            exact ⟨o, k6 a o (XnCZ a m) e⟩
      · refine Stp.iter (Z := C :: Z) S' (fun a m => (List.mem_cons.mp m).elim (fun e => zS a (by rw [e]; simp)) fun m => (hZ a m).1) k6 fun a o e na => ⟨o, k6 a o na e⟩
  exact codeAny_compStart_list loop (N.self _ _ as1 _ _ _ J4 loop)

theorem Ev.comp {elt iter tgt : Expr} {pos : Pos} {mus : Nat → List (List V)} {T U : Nat → St} {k : Nat} {X Yv : Nat → V} {ys : List V} (loc' : List (Str × V))
    (hm : Mk c F n iter tgt σ (fun i => ⟨lo, mus i⟩) k X) (hclos : closureFor scope F.env = pure cl) (hkind : scope.kind = .function)
    (hnames : ∀ x ∈ scope.names, x.2 = .local → scope.names.lookup x.1 = some .local) (hs : ∀ x, foldedSetIterable iter F.env x = pure x)
    (hcl : ∀ p ∈ cl, F.env.cells.lookup p.1 = some p.2)
    (hcap : ∀ C, ∀ p ∈ loc', lo.lookup p.1 = some p.2 ∧ F.env.kindOf p.1 ≠ some .local ∧ (compEnvC scope (cellsFrom (C + 1) scope.names cl) C F.env).kindOf p.1 ≠ some .local ∧ (cellsFrom (C + 1) scope.names cl).lookup p.1 = F.env.cells.lookup p.1)
    (hlen : ys.length = k) (hys : ∀ i, i < k → ys[i]? = some (Yv i)) (hk : k ≤ 1000000)
    (turn : ∀ i, i < k → ∀ C Y', (∀ x d, F.env.cells.lookup x = some d → d ∉ C :: (cellsFrom (C + 1) scope.names []).map (·.2)) → Asg c (F.comp scope cl C Y') n tgt (X i) ⟨loc', mus i⟩ (T i) ∧ Ev c (F.comp scope cl C Y') n elt (T i) (Yv i) (U i))
    (hU : ∀ i, i < k → (U i).mu = mus (i + 1)) :
    Ev c F n (.ListComp elt [⟨tgt, iter, [], 0⟩] scope pos) σ (.lst ys) ⟨lo, mus k⟩ := fun A as s E ok I =>
  comp_core ok I hm hclos hkind hnames hs hcl hcap hlen hys hk turn hU fun as3 s3 vs D m3 I3 S3 q d1 d2 hcD z e =>
    ⟨as3, I3.shrink hcD, .lst (fun m => by
      rcases mem_vol.mp m with m | m
      · exact d2 m
      · exact d1 (List.mem_append.mpr m)) e (q.volEq fun a m => by
      rcases mem_vol.mp m with m | m
      · exact mem_vol.mpr (.inl (List.mem_append_right _ m))
      · exact mem_vol.mpr (.inr m)), S3⟩
theorem Ev.compMu {elt iter tgt : Expr} {pos : Pos} {mus : Nat → List (List V)} {T U : Nat → St} {k : Nat} {X Yv : Nat → V} {ys : List V} (loc' : List (Str × V))
    (hm : Mk c F n iter tgt σ (fun i => ⟨lo, mus i⟩) k X) (hclos : closureFor scope F.env = pure cl) (hkind : scope.kind = .function)
    (hnames : ∀ x ∈ scope.names, x.2 = .local → scope.names.lookup x.1 = some .local) (hs : ∀ x, foldedSetIterable iter F.env x = pure x)
    (hcl : ∀ p ∈ cl, F.env.cells.lookup p.1 = some p.2)
    (hcap : ∀ C, ∀ p ∈ loc', lo.lookup p.1 = some p.2 ∧ F.env.kindOf p.1 ≠ some .local ∧ (compEnvC scope (cellsFrom (C + 1) scope.names cl) C F.env).kindOf p.1 ≠ some .local ∧ (cellsFrom (C + 1) scope.names cl).lookup p.1 = F.env.cells.lookup p.1)
    (hlen : ys.length = k) (hys : ∀ i, i < k → ys[i]? = some (Yv i)) (hk : k ≤ 1000000)
    (turn : ∀ i, i < k → ∀ C Y', (∀ x d, F.env.cells.lookup x = some d → d ∉ C :: (cellsFrom (C + 1) scope.names []).map (·.2)) → Asg c (F.comp scope cl C Y') n tgt (X i) ⟨loc', mus i⟩ (T i) ∧ Ev c (F.comp scope cl C Y') n elt (T i) (Yv i) (U i))
    (hU : ∀ i, i < k → (U i).mu = mus (i + 1)) :
    Ev c F n (.ListComp elt [⟨tgt, iter, [], 0⟩] scope pos) σ (.mu (mus k).length) ⟨lo, mus k ++ [ys]⟩ := fun A as s E ok I =>
  comp_core ok I hm hclos hkind hnames hs hcl hcap hlen hys hk turn hU fun as3 s3 vs D m3 I3 S3 q d1 d2 hcD z e =>
    ⟨as3 ++ [D], I3.addD d1 d2 hcD e q, .mu (by rw [List.getElem?_append_right (by rw [I3.len]; exact Nat.le_refl _), I3.len, Nat.sub_self]; rfl), S3.kept, S3.alive, fun a m => by
      rcases List.mem_append.mp m with m | m
      · exact S3.fresh a m
      · rw [List.mem_singleton.mp m]; exact .inr z, fun i a e => by
      have := S3.pre i a e
      rw [List.getElem?_append_left (List.getElem?_eq_some_iff.mp this).1]; exact this, S3.rest⟩
end

-- Lg11
-- values without mutable lists of a level
mutual
def V.bel (n : Nat) : V → Bool
  | .int _ => true
  | .raw _ => true
  | .tup xs => V.bels n xs
  | .lst xs => V.bels n xs
  | .mu i => decide (i < n)
def V.bels (n : Nat) : List V → Bool
  | [] => true
  | x :: r => V.bel n x && V.bels n r
end
theorem belows_append {n : Nat} : ∀ (xs ys : List V), V.bels n (xs ++ ys) = (V.bels n xs && V.bels n ys)
  | [], ys => by simp [V.bels]
  | x :: r, ys => by simp [V.bels, belows_append r ys, Bool.and_assoc]
theorem belows_of {n : Nat} : ∀ {xs : List V}, (∀ x ∈ xs, V.bel n x = true) → V.bels n xs = true
  | [], _ => rfl
  | x :: r, h => by
    simp only [V.bels, Bool.and_eq_true]
    exact ⟨h x List.mem_cons_self, belows_of fun y m => h y (List.mem_cons_of_mem _ m)⟩
theorem belows_mem {n : Nat} : ∀ {xs : List V}, V.bels n xs = true → ∀ x ∈ xs, V.bel n x = true
  | x :: r, h, y, m => by
    simp only [V.bels, Bool.and_eq_true] at h
    rcases List.mem_cons.mp m with rfl | m
    · exact h.1
    · exact belows_mem h.2 y m

mutual
inductive Fz (n0 : Nat) (M : List (List V)) : V → V → Prop
  | int (n) : Fz n0 M (.int n) (.int n)
  | raw (v) : Fz n0 M (.raw v) (.raw v)
  | tup {xs ys} : Fzs n0 M xs ys → Fz n0 M (.tup xs) (.tup ys)
  | lst {xs ys} : Fzs n0 M xs ys → Fz n0 M (.lst xs) (.lst ys)
  | old {i} : i < n0 → Fz n0 M (.mu i) (.mu i)
  | mu {i xs ys} : n0 ≤ i → M[i]? = some xs → Fzs n0 M xs ys → Fz n0 M (.mu i) (.lst ys)
inductive Fzs (n0 : Nat) (M : List (List V)) : List V → List V → Prop
  | nil : Fzs n0 M [] []
  | cons {x y xs ys} : Fz n0 M x y → Fzs n0 M xs ys → Fzs n0 M (x :: xs) (y :: ys)
end
section
variable {n0 : Nat} {M : List (List V)}
mutual
theorem Fz.refl : ∀ {x : V}, V.bel n0 x = true → Fz n0 M x x
  | .int n, _ => .int n
  | .raw v, _ => .raw v
  | .tup xs, h => .tup (Fzs.refl (by simpa only [V.bel] using h))
  | .lst xs, h => .lst (Fzs.refl (by simpa only [V.bel] using h))
  | .mu i, h => .old (by simpa only [V.bel, decide_eq_true_eq] using h)
theorem Fzs.refl : ∀ {xs : List V}, V.bels n0 xs = true → Fzs n0 M xs xs
  | [], _ => .nil
  | x :: r, h => by
    simp only [V.bels, Bool.and_eq_true] at h
    exact .cons (Fz.refl h.1) (Fzs.refl h.2)
end
theorem Fzs.of : ∀ {xs ys : List V}, xs.length = ys.length → (∀ (i : Nat) x y, xs[i]? = some x → ys[i]? = some y → Fz n0 M x y) → Fzs n0 M xs ys
  | [], [], _, _ => .nil
  | x :: r, y :: t, hl, h => .cons (h 0 x y rfl rfl) (Fzs.of (by simpa using hl) fun i a b e f => h (i + 1) a b (by simpa using e) (by simpa using f))
  | [], _ :: _, hl, _ => by simp at hl
  | _ :: _, [], hl, _ => by simp at hl

variable {O O' as as' : List Addr} {h : Heap}
mutual
theorem VR.fz (hO : ∀ a, a ∈ O → a ∈ O') (hold : ∀ (i : Nat) a, i < n0 → as'[i]? = some a → as[i]? = some a) (hap : ∀ (i : Nat) a, n0 ≤ i → as'[i]? = some a → a ∉ O)
    (hm : ∀ (i : Nat) xs, M[i]? = some xs → ∃ a vs n, as'[i]? = some a ∧ h.get? a = some (lobj vs n) ∧ VRs O' as' h xs vs) : ∀ {x y : V} {v : Value}, Fz n0 M x y → VR O' as' h x v → VR O as h y v
  | _, _, _, .int n, .int _ t => .int n t
  | _, _, _, .raw v, .raw _ => .raw v
  | _, _, _, .tup r, .tup nm e q => .tup (fun m => nm (hO _ m)) e (VRs.fz hO hold hap hm r q)
  | _, _, _, .lst r, .lst nm e q => .lst (fun m => nm (hO _ m)) e (VRs.fz hO hold hap hm r q)
  | _, _, _, .old hi, .mu e => .mu (hold _ _ hi e)
  | _, _, _, .mu hi hx r, .mu e => by
    obtain ⟨a, vs, n, e1, e2, q⟩ := hm _ _ hx
    rw [e] at e1; cases e1
    exact .lst (hap _ _ hi e) e2 (VRs.fz hO hold hap hm r q)
theorem VRs.fz (hO : ∀ a, a ∈ O → a ∈ O') (hold : ∀ (i : Nat) a, i < n0 → as'[i]? = some a → as[i]? = some a) (hap : ∀ (i : Nat) a, n0 ≤ i → as'[i]? = some a → a ∉ O)
    (hm : ∀ (i : Nat) xs, M[i]? = some xs → ∃ a vs n, as'[i]? = some a ∧ h.get? a = some (lobj vs n) ∧ VRs O' as' h xs vs) : ∀ {x y : List V} {v : List Value}, Fzs n0 M x y → VRs O' as' h x v → VRs O as h y v
  | _, _, _, .nil, .nil => .nil
  | _, _, _, .cons a r, .cons b q => .cons (VR.fz hO hold hap hm a b) (VRs.fz hO hold hap hm r q)
end
end

structure Mut0 (O as : List Addr) (h : Heap) (mu : List (List V)) : Prop where
  len : as.length = mu.length
  nodup : as.Nodup
  sub : ∀ a ∈ as, a ∈ O
  muts : ∀ (i : Nat) xs, mu[i]? = some xs → ∃ a vs n, as[i]? = some a ∧ h.get? a = some (lobj vs n) ∧ VRs O as h xs vs

/-- a call: its arguments and the mutable lists handed in; what comes back -/
def CallM (c : Cx) (n : Nat) (f : Addr) (vs : List V) (mu : List (List V)) (r : V) (mu' : List (List V)) : Prop :=
  (∃ o fd, c.H0.get? f = some o ∧ o.data = .func fd) ∧
  ∀ A s E (O as : List Addr) vs', Okay n A → (∀ a o, c.H0.get? a = some o → s.heap.get? a = some o) → (∀ a ∈ O, c.H0.get? a = none) → (∀ a ∈ O, ∃ o, s.heap.get? a = some o) →
    Mut0 O as s.heap mu → VRs O as s.heap vs vs' →
    wpAny (model c.prog c.w) A (call (.ref f) vs') (fun r' s' => VR O as s'.heap r r' ∧ Mut0 O as s'.heap mu' ∧ (∀ a o, a ∉ as → s.heap.get? a = some o → s'.heap.get? a = some o) ∧
      (∀ a o, s.heap.get? a = some o → ∃ o', s'.heap.get? a = some o') ∧ ∃ h tk, s' = { s with heap := h, toks := tk }) E s
abbrev CallP (c : Cx) (n : Nat) (f : Addr) (vs : List V) (r : V) : Prop := CallM c n f vs [] r []

section
variable {c : Cx} {F : Fm} {n : Nat} {σ σ1 : St} {as : List Addr}

theorem Inv.mut0 {h : Heap} (I : Inv c.H0 F σ as h) : Mut0 (F.vol as) as h σ.mu :=
  ⟨I.len, (List.nodup_append.mp I.nodup).2.1, fun a m => mem_vol.mpr (.inr (.inr m)), I.muts⟩
theorem Inv.after {h h' : Heap} {mu' : List (List V)} (I : Inv c.H0 F σ as h) (hk : ∀ a o, a ∉ as → h.get? a = some o → h'.get? a = some o) (al : ∀ a o, h.get? a = some o → ∃ o', h'.get? a = some o') (m : Mut0 (F.vol as) as h' mu') : Inv c.H0 F ⟨σ.loc, mu'⟩ as h' := by
  have up : ∀ {x : V} {v : Value}, VR (F.vol as) as h x v → VR (F.vol as) as h' x v := fun q => q.mono (fun a o nv e => hk a o (fun m => nv (mem_vol.mpr (.inr (.inr m)))) e) (fun _ m => .inl m) fun _ _ e => e
  exact {
    base := fun a o e => hk a o (fun m => by have := I.off a (mem_vol.mpr (.inr (.inr m))); rw [e] at this; cases this) (I.base a o e)
    off := I.off
    nodup := I.nodup
    apart := I.apart
    ns := by
      obtain ⟨m, ⟨o, es, ep, e, r⟩, q⟩ := I.ns
      exact ⟨m, ⟨o, es, ep, hk _ _ (fun m => I.loc_ne_as m rfl) e, r⟩, fun y u e k => by obtain ⟨u', a, b⟩ := q y u e k; exact ⟨u', a, up b⟩⟩
    cel := fun y u e k => by
      obtain ⟨d, u', a, ⟨o, eo, dd⟩, b⟩ := I.cel y u e k
      exact ⟨d, u', a, ⟨o, hk _ _ (fun m => I.look_ne_as a m rfl) eo, dd⟩, up b⟩
    cex := fun d m => by obtain ⟨v0, o, eo, dd⟩ := I.cex d m; exact ⟨v0, o, hk _ _ (fun q => I.cell_ne_as m q rfl) eo, dd⟩
    ro := I.ro
    len := m.len
    muts := m.muts
    live := fun a m => by obtain ⟨o, e⟩ := I.live a m; exact al a o e }
end
section
variable {O as as2 : List Addr} {h : Heap}
mutual
theorem VR.nomu : ∀ {x : V} {v : Value}, VR O as h x v → V.bel 0 x = true → VR O as2 h x v
  | _, _, .int n t, _ => .int n t
  | _, _, .raw v, _ => .raw v
  | _, _, .tup a b q, e => .tup a b (VRs.nomu q (by simpa only [V.bel] using e))
  | _, _, .lst a b q, e => .lst a b (VRs.nomu q (by simpa only [V.bel] using e))
  | _, _, .mu _, e => by simp [V.bel] at e
theorem VRs.nomu : ∀ {xs : List V} {vs : List Value}, VRs O as h xs vs → V.bels 0 xs = true → VRs O as2 h xs vs
  | _, _, .nil, _ => .nil
  | _, _, .cons a q, e => by
    simp only [V.bels, Bool.and_eq_true] at e
    exact .cons (VR.nomu a e.1) (VRs.nomu q e.2)
end
end
section
variable {c : Cx} {F : Fm} {n : Nat} {σ σ1 : St} {as : List Addr}

theorem VR.as0 {O : List Addr} {h : Heap} {x : V} {v : Value} (q : VR O [] h x v) : VR O as h x v := q.mono (fun _ _ _ e => e) (fun _ m => .inl m) fun i a e => by simp at e

theorem Ev.callM {x : Str} {p pos : Pos} {e1 : Expr} {es : List Expr} {vs : List V} {f : Addr} {r : V} {mu' : List (List V)} (hf : Ev c F (n + 1) (.Name x p) σ (.raw (.ref f)) σ) (ha : Evs c F (n + 1) pos (e1 :: es) σ vs σ1) (hc : CallM c (n + 1) f vs σ1.mu r mu')
    (he : starEach (e1 :: es) F.env = (false, eval e1 F.env) :: starEach es F.env) : Ev c F (n + 1) (.Call (.Name x p) (e1 :: es) [] pos) σ r ⟨σ1.loc, mu'⟩ := fun A as s E ok I => by
  refine Call_ (wpAny_mono (hf A as s E ok I) (fun f' s1 ⟨as1, I1, q1, S1⟩ => ?_) fun _ _ x => x)
  cases q1 with
  | raw _ =>
    obtain ⟨⟨o, fd, ho, hd⟩, hc⟩ := hc
    refine callWith_def (o := o) hd (wpAny_mono (ha A as1 s1 E ok I1) (fun vs' s2 ⟨as2, I2, q2, S2⟩ => ⟨I2.base _ _ ho, ?_⟩) fun _ _ x => x) he
    refine wpAny_mono (hc A s2 E (F.vol as2) as2 vs' ok I2.base I2.off I2.vol_live I2.mut0 q2) (fun r' s3 ⟨qr, m3, k3, al3, h3, t3, e3⟩ => ?_) fun _ _ x => x
    subst e3
    exact ⟨as2, I2.after k3 al3 m3, qr, (S1.trans S2).trans ⟨fun a o nb e => k3 a o (fun m => nb (List.mem_append_right _ m)) e, al3, fun _ m => .inl m, fun _ _ e => e, ⟨_, _, rfl⟩⟩⟩
theorem Ev.call {x : Str} {p pos : Pos} {e1 : Expr} {es : List Expr} {vs : List V} {f : Addr} {r : V} (hf : Ev c F (n + 1) (.Name x p) σ (.raw (.ref f)) σ) (ha : Evs c F (n + 1) pos (e1 :: es) σ vs σ1) (hc : CallP c (n + 1) f vs r) (hb : V.bels 0 vs = true)
    (he : starEach (e1 :: es) F.env = (false, eval e1 F.env) :: starEach es F.env) : Ev c F (n + 1) (.Call (.Name x p) (e1 :: es) [] pos) σ r σ1 := fun A as s E ok I => by
  refine Call_ (wpAny_mono (hf A as s E ok I) (fun f' s1 ⟨as1, I1, q1, S1⟩ => ?_) fun _ _ x => x)
  cases q1 with
  | raw _ =>
    obtain ⟨⟨o, fd, ho, hd⟩, hc⟩ := hc
    refine callWith_def (o := o) hd (wpAny_mono (ha A as1 s1 E ok I1) (fun vs' s2 ⟨as2, I2, q2, S2⟩ => ⟨I2.base _ _ ho, ?_⟩) fun _ _ x => x) he
    refine wpAny_mono (hc A s2 E (F.vol as2) [] vs' ok I2.base I2.off I2.vol_live ⟨rfl, .nil, fun _ m => (nomatch m), fun i xs e => by simp at e⟩ (q2.nomu hb)) (fun r' s3 ⟨qr, m3, k3, al3, h3, t3, e3⟩ => ?_) fun _ _ x => x
    subst e3
    have k : ∀ a o, s2.heap.get? a = some o → h3.get? a = some o := fun a o e => k3 a o (fun m => nomatch m) e
    exact ⟨as2, I2.keeps k, qr.as0, (S1.trans S2).trans (Stp.keeps k ⟨_, _, rfl⟩)⟩

-- entering a def
structure FnAt (c : Cx) (f : Addr) (fd : FuncData) : Prop where
  ob : ∃ o, c.H0.get? f = some o ∧ o.data = .func fd
  code : c.H0.CodeRec fd.code fd.qualname

theorem lookup_zip {O : List Addr} {h : Heap} : ∀ {names : List Str} {vs : List V} {vs' : List Value} {x : Str} {v : V}, VRs O as h vs vs' → (names.zip vs).lookup x = some v → ∃ v', (names.zip vs').lookup x = some v' ∧ VR O as h v v'
  | [], _, _, _, _, _, e => by simp at e
  | y :: r, _, _, _, _, .nil, e => by simp at e
  | y :: r, _, _, x, v, .cons a q, e => by
    simp only [List.zip_cons_cons, List.lookup_cons] at e ⊢
    cases hy : x == y with
    | true => rw [hy] at e; cases e; exact ⟨_, rfl, a⟩
    | false => rw [hy] at e; exact lookup_zip q e
theorem lookup_none_of {α : Type} {x : Str} : ∀ {l : List (Str × α)}, x ∉ l.map (·.1) → l.lookup x = none
  | [], _ => rfl
  | (y, v) :: r, h => by
    rw [List.map_cons, List.mem_cons, not_or] at h
    rw [List.lookup_cons, show (x == y) = false from beq_eq_false_iff_ne.mpr h.1]
    exact lookup_none_of h.2
theorem lookup_append {α : Type} {x : Str} : ∀ (l m : List (Str × α)), (l ++ m).lookup x = (l.lookup x).or (m.lookup x)
  | [], m => by simp
  | (y, v) :: r, m => by
    rw [List.cons_append, List.lookup_cons, List.lookup_cons]
    cases x == y with
    | true => rfl
    | false => exact lookup_append r m
theorem lookup_reverse {α : Type} {x : Str} : ∀ {l : List (Str × α)}, (l.map (·.1)).Nodup → l.reverse.lookup x = l.lookup x
  | [], _ => rfl
  | (y, v) :: r, h => by
    rw [List.map_cons, List.nodup_cons] at h
    rw [List.reverse_cons, lookup_append, lookup_reverse h.2, List.lookup_cons, List.lookup_cons]
    cases hy : x == y with
    | true =>
      have : x = y := beq_iff_eq.mp hy
      subst this
      rw [lookup_none_of h.1]; rfl
    | false => simp
theorem zip_names {α : Type} : ∀ {names : List Str} {vs : List α}, names.length = vs.length → (names.zip vs).map (·.1) = names
  | [], _, _ => by simp
  | _ :: _, [], h => by simp at h
  | _ :: r, _ :: t, h => by rw [List.zip_cons_cons, List.map_cons, zip_names (by simpa using h)]

theorem leave_mut0 {F' : Fm} {O as as' : List Addr} {h' : Heap} {σ' : St} {mu mu' : List (List V)} (hn : F'.n0 = mu.length) (hX : F'.X = O) (I : Inv c.H0 F' σ' as' h') (hpre : ∀ (i : Nat) a, as[i]? = some a → as'[i]? = some a) (m : as.length = mu.length) (hnd : as.Nodup) (hsub : ∀ a ∈ as, a ∈ O)
    (hmu : σ'.mu.take mu.length = mu') (hl : mu'.length = mu.length) (hbel : ∀ xs ∈ mu', V.bels mu.length xs = true) : Mut0 O as h' mu' := by
  refine ⟨m.trans hl.symm, hnd, hsub, fun i xs e => ?_⟩
  have hi : i < mu.length := by rw [← hl]; exact (List.getElem?_eq_some_iff.mp e).1
  have e' : σ'.mu[i]? = some xs := by
    rw [← hmu, List.getElem?_take] at e
    simpa [hi] using e
  obtain ⟨a, vs, k, e1, e2, q⟩ := I.muts i xs e'
  have hai : i < as.length := by rw [m]; exact hi
  have e3 := hpre i _ (List.getElem?_eq_getElem hai)
  rw [e1] at e3; cases e3
  refine ⟨_, vs, k, List.getElem?_eq_getElem hai, e2, ?_⟩
  refine VRs.fz (n0 := mu.length) (M := σ'.mu) (O' := F'.vol as') (fun a m => mem_vol.mpr (.inl (hX ▸ m))) (fun j b hj e => ?_) (fun j b hj e => hX ▸ I.apart j b (hn ▸ hj) e) I.muts (Fzs.refl (hbel xs (List.mem_of_getElem? e))) q
  have hj' : j < as.length := by rw [m]; exact hj
  have := hpre j _ (List.getElem?_eq_getElem hj')
  rw [e] at this; cases this
  exact List.getElem?_eq_getElem hj'

theorem CallM.intro {f : Addr} {fd : FuncData} {body : List Stmt} {names : List Str} {vs : List V} {mu mu' : List (List V)} {v r : V} {σ' : St} (hf : FnAt c f fd) (hbody : fd.body = .stmts body) (hcell : ∀ x ∈ fd.scope.names, x.2 ≠ .cell)
    (hlen : names.length = vs.length) (hnd : names.Nodup) (hbind : ∀ vs' : List Value, vs'.length = vs.length → bindArgs fd ⟨vs', []⟩ = pure (names.zip vs')) (hloc : ∀ x ∈ names, fd.scope.names.lookup x = some .local)
    (hco : fd.scope.isCoroutine = false) (hgen : fd.scope.isGenerator = false) (hk : fd.scope.kind = .function) (hclo : fd.closure = [])
    (h : ∀ L O, Exs c ⟨callEnv fd L f, O, mu.length, []⟩ n body ⟨names.zip vs, mu⟩ (.ret v) σ') (hfz : Fz mu.length σ'.mu v r) (hmu : σ'.mu.take mu.length = mu') (hl : mu'.length = mu.length) (hbel : ∀ xs ∈ mu', V.bels mu.length xs = true) : CallM c (n + 1) f vs mu r mu' := by
  obtain ⟨o, ho, hd⟩ := hf.ob
  refine ⟨⟨o, fd, ho, hd⟩, fun A s E O as vs' ok base off live m q => ?_⟩
  refine wpAny_call ?_
  refine codeAny_call_def (body := body) (binds := names.zip vs') (by have := ok.2.1; rw [show recursionLimit = 1000 from rfl]; omega) (base _ _ ho) hd (c.nolimit.keeps base) (hf.code.keeps base) hbody (BindsTo.of_eq (hbind vs' q.length.symm)) hcell
    (fun x hx => hloc _ (List.of_mem_zip hx).1) (fun h₀ hns hkp => ?_) hco hgen hk
  generalize hL : s.heap.objs.size = L at *
  have zL : s.heap.get? L = none := hL ▸ size_none _
  have Lo : L ∉ O := fun mm => by obtain ⟨o, e⟩ := live L mm; rw [zL] at e; cases e
  have La : L ∉ as := fun mm => Lo (m.sub L mm)
  let F' : Fm := ⟨callEnv fd L f, O, mu.length, []⟩
  have hcells : (callEnv fd L f).cells = [] := hclo
  have volsub : ∀ a, a ∈ F'.vol as → a ∈ O ∨ s.heap.get? a = none := fun a mm => by
    rcases mem_vol.mp mm with mm | mm | mm
    · exact .inl mm
    · rcases List.mem_cons.mp mm with e | mm
      · right; have e : a = L := e; rw [e]; exact zL
      · cases mm
    · exact .inl (m.sub a mm)
  have up : ∀ {x : V} {w : Value}, VR O as s.heap x w → VR (F'.vol as) as h₀ x w := fun q => q.mono (fun a o _ e => hkp a o e) volsub fun _ _ e => e
  have ups : ∀ {x : List V} {w : List Value}, VRs O as s.heap x w → VRs (F'.vol as) as h₀ x w := fun q => q.mono (fun a o _ e => hkp a o e) volsub fun _ _ e => e
  have I : Inv c.H0 F' ⟨names.zip vs, mu⟩ as h₀ := {
    base := fun a o e => hkp a o (base a o e)
    off := fun a mm => by
      rcases volsub a mm with mm | z
      · exact off a mm
      · cases e : c.H0.get? a with
        | none => rfl
        | some o => rw [base a o e] at z; cases z
    nodup := List.nodup_cons.mpr ⟨La, m.nodup⟩
    apart := fun i a hi e mm => by
      have hi : mu.length ≤ i := hi
      have := (List.getElem?_eq_some_iff.mp e).1
      rw [m.len] at this; omega
    ns := ⟨_, hns, fun x v e k => by
      obtain ⟨v', e', q'⟩ := lookup_zip q e
      refine ⟨v', ?_, up q'⟩
      rw [lookup_reverse (by rw [zip_names (hlen.trans q.length)]; exact hnd)]
      exact e'⟩
    cel := fun x v e k => absurd (hloc x (List.of_mem_zip (mem_of_lookup e)).1) k
    cex := fun d mm => (nomatch mm)
    ro := fun x d e => by
      have e : (callEnv fd L f).cells.lookup x = some d := e
      rw [hcells] at e; cases e
    len := m.len
    muts := fun i xs e => by obtain ⟨a, ws, k, e1, e2, q'⟩ := m.muts i xs e; exact ⟨a, ws, k, e1, hkp _ _ e2, ups q'⟩
    live := fun a mm => by obtain ⟨o, e⟩ := live a mm; exact ⟨o, hkp a o e⟩ }
  have ok' : Okay n (A.deeper (callEnv fd L f)) := ⟨ok.1, by have := ok.2.1; show A.depth + 1 + n ≤ 400; omega, by have := ok.2.2; show A.units + 3 + 10 * n ≤ 1000; omega⟩
  refine wpAny_mono (h L O _ as { s with heap := h₀, toks := s.toks + (names.zip vs').length } _ ok' I) (fun fl s' ⟨as', I', qf, S'⟩ => ?_) fun _ _ x => x
  cases qf with
  | ret qv =>
    refine ⟨VR.fz (n0 := mu.length) (M := σ'.mu) (O' := F'.vol as') (fun a mm => mem_vol.mpr (.inl mm)) (fun j b hj e => ?_) (fun j b hj e => I'.apart j b hj e) I'.muts hfz qv,
      leave_mut0 rfl rfl I' S'.pre m.len m.nodup m.sub hmu hl hbel, fun a o na e => S'.kept a o (fun mm => ?_) (hkp a o e), fun a o e => S'.alive a o (hkp a o e), ?_⟩
    · have hj' : j < as.length := by rw [m.len]; exact hj
      have := S'.pre j _ (List.getElem?_eq_getElem hj')
      rw [e] at this; cases this
      exact List.getElem?_eq_getElem hj'
    · rcases List.mem_append.mp mm with mm | mm
      · rcases List.mem_cons.mp mm with e' | mm
        · have e' : a = L := e'; rw [e', zL] at e; cases e
        · cases mm
      · exact na mm
    · obtain ⟨h9, t9, e9⟩ := S'.rest
      exact ⟨h9, t9, by rw [e9]⟩
end

-- Lg12
section
variable {kindOf : Str → Option NameKind}
theorem bindL_other {x : Str} : ∀ {binds : List (Str × Value)} {m : Str → Option Value}, x ∉ binds.map (·.1) → bindL kindOf binds m x = m x
  | [], _, _ => rfl
  | (y, v) :: r, m, h => by
    rw [List.map_cons, List.mem_cons, not_or] at h
    unfold bindL
    rw [bindL_other h.2]
    split
    · simp [h.1]
    · rfl
theorem bindC_other {x : Str} : ∀ {binds : List (Str × Value)} {m : Str → Option Value}, x ∉ binds.map (·.1) → bindC kindOf binds m x = m x
  | [], _, _ => rfl
  | (y, v) :: r, m, h => by
    rw [List.map_cons, List.mem_cons, not_or] at h
    unfold bindC
    rw [bindC_other h.2]
    split
    · rfl
    · simp [h.1]
variable {O as : List Addr} {h : Heap}
theorem bindL_zip {x : Str} {v : V} (hk : kindOf x = some .local) : ∀ {names : List Str} {vs : List V} {vs' : List Value} {m : Str → Option Value}, names.Nodup → VRs O as h vs vs' → names.length = vs.length → (names.zip vs).lookup x = some v →
    ∃ v', bindL kindOf (names.zip vs') m x = some v' ∧ VR O as h v v'
  | [], _, _, _, _, _, _, e => by simp at e
  | y :: r, _, _, _, _, .nil, _, e => by simp at e
  | y :: r, _, _, m, nd, .cons (vs := ws) a q, hl, e => by
    rw [List.nodup_cons] at nd
    have hl' : r.length = ws.length := by rw [← q.length]; simpa using hl
    simp only [List.zip_cons_cons, List.lookup_cons] at e ⊢
    unfold bindL
    cases hy : x == y with
    | true =>
      rw [hy] at e; cases e
      have : x = y := beq_iff_eq.mp hy
      subst this
      rw [bindL_other (by rw [zip_names hl']; exact nd.1), if_pos hk]
      exact ⟨_, by simp, a⟩
    | false => rw [hy] at e; exact bindL_zip hk nd.2 q (by simpa using hl) e
theorem bindC_zip {x : Str} {v : V} (hk : kindOf x ≠ some .local) : ∀ {names : List Str} {vs : List V} {vs' : List Value} {m : Str → Option Value}, names.Nodup → VRs O as h vs vs' → names.length = vs.length → (names.zip vs).lookup x = some v →
    ∃ v', bindC kindOf (names.zip vs') m x = some v' ∧ VR O as h v v'
  | [], _, _, _, _, _, _, e => by simp at e
  | y :: r, _, _, _, _, .nil, _, e => by simp at e
  | y :: r, _, _, m, nd, .cons (vs := ws) a q, hl, e => by
    rw [List.nodup_cons] at nd
    have hl' : r.length = ws.length := by rw [← q.length]; simpa using hl
    simp only [List.zip_cons_cons, List.lookup_cons] at e ⊢
    unfold bindC
    cases hy : x == y with
    | true =>
      rw [hy] at e; cases e
      have : x = y := beq_iff_eq.mp hy
      subst this
      rw [bindC_other (by rw [zip_names hl']; exact nd.1), if_neg hk]
      exact ⟨_, by simp, a⟩
    | false => rw [hy] at e; exact bindC_zip hk nd.2 q (by simpa using hl) e
end

section
variable {c : Cx} {n : Nat}
theorem cellsFrom_above (names : List (Str × NameKind)) (n : Nat) : ∀ p ∈ cellsFrom n names [], n ≤ p.2 := by
  have : ∀ (names : List (Str × NameKind)) (m : Nat) (acc : List (Str × Addr)), n ≤ m → (∀ p ∈ acc, n ≤ p.2) → ∀ p ∈ cellsFrom m names acc, n ≤ p.2 := by
    intro names
    induction names with
    | nil => intro m acc _ h p hp; exact h p hp
    | cons q r ih =>
      obtain ⟨x, k⟩ := q
      intro m acc hm h p hp
      unfold cellsFrom at hp
      split at hp
      · exact ih (m + 1) _ (Nat.le_succ_of_le hm) (fun p hp => (List.mem_cons.mp hp).elim (fun e => by rw [e]; exact hm) (h p)) p hp
      · exact ih m acc hm h p hp
  exact this names n [] (Nat.le_refl _) fun _ h => nomatch h

theorem CallM.introC {f : Addr} {fd : FuncData} {body : List Stmt} {names : List Str} {vs : List V} {mu mu' : List (List V)} {v r : V} {σ' : St} (hf : FnAt c f fd) (hbody : fd.body = .stmts body)
    (hlen : names.length = vs.length) (hnd : names.Nodup) (hbind : ∀ vs' : List Value, vs'.length = vs.length → bindArgs fd ⟨vs', []⟩ = pure (names.zip vs'))
    (hloc : ∀ x ∈ names, fd.scope.names.lookup x = some .local ∨ (fd.scope.names.lookup x = some .cell ∧ ∀ L, ((cellsFrom (L + 1) fd.scope.names []).lookup x).isSome = true))
    (hcs : ∀ L, ∀ p ∈ cellsFrom (L + 1) fd.scope.names [], (cellsFrom (L + 1) fd.scope.names []).lookup p.1 = some p.2)
    (hco : fd.scope.isCoroutine = false) (hgen : fd.scope.isGenerator = false) (hk : fd.scope.kind = .function) (hclo : fd.closure = [])
    (h : ∀ L O, Exs c ⟨callEnvC fd L f, O, mu.length, (cellsFrom (L + 1) fd.scope.names []).map (·.2)⟩ n body ⟨names.zip vs, mu⟩ (.ret v) σ') (hfz : Fz mu.length σ'.mu v r) (hmu : σ'.mu.take mu.length = mu') (hl : mu'.length = mu.length) (hbel : ∀ xs ∈ mu', V.bels mu.length xs = true) : CallM c (n + 1) f vs mu r mu' := by
  obtain ⟨o, ho, hd⟩ := hf.ob
  refine ⟨⟨o, fd, ho, hd⟩, fun A s E O as vs' ok base off live m q => ?_⟩
  refine wpAny_call ?_
  refine codeAny_call_function (body := body) (by have := ok.2.1; rw [show recursionLimit = 1000 from rfl]; omega) (base _ _ ho) hd hco hgen hbody (hf.code.keeps base) ?_
  rw [hbind vs' q.length.symm]
  refine wpAny_pure ?_
  rw [hclo]
  refine wpAny_newFunctionEnv_cells hk (fun x hx => (hloc x.1 (List.of_mem_zip hx).1).imp id fun z => ⟨z.1, z.2 _⟩) fun env' he s' x => ?_
  generalize hL : s.heap.objs.size = L at *
  have he : env' = callEnvC fd L f := he
  subst he
  have hkp := x.toInCall.keep
  refine ⟨(c.nolimit.keeps base).keeps hkp, codeAny_func ?_⟩
  have zL : ∀ a, L ≤ a → s.heap.get? a = none := fun a ha => Heap.get?_none_of_le (by rw [hL]; exact ha)
  let F' : Fm := ⟨callEnvC fd L f, O, mu.length, (cellsFrom (L + 1) fd.scope.names []).map (·.2)⟩
  have ownz : ∀ a ∈ F'.own, s.heap.get? a = none := fun a mm => by
    rcases List.mem_cons.mp mm with e | mm
    · have e : a = L := e; exact zL a (by rw [e]; exact Nat.le_refl _)
    · obtain ⟨p, hp, rfl⟩ := List.mem_map.mp mm
      exact zL _ (Nat.le_of_succ_le (cellsFrom_above _ _ p hp))
  have volsub : ∀ a, a ∈ F'.vol as → a ∈ O ∨ s.heap.get? a = none := fun a mm => by
    rcases mem_vol.mp mm with mm | mm | mm
    · exact .inl mm
    · exact .inr (ownz a mm)
    · exact .inl (m.sub a mm)
  have up : ∀ {x : V} {w : Value}, VR O as s.heap x w → VR (F'.vol as) as s'.heap x w := fun q => q.mono (fun a o _ e => hkp a o e) volsub fun _ _ e => e
  have ups : ∀ {x : List V} {w : List Value}, VRs O as s.heap x w → VRs (F'.vol as) as s'.heap x w := fun q => q.mono (fun a o _ e => hkp a o e) volsub fun _ _ e => e
  have ownas : ∀ a ∈ F'.own, a ∉ as := fun a mm q => by obtain ⟨o, e⟩ := live a (m.sub a q); rw [ownz a mm] at e; cases e
  have hcl : F'.env.cells = cellsFrom (L + 1) fd.scope.names [] := rfl
  have I : Inv c.H0 F' ⟨names.zip vs, mu⟩ as s'.heap := {
    base := fun a o e => hkp a o (base a o e)
    off := fun a mm => by
      rcases volsub a mm with mm | z
      · exact off a mm
      · cases e : c.H0.get? a with
        | none => rfl
        | some o => rw [base a o e] at z; cases z
    nodup := List.nodup_append.mpr ⟨List.nodup_cons.mpr ⟨fun mm => by
        obtain ⟨p, hp, e⟩ := List.mem_map.mp mm
        have h1 := cellsFrom_above _ _ p hp
        have e : p.2 = L := e
        exact Nat.ne_of_gt h1 e, List.pairwise_map.mpr (x.apart.imp fun h => h)⟩, m.nodup, fun a mm b mb e => ownas a mm (e ▸ mb)⟩
    apart := fun i a hi e mm => by
      have hi : mu.length ≤ i := hi
      have := (List.getElem?_eq_some_iff.mp e).1
      rw [m.len] at this; omega
    ns := ⟨_, x.toInCall.ns, fun y v e k => by
      obtain ⟨v', e', q'⟩ := bindL_zip (m := fun _ => none) k hnd q hlen e
      exact ⟨v', e', up q'⟩⟩
    cel := fun y v e k => by
      obtain ⟨v', e', q'⟩ := bindC_zip (m := fun _ => none) k hnd q hlen e
      have hy := (List.of_mem_zip (mem_of_lookup e)).1
      rcases hloc y hy with z | z
      · exact absurd z k
      · obtain ⟨d, hd⟩ := Option.isSome_iff_exists.mp (z.2 L)
        have := x.cell y d hd
        exact ⟨d, v', hd, e' ▸ this, up q'⟩
    cex := fun d mm => by
      obtain ⟨p, hp, rfl⟩ := List.mem_map.mp mm
      exact ⟨_, x.cell p.1 p.2 (hcs L p hp)⟩
    ro := fun y d e => .inl (List.mem_map.mpr ⟨_, mem_of_lookup e, rfl⟩)
    len := m.len
    muts := fun i xs e => by obtain ⟨a, ws, k, e1, e2, q'⟩ := m.muts i xs e; exact ⟨a, ws, k, e1, hkp _ _ e2, ups q'⟩
    live := fun a mm => by obtain ⟨o, e⟩ := live a mm; exact ⟨o, hkp a o e⟩ }
  have ok' : Okay n (A.deeper (callEnvC fd L f)) := ⟨ok.1, by have := ok.2.1; show A.depth + 1 + n ≤ 400; omega, by have := ok.2.2; show A.units + 3 + 10 * n ≤ 1000; omega⟩
  obtain ⟨h₀, tk₀, e₀⟩ := x.toInCall.same
  refine wpAny_mono (h L O _ as s' _ ok' I) (fun fl s2 ⟨as', I', qf, S'⟩ => ?_) fun _ _ x => x
  cases qf with
  | ret qv =>
    refine ⟨VR.fz (n0 := mu.length) (M := σ'.mu) (O' := F'.vol as') (fun a mm => mem_vol.mpr (.inl mm)) (fun j b hj e => ?_) (fun j b hj e => I'.apart j b hj e) I'.muts hfz qv,
      leave_mut0 rfl rfl I' S'.pre m.len m.nodup m.sub hmu hl hbel, fun a o na e => S'.kept a o (fun mm => ?_) (hkp a o e), fun a o e => S'.alive a o (hkp a o e), ?_⟩
    · have hj' : j < as.length := by rw [m.len]; exact hj
      have := S'.pre j _ (List.getElem?_eq_getElem hj')
      rw [e] at this; cases this
      exact List.getElem?_eq_getElem hj'
    · rcases List.mem_append.mp mm with mm | mm
      · rw [ownz a mm] at e; cases e
      · exact na mm
    · obtain ⟨h9, t9, e9⟩ := S'.rest
      exact ⟨h9, t9, by rw [e9, e₀]⟩
end

-- Lg13
/-- the items of a tuple or of a list -/
def St.all (σ : St) : V → Option (List V)
  | .tup xs => some xs
  | .lst xs => some xs
  | .mu i => σ.mu[i]?
  | _ => none

section
variable {c : Cx} {F : Fm} {n : Nat} {σ σ1 σ2 σ3 : St}

theorem Ev.sub {e1 e2 : Expr} {p : Pos} {o x : V} {xs : List V} {k : Int} (ho : Ev c F n e1 σ o σ1) (hi : Ev c F n e2 σ1 (.int k) σ2) (hx : σ2.all o = some xs) (h0 : 0 ≤ k) (hk : k < 2 ^ 63)
    (hg : xs[k.toNat]? = some x) (hs : ∀ a b, ∃ ops, subscripted e2 false a b = operate ops (getItem a b)) : Ev c F n (.Subscript e1 e2 p) σ x σ2 := by
  cases o with
  | tup ys =>
    cases hx
    have hl : k.toNat < xs.length := (List.getElem?_eq_some_iff.mp hg).1
    refine Ev.tupItem (j := k.toNat) ho hi (by omega) hk ?_ hg hs
    unfold seqIndex?
    rw [show (if k < 0 then k + (xs.length : Int) else k) = k from if_neg (by omega)]
    rw [if_pos (by simp only [decide_eq_true_eq, Bool.and_eq_true]; omega)]
  | lst ys => exact Ev.item ho hi hx h0 hk hg hs
  | mu i => exact Ev.item ho hi hx h0 hk hg hs
  | int _ => cases hx
  | raw _ => cases hx

theorem CmpV.int {op : CmpOp} {a b : Int} {r : Bool} (h : CmpI op a b r) : CmpV op (.int a) (.int b) r := fun prog w A E s O as x y Q _ p q hq => by
  cases p
  cases q
  exact h prog w A E s _ _ Q hq

theorem mem_lookup {α : Type} {x : Str} {v : α} : ∀ {l : List (Str × α)}, l.lookup x = some v → (x, v) ∈ l
  | [], e => by simp at e
  | (y, u) :: r, e => by
    rw [List.lookup_cons] at e
    split at e
    · rename_i he; cases e; rw [show x = y from by simpa using he]; exact List.mem_cons_self
    · exact List.mem_cons_of_mem _ (mem_lookup e)
theorem Exs.fin {σ' : St} (hm : σ.mu = σ'.mu) (hw : ∀ p ∈ σ'.loc, σ.loc.lookup p.1 = some p.2) : Exs c F n [] σ .next σ' := by
  obtain ⟨l, m⟩ := σ'
  cases hm
  exact Exs.nil.weaken fun x v e => hw _ (mem_lookup e)
/-- the state may be named anew at any point -/
theorem Exs.at {ts : List Stmt} {f : Fl} {τ : St} (hm : σ.mu = τ.mu) (hw : ∀ p ∈ τ.loc, σ.loc.lookup p.1 = some p.2) (h : Exs c F n ts τ f σ1) : Exs c F n ts σ f σ1 := by
  obtain ⟨l, m⟩ := τ
  cases hm
  exact Exs.pre h fun x v e => hw _ (mem_lookup e)
theorem Exs.cut {ts : List Stmt} {v : V} {τ : St} (h : Exs c F n ts σ (.ret v) σ1) (hm : σ1.mu = τ.mu) (hw : ∀ p ∈ τ.loc, σ1.loc.lookup p.1 = some p.2) : Exs c F n ts σ (.ret v) τ := by
  obtain ⟨l, m⟩ := τ
  cases hm
  exact h.weaken fun x v e => hw _ (mem_lookup e)
theorem Ex.whileS {t : Expr} {body : List Stmt} {p : Pos} (S : Nat → St) (k : Nat) (turn : ∀ i, i < k → Tst c F n t (S i) true (S i) ∧ Exs c F n body (S i) .next (S (i + 1)))
    (last : Tst c F n t (S k) false (S k)) : Ex c F n (.While t body [] p) (S 0) .next (S k) := Ex.while_ (T := S) turn last
theorem Ev.is {e : Expr} {v v' : V} (h : Ev c F n e σ v σ1) (hv : v = v') : Ev c F n e σ v' σ1 := hv ▸ h
theorem Tst.is {e : Expr} {v v' : Bool} (h : Tst c F n e σ v σ1) (hv : v = v') : Tst c F n e σ v' σ1 := hv ▸ h
theorem Tst.iff {e : Expr} {v v' : Bool} (h : Tst c F n e σ v σ1) (hv : v = true ↔ v' = true) : Tst c F n e σ v' σ1 := h.is (by cases v <;> cases v' <;> simp_all)

end

section
variable {fd : FuncData}
theorem bA1 {a : Str} {vs : List V} (hl : vs.length = 1) (h : ∀ x, bindArgs fd ⟨[x], []⟩ = pure ([a].zip [x])) : ∀ vs' : List Value, vs'.length = vs.length → bindArgs fd ⟨vs', []⟩ = pure ([a].zip vs') := by
  rw [hl]; intro vs' e
  match vs', e with
  | [x], _ => exact h x
theorem bA2 {ns : List Str} {vs : List V} (hl : vs.length = 2) (h : ∀ x y, bindArgs fd ⟨[x, y], []⟩ = pure (ns.zip [x, y])) : ∀ vs' : List Value, vs'.length = vs.length → bindArgs fd ⟨vs', []⟩ = pure (ns.zip vs') := by
  rw [hl]; intro vs' e
  match vs', e with
  | [x, y], _ => exact h x y
theorem bA3 {ns : List Str} {vs : List V} (hl : vs.length = 3) (h : ∀ x y z, bindArgs fd ⟨[x, y, z], []⟩ = pure (ns.zip [x, y, z])) : ∀ vs' : List Value, vs'.length = vs.length → bindArgs fd ⟨vs', []⟩ = pure (ns.zip vs') := by
  rw [hl]; intro vs' e
  match vs', e with
  | [x, y, z], _ => exact h x y z
theorem bA4 {ns : List Str} {vs : List V} (hl : vs.length = 4) (h : ∀ x y z t, bindArgs fd ⟨[x, y, z, t], []⟩ = pure (ns.zip [x, y, z, t])) : ∀ vs' : List Value, vs'.length = vs.length → bindArgs fd ⟨vs', []⟩ = pure (ns.zip vs') := by
  rw [hl]; intro vs' e
  match vs', e with
  | [x, y, z, t], _ => exact h x y z t
theorem bA5 {ns : List Str} {vs : List V} (hl : vs.length = 5) (h : ∀ x y z t u, bindArgs fd ⟨[x, y, z, t, u], []⟩ = pure (ns.zip [x, y, z, t, u])) : ∀ vs' : List Value, vs'.length = vs.length → bindArgs fd ⟨vs', []⟩ = pure (ns.zip vs') := by
  rw [hl]; intro vs' e
  match vs', e with
  | [x, y, z, t, u], _ => exact h x y z t u
theorem bA7 {ns : List Str} {vs : List V} (hl : vs.length = 7) (h : ∀ x y z t u v w, bindArgs fd ⟨[x, y, z, t, u, v, w], []⟩ = pure (ns.zip [x, y, z, t, u, v, w])) : ∀ vs' : List Value, vs'.length = vs.length → bindArgs fd ⟨vs', []⟩ = pure (ns.zip vs') := by
  rw [hl]; intro vs' e
  match vs', e with
  | [x, y, z, t, u, v, w], _ => exact h x y z t u v w
end

-- Num
/-- the i low limbs of N, the base being B -/
def low (B : Nat) (i N : Nat) : List Nat := (List.range i).map fun j => N / B ^ j % B
theorem low_length (B i N : Nat) : (low B i N).length = i := by simp [low]
theorem low_get {B i N j : Nat} (h : j < i) : (low B i N)[j]? = some (N / B ^ j % B) := by simp [low, h]
theorem low_succ (B i N : Nat) : low B (i + 1) N = low B i N ++ [N / B ^ i % B] := by simp [low, List.range_succ]
theorem low_zero (B N : Nat) : low B 0 N = [] := rfl
theorem low_take {B i j N : Nat} (h : i ≤ j) : (low B j N).take i = low B i N := by
  apply List.ext_getElem?
  intro n
  by_cases hn : n < i
  · rw [List.getElem?_take, if_pos hn, low_get (Nat.lt_of_lt_of_le hn h), low_get hn]
  · rw [List.getElem?_take, if_neg hn, List.getElem?_eq_none (by rw [low_length]; omega)]

/-- how many limbs N has -/
def nd (k N : Nat) : Nat := if N = 0 then 0 else N.log2 / k + 1
theorem nd_zero (k : Nat) : nd k 0 = 0 := rfl
theorem nd_pos {k N : Nat} (h : N ≠ 0) : 0 < nd k N := by simp [nd, h]
theorem lt_nd {k N : Nat} (hk : 0 < k) : N < (2 ^ k) ^ nd k N := by
  unfold nd
  split
  · subst_vars; simp
  · rename_i h
    rw [← Nat.pow_mul]
    refine (Nat.log2_lt h).mp ?_
    have := Nat.div_add_mod N.log2 k
    have := Nat.mod_lt N.log2 hk
    rw [Nat.mul_add, Nat.mul_one]; omega
theorem nd_le {k N : Nat} (h : N ≠ 0) : (2 ^ k) ^ (nd k N - 1) ≤ N := by
  unfold nd
  rw [if_neg h, Nat.add_sub_cancel, ← Nat.pow_mul]
  refine Nat.le_trans (Nat.pow_le_pow_right (by decide) ?_) (Nat.log2_self_le h)
  exact Nat.mul_div_le _ _
theorem nd_le_of {k N m : Nat} (hk : 0 < k) (h : N < (2 ^ k) ^ m) : nd k N ≤ m := by
  by_cases h0 : N = 0
  · subst h0; exact Nat.zero_le _
  · have h1 := nd_le (k := k) h0
    have h2 := nd_pos (k := k) h0
    refine Nat.not_lt.mp fun hlt => ?_
    have : (2 ^ k) ^ m ≤ (2 ^ k) ^ (nd k N - 1) := Nat.pow_le_pow_right (Nat.two_pow_pos k) (by omega)
    omega
theorem nd_of {k N m : Nat} (hk : 0 < k) (h : N < (2 ^ k) ^ (m + 1)) (h' : (2 ^ k) ^ m ≤ N) : nd k N = m + 1 := by
  have h1 := nd_le_of hk h
  have h2 := lt_nd (N := N) hk
  refine Nat.le_antisymm h1 (Nat.not_lt.mp fun hlt => ?_)
  have : (2 ^ k) ^ nd k N ≤ (2 ^ k) ^ m := Nat.pow_le_pow_right (Nat.two_pow_pos k) (by omega)
  omega
theorem nd_mono {k N M : Nat} (hk : 0 < k) (h : N ≤ M) : nd k N ≤ nd k M := nd_le_of hk (Nat.lt_of_le_of_lt h (lt_nd hk))
theorem lt_of_nd {k N M : Nat} (hk : 0 < k) (h : nd k N < nd k M) : N < M := by
  refine Nat.not_le.mp fun hle => ?_
  have := nd_mono hk hle
  omega

/-- the limbs of N -/
def dig (k N : Nat) : List Nat := low (2 ^ k) (nd k N) N
theorem dig_length (k N : Nat) : (dig k N).length = nd k N := low_length _ _ _
theorem dig_get {k N j : Nat} (h : j < nd k N) : (dig k N)[j]? = some (N / (2 ^ k) ^ j % 2 ^ k) := low_get h
theorem dig_zero (k : Nat) : dig k 0 = [] := rfl
theorem dig_small {k N : Nat} (hk : 0 < k) (h0 : N ≠ 0) (h : N < 2 ^ k) : dig k N = [N] := by
  have : nd k N = 0 + 1 := nd_of hk (by simpa using h) (by rw [Nat.pow_zero]; omega)
  unfold dig
  rw [this, low_succ, low_zero]
  simp [Nat.mod_eq_of_lt h]
theorem high_zero {k N j : Nat} (hk : 0 < k) (h : nd k N ≤ j) : N / (2 ^ k) ^ j = 0 := by
  refine Nat.div_eq_of_lt (Nat.lt_of_lt_of_le (lt_nd hk) (Nat.pow_le_pow_right (Nat.two_pow_pos k) h))
theorem top_ne {k N : Nat} (hk : 0 < k) (h : N ≠ 0) : N / (2 ^ k) ^ (nd k N - 1) % 2 ^ k ≠ 0 := by
  have h1 := nd_le (k := k) h
  have h2 := lt_nd (N := N) hk
  have h3 := nd_pos (k := k) h
  obtain ⟨m, hm⟩ : ∃ m, nd k N = m + 1 := ⟨nd k N - 1, by omega⟩
  rw [hm] at h1 h2 ⊢
  rw [Nat.add_sub_cancel] at h1 ⊢
  have hp : 0 < (2 ^ k) ^ m := Nat.pow_pos (Nat.two_pow_pos k)
  have h4 : N / (2 ^ k) ^ m < 2 ^ k := by
    refine (Nat.div_lt_iff_lt_mul hp).mpr ?_
    rw [Nat.pow_succ, Nat.mul_comm] at h2; exact h2
  rw [Nat.mod_eq_of_lt h4]
  exact Nat.ne_of_gt (Nat.div_pos h1 hp)

-- one limb more
theorem step_div (N B j : Nat) : N / B ^ (j + 1) = N / B ^ j / B := by rw [Nat.pow_succ, Nat.div_div_eq_div_mul]
theorem split_at (N B j : Nat) : N / B ^ j = N / B ^ (j + 1) * B + N / B ^ j % B := by
  rw [step_div]
  have := Nat.div_add_mod (N / B ^ j) B
  rw [Nat.mul_comm] at this; omega
theorem mod_step (N B j : Nat) : N % B ^ (j + 1) = N % B ^ j + B ^ j * (N / B ^ j % B) := Nat.mod_pow_succ

-- sums
def carryAt (B A C i : Nat) : Nat := (A % B ^ i + C % B ^ i) / B ^ i
theorem add_whole {B : Nat} (hB : 0 < B) (A C i : Nat) : (A + C) / B ^ i = A / B ^ i + C / B ^ i + carryAt B A C i := by
  have hp : 0 < B ^ i := Nat.pow_pos hB
  unfold carryAt
  have e1 := Nat.div_add_mod A (B ^ i)
  have e2 := Nat.div_add_mod C (B ^ i)
  have : A + C = (A % B ^ i + C % B ^ i) + B ^ i * (A / B ^ i + C / B ^ i) := by rw [Nat.mul_add]; omega
  rw [this, Nat.add_mul_div_left _ _ hp]
  omega
theorem add_limb {B : Nat} (hB : 0 < B) (A C i : Nat) : (carryAt B A C i + (A / B ^ i % B + C / B ^ i % B)) % B = (A + C) / B ^ i % B := by
  rw [add_whole hB, Nat.add_comm (carryAt B A C i)]
  simp only [Nat.add_mod, Nat.mod_mod]
theorem add_carry {B : Nat} (hB : 0 < B) (A C i : Nat) : (carryAt B A C i + (A / B ^ i % B + C / B ^ i % B)) / B = carryAt B A C (i + 1) := by
  have hp : 0 < B ^ i := Nat.pow_pos hB
  show _ = (A % B ^ (i + 1) + C % B ^ (i + 1)) / B ^ (i + 1)
  rw [mod_step, mod_step, Nat.pow_succ, ← Nat.div_div_eq_div_mul]
  congr 1
  have : A % B ^ i + B ^ i * (A / B ^ i % B) + (C % B ^ i + B ^ i * (C / B ^ i % B)) = (A % B ^ i + C % B ^ i) + B ^ i * (A / B ^ i % B + C / B ^ i % B) := by
    rw [Nat.mul_add]; omega
  rw [this, Nat.add_mul_div_left _ _ hp]; rfl
theorem carry_zero (B A C : Nat) : carryAt B A C 0 = 0 := by simp [carryAt, Nat.mod_one]

-- Num2
theorem low_ne {k N i : Nat} (hk : 0 < k) (h : i < nd k N) : N / (2 ^ k) ^ i ≠ 0 := fun e => by
  have h1 : N < (2 ^ k) ^ i := (Nat.div_eq_zero_iff_lt (Nat.pow_pos (Nat.two_pow_pos k))).mp e
  have := nd_le_of hk h1
  omega

-- comparing
def cmpN (A C : Nat) : Int := if A < C then -1 else if A = C then 0 else 1
theorem first_diff {B A C : Nat} (h0 : A ≠ C) : ∀ {m : Nat}, A / B ^ m = C / B ^ m → ∃ j, j < m ∧ A / B ^ j ≠ C / B ^ j ∧ A / B ^ (j + 1) = C / B ^ (j + 1)
  | 0, h => by simp at h; exact absurd h h0
  | m + 1, h => by
    by_cases e : A / B ^ m = C / B ^ m
    · obtain ⟨j, hj, r⟩ := first_diff h0 e
      exact ⟨j, by omega, r⟩
    · exact ⟨m, by omega, e, h⟩
theorem div_up {B A C i j : Nat} (h : A / B ^ i = C / B ^ i) (hij : i ≤ j) : A / B ^ j = C / B ^ j := by
  obtain ⟨d, rfl⟩ := Nat.exists_eq_add_of_le hij
  rw [Nat.pow_add, ← Nat.div_div_eq_div_mul, ← Nat.div_div_eq_div_mul, h]
theorem diff_lt {B A C j : Nat} (h1 : A / B ^ j ≠ C / B ^ j) (h2 : A / B ^ (j + 1) = C / B ^ (j + 1)) : A / B ^ j % B ≠ C / B ^ j % B ∧ (A / B ^ j % B < C / B ^ j % B ↔ A < C) ∧ A ≠ C := by
  have e1 := split_at A B j
  have e2 := split_at C B j
  rw [h2] at e1
  have n1 : A / B ^ j % B ≠ C / B ^ j % B := fun e => h1 (by rw [e1, e2, e])
  refine ⟨n1, ⟨fun h => ?_, fun h => ?_⟩, fun e => h1 (by rw [e])⟩
  · refine Nat.not_le.mp fun hle => ?_
    have := Nat.div_le_div_right (c := B ^ j) hle
    omega
  · have := Nat.div_le_div_right (c := B ^ j) (Nat.le_of_lt h)
    omega

-- sums, the last carry
theorem dig_sum {k X Y : Nat} (hk : 0 < k) (h : nd k Y ≤ nd k X) : (carryAt (2 ^ k) X Y (nd k X) = 0 → dig k (X + Y) = low (2 ^ k) (nd k X) (X + Y)) ∧
    (carryAt (2 ^ k) X Y (nd k X) ≠ 0 → dig k (X + Y) = low (2 ^ k) (nd k X) (X + Y) ++ [carryAt (2 ^ k) X Y (nd k X)]) := by
  have hB : 0 < 2 ^ k := Nat.two_pow_pos k
  have w := add_whole hB X Y (nd k X)
  rw [high_zero hk (Nat.le_refl _), high_zero hk h] at w
  have hX := lt_nd (N := X) hk
  have hY := Nat.lt_of_lt_of_le (lt_nd (N := Y) hk) (Nat.pow_le_pow_right hB h)
  generalize hP : (2 ^ k) ^ nd k X = P at *
  have hP0 : 0 < P := hP ▸ Nat.pow_pos hB
  have hc : carryAt (2 ^ k) X Y (nd k X) ≤ 1 := by
    rw [← show (X + Y) / P = carryAt (2 ^ k) X Y (nd k X) from by omega]
    have := (Nat.div_lt_iff_lt_mul hP0).mpr (show X + Y < 2 * P by omega)
    omega
  refine ⟨fun e => ?_, fun e => ?_⟩
  · have hlt : X + Y < P := (Nat.div_eq_zero_iff_lt hP0).mp (by omega)
    have h1 : nd k (X + Y) ≤ nd k X := nd_le_of hk (hP ▸ hlt)
    have h2 : nd k X ≤ nd k (X + Y) := nd_mono hk (by omega)
    unfold dig
    rw [Nat.le_antisymm h1 h2]
  · have h1 : carryAt (2 ^ k) X Y (nd k X) = 1 := by omega
    have hge : P ≤ X + Y := by
      refine Nat.not_lt.mp fun hlt => ?_
      rw [(Nat.div_eq_zero_iff_lt hP0).mpr hlt] at w
      omega
    have hk2 : 2 ≤ 2 ^ k := by
      obtain ⟨j, rfl⟩ : ∃ j, k = j + 1 := ⟨k - 1, by omega⟩
      rw [Nat.pow_succ]; have := Nat.two_pow_pos j; omega
    have h2 : X + Y < (2 ^ k) ^ (nd k X + 1) := by
      rw [Nat.pow_succ, hP]
      have := Nat.mul_le_mul_left P hk2
      omega
    have h3 := nd_of hk h2 (hP ▸ hge)
    unfold dig
    rw [h3, low_succ, hP, w, h1]
    congr 1
    rw [show 0 + 0 + 1 = 1 from rfl, Nat.mod_eq_of_lt (by omega)]

-- differences
theorem sub_div {P A C qa ra qc rc : Nat} (ea : P * qa + ra = A) (ec : P * qc + rc = C) (hra : ra < P) (hrc : rc < P) (h : C ≤ A) :
    (A - C) / P = qa - qc - (if ra < rc then 1 else 0) ∧ qc + (if ra < rc then 1 else 0) ≤ qa := by
  have hle : qc ≤ qa := by
    refine Nat.not_lt.mp fun hlt => ?_
    have := Nat.mul_le_mul_left P hlt
    rw [Nat.mul_succ] at this
    omega
  obtain ⟨d, rfl⟩ := Nat.exists_eq_add_of_le hle
  rw [Nat.mul_add] at ea
  split
  · have hd1 : 0 < d := Nat.pos_of_ne_zero fun e => by subst e; rw [Nat.mul_zero] at ea; omega
    obtain ⟨d, rfl⟩ : ∃ e, d = e + 1 := ⟨d - 1, by omega⟩
    rw [Nat.mul_add, Nat.mul_one] at ea
    refine ⟨?_, by omega⟩
    rw [show qc + (d + 1) - qc - 1 = d by omega]
    refine Nat.div_eq_of_lt_le ?_ ?_
    · rw [Nat.mul_comm]; omega
    · rw [Nat.mul_comm, Nat.mul_add, Nat.mul_one]; omega
  · refine ⟨?_, by omega⟩
    rw [show qc + d - qc - 0 = d by omega]
    refine Nat.div_eq_of_lt_le ?_ ?_
    · rw [Nat.mul_comm]; omega
    · rw [Nat.mul_comm, Nat.mul_add, Nat.mul_one]; omega
theorem sub_sign {P x y r t : Nat} (hr : r < P) (ht : t < P) : (x : Int) - (if r < t then 1 else 0) - (y : Int) < 0 ↔ r + P * x < t + P * y := by
  rcases Nat.lt_trichotomy x y with hxy | hxy | hxy
  · have : P * x + P ≤ P * y := by rw [← Nat.mul_succ]; exact Nat.mul_le_mul_left _ hxy
    split <;> constructor <;> intro _ <;> omega
  · subst hxy
    split <;> constructor <;> intro _ <;> omega
  · have : P * y + P ≤ P * x := by rw [← Nat.mul_succ]; exact Nat.mul_le_mul_left _ hxy
    split <;> constructor <;> intro _ <;> omega
theorem sub_mod {B qa qc x : Nat} {bw : Int} (hB : 0 < B) (h0 : 0 ≤ bw) (h1 : bw ≤ 1) (hz : (x : Int) = (qa : Int) - (qc : Int) - bw) :
    (if ((qa % B : Nat) : Int) - bw - ((qc % B : Nat) : Int) < 0 then ((qa % B : Nat) : Int) - bw - ((qc % B : Nat) : Int) + (B : Int) else ((qa % B : Nat) : Int) - bw - ((qc % B : Nat) : Int)) = ((x % B : Nat) : Int) := by
  rw [Int.natCast_emod x, hz]
  have k1 : (qa : Int) = (B : Int) * ((qa / B : Nat) : Int) + ((qa % B : Nat) : Int) := by
    have := congrArg (fun n : Nat => (n : Int)) (Nat.div_add_mod qa B)
    simp only [Int.natCast_add, Int.natCast_mul] at this; exact this.symm
  have k2 : (qc : Int) = (B : Int) * ((qc / B : Nat) : Int) + ((qc % B : Nat) : Int) := by
    have := congrArg (fun n : Nat => (n : Int)) (Nat.div_add_mod qc B)
    simp only [Int.natCast_add, Int.natCast_mul] at this; exact this.symm
  have da := Nat.mod_lt qa hB
  have dc := Nat.mod_lt qc hB
  generalize qa % B = u at *
  generalize qc % B = v at *
  have k3 : (qa : Int) - (qc : Int) - bw = ((u : Int) - bw - (v : Int)) + (B : Int) * (((qa / B : Nat) : Int) - ((qc / B : Nat) : Int)) := by
    rw [Int.mul_sub]; omega
  rw [k3, Int.add_mul_emod_self_left]
  split
  · rw [← Int.add_emod_right, Int.emod_eq_of_lt (by omega) (by omega)]
  · rw [Int.emod_eq_of_lt (by omega) (by omega)]
def bwAt (B A C i : Nat) : Int := if A % B ^ i < C % B ^ i then 1 else 0
theorem sub_limb {B A C i : Nat} (hB : 0 < B) (h : C ≤ A) :
    (((A / B ^ i % B : Nat) : Int) - bwAt B A C i - ((C / B ^ i % B : Nat) : Int) < 0 ↔ A % B ^ (i + 1) < C % B ^ (i + 1)) ∧
    (if ((A / B ^ i % B : Nat) : Int) - bwAt B A C i - ((C / B ^ i % B : Nat) : Int) < 0 then ((A / B ^ i % B : Nat) : Int) - bwAt B A C i - ((C / B ^ i % B : Nat) : Int) + (B : Int)
      else ((A / B ^ i % B : Nat) : Int) - bwAt B A C i - ((C / B ^ i % B : Nat) : Int)) = (((A - C) / B ^ i % B : Nat) : Int) := by
  have hP : 0 < B ^ i := Nat.pow_pos hB
  refine ⟨?_, ?_⟩
  · rw [mod_step A, mod_step C]
    exact sub_sign (Nat.mod_lt A hP) (Nat.mod_lt C hP)
  · obtain ⟨q, hge⟩ := sub_div (Nat.div_add_mod A (B ^ i)) (Nat.div_add_mod C (B ^ i)) (Nat.mod_lt A hP) (Nat.mod_lt C hP) h
    refine sub_mod hB ?_ ?_ ?_
    · unfold bwAt; split <;> decide
    · unfold bwAt; split <;> decide
    · rw [q]; unfold bwAt
      split <;> rename_i hlt <;> simp only [hlt, if_true, if_false] at hge <;> omega

-- a list in two parts
def mix (f g : Nat → Nat) (s M : Nat) : List Nat := (List.range M).map fun p => if p < s then f p else g p
theorem mix_length (f g : Nat → Nat) (s M : Nat) : (mix f g s M).length = M := by simp [mix]
theorem mix_get {f g : Nat → Nat} {s M p : Nat} (h : p < M) : (mix f g s M)[p]? = some (if p < s then f p else g p) := by simp [mix, h]
theorem mix_ext {f g f' g' : Nat → Nat} {s s' M : Nat} (h : ∀ p, p < M → (if p < s then f p else g p) = if p < s' then f' p else g' p) : mix f g s M = mix f' g' s' M := by
  unfold mix
  exact List.map_congr_left fun p hp => h p (List.mem_range.mp hp)
theorem mix_set {f g f' g' : Nat → Nat} {s s' M j x : Nat} (hj : j < M) (h : ∀ p, p < M → p ≠ j → (if p < s then f p else g p) = if p < s' then f' p else g' p) (hx : x = if j < s' then f' j else g' j) :
    (mix f g s M).set j x = mix f' g' s' M := by
  apply List.ext_getElem?
  intro p
  rw [List.getElem?_set]
  by_cases e : j = p
  · subst e
    rw [if_pos rfl, if_pos (by rw [mix_length]; exact hj), mix_get hj, hx]
  · rw [if_neg e]
    by_cases hp : p < M
    · rw [mix_get hp, mix_get hp, h p hp (Ne.symm e)]
    · rw [List.getElem?_eq_none (by rw [mix_length]; omega), List.getElem?_eq_none (by rw [mix_length]; omega)]
theorem mix_low {f g : Nat → Nat} {s B M N : Nat} (h : ∀ p, p < M → (if p < s then f p else g p) = N / B ^ p % B) : mix f g s M = low B M N := by
  unfold mix low
  exact List.map_congr_left fun p hp => h p (List.mem_range.mp hp)
theorem mix_zero {f g : Nat → Nat} {s M : Nat} (h : ∀ p, p < M → (if p < s then f p else g p) = 0) : List.replicate M 0 = mix f g s M := by
  apply List.ext_getElem?
  intro p
  by_cases hp : p < M
  · rw [mix_get hp, h p hp]; simp [hp]
  · rw [List.getElem?_eq_none (by simp; omega), List.getElem?_eq_none (by rw [mix_length]; omega)]

-- division by one limb
theorem limb_step {B A d j : Nat} (hd : 0 < d) : let r := A / B ^ (j + 1) % d * B + A / B ^ j % B
    (0 < B → r / d = A / d / B ^ j % B) ∧ r % d = A / B ^ j % d := by
  intro r
  have e := split_at A B j
  have e2 := Nat.div_add_mod (A / B ^ (j + 1)) d
  have e3 : A / B ^ j = r + d * (A / B ^ (j + 1) / d * B) := by
    rw [e]
    conv => lhs; rw [← e2]
    simp only [r]
    rw [Nat.add_mul, Nat.mul_assoc]; omega
  refine ⟨fun hB => ?_, ?_⟩
  · have : A / d / B ^ j = A / B ^ j / d := by rw [Nat.div_div_eq_div_mul, Nat.div_div_eq_div_mul, Nat.mul_comm]
    rw [this, e3, Nat.add_mul_div_left _ _ hd, Nat.add_mul_mod_self_right]
    refine (Nat.mod_eq_of_lt ?_).symm
    refine (Nat.div_lt_iff_lt_mul hd).mpr ?_
    have h1 := Nat.mod_lt (A / B ^ (j + 1)) hd
    have h2 := Nat.mod_lt (A / B ^ j) hB
    have h3 : (A / B ^ (j + 1) % d + 1) * B ≤ d * B := Nat.mul_le_mul_right _ h1
    rw [Nat.add_mul] at h3
    rw [Nat.mul_comm B d]; simp only [r]; omega
  · rw [e3, Nat.add_mul_mod_self_left]

-- products
theorem mul_step {B R l C i j c : Nat} (hB : 0 < B) (hc : c + R / B ^ (i + j) = (R + B ^ i * (l * (C % B ^ j))) / B ^ (i + j)) :
    let t := c + (R / B ^ (i + j) % B + l * (C / B ^ j % B))
    let V := R + B ^ i * (l * (C % B ^ (j + 1)))
    t % B = V / B ^ (i + j) % B ∧ t / B + R / B ^ (i + (j + 1)) = V / B ^ (i + (j + 1)) ∧ ∀ p, p < i + j → V / B ^ p % B = (R + B ^ i * (l * (C % B ^ j))) / B ^ p % B := by
  intro t V
  have hP : 0 < B ^ (i + j) := Nat.pow_pos hB
  have eV : V = (R + B ^ i * (l * (C % B ^ j))) + B ^ (i + j) * (l * (C / B ^ j % B)) := by
    simp only [V]
    rw [mod_step, Nat.mul_add, Nat.mul_add, Nat.pow_add]
    rw [show l * (B ^ j * (C / B ^ j % B)) = B ^ j * (l * (C / B ^ j % B)) by rw [Nat.mul_left_comm]]
    rw [← Nat.mul_assoc (B ^ i) (B ^ j)]; omega
  have eq : V / B ^ (i + j) = B * (R / B ^ (i + (j + 1))) + t := by
    rw [eV, Nat.add_mul_div_left _ _ hP, ← hc]
    have := split_at R B (i + j)
    rw [Nat.mul_comm B]
    simp only [t]
    rw [show i + (j + 1) = i + j + 1 from rfl]
    omega
  refine ⟨?_, ?_, fun p hp => ?_⟩
  · rw [eq, Nat.mul_add_mod]
  · rw [show V / B ^ (i + (j + 1)) = V / B ^ (i + j) / B from step_div V B (i + j), eq, Nat.mul_add_div hB]; omega
  · obtain ⟨d, hd⟩ : ∃ d, i + j = p + 1 + d := ⟨i + j - (p + 1), by omega⟩
    rw [eV, hd, Nat.pow_add, Nat.pow_succ]
    rw [Nat.mul_assoc, Nat.mul_assoc, Nat.add_mul_div_left _ _ (Nat.pow_pos hB), Nat.add_mul_mod_self_left]

-- Num3
/-- the product so far: i limbs of A whole, of the next one j limbs of C -/
def mV (B A C i j : Nat) : Nat := A % B ^ i * C + B ^ i * (A / B ^ i % B * (C % B ^ j))
def mC (B A C i j : Nat) : Nat := mV B A C i j / B ^ (i + j) - A % B ^ i * C / B ^ (i + j)
def mL (B A C i j M : Nat) : List Nat := mix (fun p => mV B A C i j / B ^ p % B) (fun p => A % B ^ i * C / B ^ p % B) (i + j) M
theorem mV_zero (B A C i : Nat) : mV B A C i 0 = A % B ^ i * C := by simp [mV, Nat.mod_one]
theorem mC_zero (B A C i : Nat) : mC B A C i 0 = 0 := by simp [mC, mV_zero]
theorem mL_zero (B A C i M : Nat) : mL B A C i 0 M = low B M (A % B ^ i * C) := mix_low fun p _ => by rw [mV_zero]; split <;> rfl
theorem mL_get {B A C i j M : Nat} (h : i + j < M) : (mL B A C i j M)[i + j]? = some (A % B ^ i * C / B ^ (i + j) % B) := by
  unfold mL; rw [mix_get h, if_neg (Nat.lt_irrefl _)]
theorem m_step {B A C i j M : Nat} (hB : 0 < B) (h : i + j < M) : let t := mC B A C i j + (A % B ^ i * C / B ^ (i + j) % B + A / B ^ i % B * (C / B ^ j % B))
    (mL B A C i j M).set (i + j) (t % B) = mL B A C i (j + 1) M ∧ t / B = mC B A C i (j + 1) := by
  intro t
  have hle : A % B ^ i * C / B ^ (i + j) ≤ mV B A C i j / B ^ (i + j) := Nat.div_le_div_right (by unfold mV; omega)
  obtain ⟨h1, h2, h3⟩ := mul_step (R := A % B ^ i * C) (l := A / B ^ i % B) (C := C) (i := i) (j := j) (c := mC B A C i j) hB (by unfold mC; unfold mV at *; omega)
  refine ⟨?_, ?_⟩
  · unfold mL
    refine mix_set h (fun p _ hp => ?_) ?_
    · by_cases hlt : p < i + j
      · rw [if_pos hlt, if_pos (by omega)]; exact (h3 p hlt).symm
      · rw [if_neg hlt, if_neg (by omega)]
    · rw [if_pos (by omega)]; exact h1
  · show _ = mV B A C i (j + 1) / B ^ (i + (j + 1)) - _
    have h2 : t / B + A % B ^ i * C / B ^ (i + (j + 1)) = mV B A C i (j + 1) / B ^ (i + (j + 1)) := h2
    exact Nat.eq_sub_of_add_eq h2
theorem mV_last {B A C i m : Nat} (hC : C < B ^ m) : mV B A C i m = A % B ^ (i + 1) * C := by
  unfold mV
  rw [Nat.mod_eq_of_lt hC, mod_step, Nat.add_mul, Nat.mul_assoc]
theorem m_last {B A C i m M : Nat} (hB : 0 < B) (hC : C < B ^ m) (h : i + m < M) : (mL B A C i m M).set (i + m) (mC B A C i m) = low B M (A % B ^ (i + 1) * C) := by
  have hV := mV_last (A := A) (i := i) hC
  have hR : A % B ^ i * C < B ^ (i + m) := by
    rw [Nat.pow_add]
    exact Nat.mul_lt_mul'' (Nat.mod_lt _ (Nat.pow_pos hB)) hC
  have hV2 : A % B ^ (i + 1) * C < B ^ (i + m) * B := by
    have := Nat.mul_lt_mul'' (Nat.mod_lt A (Nat.pow_pos (n := i + 1) hB)) hC
    rw [← Nat.pow_add, show i + 1 + m = i + m + 1 by omega, Nat.pow_succ] at this
    exact this
  rw [← mix_low (f := fun p => A % B ^ (i + 1) * C / B ^ p % B) (g := fun p => A % B ^ (i + 1) * C / B ^ p % B) (s := 0) (M := M) (N := A % B ^ (i + 1) * C) (B := B) (fun p _ => by split <;> rfl)]
  unfold mL
  refine mix_set h (fun p _ hp => ?_) ?_
  · rw [hV, if_neg (Nat.not_lt_zero _)]
    by_cases hlt : p < i + m
    · rw [if_pos hlt]
    · rw [if_neg hlt]
      have hb : B ^ (i + m) * B ≤ B ^ p := by rw [← Nat.pow_succ]; exact Nat.pow_le_pow_right hB (by omega)
      have hb2 : B ^ (i + m) ≤ B ^ p := Nat.pow_le_pow_right hB (by omega)
      rw [Nat.div_eq_of_lt (by omega), Nat.div_eq_of_lt (by omega)]
  · rw [if_neg (Nat.not_lt_zero _)]
    unfold mC
    rw [hV, Nat.div_eq_of_lt hR, Nat.sub_zero]
    refine (Nat.mod_eq_of_lt ?_).symm
    exact (Nat.div_lt_iff_lt_mul (Nat.pow_pos hB)).mpr (by rw [Nat.mul_comm B]; exact hV2)

-- Lg14
def theDef (k : Nat) : Stmt := PySem.Challenge.pw_xm0444_01.main.body.getD k (.Pass default)
def defBody : Stmt → List Stmt
  | .FunctionDef _ _ b .. => b
  | _ => []
def defScope : Stmt → Scope
  | .FunctionDef _ _ _ _ _ _ s .. => s
  | _ => { kind := .function, names := [], isGenerator := false, isCoroutine := false }
def defArgs : Stmt → Arguments
  | .FunctionDef _ a .. => a
  | _ => ⟨[], [], none, [], [], none, []⟩
def defName : Stmt → Str
  | .FunctionDef n .. => n
  | _ => ""
abbrev fdOf (k : Nat) (doc pm : Value) (an : Option Addr) (cd ct : Value) : FuncData :=
  fnOf (defName (theDef k)) (defName (theDef k)) (defArgs (theDef k)) (defBody (theDef k)) (defScope (theDef k)) .none .none doc pm an cd ct
/-- the k-th statement of the text, as the run leaves it at f -/
def At (c : Cx) (k : Nat) (f : Addr) : Prop :=
  c.mg (defName (theDef k)) = some (.ref f) ∧ ∃ doc pm an cd ct, FnAt c f (fdOf k doc pm an cd ct)

/-- the built-ins that the text calls -/
structure Bi (c : Cx) : Prop where
  len : c.mg (Str.ofString "len") = none ∧ c.mb (Str.ofString "len") = some (.builtin "len")
  abs : c.mg (Str.ofString "abs") = none ∧ c.mb (Str.ofString "abs") = some (.builtin "abs")
  range : c.mg (Str.ofString "range") = none ∧ c.mb (Str.ofString "range") = some (.type "range")
  enum : c.mg (Str.ofString "enumerate") = none ∧ c.mb (Str.ofString "enumerate") = some (.type "enumerate")
  int : c.mg (Str.ofString "int") = none ∧ c.mb (Str.ofString "int") = some (.type "int")
  zip : c.mg (Str.ofString "zip") = none ∧ c.mb (Str.ofString "zip") = some (.type "zip")

/-- the function named x -/
def Sp (c : Cx) (n : Nat) (x : Str) (vs : List V) (mu : List (List V)) (r : V) (mu' : List (List V)) : Prop := ∃ f, c.mg x = some (.ref f) ∧ CallM c n f vs mu r mu'

/-- a frame of a function of the text -/
structure FrS (F : Fm) (N : List (Str × NameKind)) : Prop where
  names : F.env.scope.names = N
  kind : F.env.scope.kind = .function
  glob : F.env.globals = mainGlobals
  bi : F.env.builtins = builtinsNs

section
variable {c : Cx} {F : Fm} {n : Nat} {σ σ1 σ2 σ3 : St} {N : List (Str × NameKind)}
theorem FrS.of (hF : FrS F N) {x : Str} {k : NameKind} (h : N.lookup x = some k) : F.env.kindOf x = some k := by unfold Env.kindOf; rw [hF.names]; exact h
theorem FrS.at (hF : FrS F N) (X : List Addr) : FrS ⟨F.env, X, F.n0, F.wc⟩ N := ⟨hF.names, hF.kind, hF.glob, hF.bi⟩

theorem Ev.nloc {x : Str} {p : Pos} {v : V} (hF : FrS F N) (hl : N.lookup x = some .local) (hv : σ.loc.lookup x = some v) (hd : (x == ("__debug__" : Str)) = false) : Ev c F n (.Name x p) σ v σ := Ev.loc hv (hF.of hl) hF.kind hd
theorem Ev.nfree {x : Str} {p : Pos} {v : V} (hF : FrS F N) (hl : N.lookup x = some .free) (hv : σ.loc.lookup x = some v) (hd : (x == ("__debug__" : Str)) = false) (hn : (x == ("__classdict__" : Str)) = false) : Ev c F n (.Name x p) σ v σ := Ev.free hv (hF.of hl) hF.kind hd hn
theorem Ev.ncell {x : Str} {p : Pos} {v : V} (hF : FrS F N) (hl : N.lookup x = some .cell) (hv : σ.loc.lookup x = some v) (hd : (x == ("__debug__" : Str)) = false) : Ev c F n (.Name x p) σ v σ := Ev.cell hv (hF.of hl) hF.kind hd
theorem Ev.nglob {x : Str} {p : Pos} {v : Value} (hF : FrS F N) (hv : c.mg x = some v) (hl : N.lookup x = some .globalImplicit) (hd : (x == ("__debug__" : Str)) = false) : Ev c F n (.Name x p) σ (.raw v) σ := Ev.glob hv (hF.of hl) hF.kind hd hF.glob
theorem Ev.nbi {x : Str} {p : Pos} {v : Value} (hF : FrS F N) (hB : c.mg x = none ∧ c.mb x = some v) (hl : N.lookup x = some .globalImplicit) (hd : (x == ("__debug__" : Str)) = false) : Ev c F n (.Name x p) σ (.raw v) σ := Ev.bi hB.1 hB.2 (hF.of hl) hF.kind hd hF.glob hF.bi
theorem Ev.gdat {x : Str} {p : Pos} {v : V} {v' : Value} (hF : FrS F N) (hv : c.mg x = some v') (q : VR [] [] c.H0 v v') (hl : N.lookup x = some .globalImplicit) (hd : (x == ("__debug__" : Str)) = false) : Ev c F n (.Name x p) σ v σ := fun _ as s _ _ I =>
  Calls.Name_function_global hF.kind (hF.of hl) (Calls.loadGlobal_global (by rw [hF.glob]; exact c.g.keeps I.base) hv ⟨as, I, q.mono (fun a o _ e => I.base a o e) (fun a m => .inr (I.off a m)) (fun i a e => by simp at e), Stp.refl F as s⟩) hd

theorem Ev.lenB {p pos : Pos} {e : Expr} {o : V} {xs : List V} (hF : FrS F N) (hB : Bi c) (hn : N.lookup (Str.ofString "len") = some .globalImplicit) (h : Ev c F n e σ o σ1) (hx : σ1.items o = some xs) (hl : xs.length ≤ sizeLine)
    (he : starEach [e] F.env = [(false, eval e F.env)]) : Ev c F n (.Call (.Name (Str.ofString "len") p) [e] [] pos) σ (.int (xs.length : Int)) σ1 := Ev.len (Ev.nbi hF hB.len hn rfl) h hx hl he
theorem Ev.absB {p pos : Pos} {e : Expr} {k : Int} (hF : FrS F N) (hB : Bi c) (hn : N.lookup (Str.ofString "abs") = some .globalImplicit) (h : Ev c F n e σ (.int k) σ1)
    (he : starEach [e] F.env = [(false, eval e F.env)]) : Ev c F n (.Call (.Name (Str.ofString "abs") p) [e] [] pos) σ (.int (k.natAbs : Int)) σ1 := Ev.abs (Ev.nbi hF hB.abs hn rfl) h he
theorem Ev.intB {p pos : Pos} {e : Expr} {k : Int} (hF : FrS F N) (hB : Bi c) (hn : N.lookup (Str.ofString "int") = some .globalImplicit) (h : Ev c F n e σ (.int k) σ1)
    (he : starEach [e] F.env = [(false, eval e F.env)]) : Ev c F n (.Call (.Name (Str.ofString "int") p) [e] [] pos) σ (.int k) σ1 := Ev.toInt (Ev.nbi hF hB.int hn rfl) h he
theorem Ev.sp {x : Str} {p pos : Pos} {e1 : Expr} {es : List Expr} {vs : List V} {r : V} {mu mu' : List (List V)} (hF : FrS F N) (hl : N.lookup x = some .globalImplicit) (hc : Sp c (n + 1) x vs mu r mu') (ha : Evs c F (n + 1) pos (e1 :: es) σ vs σ1) (hm : σ1.mu = mu)
    (he : starEach (e1 :: es) F.env = (false, eval e1 F.env) :: starEach es F.env) (hd : (x == ("__debug__" : Str)) = false) : Ev c F (n + 1) (.Call (.Name x p) (e1 :: es) [] pos) σ r ⟨σ1.loc, mu'⟩ := by
  subst hm
  obtain ⟨f, hf, hc⟩ := hc
  exact Ev.callM (Ev.nglob hF hf hl hd) ha hc he
theorem Ev.spP {x : Str} {p pos : Pos} {e1 : Expr} {es : List Expr} {vs : List V} {r : V} (hF : FrS F N) (hl : N.lookup x = some .globalImplicit) (hc : Sp c (n + 1) x vs [] r []) (ha : Evs c F (n + 1) pos (e1 :: es) σ vs σ1)
    (hb : V.bels 0 vs = true) (he : starEach (e1 :: es) F.env = (false, eval e1 F.env) :: starEach es F.env) (hd : (x == ("__debug__" : Str)) = false) : Ev c F (n + 1) (.Call (.Name x p) (e1 :: es) [] pos) σ r σ1 := by
  obtain ⟨f, hf, hc⟩ := hc
  exact Ev.call (Ev.nglob hF hf hl hd) ha hc hb he

theorem Sp.at {x : Str} {vs : List V} {mu mu' : List (List V)} {r : V} {f : Addr} (h : Sp c n x vs mu r mu') (hx : c.mg x = some (.ref f)) : CallM c n f vs mu r mu' := by
  obtain ⟨g, hg, h⟩ := h
  rw [hx] at hg; cases hg; exact h
theorem Ev.fnP {x : Str} {p pos : Pos} {e1 : Expr} {es : List Expr} {vs : List V} {r : V} {f : Addr} (hF : FrS F N) (hl : N.lookup x = some .local) (hv : σ.loc.lookup x = some (.raw (.ref f))) (hc : CallP c (n + 1) f vs r) (ha : Evs c F (n + 1) pos (e1 :: es) σ vs σ1)
    (hb : V.bels 0 vs = true) (he : starEach (e1 :: es) F.env = (false, eval e1 F.env) :: starEach es F.env) (hd : (x == ("__debug__" : Str)) = false) : Ev c F (n + 1) (.Call (.Name x p) (e1 :: es) [] pos) σ r σ1 :=
  Ev.call (Ev.nloc hF hl hv hd) ha hc hb he
theorem Mk.range1B {p pos : Pos} {e1 : Expr} {tgt : Expr} {k : Nat} {S : Nat → St} (hF : FrS F N) (hB : Bi c) (hn : N.lookup (Str.ofString "range") = some .globalImplicit) (h1 : Ev c F n e1 σ (.int (k : Int)) (S 0)) (hk : k ≤ 1000000)
    (he : starEach [e1] F.env = [(false, eval e1 F.env)]) (ht : ∀ it v, letOwnedTupleGo tgt it v = pure ()) :
    Mk c F n (.Call (.Name (Str.ofString "range") p) [e1] [] pos) tgt σ S k (fun i => .int (i : Int)) := Mk.range1 (Ev.nbi hF hB.range hn rfl) h1 hk he ht
theorem Mk.range2B {p pos : Pos} {e1 e2 : Expr} {tgt : Expr} {a b : Int} {k : Nat} {S : Nat → St} (hF : FrS F N) (hB : Bi c) (hn : N.lookup (Str.ofString "range") = some .globalImplicit) (h1 : Ev c F n e1 σ (.int a) σ1) (h2 : Ev c F n e2 σ1 (.int b) (S 0))
    (ha : -1000000 ≤ a) (ha' : a ≤ 1000000) (hb : -1000000 ≤ b) (hb' : b ≤ 1000000) (hk : (b - a).toNat = k)
    (he : starEach [e1, e2] F.env = [(false, eval e1 F.env), (false, eval e2 F.env)]) (he2 : starEach [e2] F.env = [(false, eval e2 F.env)]) (ht : ∀ it v, letOwnedTupleGo tgt it v = pure ()) :
    Mk c F n (.Call (.Name (Str.ofString "range") p) [e1, e2] [] pos) tgt σ S k (fun i => .int (a + (i : Int))) := Mk.range2 (Ev.nbi hF hB.range hn rfl) h1 h2 ha ha' hb hb' hk he he2 ht
theorem Mk.rangeDownB {p pos : Pos} {e1 e2 e3 : Expr} {tgt : Expr} {k : Nat} {S : Nat → St} (hF : FrS F N) (hB : Bi c) (hn : N.lookup (Str.ofString "range") = some .globalImplicit) (h1 : Ev c F n e1 σ (.int ((k : Int) - 1)) σ1) (h2 : Ev c F n e2 σ1 (.int (-1)) σ2) (h3 : Ev c F n e3 σ2 (.int (-1)) (S 0))
    (hk : k ≤ 1000000)
    (he : starEach [e1, e2, e3] F.env = [(false, eval e1 F.env), (false, eval e2 F.env), (false, eval e3 F.env)]) (he2 : starEach [e2, e3] F.env = [(false, eval e2 F.env), (false, eval e3 F.env)]) (he3 : starEach [e3] F.env = [(false, eval e3 F.env)])
    (ht : ∀ it v, letOwnedTupleGo tgt it v = pure ()) :
    Mk c F n (.Call (.Name (Str.ofString "range") p) [e1, e2, e3] [] pos) tgt σ S k (fun i => .int ((k : Int) - 1 - (i : Int))) := Mk.rangeDown (Ev.nbi hF hB.range hn rfl) h1 h2 h3 hk he he2 he3 ht
theorem Mk.enumB {p pos : Pos} {e1 : Expr} {ts : List Expr} {tk : Nat} {tp : Pos} {o : V} {xs : List V} {S : Nat → St} {X : Nat → V} (hF : FrS F N) (hB : Bi c) (hn : N.lookup (Str.ofString "enumerate") = some .globalImplicit) (h : Ev c F n e1 σ o (S 0))
    (hS : ∀ i, i ≤ xs.length → (S i).items o = some xs) (hX : ∀ i, i < xs.length → xs[i]? = some (X i)) (he : starEach [e1] F.env = [(false, eval e1 F.env)]) :
    Mk c F n (.Call (.Name (Str.ofString "enumerate") p) [e1] [] pos) (.Tuple ts tk tp) σ S xs.length (fun i => .tup [.int (i : Int), X i]) := Mk.enum (Ev.nbi hF hB.enum hn rfl) h hS hX he

theorem Mk.range1C {p pos : Pos} {e1 : Expr} {tgt : Expr} {k : Nat} {a : Int} {S : Nat → St} (hF : FrS F N) (hB : Bi c) (hn : N.lookup (Str.ofString "range") = some .globalImplicit) (h1 : Ev c F n e1 σ (.int a) (S 0)) (ha : a = (k : Int)) (hk : k ≤ 1000000)
    (he : starEach [e1] F.env = [(false, eval e1 F.env)]) (ht : ∀ it v, letOwnedTupleGo tgt it v = pure ()) :
    Mk c F n (.Call (.Name (Str.ofString "range") p) [e1] [] pos) tgt σ S k (fun i => .int (i : Int)) := Mk.range1B hF hB hn (ha ▸ h1) hk he ht
theorem Mk.rangeDownC {p pos : Pos} {e1 e2 e3 : Expr} {tgt : Expr} {k : Nat} {a : Int} {S : Nat → St} (hF : FrS F N) (hB : Bi c) (hn : N.lookup (Str.ofString "range") = some .globalImplicit) (h1 : Ev c F n e1 σ (.int a) σ1) (ha : a = (k : Int) - 1) (h2 : Ev c F n e2 σ1 (.int (-1)) σ2) (h3 : Ev c F n e3 σ2 (.int (-1)) (S 0))
    (hk : k ≤ 1000000)
    (he : starEach [e1, e2, e3] F.env = [(false, eval e1 F.env), (false, eval e2 F.env), (false, eval e3 F.env)]) (he2 : starEach [e2, e3] F.env = [(false, eval e2 F.env), (false, eval e3 F.env)]) (he3 : starEach [e3] F.env = [(false, eval e3 F.env)])
    (ht : ∀ it v, letOwnedTupleGo tgt it v = pure ()) :
    Mk c F n (.Call (.Name (Str.ofString "range") p) [e1, e2, e3] [] pos) tgt σ S k (fun i => .int ((k : Int) - 1 - (i : Int))) := Mk.rangeDownB hF hB hn (ha ▸ h1) h2 h3 hk he he2 he3 ht

theorem Mk.range2C {p pos : Pos} {e1 e2 : Expr} {tgt : Expr} {a b a' : Int} {k : Nat} {S : Nat → St} (hF : FrS F N) (hB : Bi c) (hn : N.lookup (Str.ofString "range") = some .globalImplicit) (h1 : Ev c F n e1 σ (.int a) σ1) (ha1 : a = a') (h2 : Ev c F n e2 σ1 (.int b) (S 0))
    (ha : -1000000 ≤ a') (ha' : a' ≤ 1000000) (hk : b = a' + (k : Int)) (hk6 : k ≤ 1000) (hb' : a' + (k : Int) ≤ 1000000)
    (he : starEach [e1, e2] F.env = [(false, eval e1 F.env), (false, eval e2 F.env)]) (he2 : starEach [e2] F.env = [(false, eval e2 F.env)]) (ht : ∀ it v, letOwnedTupleGo tgt it v = pure ()) :
    Mk c F n (.Call (.Name (Str.ofString "range") p) [e1, e2] [] pos) tgt σ S k (fun i => .int (a' + (i : Int))) := by
  subst ha1; subst hk
  exact Mk.range2B hF hB hn h1 h2 ha ha' (by omega) hb' (by omega) he he2 ht

theorem Mk.enumC {p pos : Pos} {e1 : Expr} {ts : List Expr} {tk : Nat} {tp : Pos} {o : V} {xs : List V} {k : Nat} {S : Nat → St} {X : Nat → V} (hF : FrS F N) (hB : Bi c) (hn : N.lookup (Str.ofString "enumerate") = some .globalImplicit) (h : Ev c F n e1 σ o (S 0))
    (hS : ∀ i, i ≤ xs.length → (S i).items o = some xs) (hk : xs.length = k) (hX : ∀ i, i < k → xs[i]? = some (X i)) (he : starEach [e1] F.env = [(false, eval e1 F.env)]) :
    Mk c F n (.Call (.Name (Str.ofString "enumerate") p) [e1] [] pos) (.Tuple ts tk tp) σ S k (fun i => .tup [.int (i : Int), X i]) := by
  subst hk; exact Mk.enumB hF hB hn h hS hX he

-- statements in a known frame
theorem Ex.nassign {x : Str} {p' p : Pos} {e : Expr} {v : V} (hF : FrS F N) (h : Ev c F n e σ v σ1) (hl : N.lookup x = some .local)
    (hs : ∀ env, swapsWith e (some (.Name x p')) p.line env = pure false) : Ex c F n (.Assign [.Name x p'] e p) σ .next ⟨(x, v) :: σ1.loc, σ1.mu⟩ := Ex.assign h (hF.of hl) hF.kind (hs _)
theorem Ex.naug {x : Str} {p' p : Pos} {op : Operator} {e : Expr} {a b k : Int} (hF : FrS F N) (hl : N.lookup x = some .local) (hv : σ.loc.lookup x = some (.int a)) (h : Ev c F n e σ (.int b) σ1) (ho : IopOp op a b k) :
    Ex c F n (.AugAssign (.Name x p') op e p) σ .next ⟨(x, .int k) :: σ1.loc, σ1.mu⟩ := Ex.aug hv h ho (hF.of hl) hF.kind
theorem Asg.nloc {x : Str} {p : Pos} {v : V} (hF : FrS F N) (hl : N.lookup x = some .local) : Asg c F n (.Name x p) v σ ⟨(x, v) :: σ.loc, σ.mu⟩ := Asg.loc (hF.of hl) hF.kind
theorem BndL.ncons {x : Str} {xs : List Str} {v : V} {vs : List V} (hF : FrS F N) (hl : N.lookup x = some .local) (hr : BndL c F n xs vs ⟨(x, v) :: σ.loc, σ.mu⟩ σ2) : BndL c F n (x :: xs) (v :: vs) σ σ2 := BndL.cons (hF.of hl) hF.kind hr
theorem Ex.nappend {o e : Expr} {pa pc p : Pos} {v : V} {j : Nat} {xs : List V} (hF : FrS F N) (ho : Ev c F n o σ (.mu j) σ1) (he : Ev c F n e σ1 v σ2) (hx1 : ∃ ys, σ1.mu[j]? = some ys) (hx : σ2.mu[j]? = some xs) (hl : xs.length ≤ 1000000)
    (hbase : ∀ env, attributeBase o "append" env (eval o env) = eval o env)
    (hfew : ((backTo pc (starEach [e] F.env)).all (fun x => !x.1) && (backToKw pc (keywordEach [] F.env)).all (fun x => x.1.isSome)
      && decide (([e] : List Expr).length + ([] : List Keyword).length + (if ([] : List Keyword).isEmpty then 0 else 1) < 30)) = true)
    (hline : (pa.endLine == pc.line) = true)
    (htrees : backTo pc (starEach [e] F.env) = [(false, eval e F.env)])
    (hs : ∀ env, swapsWith (.Call (.Attribute o "append" pa) [e] [] pc) none p.line env = pure false) :
    Ex c F n (.Expr (.Call (.Attribute o "append" pa) [e] [] pc) p) σ .next ⟨σ2.loc, σ2.mu.set j (xs ++ [v])⟩ :=
  Ex.append ho he hx hl (hbase _) hx1 hfew hline htrees (by unfold interactive; rw [hF.kind]; rfl) (hs _)

theorem Ex.ifS {t : Expr} {a b : List Stmt} {p : Pos} {k : Bool} {f : Fl} (ht : Tst c F n t σ k σ) (h1 : k = true → Exs c F n a σ f σ2) (h0 : k = false → Exs c F n b σ f σ2) : Ex c F n (.If t a b p) σ f σ2 := Ex.if ht h1 h0
theorem Ex.ifT {t : Expr} {a b : List Stmt} {p : Pos} {f : Fl} (ht : Tst c F n t σ true σ) (h1 : Exs c F n a σ f σ2) : Ex c F n (.If t a b p) σ f σ2 := Ex.if ht (fun _ => h1) nofun
theorem Ex.ifF {t : Expr} {a b : List Stmt} {p : Pos} {f : Fl} (ht : Tst c F n t σ false σ) (h1 : Exs c F n b σ f σ2) : Ex c F n (.If t a b p) σ f σ2 := Ex.if ht nofun (fun _ => h1)
theorem Ev.iteI {t x y : Expr} {p : Pos} {b : Bool} {u w : Int} (ht : Tst c F n t σ b σ) (hx : b = true → Ev c F n x σ (.int u) σ) (hy : b = false → Ev c F n y σ (.int w) σ) : Ev c F n (.IfExp t x y p) σ (.int (if b = true then u else w)) σ := by
  cases b with
  | true => exact Ev.ite ht (fun e => hx e) nofun
  | false => exact Ev.ite ht nofun fun e => hy e
theorem Ev.iteT {t x y : Expr} {p : Pos} {u : V} (ht : Tst c F n t σ true σ) (hx : Ev c F n x σ u σ1) : Ev c F n (.IfExp t x y p) σ u σ1 := Ev.ite ht (fun _ => hx) nofun
theorem Ev.iteF {t x y : Expr} {p : Pos} {u : V} (ht : Tst c F n t σ false σ) (hx : Ev c F n y σ u σ1) : Ev c F n (.IfExp t x y p) σ u σ1 := Ev.ite ht nofun (fun _ => hx)
theorem Tst.andS {x y : Expr} {p : Pos} {a b : Bool} (hx : Tst c F n x σ a σ) (hy : a = true → Tst c F n y σ b σ) : Tst c F n (.BoolOp .And [x, y] p) σ (a && b) σ := Tst.and hx hy fun _ => rfl
theorem Tst.andT {x y : Expr} {p : Pos} (hx : Tst c F n x σ true σ) (hy : Tst c F n y σ true σ) : Tst c F n (.BoolOp .And [x, y] p) σ true σ := Tst.and hx (fun _ => hy) nofun
theorem Tst.orS {x y : Expr} {p : Pos} {a b : Bool} (hx : Tst c F n x σ a σ) (hy : a = false → Tst c F n y σ b σ) : Tst c F n (.BoolOp .Or [x, y] p) σ (a || b) σ := Tst.or hx hy fun _ => rfl
theorem Ev.andS {x y : Expr} {p : Pos} {a b : Bool} (hx : Ev c F n x σ (.bool a) σ) (hy : a = true → Ev c F n y σ (.bool b) σ) : Ev c F n (.BoolOp .And [x, y] p) σ (.bool (a && b)) σ := Ev.and hx hy fun _ => rfl

-- loops, the frame of a turn being known too
theorem Ex.forN {tgt iter : Expr} {body : List Stmt} {p : Pos} (S T : Nat → St) {k : Nat} {X : Nat → V} (hF : FrS F N) (hm : Mk c F n iter tgt σ S k X)
    (turn : ∀ i, i < k → ∀ F' : Fm, FrS F' N → F'.env = F.env → F'.wc = F.wc → Asg c F' n tgt (X i) (S i) (T i) ∧ Exs c F' n body (T i) .next (S (i + 1)))
    (hs : ∀ env x, foldedSetIterable iter env x = pure x) : Ex c F n (.For tgt iter body [] p) σ .next (S k) :=
  Ex.for_ hm (fun i hi X' => turn i hi _ (hF.at X') rfl rfl) (hs _)
theorem Ex.forRetN {tgt iter : Expr} {body : List Stmt} {p : Pos} (S T : Nat → St) {k : Nat} {X : Nat → V} (m : Nat) {v : V} (hF : FrS F N) (hm : Mk c F n iter tgt σ S k X) (hmk : m < k)
    (turn : ∀ i, i < m → ∀ F' : Fm, FrS F' N → F'.env = F.env → F'.wc = F.wc → Asg c F' n tgt (X i) (S i) (T i) ∧ Exs c F' n body (T i) .next (S (i + 1)))
    (last : ∀ F' : Fm, FrS F' N → F'.env = F.env → F'.wc = F.wc → Asg c F' n tgt (X m) (S m) (T m) ∧ Exs c F' n body (T m) (.ret v) σ2)
    (hs : ∀ env x, foldedSetIterable iter env x = pure x) : Ex c F n (.For tgt iter body [] p) σ (.ret v) σ2 :=
  Ex.forRet hm hmk (fun i hi X' => turn i hi _ (hF.at X') rfl rfl) (fun X' => last _ (hF.at X') rfl rfl) (hs _)
end

/-- what the run has left: the functions and the built-ins -/
structure Fa (c : Cx) : Prop where
  b : Bi c
  f : ∀ k ∈ [4, 5, 6, 7, 8, 9, 14, 15, 16, 17, 18, 19, 20, 21, 25, 26, 27, 28, 29, 30, 31, 33, 34, 39, 41, 42, 43, 45, 46], ∃ f, At c k f
  nought : ∃ v, c.mg (Str.ofString "NOUGHT") = some v ∧ VR [] [] c.H0 (.tup [.bool false, .lst []]) v
  unit : ∃ v, c.mg (Str.ofString "UNIT") = some v ∧ VR [] [] c.H0 (.tup [.bool false, .lst [.int 1]]) v

theorem Sp.intro {c : Cx} {n : Nat} (k : Nat) {x : Str} (names : List Str) {vs : List V} {mu mu' : List (List V)} {v r : V} {σ' : St} (N : List (Str × NameKind)) (W : Fa c) (hin : k ∈ [4, 5, 6, 7, 8, 9, 14, 15, 16, 17, 18, 19, 20, 21, 25, 26, 27, 28, 29, 30, 31, 33, 34, 39, 41, 42, 43, 45, 46])
    (hx : defName (theDef k) = x) (hN : (defScope (theDef k)).names = N) (hcell : ∀ x ∈ N, x.2 ≠ .cell) (hlen : names.length = vs.length) (hnd : names.Nodup) (hloc : ∀ x ∈ names, N.lookup x = some .local)
    (hbind : ∀ doc pm an cd ct, ∀ vs' : List Value, vs'.length = vs.length → bindArgs (fdOf k doc pm an cd ct) ⟨vs', []⟩ = pure (names.zip vs'))
    (hsc : (defScope (theDef k)).isCoroutine = false ∧ (defScope (theDef k)).isGenerator = false ∧ (defScope (theDef k)).kind = .function)
    (h : ∀ F : Fm, FrS F N → F.wc = [] → Exs c F n (defBody (theDef k)) ⟨names.zip vs, mu⟩ (.ret v) σ') (hfz : Fz mu.length σ'.mu v r) (hmu : σ'.mu.take mu.length = mu') (hl : mu'.length = mu.length) (hbel : ∀ xs ∈ mu', V.bels mu.length xs = true) :
    Sp c (n + 1) x vs mu r mu' := by
  obtain ⟨f, hg, doc, pm, an, cd, ct, hf⟩ := W.f k hin
  subst hN
  refine ⟨f, hx ▸ hg, CallM.intro hf rfl hcell hlen hnd (hbind _ _ _ _ _) hloc hsc.1 hsc.2.1 hsc.2.2 rfl (fun L O => h _ ⟨rfl, hsc.2.2, rfl, rfl⟩ rfl) hfz hmu hl hbel⟩

theorem Sp.mono {c : Cx} {n : Nat} {x : Str} {vs : List V} {mu mu' : List (List V)} {r r' : V} (h : Sp c n x vs mu r mu') (e : r = r') : Sp c n x vs mu r' mu' := e ▸ h

def nats (xs : List Nat) : List V := xs.map fun x : Nat => V.int (x : Int)
theorem nats_get {xs : List Nat} {i x : Nat} (h : xs[i]? = some x) : (nats xs)[i]? = some (V.int (x : Int)) := by simp [nats, h]
theorem nats_length (xs : List Nat) : (nats xs).length = xs.length := by simp [nats]
theorem nats_bel (n : Nat) (xs : List Nat) : V.bels n (nats xs) = true := belows_of fun x m => by
  obtain ⟨a, _, rfl⟩ := List.mem_map.mp m; rfl
theorem nats_append (xs ys : List Nat) : nats (xs ++ ys) = nats xs ++ nats ys := by simp [nats]
theorem nats_take (xs : List Nat) (i : Nat) : (nats xs).take i = nats (xs.take i) := by simp [nats, List.map_take]
theorem nats_set (xs : List Nat) (i x : Nat) : nats (xs.set i x) = (nats xs).set i (.int (x : Int)) := by simp [nats, List.map_set]
theorem nats_at {xs : List Nat} {k : Int} {x : Nat} (i : Nat) (hk : k = i) (h : xs[i]? = some x) : (nats xs)[k.toNat]? = some (V.int (x : Int)) := by
  subst hk; exact nats_get h
theorem lkI {l : List (Str × V)} {x : Str} {a b : Int} (h : l.lookup x = some (.int a)) (e : a = b) : l.lookup x = some (.int b) := e ▸ h
theorem lkV {l : List (Str × V)} {x : Str} {a b : V} (h : l.lookup x = some a) (e : a = b) : l.lookup x = some b := e ▸ h

theorem nats_getC {xs : List Nat} {j x : Nat} (h : xs[j]? = some x) : (nats xs)[((j : Nat) : Int).toNat]? = some (V.int (x : Int)) := nats_get h
theorem IntOp.maskN {a k : Nat} : IntOp .BitAnd (a : Int) (2 ^ k - 1) ((a % 2 ^ k : Nat) : Int) := by
  have := IntOp.mask (a := (a : Int)) (k := k) (by omega)
  simpa using this
theorem IntOp.addN {a b : Nat} : IntOp .Add (a : Int) (b : Int) ((a + b : Nat) : Int) := by
  have := IntOp.add (a : Int) (b : Int)
  simpa using this
theorem IntOp.mulN {a b : Nat} (h : a < 2 ^ 64) : IntOp .Mult (a : Int) (b : Int) ((a * b : Nat) : Int) := by
  have := IntOp.mul (a := (a : Int)) (b := (b : Int)) (by simpa using h)
  simpa using this
theorem IntOp.shlN {a k : Nat} (h : a < 2 ^ 64) (hk : k ≤ 1000) : IntOp .LShift (a : Int) (k : Int) ((a * 2 ^ k : Nat) : Int) := by
  have := IntOp.shl (a := (a : Int)) (k := k) (by simpa using h) hk
  simpa using this
theorem IntOp.orN {a b k : Nat} (h : b < 2 ^ k) : IntOp .BitOr ((a * 2 ^ k : Nat) : Int) (b : Int) ((a * 2 ^ k + b : Nat) : Int) := by
  have := IntOp.or (a := (a : Int)) (b := (b : Int)) (k := k) (by omega) (by omega) (by exact_mod_cast h)
  simpa using this
theorem IntOp.divN {a b : Nat} (hb : 0 < b) (h : b < 1073741824) : IntOp .FloorDiv (a : Int) (b : Int) ((a / b : Nat) : Int) := by
  have := IntOp.div (a := (a : Int)) (b := (b : Int)) (by omega) (by simpa using h)
  simpa using this
theorem IopOp.modN {a b : Nat} (hb : 0 < b) : IopOp .Mod (a : Int) (b : Int) ((a % b : Nat) : Int) := by
  have := IopOp.mod (a := (a : Int)) (b := (b : Int)) (by omega)
  simpa using this
theorem IopOp.addN {a b : Nat} : IopOp .Add (a : Int) (b : Int) ((a + b : Nat) : Int) := by
  have := IopOp.add (a : Int) (b : Int)
  simpa using this
theorem IopOp.shrN {a k : Nat} : IopOp .RShift (a : Int) (k : Int) ((a / 2 ^ k : Nat) : Int) := by
  have := IopOp.shr (a := (a : Int)) (k := k)
  simpa using this
theorem Ex.nassign2 {c : Cx} {n : Nat} {F : Fm} {σ σ1 : St} {N : List (Str × NameKind)} (hF : FrS F N) {x y : Str} {p p1 p2 p3 p4 : Pos} {k1 k2 : Nat} {e1 e2 : Expr} {v1 v2 : V} (h : Ev c F n (.Tuple [e1, e2] k2 p4) σ (.tup [v1, v2]) σ1) (hx : N.lookup x = some .local) (hy : N.lookup y = some .local)
    (hc : ∀ (env : Env), env.blockKind = .function → env.kindOf x = some .local → env.kindOf y = some .local → swappedStores [.Tuple [.Name x p1, .Name y p2] k1 p3] (.Tuple [e1, e2] k2 p4) env = pure (some [x, y])) :
    Ex c F n (.Assign [.Tuple [.Name x p1, .Name y p2] k1 p3] (.Tuple [e1, e2] k2 p4) p) σ .next ⟨(x, v1) :: (y, v2) :: σ1.loc, σ1.mu⟩ :=
  Ex.assignS (names := [x, y]) h (BndL.ncons hF hy (BndL.ncons hF hx BndL.nil)) rfl rfl (hc _ (by unfold Env.blockKind; rw [hF.kind]; rfl) (hF.of hx) (hF.of hy))
theorem Ex.nassign3 {c : Cx} {n : Nat} {F : Fm} {σ σ1 : St} {N : List (Str × NameKind)} (hF : FrS F N) {x y z : Str} {p p1 p2 p5 p3 p4 : Pos} {k1 k2 : Nat} {e1 e2 e3 : Expr} {v1 v2 v3 : V} (h : Ev c F n (.Tuple [e1, e2, e3] k2 p4) σ (.tup [v1, v2, v3]) σ1) (hx : N.lookup x = some .local) (hy : N.lookup y = some .local) (hz : N.lookup z = some .local)
    (hc : ∀ (env : Env), env.blockKind = .function → env.kindOf x = some .local → env.kindOf y = some .local → env.kindOf z = some .local → swappedStores [.Tuple [.Name x p1, .Name y p2, .Name z p5] k1 p3] (.Tuple [e1, e2, e3] k2 p4) env = pure (some [x, y, z])) :
    Ex c F n (.Assign [.Tuple [.Name x p1, .Name y p2, .Name z p5] k1 p3] (.Tuple [e1, e2, e3] k2 p4) p) σ .next ⟨(x, v1) :: (y, v2) :: (z, v3) :: σ1.loc, σ1.mu⟩ :=
  Ex.assignS (names := [x, y, z]) h (BndL.ncons hF hz (BndL.ncons hF hy (BndL.ncons hF hx BndL.nil))) rfl rfl (hc _ (by unfold Env.blockKind; rw [hF.kind]; rfl) (hF.of hx) (hF.of hy) (hF.of hz))
theorem le_line {n : Nat} (h : n ≤ 1000000) : n ≤ sizeLine := Nat.le_trans h (by decide)
theorem bne_cast {x y : Nat} (h : x ≠ y) : (((x : Nat) : Int) != ((y : Nat) : Int)) = true := bne_iff_ne.mpr fun e => h (Int.ofNat_inj.mp e)
theorem bne_same {x y : Nat} (h : x = y) : (((x : Nat) : Int) != ((y : Nat) : Int)) = false := by subst h; simp
theorem beq_cast {x y : Nat} (h : x ≠ y) : (((x : Nat) : Int) == ((y : Nat) : Int)) = false := beq_eq_false_iff_ne.mpr fun e => h (Int.ofNat_inj.mp e)
-- one expression, by what it is
local macro_rules | `(tactic| walk_at "ev1") => `(tactic| first
  | ((with_reducible show Ev _ _ _ (.Name _ _) _ _ _); first
      | exact Ev.nloc (by assumption) rfl rfl rfl
      | exact Ev.nfree (by assumption) rfl rfl rfl rfl
      | exact Ev.ncell (by assumption) rfl rfl rfl
      | exact Ev.nglob (by assumption) (by assumption) rfl rfl)
  | ((with_reducible show Ev _ _ _ (.Constant _ _ _) _ _ _); first | with_reducible exact Ev.int | with_reducible exact Ev.bool)
  | ((with_reducible show Ev _ _ _ (.BinOp (.List [_] _) .Mult _ _) _ _ _); with_reducible apply Ev.replMu)
  | ((with_reducible show Ev _ _ _ (.BinOp _ _ _ _) _ _ _); with_reducible apply Ev.binop)
  | ((with_reducible show Ev _ _ _ (.List _ _) _ _ _); with_reducible apply Ev.listMu)
  | ((with_reducible show Ev _ _ _ (.Subscript _ _ _) _ _ _); with_reducible apply Ev.sub)
  | ((with_reducible show Ev _ _ _ (.Compare _ _ _ _) _ _ _); with_reducible apply Ev.cmpV)
  | ((with_reducible show Tst _ _ _ (.Compare _ _ _ _) _ _ _); with_reducible apply Tst.cmpV)
  | ((with_reducible show Ev _ _ _ (.Tuple _ _ _) _ _ _); with_reducible apply Ev.tuple)
  | ((with_reducible show Evs _ _ _ _ _ _ _ _); first | with_reducible exact Evs.nil | with_reducible apply Evs.cons)
  | ((with_reducible show Ev _ _ _ (.UnaryOp _ _ _) _ _ _); first | with_reducible apply Ev.neg | with_reducible apply Ev.not)
  | ((with_reducible show Tst _ _ _ (.UnaryOp _ _ _) _ _ _); with_reducible apply Tst.not)
  | ((with_reducible show Ev _ _ _ (.Call _ _ _ _) _ _ _); first
      | with_reducible apply Ev.lenB (by assumption) (by assumption)
      | with_reducible apply Ev.absB (by assumption) (by assumption)
      | with_reducible apply Ev.intB (by assumption) (by assumption))
  | ((with_reducible show Ev _ _ _ (.IfExp _ _ _ _) _ _ _); with_reducible apply Ev.iteI)
  | ((with_reducible show Ev _ _ _ (.BoolOp .And [_, _] _) _ _ _); with_reducible apply Ev.andS)
  | ((with_reducible show _ → Ev _ _ _ _ _ _ _); intro _)
  | ((with_reducible show V.bels _ _ = true); simp only [V.bels, V.bel, nats_bel, Bool.and_self]; done)
  | ((with_reducible show IntOp _ _ _ _); first
      | with_reducible apply IntOp.addN
      | with_reducible exact IntOp.mulN (by omega)
      | with_reducible exact IntOp.shlN (by omega) (by omega)
      | with_reducible exact IntOp.maskN
      | with_reducible apply IntOp.add
      | with_reducible apply IntOp.sub
      | with_reducible exact IntOp.shl1 (by omega)
      | with_reducible exact IntOp.pow2 (by omega))
  | ((with_reducible show CmpV _ _ _ _); first
      | with_reducible exact CmpV.eqb _ _
      | with_reducible exact CmpV.neb _ _
      | (with_reducible apply CmpV.int; first | with_reducible apply CmpI.lt | with_reducible apply CmpI.gt | with_reducible apply CmpI.le | with_reducible apply CmpI.ge | with_reducible apply CmpI.eq | with_reducible apply CmpI.ne))
  | ((with_reducible show IopOp _ _ _ _); first
      | with_reducible apply IopOp.addN
      | with_reducible apply IopOp.add
      | with_reducible exact IopOp.shrN
      | with_reducible apply IopOp.sub)
  | ((with_reducible show @Eq (Option V) _ _); with_reducible assumption)
  | with_reducible exact nats_getC (low_get (by omega))
  | with_reducible exact nats_getC (dig_get (by omega))
  | with_reducible exact nats_get (low_get (by omega))
  | with_reducible exact nats_get (dig_get (by omega))
  | ((with_reducible show _ ≤ sizeLine); with_reducible apply le_line; simp only [nats_length, dig_length, low_length, mix_length, List.length_append, List.length_cons, List.length_nil, List.length_replicate] <;> omega)
  | ((with_reducible show _ ≤ 1000000); simp only [nats_length, dig_length, low_length, mix_length, List.length_append, List.length_cons, List.length_nil, List.length_replicate] <;> omega)
  | ((with_reducible show (_ : Int) = _); simp only [nats_length, dig_length, low_length, mix_length, List.length_append, List.length_cons, List.length_nil, List.length_replicate] <;> omega)
  | omega
  | rfl
  | exact fun _ => rfl
  | exact fun _ _ => rfl
  | exact fun _ _ => ⟨_, rfl⟩
  | ((with_reducible show (_ : Int) < _); simp only [nats_length, dig_length, low_length, mix_length, List.length_append, List.length_cons, List.length_nil, List.length_replicate] <;> omega))
local macro_rules | `(tactic| walk_at "ev") => `(tactic| (repeat' walk_at "ev1"))
local macro_rules | `(tactic| walk_at "sw") => `(tactic| (intro env h1 h2 h3; simp only [swappedStores, h1, List.filterMap_cons, List.filterMap_nil, h2, h3]; rfl))
local macro_rules | `(tactic| walk_at "sw3") => `(tactic| (intro env h1 h2 h3 h4; simp only [swappedStores, h1, List.filterMap_cons, List.filterMap_nil, h2, h3, h4]; rfl))
local macro_rules | `(tactic| walk_at "ln") => `(tactic| (simp only [nats_length, dig_length, low_length, mix_length, List.length_append, List.length_cons, List.length_nil, List.length_replicate] <;> omega))
local macro_rules | `(tactic| walk_at "lk") => `(tactic| (simp only [List.mem_cons, List.not_mem_nil, or_false, forall_eq_or_imp, forall_eq]; (repeat' apply And.intro) <;> first | rfl | exact lkI rfl (by omega) | refine lkI rfl ?_ | refine lkV rfl ?_))
-- one statement
local macro_rules | `(tactic| walk_at "st") => `(tactic| first
  | (apply Ex.nassign (by assumption) <;> walk_at "ev")
  | (apply Ex.nassign2 (by assumption); rotate_left 3; (walk_at "sw"); walk_at "ev")
  | (apply Ex.nassign3 (by assumption); rotate_left 4; (walk_at "sw3"); walk_at "ev")
  | (apply Ex.naug (by assumption) <;> walk_at "ev")
  | (apply Ex.nappend (by assumption) <;> first | exact ⟨_, rfl⟩ | walk_at "ev")
  | (apply Ex.ret <;> walk_at "ev"))

-- Pr1
theorem sp_normal {c : Cx} (W : Fa c) {n k m N : Nat} (hk : 0 < k) (hm : nd k N ≤ m) (hm6 : m ≤ 1000000) :
    Sp c (n + 1) "normal" [.mu 0] [nats (low (2 ^ k) m N)] (.lst (nats (dig k N))) [nats (low (2 ^ k) m N)] := by
  have hB := W.b
  refine Sp.intro 4 ["a"] (v := .lst (nats (dig k N))) (σ' := ⟨[("end", .int (nd k N)), ("a", .mu 0)], [nats (low (2 ^ k) m N)]⟩) [("a", .local), ("end", .local), ("len", .globalImplicit)] W (by decide) rfl rfl (by decide) rfl (by decide) (by decide)
    (fun _ _ _ _ _ => bA1 rfl fun _ => rfl) ⟨rfl, rfl, rfl⟩ (fun F hF _ => ?_)
    (Fz.refl (by simp only [V.bel]; exact nats_bel _ _)) rfl rfl (fun xs h => by rw [List.mem_singleton.mp h]; exact nats_bel _ _)
  have e : m - (m - nd k N) = nd k N := by omega
  have hl : ∀ m, m ≤ 1000000 → (nats (low (2 ^ k) m N)).length ≤ sizeLine := fun m hm => by rw [nats_length, low_length]; exact Nat.le_trans hm (by decide)
  apply Exs.cons
  · apply Ex.nassign hF
    · walk_at "ev"
    all_goals walk_at "ev"
  refine Exs.at (τ := ⟨[("end", .int ((m - 0 : Nat) : Int)), ("a", .mu 0)], [nats (low (2 ^ k) m N)]⟩) rfl ?_ ?_
  · walk_at "lk"
    rw [nats_length, low_length]; omega
  apply Exs.cons
  · refine Ex.whileS (fun i => ⟨[("end", .int ((m - i : Nat) : Int)), ("a", .mu 0)], [nats (low (2 ^ k) m N)]⟩) (m - nd k N) (fun i hi => ⟨?_, ?_⟩) ?_
    · apply Tst.andT
      · apply Tst.is
        · walk_at "ev"
        · simp; omega
      · apply Tst.is
        · walk_at "ev"
        · have := high_zero (N := N) (j := (((m - i : Nat) : Int) - 1).toNat) hk (by omega)
          rw [this]; rfl
    · apply Exs.cons
      · apply Ex.naug hF
        all_goals walk_at "ev"
      refine Exs.fin rfl ?_
      walk_at "lk"
    · rw [e]
      apply Tst.is (v := decide (N ≠ 0) && false)
      · apply Tst.andS
        · apply Tst.is
          · walk_at "ev"
          · by_cases h0 : N = 0
            · subst h0; rfl
            · have := nd_pos (k := k) h0
              simp [h0]; omega
        · intro h
          have h0 : N ≠ 0 := by simpa using h
          have := nd_pos (k := k) h0
          apply Tst.is
          · walk_at "ev"
          · have := top_ne hk h0
            rw [show ((nd k N : Int) - 1).toNat = nd k N - 1 by omega]
            have h2 : ((N / (2 ^ k) ^ (nd k N - 1) % 2 ^ k : Nat) : Int) ≠ 0 := by omega
            simp only [decide_eq_false_iff_not, beq_eq_false_iff_ne]; exact h2
      · simp
  · apply Exs.cut
    · apply Exs.ret
      apply Ex.ret
      apply Ev.is
      · apply Ev.sliceTo
        all_goals walk_at "ev"
      · rw [nats_take, e, low_take hm]; rfl
    · rfl
    · walk_at "lk"

-- Pr2
abbrev LV (k N : Nat) : V := .lst (nats (dig k N))
theorem LV_bel (n k N : Nat) : V.bel n (LV k N) = true := by simp only [V.bel]; exact nats_bel _ _

theorem sp_nat_of {c : Cx} (W : Fa c) {n k N : Nat} (hk : 0 < k) (hk12 : k ≤ 12) (hn : nd k N ≤ 1000000) :
    Sp c (n + 1) "nat_of" [.int N, .int k] [] (LV k N) [] := by
  have hB := W.b
  refine Sp.intro 5 ["number", "w"] (v := .mu 0) (σ' := ⟨[], [nats (dig k N)]⟩) [("number", .local), ("w", .local), ("found", .local), ("mask", .local), ("OutOfRange", .globalImplicit)] W (by decide) rfl rfl (by decide) rfl (by decide) (by decide)
    (fun _ _ _ _ _ => bA2 rfl fun _ _ => rfl) ⟨rfl, rfl, rfl⟩ (fun F hF _ => ?_)
    (.mu (by decide) rfl (Fzs.refl (nats_bel _ _))) rfl rfl nofun
  apply Exs.cons
  · apply Ex.ifF
    · apply Tst.is
      · walk_at "ev"
      · simp
    · exact Exs.nil
  apply Exs.cons
  · walk_at "st"
  refine Exs.at (τ := ⟨[("number", .int ((N / (2 ^ k) ^ 0 : Nat) : Int)), ("w", .int k), ("found", .mu 0), ("mask", .int (2 ^ k - 1))], [nats (low (2 ^ k) 0 N)]⟩) rfl ?_ ?_
  · walk_at "lk"
    simp
  apply Exs.cons
  · refine Ex.whileS (fun i => ⟨[("number", .int ((N / (2 ^ k) ^ i : Nat) : Int)), ("w", .int k), ("found", .mu 0), ("mask", .int (2 ^ k - 1))], [nats (low (2 ^ k) i N)]⟩) (nd k N) (fun i hi => ⟨?_, ?_⟩) ?_
    · apply Tst.is
      · walk_at "ev"
      · have := Nat.pos_of_ne_zero (low_ne hk hi)
        simp only [decide_eq_true_eq]; omega
    · apply Exs.cons
      · walk_at "st"
      apply Exs.cons
      · walk_at "st"
      refine Exs.fin ?_ ?_
      · simp [low_succ, nats_append]; rfl
      · walk_at "lk"
        rw [step_div]
    · apply Tst.is
      · walk_at "ev"
      · rw [high_zero hk (Nat.le_refl _)]; rfl
  apply Exs.cut
  · apply Exs.ret
    walk_at "st"
  · rfl
  · nofun

-- Pr3
theorem sp_compare {c : Cx} (W : Fa c) {n k A C : Nat} (hk : 0 < k) (hA : nd k A ≤ 1000) (hC : nd k C ≤ 1000) :
    Sp c (n + 1) "compare" [LV k A, LV k C] [] (.int (cmpN A C)) [] := by
  have hB := W.b
  refine Sp.intro 6 ["a", "b"] (v := .int (cmpN A C)) (σ' := ⟨[], []⟩) [("a", .local), ("b", .local), ("at", .local), ("len", .globalImplicit), ("range", .globalImplicit)] W (by decide) rfl rfl (by decide) rfl (by decide) (by decide)
    (fun _ _ _ _ _ => bA2 rfl fun _ _ => rfl) ⟨rfl, rfl, rfl⟩ (fun F hF _ => ?_)
    (.int _) rfl rfl nofun
  by_cases hd : nd k A = nd k C
  · apply Exs.cons
    · apply Ex.ifF
      · apply Tst.is
        · walk_at "ev"
        · simp [nats_length, dig_length, hd]
      · exact Exs.nil
    refine Exs.at (τ := ⟨[("a", LV k A), ("b", LV k C)], []⟩) rfl (by walk_at "lk") ?_
    have hl : (nats (dig k A)).length = nd k A := by rw [nats_length, dig_length]
    by_cases e : A = C
    · subst e
      apply Exs.cons
      · refine Ex.forN (fun _ => ⟨[("a", LV k A), ("b", LV k A)], []⟩) (fun i => ⟨[("at", .int ((nd k A : Int) - 1 - (i : Int))), ("a", LV k A), ("b", LV k A)], []⟩) hF (k := nd k A) (X := fun i => .int ((nd k A : Int) - 1 - (i : Int))) ?_ (fun i hi F' hF' _ _ => ⟨?_, ?_⟩) ?_
        · apply Mk.rangeDownC hF hB
          all_goals walk_at "ev"
        · exact Asg.nloc hF' rfl
        · apply Exs.cons
          · apply Ex.ifF
            · apply Tst.is
              · walk_at "ev"
              · simp
            · exact Exs.nil
          · exact Exs.fin rfl (by walk_at "lk")
        · walk_at "ev"
      apply Exs.cut
      · apply Exs.ret
        apply Ex.ret
        apply Ev.is
        · walk_at "ev"
        · simp [cmpN]
      · rfl
      · nofun
    · obtain ⟨j, hj, h1, h2⟩ := first_diff (B := 2 ^ k) e (m := nd k A) (by rw [high_zero hk (Nat.le_refl _), high_zero hk (by omega)])
      obtain ⟨n1, n2, _⟩ := diff_lt h1 h2
      apply Exs.cut
      · apply Exs.ret
        refine Ex.forRetN (fun _ => ⟨[("a", LV k A), ("b", LV k C)], []⟩) (fun i => ⟨[("at", .int ((nd k A : Int) - 1 - (i : Int))), ("a", LV k A), ("b", LV k C)], []⟩) (nd k A - 1 - j) hF (k := nd k A) (X := fun i => .int ((nd k A : Int) - 1 - (i : Int))) (σ2 := ⟨[("at", .int ((nd k A : Int) - 1 - ((nd k A - 1 - j : Nat) : Int))), ("a", LV k A), ("b", LV k C)], []⟩) ?_ (by omega) (fun i hi F' hF' _ _ => ⟨?_, ?_⟩) (fun F' hF' _ _ => ⟨?_, ?_⟩) ?_
        · apply Mk.rangeDownC hF hB
          all_goals walk_at "ev"
        · exact Asg.nloc hF' rfl
        · apply Exs.cons
          · apply Ex.ifF
            · apply Tst.is
              · walk_at "ev"
              · have := div_up h2 (j := ((nd k A : Int) - 1 - (i : Int)).toNat) (by omega)
                exact bne_same (by rw [this])
            · exact Exs.nil
          · exact Exs.fin rfl (by walk_at "lk")
        · exact Asg.nloc hF' rfl
        · have e2 : ((nd k A : Int) - 1 - ((nd k A - 1 - j : Nat) : Int)).toNat = j := by omega
          apply Exs.ret
          apply Ex.ifT
          · apply Tst.is
            · walk_at "ev"
            · rw [e2]; exact bne_cast n1
          · apply Exs.ret
            apply Ex.ret
            apply Ev.is
            · apply Ev.iteI
              · walk_at "ev"
              · intro _; walk_at "ev"
              · intro _; walk_at "ev"
            · rw [e2]; unfold cmpN; simp only [decide_eq_true_eq, V.int.injEq, Int.ofNat_lt, n2]
              split <;> first | rfl | (split <;> omega)
        · walk_at "ev"
      · rfl
      · nofun
  · apply Exs.cut
    · apply Exs.ret
      apply Ex.ifT
      · apply Tst.is
        · walk_at "ev"
        · simp [nats_length, dig_length]; omega
      · apply Exs.ret
        apply Ex.ret
        apply Ev.is
        · apply Ev.iteI
          · walk_at "ev"
          · intro _; walk_at "ev"
          · intro _; walk_at "ev"
        · have a1 : nd k A < nd k C → A < C := lt_of_nd hk
          have a2 : nd k C < nd k A → C < A := lt_of_nd hk
          unfold cmpN; simp only [decide_eq_true_eq, V.int.injEq, nats_length, dig_length]
          split <;> split <;> omega
    · rfl
    · nofun

-- Pr4
theorem add_main {c : Cx} (W : Fa c) {n k X Y : Nat} (hk : 0 < k) (hk12 : k ≤ 12) (hX : nd k X ≤ 1000) (hY : nd k Y ≤ nd k X) {F : Fm}
    (hF : FrS F [("a", .local), ("b", .local), ("w", .local), ("found", .local), ("carry", .local), ("mask", .local), ("at", .local), ("len", .globalImplicit), ("range", .globalImplicit)]) :
    Exs c F n ((defBody (theDef 7)).drop 1) ⟨[("a", LV k X), ("b", LV k Y), ("w", .int k)], []⟩ (.ret (.mu 0)) ⟨[], [nats (dig k (X + Y))]⟩ := by
  have hB := W.b
  have hp : 0 < 2 ^ k := Nat.two_pow_pos k
  apply Exs.cons
  · walk_at "st"
  refine Exs.at (τ := ⟨[("a", LV k X), ("b", LV k Y), ("w", .int k), ("found", .mu 0), ("mask", .int (2 ^ k - 1)), ("carry", .int (carryAt (2 ^ k) X Y 0 : Nat))], [nats (low (2 ^ k) 0 (X + Y))]⟩) rfl ?_ ?_
  · walk_at "lk"
    rw [carry_zero]; rfl
  apply Exs.cons
  · refine Ex.forN (fun i => ⟨[("a", LV k X), ("b", LV k Y), ("w", .int k), ("found", .mu 0), ("mask", .int (2 ^ k - 1)), ("carry", .int (carryAt (2 ^ k) X Y i : Nat))], [nats (low (2 ^ k) i (X + Y))]⟩)
      (fun i => ⟨[("at", .int (i : Int)), ("a", LV k X), ("b", LV k Y), ("w", .int k), ("found", .mu 0), ("mask", .int (2 ^ k - 1)), ("carry", .int (carryAt (2 ^ k) X Y i : Nat))], [nats (low (2 ^ k) i (X + Y))]⟩) hF (k := nd k Y) (X := fun i => .int (i : Int)) ?_ (fun i hi F' hF' _ _ => ⟨?_, ?_⟩) ?_
    · apply Mk.range1C hF hB
      all_goals walk_at "ev"
    · exact Asg.nloc hF' rfl
    · apply Exs.cons
      · walk_at "st"
      apply Exs.cons
      · walk_at "st"
      apply Exs.cons
      · walk_at "st"
      refine Exs.fin ?_ ?_
      · simp only [low_succ, nats_append, ← add_limb hp X Y i]; rfl
      · walk_at "lk"
        rw [add_carry hp]
    · walk_at "ev"
  refine Exs.at (τ := ⟨[("a", LV k X), ("b", LV k Y), ("w", .int k), ("found", .mu 0), ("mask", .int (2 ^ k - 1)), ("carry", .int (carryAt (2 ^ k) X Y (nd k Y + 0) : Nat))], [nats (low (2 ^ k) (nd k Y + 0) (X + Y))]⟩) rfl (by walk_at "lk") ?_
  apply Exs.cons
  · refine Ex.forN (fun i => ⟨[("a", LV k X), ("b", LV k Y), ("w", .int k), ("found", .mu 0), ("mask", .int (2 ^ k - 1)), ("carry", .int (carryAt (2 ^ k) X Y (nd k Y + i) : Nat))], [nats (low (2 ^ k) (nd k Y + i) (X + Y))]⟩)
      (fun i => ⟨[("at", .int ((nd k Y + i : Nat) : Int)), ("a", LV k X), ("b", LV k Y), ("w", .int k), ("found", .mu 0), ("mask", .int (2 ^ k - 1)), ("carry", .int (carryAt (2 ^ k) X Y (nd k Y + i) : Nat))], [nats (low (2 ^ k) (nd k Y + i) (X + Y))]⟩) hF (k := nd k X - nd k Y) (X := fun i => .int ((nd k Y : Int) + (i : Int))) ?_ (fun i hi F' hF' _ _ => ⟨?_, ?_⟩) ?_
    · apply Mk.range2C hF hB
      all_goals walk_at "ev"
    · exact (Asg.nloc hF' rfl)
    · have hz : Y / (2 ^ k) ^ (nd k Y + i) % 2 ^ k = 0 := by rw [high_zero hk (by omega)]; rfl
      apply Exs.cons
      · walk_at "st"
      apply Exs.cons
      · walk_at "st"
      apply Exs.cons
      · walk_at "st"
      refine Exs.fin ?_ ?_
      · show _ = [nats (low (2 ^ k) (nd k Y + i + 1) (X + Y))]
        simp only [low_succ, nats_append, ← add_limb hp X Y (nd k Y + i), hz]; rfl
      · walk_at "lk"
        rw [← Nat.add_assoc, ← add_carry hp, hz]; rfl
    · walk_at "ev"
  have he : nd k Y + (nd k X - nd k Y) = nd k X := by omega
  rw [he]
  obtain ⟨d0, d1⟩ := dig_sum hk hY
  by_cases hc : carryAt (2 ^ k) X Y (nd k X) = 0
  · apply Exs.cons
    · apply Ex.ifF
      · apply Tst.is
        · walk_at "ev"
        · rw [hc]; rfl
      · exact Exs.nil
    apply Exs.cut
    · apply Exs.ret
      walk_at "st"
    · rw [d0 hc]
    · nofun
  · apply Exs.cons
    · apply Ex.ifT
      · apply Tst.is
        · walk_at "ev"
        · simp only [decide_eq_true_eq]; omega
      · apply Exs.cons
        · walk_at "st"
        · exact Exs.nil
    apply Exs.cut
    · apply Exs.ret
      walk_at "st"
    · rw [d1 hc, nats_append]; rfl
    · nofun

theorem sp_add {c : Cx} (W : Fa c) {n k A C : Nat} (hk : 0 < k) (hk12 : k ≤ 12) (hA : nd k A ≤ 1000) (hC : nd k C ≤ 1000) :
    Sp c (n + 1) "add" [LV k A, LV k C, .int k] [] (LV k (A + C)) [] := by
  have hB := W.b
  refine Sp.intro 7 ["a", "b", "w"] (v := .mu 0) (σ' := ⟨[], [nats (dig k (A + C))]⟩) [("a", .local), ("b", .local), ("w", .local), ("found", .local), ("carry", .local), ("mask", .local), ("at", .local), ("len", .globalImplicit), ("range", .globalImplicit)] W (by decide) rfl rfl (by decide) rfl (by decide) (by decide)
    (fun _ _ _ _ _ => bA3 rfl fun _ _ _ => rfl) ⟨rfl, rfl, rfl⟩ (fun F hF _ => ?_)
    (.mu (by decide) rfl (Fzs.refl (nats_bel _ _))) rfl rfl nofun
  by_cases h : nd k A < nd k C
  · apply Exs.cons
    · apply Ex.ifT
      · apply Tst.is
        · walk_at "ev"
        · simp only [decide_eq_true_eq]; walk_at "ln"
      · apply Exs.cons
        · walk_at "st"
        · exact Exs.nil
    refine Exs.at (τ := ⟨[("a", LV k C), ("b", LV k A), ("w", .int k)], []⟩) rfl (by walk_at "lk") ?_
    rw [Nat.add_comm]
    exact add_main W hk hk12 hC (by omega) hF
  · apply Exs.cons
    · apply Ex.ifF
      · apply Tst.is
        · walk_at "ev"
        · simp only [decide_eq_false_iff_not]; walk_at "ln"
      · exact Exs.nil
    refine Exs.at (τ := ⟨[("a", LV k A), ("b", LV k C), ("w", .int k)], []⟩) rfl (by walk_at "lk") ?_
    exact add_main W hk hk12 hA (by omega) hF

-- Pr5
theorem sp_sub {c : Cx} (W : Fa c) {n k A C : Nat} (hk : 0 < k) (hk12 : k ≤ 12) (hA : nd k A ≤ 1000) (hCA : C ≤ A) :
    Sp c (n + 2) "sub" [LV k A, LV k C, .int k] [] (LV k (A - C)) [] := by
  have hB := W.b
  have hp : 0 < 2 ^ k := Nat.two_pow_pos k
  have hC : nd k C ≤ nd k A := nd_mono hk hCA
  refine Sp.intro 8 ["a", "b", "w"] (v := LV k (A - C)) (σ' := ⟨[], [nats (low (2 ^ k) (nd k A) (A - C))]⟩) [("a", .local), ("b", .local), ("w", .local), ("found", .local), ("borrow", .local), ("base", .local), ("at", .local), ("limb", .local), ("compare", .globalImplicit), ("OutOfRange", .globalImplicit), ("range", .globalImplicit), ("len", .globalImplicit), ("normal", .globalImplicit)] W (by decide) rfl rfl (by decide) rfl (by decide) (by decide)
    (fun _ _ _ _ _ => bA3 rfl fun _ _ _ => rfl) ⟨rfl, rfl, rfl⟩ (fun F hF _ => ?_)
    (Fz.refl (LV_bel _ _ _)) rfl rfl nofun
  apply Exs.cons
  · apply Ex.ifF
    · apply Tst.is
      · apply Tst.cmpV
        · apply Ev.spP hF rfl (sp_compare (n := n) W hk hA (Nat.le_trans hC hA))
          all_goals walk_at "ev"
        all_goals walk_at "ev"
      · unfold cmpN; simp only [decide_eq_false_iff_not]; split <;> (try split) <;> omega
    · exact Exs.nil
  apply Exs.cons
  · walk_at "st"
  refine Exs.at (τ := ⟨[("a", LV k A), ("b", LV k C), ("w", .int k), ("found", .mu 0), ("base", .int (2 ^ k)), ("borrow", .int (bwAt (2 ^ k) A C 0))], [nats (low (2 ^ k) 0 (A - C))]⟩) rfl ?_ ?_
  · walk_at "lk"
    simp [bwAt, Nat.mod_one]
  apply Exs.cons
  · refine Ex.forN (fun i => ⟨[("a", LV k A), ("b", LV k C), ("w", .int k), ("found", .mu 0), ("base", .int (2 ^ k)), ("borrow", .int (bwAt (2 ^ k) A C i))], [nats (low (2 ^ k) i (A - C))]⟩)
      (fun i => ⟨[("at", .int (i : Int)), ("a", LV k A), ("b", LV k C), ("w", .int k), ("found", .mu 0), ("base", .int (2 ^ k)), ("borrow", .int (bwAt (2 ^ k) A C i))], [nats (low (2 ^ k) i (A - C))]⟩) hF (k := nd k A) (X := fun i => .int (i : Int)) ?_ (fun i hi F' hF' _ _ => ⟨?_, ?_⟩) ?_
    · apply Mk.range1C hF hB
      all_goals walk_at "ev"
    · exact Asg.nloc hF' rfl
    · obtain ⟨s1, s2⟩ := sub_limb (i := i) hp hCA
      apply Exs.cons
      · apply Ex.nassign hF'
        · apply Ev.binop
          · walk_at "ev"
          · apply Ev.is (v' := .int ((C / (2 ^ k) ^ i % 2 ^ k : Nat) : Int))
            · apply Ev.iteI
              · walk_at "ev"
              · intro h
                have h2 : i < nd k C := by simpa [nats_length, dig_length] using h
                walk_at "ev"
              · walk_at "ev"
            · simp only [decide_eq_true_eq, V.int.injEq, nats_length, dig_length]
              split
              · rfl
              · rw [high_zero hk (by omega)]; rfl
          · walk_at "ev"
        all_goals walk_at "ev"
      apply Exs.cons
      · walk_at "st"
      apply Exs.cons
      · walk_at "st"
      refine Exs.fin ?_ ?_
      · simp only [Int.natCast_pow] at s2
        simp only [low_succ, nats_append, decide_eq_true_eq]
        show [_ ++ [V.int _]] = [_ ++ [V.int (((A - C) / (2 ^ k) ^ i % 2 ^ k : Nat) : Int)]]
        rw [← s2]
        rfl
      · walk_at "lk"
        simp only [decide_eq_true_eq, s1]
        rfl
    · walk_at "ev"
  apply Exs.cut
  · apply Exs.ret
    apply Ex.ret
    apply Ev.sp hF rfl (sp_normal (n := n) W hk (N := A - C) (m := nd k A) (nd_mono hk (by omega)) (by omega))
    all_goals walk_at "ev"
  · rfl
  · nofun

-- Pr6
def dgt (k N p : Nat) : Nat := N / (2 ^ k) ^ p % 2 ^ k
theorem dgt_lt (k N p : Nat) : dgt k N p < 2 ^ k := Nat.mod_lt _ (Nat.two_pow_pos k)
theorem pow12 {k : Nat} (h : k ≤ 12) : 2 ^ k ≤ 4096 := Nat.pow_le_pow_right (by decide) h

theorem sp_divrem_limb {c : Cx} (W : Fa c) {n k A d : Nat} (hk : 0 < k) (hk12 : k ≤ 12) (hA : nd k A ≤ 1000) (hd : 0 < d) (hdk : d < 2 ^ k) :
    Sp c (n + 2) "divrem_limb" [LV k A, .int d, .int k] [] (.tup [LV k (A / d), .int ((A % d : Nat) : Int)]) [] := by
  have hB := W.b
  have hp : 0 < 2 ^ k := Nat.two_pow_pos k
  have hp12 := pow12 hk12
  refine Sp.intro 9 ["a", "limb", "w"] (v := .tup [LV k (A / d), .int ((A % d : Nat) : Int)]) (σ' := ⟨[], [nats (low (2 ^ k) (nd k A) (A / d))]⟩) [("a", .local), ("limb", .local), ("w", .local), ("found", .local), ("rest", .local), ("at", .local), ("DivisionByZero", .globalImplicit), ("len", .globalImplicit), ("range", .globalImplicit), ("normal", .globalImplicit)] W (by decide) rfl rfl (by decide) rfl (by decide) (by decide)
    (fun _ _ _ _ _ => bA3 rfl fun _ _ _ => rfl) ⟨rfl, rfl, rfl⟩ (fun F hF _ => ?_)
    (Fz.refl (by simp only [V.bel, V.bels, nats_bel, Bool.and_self])) rfl rfl nofun
  apply Exs.cons
  · apply Ex.ifF
    · apply Tst.is
      · walk_at "ev"
      · exact beq_eq_false_iff_ne.mpr (by omega)
    · exact Exs.nil
  apply Exs.cons
  · walk_at "st"
  have hm0 : mix (fun _ => 0) (dgt k (A / d)) (nd k A) (nd k A) = List.replicate (nd k A) 0 := (mix_zero fun p hp => by rw [if_pos hp]).symm
  refine Exs.at (τ := ⟨[("a", LV k A), ("limb", .int d), ("w", .int k), ("found", .mu 0), ("rest", .int ((A / (2 ^ k) ^ (nd k A - 0) % d : Nat) : Int))], [nats (mix (fun _ => 0) (dgt k (A / d)) (nd k A - 0) (nd k A))]⟩) ?_ ?_ ?_
  · rw [Nat.sub_zero, hm0, nats_length, dig_length]
    simp [nats]
  · walk_at "lk"
    rw [high_zero hk (by omega), Nat.zero_mod]; rfl
  apply Exs.cons
  · refine Ex.forN (fun i => ⟨[("a", LV k A), ("limb", .int d), ("w", .int k), ("found", .mu 0), ("rest", .int ((A / (2 ^ k) ^ (nd k A - i) % d : Nat) : Int))], [nats (mix (fun _ => 0) (dgt k (A / d)) (nd k A - i) (nd k A))]⟩)
      (fun i => ⟨[("at", .int ((nd k A : Int) - 1 - (i : Int))), ("a", LV k A), ("limb", .int d), ("w", .int k), ("found", .mu 0), ("rest", .int ((A / (2 ^ k) ^ (nd k A - i) % d : Nat) : Int))], [nats (mix (fun _ => 0) (dgt k (A / d)) (nd k A - i) (nd k A))]⟩) hF (k := nd k A) (X := fun i => .int ((nd k A : Int) - 1 - (i : Int))) ?_ (fun i hi F' hF' _ _ => ⟨?_, ?_⟩) ?_
    · apply Mk.rangeDownC hF hB
      all_goals walk_at "ev"
    · exact Asg.nloc hF' rfl
    · obtain ⟨j, hj⟩ : ∃ j, nd k A - i = j + 1 := ⟨nd k A - i - 1, by omega⟩
      have hj1 : nd k A - (i + 1) = j := by omega
      have hj2 : (nd k A : Int) - 1 - (i : Int) = (j : Int) := by omega
      rw [hj, hj1, hj2]
      obtain ⟨s1, s2⟩ := limb_step (B := 2 ^ k) (A := A) (j := j) hd
      have s1 := s1 hp
      have r1 : A / (2 ^ k) ^ (j + 1) % d < d := Nat.mod_lt _ hd
      have r2 : A / (2 ^ k) ^ j % 2 ^ k < 2 ^ k := Nat.mod_lt _ hp
      apply Exs.cons
      · apply Ex.nassign hF'
        · apply Ev.binop
          · walk_at "ev"
          · walk_at "ev"
          · exact IntOp.orN r2
        all_goals walk_at "ev"
      apply Exs.cons
      · apply Ex.setItem
        · apply Ev.binop
          · walk_at "ev"
          · walk_at "ev"
          · exact IntOp.divN hd (by omega)
        all_goals walk_at "ev"
      apply Exs.cons
      · apply Ex.naug hF'
        · walk_at "ev"
        · walk_at "ev"
        · walk_at "ev"
        · exact IopOp.modN hd
      refine Exs.fin ?_ ?_
      · show [(nats _).set j (V.int _)] = _
        rw [← nats_set, mix_set (f' := fun _ => 0) (g' := dgt k (A / d)) (s' := j) (by omega) (fun p _ hpj => ?_) (by rw [if_neg (Nat.lt_irrefl _), s1]; rfl)]
        by_cases hlt : p < j
        · rw [if_pos hlt, if_pos (by omega)]
        · rw [if_neg hlt, if_neg (by omega)]
      · walk_at "lk"
    · walk_at "ev"
  rw [Nat.sub_self, mix_low (B := 2 ^ k) (N := A / d) (fun p _ => by rw [if_neg (Nat.not_lt_zero _)]; rfl), Nat.pow_zero, Nat.div_one]
  apply Exs.cut
  · apply Exs.ret
    apply Ex.ret
    apply Ev.tuple
    · apply Evs.cons
      · apply Ev.sp hF rfl (sp_normal (n := n) W hk (N := A / d) (m := nd k A) (nd_mono hk (Nat.div_le_self _ _)) (by omega))
        all_goals walk_at "ev"
      all_goals walk_at "ev"
    · walk_at "ev"
  · rfl
  · nofun

theorem sp_divrem_small {c : Cx} (W : Fa c) {n k A d : Nat} (hk : 0 < k) (hk12 : k ≤ 12) (hA : nd k A ≤ 1000) (hd : 0 < d) (hdk : d < 2 ^ k) :
    Sp c (n + 3) "divrem_small" [LV k A, LV k d, .int k] [] (.tup [LV k (A / d), LV k (A % d)]) [] := by
  have hB := W.b
  have hdd := dig_small hk (by omega) hdk
  have hlt : A % d < 2 ^ k := Nat.lt_trans (Nat.mod_lt _ hd) hdk
  refine Sp.intro 34 ["a", "b", "w"] (v := .tup [LV k (A / d), LV k (A % d)]) (σ' := ⟨[], []⟩) [("a", .local), ("b", .local), ("w", .local), ("quotient", .local), ("rest", .local), ("divrem_limb", .globalImplicit)] W (by decide) rfl rfl (by decide) rfl (by decide) (by decide)
    (fun _ _ _ _ _ => bA3 rfl fun _ _ _ => rfl) ⟨rfl, rfl, rfl⟩ (fun F hF _ => ?_)
    (Fz.refl (by simp only [V.bel, V.bels, nats_bel, Bool.and_self])) rfl rfl nofun
  apply Exs.cons
  · apply Ex.assignT
    · apply Ev.spP hF rfl (sp_divrem_limb (n := n) W hk hk12 hA hd hdk)
      · apply Evs.cons
        · walk_at "ev"
        · apply Evs.cons
          · apply Ev.sub (xs := nats [d]) (k := 0)
            · walk_at "ev"
            · walk_at "ev"
            · show some (nats (dig k d)) = _; rw [hdd]
            all_goals walk_at "ev"
          all_goals walk_at "ev"
        · walk_at "ev"
      all_goals walk_at "ev"
    · apply Asg.tuple
      · apply AsgL.cons
        · exact Asg.nloc hF rfl
        · apply AsgL.cons
          · exact Asg.nloc hF rfl
          · exact AsgL.nil
          · rfl
        · rfl
      · rfl
      · rfl
    · rfl
    · rfl
  by_cases h0 : A % d = 0
  · rw [show LV k (A % d) = V.lst [] by show V.lst (nats _) = _; rw [h0]; rfl]
    apply Exs.cut
    · apply Exs.ret
      apply Ex.ret
      apply Ev.tuple
      · apply Evs.cons
        · walk_at "ev"
        · apply Evs.cons
          · apply Ev.iteF
            · apply Tst.is
              · walk_at "ev"
              · rw [h0]; rfl
            · apply Ev.list
              all_goals walk_at "ev"
          all_goals walk_at "ev"
        · walk_at "ev"
      · walk_at "ev"
    · rfl
    · nofun
  · rw [show LV k (A % d) = V.lst [.int ((A % d : Nat) : Int)] by show V.lst (nats _) = _; rw [dig_small hk h0 hlt]; rfl]
    apply Exs.cut
    · apply Exs.ret
      apply Ex.ret
      apply Ev.tuple
      · apply Evs.cons
        · walk_at "ev"
        · apply Evs.cons
          · apply Ev.iteT
            · apply Tst.is
              · walk_at "ev"
              · exact decide_eq_true (by omega)
            · apply Ev.list
              all_goals walk_at "ev"
          all_goals walk_at "ev"
        · walk_at "ev"
      · walk_at "ev"
    · rfl
    · nofun

theorem sp_divrem_school {c : Cx} (W : Fa c) {n k A d : Nat} (hk : 0 < k) (hk12 : k ≤ 12) (hA : nd k A ≤ 1000) (hd : 0 < d) (hdk : d < 2 ^ k) :
    Sp c (n + 4) "divrem_school" [LV k A, LV k d, .int k] [] (.tup [LV k (A / d), LV k (A % d)]) [] := by
  have hB := W.b
  have hd1 : nd k d = 1 := nd_of hk (by simpa using hdk) (by simp; omega)
  refine Sp.intro 39 ["a", "b", "w"] (v := .tup [LV k (A / d), LV k (A % d)]) (σ' := ⟨[], []⟩) [("a", .local), ("b", .local), ("w", .local), ("shift", .local), ("divisor", .local), ("rest", .local), ("quotient", .local), ("len", .globalImplicit), ("DivisionByZero", .globalImplicit), ("compare", .globalImplicit), ("divrem_small", .globalImplicit), ("bits", .globalImplicit), ("shift_left", .globalImplicit), ("divide_rows", .globalImplicit), ("normal", .globalImplicit), ("shift_right", .globalImplicit)] W (by decide) rfl rfl (by decide) rfl (by decide) (by decide)
    (fun _ _ _ _ _ => bA3 rfl fun _ _ _ => rfl) ⟨rfl, rfl, rfl⟩ (fun F hF _ => ?_)
    (Fz.refl (by simp only [V.bel, V.bels, nats_bel, Bool.and_self])) rfl rfl nofun
  apply Exs.cons
  · apply Ex.ifF
    · apply Tst.is
      · walk_at "ev"
      · rw [nats_length, dig_length, hd1]; rfl
    · exact Exs.nil
  by_cases hlt : A < d
  · apply Exs.cut
    · apply Exs.ret
      apply Ex.ifT
      · apply Tst.is
        · apply Tst.cmpV
          · apply Ev.spP hF rfl (sp_compare (n := n + 2) (A := A) (C := d) W hk hA (by omega))
            all_goals walk_at "ev"
          all_goals walk_at "ev"
        · unfold cmpN; rw [if_pos hlt]; rfl
      · apply Exs.ret
        apply Ex.ret
        rw [Nat.div_eq_of_lt hlt, Nat.mod_eq_of_lt hlt, show LV k 0 = V.lst [] from rfl]
        apply Ev.tuple
        · apply Evs.cons
          · apply Ev.list
            all_goals walk_at "ev"
          · apply Evs.cons
            · apply Ev.sliceAll
              all_goals walk_at "ev"
            all_goals walk_at "ev"
          · walk_at "ev"
        · walk_at "ev"
    · rfl
    · nofun
  · apply Exs.cons
    · apply Ex.ifF
      · apply Tst.is
        · apply Tst.cmpV
          · apply Ev.spP hF rfl (sp_compare (n := n + 2) (A := A) (C := d) W hk hA (by omega))
            all_goals walk_at "ev"
          all_goals walk_at "ev"
        · unfold cmpN; rw [if_neg hlt]; split <;> rfl
      · exact Exs.nil
    apply Exs.cut
    · apply Exs.ret
      apply Ex.ifT
      · apply Tst.is
        · walk_at "ev"
        · rw [nats_length, dig_length, hd1]; rfl
      · apply Exs.ret
        apply Ex.ret
        apply Ev.spP hF rfl (sp_divrem_small (n := n) W hk hk12 hA hd hdk)
        all_goals walk_at "ev"
    · rfl
    · nofun

-- Pr7
theorem asg2 {c : Cx} {F : Fm} {n : Nat} {σ : St} {N : List (Str × NameKind)} {x y : Str} {p1 p2 p : Pos} {k : Nat} {v1 v2 : V} (hF : FrS F N) (hx : N.lookup x = some .local) (hy : N.lookup y = some .local) :
    Asg c F n (.Tuple [.Name x p1, .Name y p2] k p) (.tup [v1, v2]) σ ⟨(y, v2) :: (x, v1) :: σ.loc, σ.mu⟩ :=
  Asg.tuple (AsgL.cons (Asg.nloc hF hx) (AsgL.cons (Asg.nloc hF hy) AsgL.nil rfl) rfl) rfl rfl

theorem low_nought (B M : Nat) : low B M 0 = List.replicate M 0 :=
  (mix_low (f := fun _ => 0) (g := fun _ => 0) (s := 0) (fun p _ => by simp)).symm.trans (mix_zero (fun p _ => by simp)).symm
theorem sp_mul_school {c : Cx} (W : Fa c) {n k A C : Nat} (hk : 0 < k) (hk12 : k ≤ 12) (hA : nd k A ≤ 1000) (hC : nd k C ≤ 1000) :
    Sp c (n + 2) "mul_school" [LV k A, LV k C, .int k] [] (LV k (A * C)) [] := by
  have hB := W.b
  have hp : 0 < 2 ^ k := Nat.two_pow_pos k
  have hp12 := pow12 hk12
  have hCl := lt_nd (N := C) hk
  refine Sp.intro 33 ["a", "b", "w"] (v := LV k (A * C)) (σ' := ⟨[], [nats (low (2 ^ k) (nd k A + nd k C) (A * C))]⟩) [("a", .local), ("b", .local), ("w", .local), ("found", .local), ("mask", .local), ("at", .local), ("limb", .local), ("carry", .local), ("spot", .local), ("other", .local), ("len", .globalImplicit), ("enumerate", .globalImplicit), ("normal", .globalImplicit)] W (by decide) rfl rfl (by decide) rfl (by decide) (by decide)
    (fun _ _ _ _ _ => bA3 rfl fun _ _ _ => rfl) ⟨rfl, rfl, rfl⟩ (fun F hF _ => ?_)
    (Fz.refl (LV_bel _ _ _)) rfl rfl nofun
  apply Exs.cons
  · walk_at "st"
  refine Exs.at (τ := ⟨[("a", LV k A), ("b", LV k C), ("w", .int k), ("found", .mu 0), ("mask", .int (2 ^ k - 1))], [nats (low (2 ^ k) (nd k A + nd k C) (A % (2 ^ k) ^ 0 * C))]⟩) ?_ ?_ ?_
  · rw [Nat.pow_zero, Nat.mod_one, Nat.zero_mul, low_nought, nats_length, nats_length, dig_length, dig_length]
    simp [nats]
  · walk_at "lk"
  apply Exs.cons
  · refine Ex.forN (fun i => ⟨[("a", LV k A), ("b", LV k C), ("w", .int k), ("found", .mu 0), ("mask", .int (2 ^ k - 1))], [nats (low (2 ^ k) (nd k A + nd k C) (A % (2 ^ k) ^ i * C))]⟩)
      (fun i => ⟨[("limb", .int (dgt k A i : Nat)), ("at", .int (i : Int)), ("a", LV k A), ("b", LV k C), ("w", .int k), ("found", .mu 0), ("mask", .int (2 ^ k - 1))], [nats (low (2 ^ k) (nd k A + nd k C) (A % (2 ^ k) ^ i * C))]⟩) hF (k := nd k A) (X := fun i => .tup [.int (i : Int), .int (dgt k A i : Nat)]) ?_ (fun i hi F' hF' _ _ => ⟨?_, ?_⟩) ?_
    · apply Mk.enumC hF hB (xs := nats (dig k A)) (X := fun i => .int (dgt k A i : Nat))
      · rfl
      · walk_at "ev"
      · exact fun _ _ => rfl
      · rw [nats_length, dig_length]
      · exact fun i hi => nats_get (dig_get hi)
      · walk_at "ev"
    · exact asg2 hF' rfl rfl
    · apply Exs.cons
      · walk_at "st"
      rw [← mL_zero]
      refine Exs.at (τ := ⟨[("carry", .int (mC (2 ^ k) A C i 0 : Nat)), ("limb", .int (dgt k A i : Nat)), ("at", .int (i : Int)), ("a", LV k A), ("b", LV k C), ("w", .int k), ("found", .mu 0), ("mask", .int (2 ^ k - 1))], [nats (mL (2 ^ k) A C i 0 (nd k A + nd k C))]⟩) rfl ?_ ?_
      · walk_at "lk"
        rw [mC_zero]; rfl
      apply Exs.cons
      · refine Ex.forN (fun j => ⟨[("carry", .int (mC (2 ^ k) A C i j : Nat)), ("limb", .int (dgt k A i : Nat)), ("at", .int (i : Int)), ("a", LV k A), ("b", LV k C), ("w", .int k), ("found", .mu 0), ("mask", .int (2 ^ k - 1))], [nats (mL (2 ^ k) A C i j (nd k A + nd k C))]⟩)
          (fun j => ⟨[("other", .int (dgt k C j : Nat)), ("spot", .int (j : Int)), ("carry", .int (mC (2 ^ k) A C i j : Nat)), ("limb", .int (dgt k A i : Nat)), ("at", .int (i : Int)), ("a", LV k A), ("b", LV k C), ("w", .int k), ("found", .mu 0), ("mask", .int (2 ^ k - 1))], [nats (mL (2 ^ k) A C i j (nd k A + nd k C))]⟩) hF' (k := nd k C) (X := fun i => .tup [.int (i : Int), .int (dgt k C i : Nat)]) ?_ (fun j hj F' hF' _ _ => ⟨?_, ?_⟩) ?_
        · apply Mk.enumC hF' hB (xs := nats (dig k C)) (X := fun i => .int (dgt k C i : Nat))
          · rfl
          · walk_at "ev"
          · exact fun _ _ => rfl
          · rw [nats_length, dig_length]
          · exact fun i hi => nats_get (dig_get hi)
          · walk_at "ev"
        · exact asg2 hF' rfl rfl
        · obtain ⟨s1, s2⟩ := m_step (B := 2 ^ k) (A := A) (C := C) (i := i) (j := j) (M := nd k A + nd k C) hp (by omega)
          have hl := dgt_lt k A i
          have hg : (nats (mL (2 ^ k) A C i j (nd k A + nd k C)))[((i + j : Nat) : Int).toNat]? = some (.int ((A % (2 ^ k) ^ i * C / (2 ^ k) ^ (i + j) % 2 ^ k : Nat) : Int)) := nats_get (mL_get (by omega))
          apply Exs.cons
          · walk_at "st"
          apply Exs.cons
          · apply Ex.setItem
            all_goals walk_at "ev"
            show _ < (((nats _).length : Nat) : Int)
            rw [nats_length]; unfold mL; rw [mix_length]; omega
          apply Exs.cons
          · walk_at "st"
          refine Exs.fin ?_ ?_
          · show [(nats _).set (i + j) (V.int _)] = _
            rw [← nats_set]
            exact congrArg (fun x => [nats x]) s1
          · walk_at "lk"
            exact congrArg Nat.cast s2
        · walk_at "ev"
      have ml := m_last (A := A) (i := i) (M := nd k A + nd k C) hp hCl (by omega)
      apply Exs.cons
      · apply Ex.setItem
        all_goals walk_at "ev"
        show _ < (((nats _).length : Nat) : Int)
        rw [nats_length, nats_length, dig_length]; unfold mL; rw [mix_length]; omega
      refine Exs.fin ?_ ?_
      · show [(nats _).set (i + (nats (dig k C)).length) (V.int _)] = _
        rw [nats_length, dig_length, ← nats_set]
        exact congrArg (fun x => [nats x]) ml
      · walk_at "lk"
    · walk_at "ev"
  rw [Nat.mod_eq_of_lt (lt_nd (N := A) hk)]
  apply Exs.cut
  · apply Exs.ret
    apply Ex.ret
    apply Ev.sp hF rfl (sp_normal (n := n) W hk (N := A * C) (m := nd k A + nd k C) (nd_le_of hk (by rw [Nat.pow_add]; exact Nat.mul_lt_mul'' (lt_nd hk) hCl)) (by omega))
    all_goals walk_at "ev"
  · rfl
  · nofun

-- Pr8
abbrev SV (k : Nat) (z : Int) : V := .tup [.bool (decide (z < 0)), LV k z.natAbs]
theorem SV_bel (n k : Nat) (z : Int) : V.bel n (SV k z) = true := by simp only [V.bel, V.bels, nats_bel, Bool.and_self]
def sg (b : Bool) (N : Nat) : Int := if b = true then -(N : Int) else N
theorem sg_abs (b : Bool) (N : Nat) : (sg b N).natAbs = N := by unfold sg; split <;> omega
theorem sg_neg (b : Bool) (N : Nat) : decide (sg b N < 0) = (b && decide (0 < N)) := by
  unfold sg
  cases b with
  | false => simp
  | true => simp
theorem nd_sm {k N : Nat} (hk : 0 < k) (h : N < 2 ^ 60) : nd k N ≤ 1000 := by
  refine nd_le_of hk (Nat.lt_of_lt_of_le h ?_)
  rw [← Nat.pow_mul]
  exact Nat.pow_le_pow_right (by decide) (by have := Nat.mul_le_mul_right 1000 hk; omega)

theorem sp_signed {c : Cx} (W : Fa c) {n k N : Nat} {b : Bool} (hk : 0 < k) (hN : N < 2 ^ 60) : Sp c (n + 1) "signed" [.bool b, LV k N] [] (SV k (sg b N)) [] := by
  have hB := W.b
  have hn := nd_sm hk hN
  refine Sp.intro 14 ["is_below", "nat"] (v := SV k (sg b N)) (σ' := ⟨[], []⟩) [("is_below", .local), ("nat", .local), ("len", .globalImplicit)] W (by decide) rfl rfl (by decide) rfl (by decide) (by decide)
    (fun _ _ _ _ _ => bA2 rfl fun _ _ => rfl) ⟨rfl, rfl, rfl⟩ (fun F hF _ => ?_)
    (Fz.refl (SV_bel _ _ _)) rfl rfl nofun
  apply Exs.cut
  · apply Exs.ret
    apply Ex.ret
    apply Ev.is
    · walk_at "ev"
    · show V.tup [V.bool _, _] = V.tup [V.bool _, LV k (sg b N).natAbs]
      rw [sg_abs, sg_neg, nats_length, dig_length]
      have : decide ((0 : Int) < ((nd k N : Nat) : Int)) = decide (0 < N) := by
        by_cases h0 : N = 0
        · subst h0; rfl
        · have := nd_pos (k := k) h0
          rw [decide_eq_true (by omega), decide_eq_true (by omega)]
      rw [this]
  · rfl
  · nofun

theorem sp_s_of {c : Cx} (W : Fa c) {n k : Nat} {z : Int} (hk : 0 < k) (hk12 : k ≤ 12) (hN : z.natAbs < 2 ^ 60) : Sp c (n + 2) "s_of" [.int z, .int k] [] (SV k z) [] := by
  have hB := W.b
  have hn := nd_sm hk hN
  refine Sp.intro 15 ["number", "w"] (v := SV k z) (σ' := ⟨[], []⟩) [("number", .local), ("w", .local), ("nat_of", .globalImplicit), ("abs", .globalImplicit)] W (by decide) rfl rfl (by decide) rfl (by decide) (by decide)
    (fun _ _ _ _ _ => bA2 rfl fun _ _ => rfl) ⟨rfl, rfl, rfl⟩ (fun F hF _ => ?_)
    (Fz.refl (SV_bel _ _ _)) rfl rfl nofun
  apply Exs.cut
  · apply Exs.ret
    apply Ex.ret
    apply Ev.tuple
    · apply Evs.cons
      · walk_at "ev"
      · apply Evs.cons
        · apply Ev.spP hF rfl (sp_nat_of (n := n) W hk hk12 (N := z.natAbs) (by omega))
          all_goals walk_at "ev"
        all_goals walk_at "ev"
      · walk_at "ev"
    · walk_at "ev"
  · rfl
  · nofun

theorem sp_s_neg {c : Cx} (W : Fa c) {n k : Nat} {z : Int} (hk : 0 < k) (hN : z.natAbs < 2 ^ 60) : Sp c (n + 2) "s_neg" [SV k z] [] (SV k (-z)) [] := by
  have hB := W.b
  refine Sp.intro 16 ["x"] (v := SV k (-z)) (σ' := ⟨[], []⟩) [("x", .local), ("signed", .globalImplicit)] W (by decide) rfl rfl (by decide) rfl (by decide) (by decide)
    (fun _ _ _ _ _ => bA1 rfl fun _ => rfl) ⟨rfl, rfl, rfl⟩ (fun F hF _ => ?_)
    (Fz.refl (SV_bel _ _ _)) rfl rfl nofun
  apply Exs.cut
  · apply Exs.ret
    apply Ex.ret
    apply Ev.is
    · apply Ev.spP hF rfl (sp_signed (n := n) W (b := !decide (z < 0)) (N := z.natAbs) hk hN)
      all_goals walk_at "ev"
    · have : sg (!decide (z < 0)) z.natAbs = -z := by
        unfold sg; by_cases h : z < 0
        · simp [h]; omega
        · simp [h]; omega
      rw [this]
  · rfl
  · nofun

theorem sp_s_sign {c : Cx} (W : Fa c) {n k : Nat} {z : Int} (hk : 0 < k) (hN : z.natAbs < 2 ^ 60) : Sp c (n + 1) "s_sign" [SV k z] [] (.int z.sign) [] := by
  have hB := W.b
  have hn := nd_sm hk hN
  refine Sp.intro 17 ["x"] (v := .int z.sign) (σ' := ⟨[], []⟩) [("x", .local), ("len", .globalImplicit)] W (by decide) rfl rfl (by decide) rfl (by decide) (by decide)
    (fun _ _ _ _ _ => bA1 rfl fun _ => rfl) ⟨rfl, rfl, rfl⟩ (fun F hF _ => ?_)
    (.int _) rfl rfl nofun
  by_cases h0 : z = 0
  · apply Exs.cut
    · apply Exs.ret
      apply Ex.ifT
      · apply Tst.is
        · walk_at "ev"
        · subst h0; rfl
      · apply Exs.ret
        apply Ex.ret
        apply Ev.is
        · walk_at "ev"
        · subst h0; rfl
    · rfl
    · nofun
  · apply Exs.cons
    · apply Ex.ifF
      · apply Tst.is
        · walk_at "ev"
        · have := nd_pos (k := k) (N := z.natAbs) (by omega)
          rw [nats_length, dig_length]
          exact beq_eq_false_iff_ne.mpr (by omega)
      · exact Exs.nil
    apply Exs.cut
    · apply Exs.ret
      apply Ex.ret
      apply Ev.is
      · apply Ev.iteI (b := decide (z < 0))
        · apply Tst.bool
          · walk_at "ev"
          · intro _; rfl
        · walk_at "ev"
        · walk_at "ev"
      · by_cases h : z < 0
        · simp [h, Int.sign_eq_neg_one_of_neg h]
        · simp [h, Int.sign_eq_one_of_pos (show 0 < z by omega)]
    · rfl
    · nofun

-- Pr9
theorem sp_s_add {c : Cx} (W : Fa c) {n k : Nat} {x y : Int} (hk : 0 < k) (hk12 : k ≤ 12) (hx : x.natAbs < 2 ^ 58) (hy : y.natAbs < 2 ^ 58) : Sp c (n + 3) "s_add" [SV k x, SV k y, .int k] [] (SV k (x + y)) [] := by
  have hB := W.b
  have nx : nd k x.natAbs ≤ 1000 := nd_sm hk (by omega)
  have ny : nd k y.natAbs ≤ 1000 := nd_sm hk (by omega)
  refine Sp.intro 18 ["x", "y", "w"] (v := SV k (x + y)) (σ' := ⟨[], []⟩) [("x", .local), ("y", .local), ("w", .local), ("signed", .globalImplicit), ("add", .globalImplicit), ("compare", .globalImplicit), ("sub", .globalImplicit)] W (by decide) rfl rfl (by decide) rfl (by decide) (by decide)
    (fun _ _ _ _ _ => bA3 rfl fun _ _ _ => rfl) ⟨rfl, rfl, rfl⟩ (fun F hF _ => ?_)
    (Fz.refl (SV_bel _ _ _)) rfl rfl nofun
  by_cases hs : decide (x < 0) = decide (y < 0)
  · apply Exs.cut
    · apply Exs.ret
      apply Ex.ifT
      · apply Tst.is
        · walk_at "ev"
        · rw [hs]; simp
      · apply Exs.ret
        apply Ex.ret
        apply Ev.is
        · apply Ev.spP hF rfl (sp_signed (n := n + 1) W (b := decide (x < 0)) (N := x.natAbs + y.natAbs) hk (by omega))
          · apply Evs.cons
            · walk_at "ev"
            · apply Evs.cons
              · apply Ev.spP hF rfl (sp_add (n := n + 1) (A := x.natAbs) (C := y.natAbs) W hk hk12 nx ny)
                all_goals walk_at "ev"
              all_goals walk_at "ev"
            · walk_at "ev"
          all_goals walk_at "ev"
        · have : sg (decide (x < 0)) (x.natAbs + y.natAbs) = x + y := by
            unfold sg
            by_cases h : x < 0
            · have : y < 0 := by simpa [h] using hs.symm
              simp only [h, decide_true, if_true]; omega
            · have : ¬ y < 0 := by simpa [h] using hs.symm
              simp only [h, decide_false]; rw [if_neg (by decide)]; omega
          rw [this]
    · rfl
    · nofun
  · apply Exs.cons
    · apply Ex.ifF
      · apply Tst.is
        · walk_at "ev"
        · exact beq_eq_false_iff_ne.mpr hs
      · exact Exs.nil
    by_cases hlt : x.natAbs < y.natAbs
    · apply Exs.cut
      · apply Exs.ret
        apply Ex.ifT
        · apply Tst.is
          · apply Tst.cmpV
            · apply Ev.spP hF rfl (sp_compare (n := n + 1) (A := x.natAbs) (C := y.natAbs) W hk nx ny)
              all_goals walk_at "ev"
            all_goals walk_at "ev"
          · unfold cmpN; rw [if_pos hlt]; rfl
        · apply Exs.ret
          apply Ex.ret
          apply Ev.is
          · apply Ev.spP hF rfl (sp_signed (n := n + 1) W (b := decide (y < 0)) (N := y.natAbs - x.natAbs) hk (by omega))
            · apply Evs.cons
              · walk_at "ev"
              · apply Evs.cons
                · apply Ev.spP hF rfl (sp_sub (n := n) (A := y.natAbs) (C := x.natAbs) W hk hk12 ny (by omega))
                  all_goals walk_at "ev"
                all_goals walk_at "ev"
              · walk_at "ev"
            all_goals walk_at "ev"
          · have : sg (decide (y < 0)) (y.natAbs - x.natAbs) = x + y := by
              unfold sg
              by_cases h : y < 0
              · have : ¬ x < 0 := fun h2 => hs (by simp [h, h2])
                simp only [h, decide_true, if_true]; omega
              · have : x < 0 := Int.not_le.mp fun h2 => hs (by rw [decide_eq_false (by omega), decide_eq_false (by omega)])
                simp only [h, decide_false]; rw [if_neg (by decide)]; omega
            rw [this]
      · rfl
      · nofun
    · apply Exs.cons
      · apply Ex.ifF
        · apply Tst.is
          · apply Tst.cmpV
            · apply Ev.spP hF rfl (sp_compare (n := n + 1) (A := x.natAbs) (C := y.natAbs) W hk nx ny)
              all_goals walk_at "ev"
            all_goals walk_at "ev"
          · unfold cmpN; rw [if_neg hlt]; split <;> rfl
        · exact Exs.nil
      apply Exs.cut
      · apply Exs.ret
        apply Ex.ret
        apply Ev.is
        · apply Ev.spP hF rfl (sp_signed (n := n + 1) W (b := decide (x < 0)) (N := x.natAbs - y.natAbs) hk (by omega))
          · apply Evs.cons
            · walk_at "ev"
            · apply Evs.cons
              · apply Ev.spP hF rfl (sp_sub (n := n) (A := x.natAbs) (C := y.natAbs) W hk hk12 nx (by omega))
                all_goals walk_at "ev"
              all_goals walk_at "ev"
            · walk_at "ev"
          all_goals walk_at "ev"
        · have : sg (decide (x < 0)) (x.natAbs - y.natAbs) = x + y := by
            unfold sg
            by_cases h : x < 0
            · have : ¬ y < 0 := fun h2 => hs (by simp [h, h2])
              simp only [h, decide_true, if_true]; omega
            · have : y < 0 := Int.not_le.mp fun h2 => hs (by rw [decide_eq_false (by omega), decide_eq_false (by omega)])
              simp only [h, decide_false]; rw [if_neg (by decide)]; omega
          rw [this]
      · rfl
      · nofun

theorem sp_s_sub {c : Cx} (W : Fa c) {n k : Nat} {x y : Int} (hk : 0 < k) (hk12 : k ≤ 12) (hx : x.natAbs < 2 ^ 58) (hy : y.natAbs < 2 ^ 58) : Sp c (n + 4) "s_sub" [SV k x, SV k y, .int k] [] (SV k (x - y)) [] := by
  have hB := W.b
  refine Sp.intro 19 ["x", "y", "w"] (v := SV k (x - y)) (σ' := ⟨[], []⟩) [("x", .local), ("y", .local), ("w", .local), ("s_add", .globalImplicit), ("s_neg", .globalImplicit)] W (by decide) rfl rfl (by decide) rfl (by decide) (by decide)
    (fun _ _ _ _ _ => bA3 rfl fun _ _ _ => rfl) ⟨rfl, rfl, rfl⟩ (fun F hF _ => ?_)
    (Fz.refl (SV_bel _ _ _)) rfl rfl nofun
  apply Exs.cut
  · apply Exs.ret
    apply Ex.ret
    apply Ev.is
    · apply Ev.spP hF rfl (sp_s_add (n := n) W (x := x) (y := -y) hk hk12 hx (by omega))
      · apply Evs.cons
        · walk_at "ev"
        · apply Evs.cons
          · apply Ev.spP hF rfl (sp_s_neg (n := n + 1) W (z := y) hk (by omega))
            all_goals walk_at "ev"
          all_goals walk_at "ev"
        · walk_at "ev"
      all_goals walk_at "ev"
    · rw [Int.sub_eq_add_neg]
  · rfl
  · nofun

/-- what the texts hand on as a function: the schoolbook product -/
def MulF (c : Cx) (k : Nat) (f : Addr) : Prop := ∀ n A C : Nat, A < 2 ^ 60 → C < 2 ^ 60 → CallP c (n + 2) f [LV k A, LV k C, .int k] (LV k (A * C))
def DivF (c : Cx) (k : Nat) (f : Addr) : Prop := ∀ n A d : Nat, A < 2 ^ 60 → 0 < d → d < 2 ^ k → CallP c (n + 4) f [LV k A, LV k d, .int k] (.tup [LV k (A / d), LV k (A % d)])

theorem sp_s_mul {c : Cx} (W : Fa c) {n k : Nat} {x y : Int} {f : Addr} (hk : 0 < k) (hf : MulF c k f) (hx : x.natAbs < 2 ^ 29) (hy : y.natAbs < 2 ^ 29) : Sp c (n + 3) "s_mul" [SV k x, SV k y, .int k, .raw (.ref f)] [] (SV k (x * y)) [] := by
  have hB := W.b
  have hm : x.natAbs * y.natAbs < 2 ^ 58 := Nat.lt_of_lt_of_le (Nat.mul_lt_mul'' hx hy) (by decide)
  refine Sp.intro 20 ["x", "y", "w", "mul"] (v := SV k (x * y)) (σ' := ⟨[], []⟩) [("x", .local), ("y", .local), ("w", .local), ("mul", .local), ("signed", .globalImplicit)] W (by decide) rfl rfl (by decide) rfl (by decide) (by decide)
    (fun _ _ _ _ _ => bA4 rfl fun _ _ _ _ => rfl) ⟨rfl, rfl, rfl⟩ (fun F hF _ => ?_)
    (Fz.refl (SV_bel _ _ _)) rfl rfl nofun
  apply Exs.cut
  · apply Exs.ret
    apply Ex.ret
    apply Ev.is
    · apply Ev.spP hF rfl (sp_signed (n := n + 1) W (b := decide (x < 0) != decide (y < 0)) (N := x.natAbs * y.natAbs) hk (by omega))
      · apply Evs.cons
        · walk_at "ev"
        · apply Evs.cons
          · apply Ev.fnP (f := f) hF rfl rfl (hf n x.natAbs y.natAbs (by omega) (by omega))
            all_goals walk_at "ev"
          all_goals walk_at "ev"
        · walk_at "ev"
      all_goals walk_at "ev"
    · have : sg (decide (x < 0) != decide (y < 0)) (x.natAbs * y.natAbs) = x * y := by
        unfold sg
        rw [Int.natCast_mul]
        by_cases h : x < 0 <;> by_cases g : y < 0
        · rw [decide_eq_true h, decide_eq_true g, if_neg (by decide), show ((x.natAbs : Nat) : Int) = -x by omega, show ((y.natAbs : Nat) : Int) = -y by omega, Int.neg_mul_neg]
        · rw [decide_eq_true h, decide_eq_false g, if_pos (by decide), show ((x.natAbs : Nat) : Int) = -x by omega, show ((y.natAbs : Nat) : Int) = y by omega, Int.neg_mul, Int.neg_neg]
        · rw [decide_eq_false h, decide_eq_true g, if_pos (by decide), show ((x.natAbs : Nat) : Int) = x by omega, show ((y.natAbs : Nat) : Int) = -y by omega, Int.mul_neg, Int.neg_neg]
        · rw [decide_eq_false h, decide_eq_false g, if_neg (by decide), show ((x.natAbs : Nat) : Int) = x by omega, show ((y.natAbs : Nat) : Int) = y by omega]
      rw [this]
  · rfl
  · nofun

theorem sp_tdiv {c : Cx} (W : Fa c) {n k : Nat} {x y : Int} {f : Addr} (hk : 0 < k) (hf : DivF c k f) (hx : x.natAbs < 2 ^ 60) (hy0 : y ≠ 0) (hy : y.natAbs < 2 ^ k) :
    Sp c (n + 5) "tdiv" [SV k x, SV k y, .int k, .raw (.ref f)] [] (.tup [SV k (x.tdiv y), SV k (sg (decide (x < 0)) (x.natAbs % y.natAbs))]) [] := by
  have hB := W.b
  have h1 : x.natAbs / y.natAbs < 2 ^ 60 := Nat.lt_of_le_of_lt (Nat.div_le_self _ _) hx
  have h2 : x.natAbs % y.natAbs < 2 ^ 60 := Nat.lt_of_le_of_lt (Nat.mod_le _ _) hx
  refine Sp.intro 21 ["x", "y", "w", "divrem"] (v := .tup [SV k (x.tdiv y), SV k (sg (decide (x < 0)) (x.natAbs % y.natAbs))]) (σ' := ⟨[], []⟩) [("x", .local), ("y", .local), ("w", .local), ("divrem", .local), ("quotient", .local), ("rest", .local), ("len", .globalImplicit), ("DivisionByZero", .globalImplicit), ("signed", .globalImplicit)] W (by decide) rfl rfl (by decide) rfl (by decide) (by decide)
    (fun _ _ _ _ _ => bA4 rfl fun _ _ _ _ => rfl) ⟨rfl, rfl, rfl⟩ (fun F hF _ => ?_)
    (Fz.refl (by simp only [V.bel, V.bels, nats_bel, Bool.and_self])) rfl rfl nofun
  have hq : sg (decide (x < 0) != decide (y < 0)) (x.natAbs / y.natAbs) = x.tdiv y := by
    unfold sg
    have e : ∀ a b : Nat, ((a : Int).tdiv (b : Int)) = ((a / b : Nat) : Int) := fun a b => (Int.ofNat_tdiv a b).symm
    by_cases h : x < 0 <;> by_cases g : y < 0
    · rw [decide_eq_true h, decide_eq_true g, if_neg (by decide), ← e, show ((x.natAbs : Nat) : Int) = -x by omega, show ((y.natAbs : Nat) : Int) = -y by omega, Int.neg_tdiv_neg]
    · rw [decide_eq_true h, decide_eq_false g, if_pos (by decide), ← e, show ((x.natAbs : Nat) : Int) = -x by omega, show ((y.natAbs : Nat) : Int) = y by omega, Int.neg_tdiv, Int.neg_neg]
    · rw [decide_eq_false h, decide_eq_true g, if_pos (by decide), ← e, show ((x.natAbs : Nat) : Int) = x by omega, show ((y.natAbs : Nat) : Int) = -y by omega, Int.tdiv_neg, Int.neg_neg]
    · rw [decide_eq_false h, decide_eq_false g, if_neg (by decide), ← e, show ((x.natAbs : Nat) : Int) = x by omega, show ((y.natAbs : Nat) : Int) = y by omega]
  rw [← hq]
  have nx : nd k x.natAbs ≤ 1000 := nd_sm hk (by omega)
  have hy1 := nd_pos (k := k) (N := y.natAbs) (by omega)
  have hy2 : nd k y.natAbs ≤ 1 := nd_le_of hk (by simpa using hy)
  apply Exs.cons
  · apply Ex.ifF
    · apply Tst.is
      · walk_at "ev"
      · rw [nats_length, dig_length]; exact beq_eq_false_iff_ne.mpr (by omega)
    · exact Exs.nil
  apply Exs.cons
  · apply Ex.assignT
    · apply Ev.fnP (f := f) hF rfl rfl (hf n x.natAbs y.natAbs (by omega) (by omega) hy)
      all_goals walk_at "ev"
    · exact asg2 hF rfl rfl
    · rfl
    · rfl
  apply Exs.cut
  · apply Exs.ret
    apply Ex.ret
    apply Ev.tuple
    · apply Evs.cons
      · apply Ev.spP hF rfl (sp_signed (n := n + 3) W (b := decide (x < 0) != decide (y < 0)) (N := x.natAbs / y.natAbs) hk h1)
        all_goals walk_at "ev"
      · apply Evs.cons
        · apply Ev.spP hF rfl (sp_signed (n := n + 3) W (b := decide (x < 0)) (N := x.natAbs % y.natAbs) hk h2)
          all_goals walk_at "ev"
        all_goals walk_at "ev"
      · walk_at "ev"
    · walk_at "ev"
  · rfl
  · nofun

theorem sp_exact {c : Cx} (W : Fa c) {n k : Nat} {x y : Int} {f : Addr} (hk : 0 < k) (hf : DivF c k f) (hx : x.natAbs < 2 ^ 60) (hy0 : y ≠ 0) (hy : y.natAbs < 2 ^ k) :
    Sp c (n + 6) "exact" [SV k x, SV k y, .int k, .raw (.ref f)] [] (SV k (x.tdiv y)) [] := by
  have hB := W.b
  refine Sp.intro 27 ["x", "y", "w", "divrem"] (v := SV k (x.tdiv y)) (σ' := ⟨[], []⟩) [("x", .local), ("y", .local), ("w", .local), ("divrem", .local), ("found", .local), ("rest", .local), ("tdiv", .globalImplicit)] W (by decide) rfl rfl (by decide) rfl (by decide) (by decide)
    (fun _ _ _ _ _ => bA4 rfl fun _ _ _ _ => rfl) ⟨rfl, rfl, rfl⟩ (fun F hF _ => ?_)
    (Fz.refl (SV_bel _ _ _)) rfl rfl nofun
  apply Exs.cons
  · apply Ex.assignT
    · apply Ev.spP hF rfl (sp_tdiv (n := n) (x := x) (y := y) W hk hf hx hy0 hy)
      all_goals walk_at "ev"
    · exact asg2 hF rfl rfl
    · rfl
    · rfl
  apply Exs.cut
  · apply Exs.ret
    apply Ex.ret
    walk_at "ev"
  · rfl
  · nofun

-- Pr10
theorem IntOp.modP {a k : Nat} : IntOp .Mod (a : Int) (2 ^ k) ((a % 2 ^ k : Nat) : Int) := by
  have := IntOp.mod (a := (a : Int)) (b := 2 ^ k) (Int.pow_pos (by decide))
  simpa using this
theorem IntOp.divP {a k : Nat} (hk : k ≤ 12) : IntOp .FloorDiv (a : Int) (2 ^ k) ((a / 2 ^ k : Nat) : Int) := by
  have h := pow12 hk
  have := IntOp.div (a := (a : Int)) (b := 2 ^ k) (Int.pow_pos (by decide)) (by rw [Int.natAbs_pow]; show 2 ^ k < _; omega)
  simpa using this
theorem IntOp.modN {a b : Nat} (hb : 0 < b) : IntOp .Mod (a : Int) (b : Int) ((a % b : Nat) : Int) := by
  have := IntOp.mod (a := (a : Int)) (b := (b : Int)) (by omega)
  simpa using this
theorem take_cons {α : Type} {x : α} {l : List α} : (x :: l).take [x].length = [x] := rfl

theorem sp_law_limbs {c : Cx} (W : Fa c) {n k N : Nat} (hk : 0 < k) (hk12 : k ≤ 12) (hn : nd k N ≤ 1000) :
    Sp c (n + 1) "_law_limbs" [.int N, .int k] [] (LV k N) [] := by
  have hB := W.b
  refine Sp.intro 42 ["number", "w"] (v := .mu 0) (σ' := ⟨[], [nats (dig k N)]⟩) [("number", .local), ("w", .local), ("found", .local)] W (by decide) rfl rfl (by decide) rfl (by decide) (by decide)
    (fun _ _ _ _ _ => bA2 rfl fun _ _ => rfl) ⟨rfl, rfl, rfl⟩ (fun F hF _ => ?_)
    (.mu (by decide) rfl (Fzs.refl (nats_bel _ _))) rfl rfl nofun
  apply Exs.cons
  · walk_at "st"
  refine Exs.at (τ := ⟨[("number", .int ((N / (2 ^ k) ^ 0 : Nat) : Int)), ("w", .int k), ("found", .mu 0)], [nats (low (2 ^ k) 0 N)]⟩) rfl ?_ ?_
  · walk_at "lk"
    simp
  apply Exs.cons
  · refine Ex.whileS (fun i => ⟨[("number", .int ((N / (2 ^ k) ^ i : Nat) : Int)), ("w", .int k), ("found", .mu 0)], [nats (low (2 ^ k) i N)]⟩) (nd k N) (fun i hi => ⟨?_, ?_⟩) ?_
    · apply Tst.is
      · walk_at "ev"
      · have := Nat.pos_of_ne_zero (low_ne hk hi)
        simp only [decide_eq_true_eq]; omega
    · apply Exs.cons
      · apply Ex.nappend hF
        · walk_at "ev"
        · apply Ev.binop
          · walk_at "ev"
          · walk_at "ev"
          · exact IntOp.modP
        · exact ⟨_, rfl⟩
        all_goals walk_at "ev"
      apply Exs.cons
      · apply Ex.nassign hF
        · apply Ev.binop
          · walk_at "ev"
          · walk_at "ev"
          · exact IntOp.divP hk12
        all_goals walk_at "ev"
      refine Exs.fin ?_ ?_
      · simp [low_succ, nats_append]; rfl
      · walk_at "lk"
        rw [step_div]
    · apply Tst.is
      · walk_at "ev"
      · rw [high_zero hk (Nat.le_refl _)]; rfl
  apply Exs.cut
  · apply Exs.ret
    walk_at "st"
  · rfl
  · nofun

theorem sp_law_signed {c : Cx} (W : Fa c) {n k : Nat} {z : Int} (hk : 0 < k) (hk12 : k ≤ 12) (hN : z.natAbs < 2 ^ 60) : Sp c (n + 2) "_law_signed" [.int z, .int k] [] (SV k z) [] := by
  have hB := W.b
  have hn := nd_sm hk hN
  refine Sp.intro 43 ["number", "w"] (v := SV k z) (σ' := ⟨[], []⟩) [("number", .local), ("w", .local), ("_law_limbs", .globalImplicit), ("abs", .globalImplicit)] W (by decide) rfl rfl (by decide) rfl (by decide) (by decide)
    (fun _ _ _ _ _ => bA2 rfl fun _ _ => rfl) ⟨rfl, rfl, rfl⟩ (fun F hF _ => ?_)
    (Fz.refl (SV_bel _ _ _)) rfl rfl nofun
  apply Exs.cut
  · apply Exs.ret
    apply Ex.ret
    apply Ev.tuple
    · apply Evs.cons
      · walk_at "ev"
      · apply Evs.cons
        · apply Ev.spP hF rfl (sp_law_limbs (n := n) W hk hk12 (N := z.natAbs) hn)
          all_goals walk_at "ev"
        all_goals walk_at "ev"
      · walk_at "ev"
    · walk_at "ev"
  · rfl
  · nofun

/-- the yard: the place, and the poles -/
def yd (p : Nat) (ps : List Nat) : List V := [.int (p : Int), .lst (nats ps)]
def nxt (ps : List Nat) (p many : Nat) : Nat := if p + 1 ≤ ps.length then ps.getD p 0 % many else (3 * (p + 1) + (p + 1) / 2 + 2) % many
theorem nxt_lt {ps : List Nat} {p many : Nat} (h : 0 < many) : nxt ps p many < many := by unfold nxt; split <;> exact Nat.mod_lt _ h
theorem sp_law_next {c : Cx} (W : Fa c) {n p many : Nat} {ps : List Nat} {rest : List (List V)} (hm : 0 < many) (hp : p < 1000) (hps : ps.length ≤ 1000) (hr : ∀ xs ∈ rest, V.bels (rest.length + 1) xs = true) :
    Sp c (n + 1) "_law_next" [.mu 0, .int many] (yd p ps :: rest) (.int (nxt ps p many : Nat)) (yd (p + 1) ps :: rest) := by
  have hB := W.b
  have fin : ∀ xs ∈ yd (p + 1) ps :: rest, V.bels (yd p ps :: rest).length xs = true := fun xs hx => by
    rcases List.mem_cons.mp hx with rfl | hx
    · simp only [yd, V.bels, V.bel, nats_bel, Bool.and_self]
    · exact hr xs hx
  have tk : (yd (p + 1) ps :: rest).take (yd p ps :: rest).length = yd (p + 1) ps :: rest := List.take_of_length_le (by simp)
  by_cases hlt : p + 1 ≤ ps.length
  · obtain ⟨x, hx⟩ : ∃ x, ps[p]? = some x := ⟨_, List.getElem?_eq_getElem (by omega)⟩
    have hnx : nxt ps p many = x % many := by unfold nxt; rw [if_pos hlt, List.getD_eq_getElem?_getD, hx]; rfl
    rw [hnx]
    refine Sp.intro 41 ["yard", "many"] (v := .int ((x % many : Nat) : Int)) (σ' := ⟨[], yd (p + 1) ps :: rest⟩) [("yard", .local), ("many", .local), ("len", .globalImplicit)] W (by decide) rfl rfl (by decide) rfl (by decide) (by decide)
      (fun _ _ _ _ _ => bA2 rfl fun _ _ => rfl) ⟨rfl, rfl, rfl⟩ (fun F hF _ => ?_)
      (.int _) tk rfl fin
    have hg : (nats ps)[(((p + 1 : Nat) : Int) - 1).toNat]? = some (.int (x : Int)) := by
      rw [show (((p + 1 : Nat) : Int) - 1).toNat = p by omega]; exact nats_get hx
    apply Exs.cons
    · apply Ex.setItem
      all_goals walk_at "ev"
      exact (by decide : (0 : Int) < 2)
    refine Exs.at (τ := ⟨[("yard", .mu 0), ("many", .int many)], yd (p + 1) ps :: rest⟩) ?_ (by walk_at "lk") ?_
    · rfl
    apply Exs.cut
    · apply Exs.ret
      apply Ex.ifT
      · apply Tst.is
        · walk_at "ev"
        · rw [nats_length]; exact decide_eq_true (by omega)
      · apply Exs.ret
        apply Ex.ret
        apply Ev.binop
        · walk_at "ev"
        · walk_at "ev"
        · exact IntOp.modN hm
    · rfl
    · nofun
  · have hnx : nxt ps p many = (3 * (p + 1) + (p + 1) / 2 + 2) % many := by unfold nxt; rw [if_neg hlt]
    rw [hnx]
    refine Sp.intro 41 ["yard", "many"] (v := .int (((3 * (p + 1) + (p + 1) / 2 + 2) % many : Nat) : Int)) (σ' := ⟨[], yd (p + 1) ps :: rest⟩) [("yard", .local), ("many", .local), ("len", .globalImplicit)] W (by decide) rfl rfl (by decide) rfl (by decide) (by decide)
      (fun _ _ _ _ _ => bA2 rfl fun _ _ => rfl) ⟨rfl, rfl, rfl⟩ (fun F hF _ => ?_)
      (.int _) tk rfl fin
    apply Exs.cons
    · apply Ex.setItem
      all_goals walk_at "ev"
      exact (by decide : (0 : Int) < 2)
    refine Exs.at (τ := ⟨[("yard", .mu 0), ("many", .int many)], yd (p + 1) ps :: rest⟩) ?_ (by walk_at "lk") ?_
    · rfl
    apply Exs.cons
    · apply Ex.ifF
      · apply Tst.is
        · walk_at "ev"
        · rw [nats_length]; exact decide_eq_false (by omega)
      · exact Exs.nil
    apply Exs.cut
    · apply Exs.ret
      apply Ex.ret
      apply Ev.binop
      · apply Ev.is (v' := .int ((3 * (p + 1) + (p + 1) / 2 + 2 : Nat) : Int))
        · apply Ev.binop
          · apply Ev.binop
            · apply Ev.binop
              · walk_at "ev"
              · walk_at "ev"
              · exact IntOp.mul (by decide)
            · apply Ev.binop
              · walk_at "ev"
              · walk_at "ev"
              · exact IntOp.div (by decide) (by decide)
            · walk_at "ev"
          · walk_at "ev"
          · walk_at "ev"
        · simp only [V.int.injEq]; omega
      · walk_at "ev"
      · exact IntOp.modN hm
    · rfl
    · nofun

/-- the pairings of a grid held in a list of lists -/
theorem sp_law_pairings {c : Cx} (W : Fa c) {n j r0 r1 r2 r3 : Nat} {mu : List (List V)} {a01 a23 a02 a13 a03 a12 : Int} {x0 x1 x2 x3 : List V}
    (hj : mu[j]? = some [.mu r0, .mu r1, .mu r2, .mu r3]) (h0 : mu[r0]? = some x0) (h1 : mu[r1]? = some x1) (h2 : mu[r2]? = some x2)
    (g01 : x0[1]? = some (.int a01)) (g02 : x0[2]? = some (.int a02)) (g03 : x0[3]? = some (.int a03)) (g12 : x1[2]? = some (.int a12)) (g13 : x1[3]? = some (.int a13)) (g23 : x2[3]? = some (.int a23))
    (b01 : a01.natAbs < 2 ^ 64) (b02 : a02.natAbs < 2 ^ 64) (b03 : a03.natAbs < 2 ^ 64) (hr : ∀ xs ∈ mu, V.bels mu.length xs = true) :
    Sp c (n + 1) "_law_pairings" [.mu j] mu (.int (a01 * a23 - a02 * a13 + a03 * a12)) mu := by
  have hB := W.b
  refine Sp.intro 45 ["grid"] (v := .int (a01 * a23 - a02 * a13 + a03 * a12)) (σ' := ⟨[], mu⟩) [("grid", .local)] W (by decide) rfl rfl (by decide) rfl (by decide) (by decide)
    (fun _ _ _ _ _ => bA1 rfl fun _ => rfl) ⟨rfl, rfl, rfl⟩ (fun F hF _ => ?_)
    (.int _) (List.take_of_length_le (Nat.le_refl _)) rfl hr
  apply Exs.cut
  · apply Exs.ret
    apply Ex.ret
    apply Ev.binop
    · apply Ev.binop
      · apply Ev.binop
        · apply Ev.sub
          · apply Ev.sub
            · walk_at "ev"
            · walk_at "ev"
            · exact hj
            all_goals walk_at "ev"
          · walk_at "ev"
          · exact h0
          · walk_at "ev"
          · walk_at "ev"
          · exact g01
          · walk_at "ev"
        · apply Ev.sub
          · apply Ev.sub
            · walk_at "ev"
            · walk_at "ev"
            · exact hj
            all_goals walk_at "ev"
          · walk_at "ev"
          · exact h2
          · walk_at "ev"
          · walk_at "ev"
          · exact g23
          · walk_at "ev"
        · exact IntOp.mul b01
      · apply Ev.binop
        · apply Ev.sub
          · apply Ev.sub
            · walk_at "ev"
            · walk_at "ev"
            · exact hj
            all_goals walk_at "ev"
          · walk_at "ev"
          · exact h0
          · walk_at "ev"
          · walk_at "ev"
          · exact g02
          · walk_at "ev"
        · apply Ev.sub
          · apply Ev.sub
            · walk_at "ev"
            · walk_at "ev"
            · exact hj
            all_goals walk_at "ev"
          · walk_at "ev"
          · exact h1
          · walk_at "ev"
          · walk_at "ev"
          · exact g13
          · walk_at "ev"
        · exact IntOp.mul b02
      · walk_at "ev"
    · apply Ev.binop
      · apply Ev.sub
        · apply Ev.sub
          · walk_at "ev"
          · walk_at "ev"
          · exact hj
          all_goals walk_at "ev"
        · walk_at "ev"
        · exact h0
        · walk_at "ev"
        · walk_at "ev"
        · exact g03
        · walk_at "ev"
      · apply Ev.sub
        · apply Ev.sub
          · walk_at "ev"
          · walk_at "ev"
          · exact hj
          all_goals walk_at "ev"
        · walk_at "ev"
        · exact h1
        · walk_at "ev"
        · walk_at "ev"
        · exact g12
        · walk_at "ev"
      · exact IntOp.mul b03
    · walk_at "ev"
  · rfl
  · nofun

-- Pr11
def rowL (k s : Nat) (r : Nat → Int) : List V := (List.range s).map fun j => SV k (r j)
abbrev rowV (k s : Nat) (r : Nat → Int) : V := .lst (rowL k s r)
def rowsL (k s t : Nat) (m : Nat → Nat → Int) : List V := (List.range t).map fun i => rowV k s (m i)
abbrev rowsV (k s t : Nat) (m : Nat → Nat → Int) : V := .lst (rowsL k s t m)
section
variable {k s t : Nat} {r : Nat → Int} {m : Nat → Nat → Int}
theorem rowL_length : (rowL k s r).length = s := by simp [rowL]
theorem rowsL_length : (rowsL k s t m).length = t := by simp [rowsL]
theorem rowL_get {j : Nat} (h : j < s) : (rowL k s r)[j]? = some (SV k (r j)) := by simp [rowL, h]
theorem rowsL_get {i : Nat} (h : i < t) : (rowsL k s t m)[i]? = some (rowV k s (m i)) := by simp [rowsL, h]
theorem rowL_getC {j : Nat} (h : j < s) : (rowL k s r)[((j : Nat) : Int).toNat]? = some (SV k (r j)) := rowL_get h
theorem rowsL_getC {i : Nat} (h : i < t) : (rowsL k s t m)[((i : Nat) : Int).toNat]? = some (rowV k s (m i)) := rowsL_get h
theorem rowL_bel (n : Nat) : V.bels n (rowL k s r) = true := belows_of fun x h => by
  obtain ⟨a, _, rfl⟩ := List.mem_map.mp h; exact SV_bel _ _ _
theorem rowV_bel (n : Nat) : V.bel n (rowV k s r) = true := by simp only [V.bel, rowL_bel]
theorem rowsL_bel (n : Nat) : V.bels n (rowsL k s t m) = true := belows_of fun x h => by
  obtain ⟨a, _, rfl⟩ := List.mem_map.mp h; exact rowV_bel _
theorem rowsV_bel (n : Nat) : V.bel n (rowsV k s t m) = true := by simp only [V.bel, rowsL_bel]
theorem rowL_succ : rowL k (s + 1) r = rowL k s r ++ [SV k (r s)] := by simp [rowL, List.range_succ]
theorem rowsL_succ : rowsL k s (t + 1) m = rowsL k s t m ++ [rowV k s (m t)] := by simp [rowsL, List.range_succ]
theorem rowL_ext {r' : Nat → Int} (h : ∀ j, j < s → r j = r' j) : rowL k s r = rowL k s r' := by
  unfold rowL; exact List.map_congr_left fun j hj => by rw [h j (List.mem_range.mp hj)]
theorem rowsL_ext {m' : Nat → Nat → Int} (h : ∀ i, i < t → ∀ j, j < s → m i j = m' i j) : rowsL k s t m = rowsL k s t m' := by
  unfold rowsL; exact List.map_congr_left fun i hi => by rw [rowV, rowL_ext (h i (List.mem_range.mp hi))]
theorem rowsL_set {i : Nat} {m' : Nat → Nat → Int} (hi : i < t) (h : ∀ p, p < t → p ≠ i → ∀ j, j < s → m p j = m' p j) (hr : ∀ j, j < s → r j = m' i j) : (rowsL k s t m).set i (rowV k s r) = rowsL k s t m' := by
  apply List.ext_getElem?
  intro p
  rw [List.getElem?_set]
  by_cases e : i = p
  · subst e
    rw [if_pos rfl, if_pos (by rw [rowsL_length]; exact hi), rowsL_get hi, rowV, rowL_ext hr]
  · rw [if_neg e]
    by_cases hp : p < t
    · rw [rowsL_get hp, rowsL_get hp, rowV, rowL_ext (h p hp (Ne.symm e))]
    · rw [List.getElem?_eq_none (by rw [rowsL_length]; omega), List.getElem?_eq_none (by rw [rowsL_length]; omega)]
end

local macro_rules | `(tactic| walk_at "ev1") => `(tactic| first
  | ((with_reducible show _ ≤ sizeLine); with_reducible apply le_line; simp only [rowsL_length, rowL_length] <;> omega)
  | ((with_reducible show (_ : Int) = _); simp only [rowsL_length, rowL_length] <;> omega))

theorem sp_pivot_row {c : Cx} (W : Fa c) {n k s top col : Nat} {m : Nat → Nat → Int} {rest : List (List V)} {r : Int} (hk : 0 < k) (hs : s ≤ 1000) (ht : top ≤ s) (hc : col < s) (hm : ∀ i, i < s → (m i col).natAbs < 2 ^ 60)
    (hr : (r = -1 ∧ ∀ i, top ≤ i → i < s → m i col = 0) ∨ ∃ p, r = (p : Nat) ∧ top ≤ p ∧ p < s ∧ m p col ≠ 0 ∧ ∀ i, top ≤ i → i < p → m i col = 0) (hre : ∀ xs ∈ rest, V.bels (rest.length + 1) xs = true) :
    Sp c (n + 2) "pivot_row" [.mu 0, .int top, .int col] (rowsL k s s m :: rest) (.int r) (rowsL k s s m :: rest) := by
  have hB := W.b
  refine Sp.intro 28 ["rows", "top", "column"] (v := .int r) (σ' := ⟨[], rowsL k s s m :: rest⟩) [("rows", .local), ("top", .local), ("column", .local), ("at", .local), ("range", .globalImplicit), ("len", .globalImplicit), ("s_sign", .globalImplicit)] W (by decide) rfl rfl (by decide) rfl (by decide) (by decide)
    (fun _ _ _ _ _ => bA3 rfl fun _ _ _ => rfl) ⟨rfl, rfl, rfl⟩ (fun F hF _ => ?_)
    (.int _) (List.take_of_length_le (Nat.le_refl _)) rfl (fun xs h => ?_)
  rotate_left
  · rcases List.mem_cons.mp h with rfl | h
    · exact rowsL_bel _
    · exact hre xs h
  rcases hr with ⟨rfl, h0⟩ | ⟨p, rfl, hp1, hp2, hp3, h0⟩
  · apply Exs.cons
    · refine Ex.forN (fun _ => ⟨[("rows", .mu 0), ("top", .int top), ("column", .int col)], rowsL k s s m :: rest⟩) (fun i => ⟨[("at", .int ((top + i : Nat) : Int)), ("rows", .mu 0), ("top", .int top), ("column", .int col)], rowsL k s s m :: rest⟩) hF (k := s - top) (X := fun i => .int ((top : Int) + (i : Int))) ?_ (fun i hi F' hF' _ _ => ⟨?_, ?_⟩) ?_
      · apply Mk.range2C hF hB
        all_goals walk_at "ev"
      · exact Asg.nloc hF' rfl
      · have g1 : (rowsL k s s m)[((top + i : Nat) : Int).toNat]? = some (rowV k s (m (top + i))) := rowsL_getC (by omega)
        have g2 : (rowL k s (m (top + i)))[((col : Nat) : Int).toNat]? = some (SV k (m (top + i) col)) := rowL_getC hc
        apply Exs.cons
        · apply Ex.ifF
          · apply Tst.is
            · apply Tst.cmpV
              · apply Ev.spP hF' rfl (sp_s_sign (n := n) W (z := m (top + i) col) hk (hm _ (by omega)))
                · walk_at "ev"
                all_goals walk_at "ev"
              all_goals walk_at "ev"
            · rw [h0 (top + i) (by omega) (by omega)]; rfl
          · exact Exs.nil
        · exact Exs.fin rfl (by walk_at "lk")
      · walk_at "ev"
    apply Exs.cut
    · apply Exs.ret
      apply Ex.ret
      walk_at "ev"
    · rfl
    · nofun
  · apply Exs.cut
    · apply Exs.ret
      refine Ex.forRetN (fun _ => ⟨[("rows", .mu 0), ("top", .int top), ("column", .int col)], rowsL k s s m :: rest⟩) (fun i => ⟨[("at", .int ((top + i : Nat) : Int)), ("rows", .mu 0), ("top", .int top), ("column", .int col)], rowsL k s s m :: rest⟩) (p - top) hF (k := s - top) (X := fun i => .int ((top : Int) + (i : Int))) (σ2 := ⟨[("at", .int ((top + (p - top) : Nat) : Int)), ("rows", .mu 0), ("top", .int top), ("column", .int col)], rowsL k s s m :: rest⟩) ?_ (by omega) (fun i hi F' hF' _ _ => ⟨?_, ?_⟩) (fun F' hF' _ _ => ⟨?_, ?_⟩) ?_
      · apply Mk.range2C hF hB
        all_goals walk_at "ev"
      · exact Asg.nloc hF' rfl
      · have g1 : (rowsL k s s m)[((top + i : Nat) : Int).toNat]? = some (rowV k s (m (top + i))) := rowsL_getC (by omega)
        have g2 : (rowL k s (m (top + i)))[((col : Nat) : Int).toNat]? = some (SV k (m (top + i) col)) := rowL_getC hc
        apply Exs.cons
        · apply Ex.ifF
          · apply Tst.is
            · apply Tst.cmpV
              · apply Ev.spP hF' rfl (sp_s_sign (n := n) W (z := m (top + i) col) hk (hm _ (by omega)))
                · walk_at "ev"
                all_goals walk_at "ev"
              all_goals walk_at "ev"
            · rw [h0 (top + i) (by omega) (by omega)]; rfl
          · exact Exs.nil
        · exact Exs.fin rfl (by walk_at "lk")
      · exact Asg.nloc hF' rfl
      · have e : top + (p - top) = p := by omega
        rw [e]
        have g1 : (rowsL k s s m)[((p : Nat) : Int).toNat]? = some (rowV k s (m p)) := rowsL_getC (by omega)
        have g2 : (rowL k s (m p))[((col : Nat) : Int).toNat]? = some (SV k (m p col)) := rowL_getC hc
        apply Exs.ret
        apply Ex.ifT
        · apply Tst.is
          · apply Tst.cmpV
            · apply Ev.spP hF' rfl (sp_s_sign (n := n) W (z := m p col) hk (hm _ (by omega)))
              · walk_at "ev"
              all_goals walk_at "ev"
            all_goals walk_at "ev"
          · exact bne_iff_ne.mpr fun e => hp3 (Int.sign_eq_zero_iff_zero.mp e)
        · apply Exs.ret
          apply Ex.ret
          walk_at "ev"
      · walk_at "ev"
    · rfl
    · nofun

-- Pr12
def clr (r h : Nat → Int) (col : Nat) (bf : Int) (j : Nat) : Int := (r j * h col - r col * h j).tdiv bf
theorem mul28 {a b : Int} (ha : a.natAbs < 2 ^ 28) (hb : b.natAbs < 2 ^ 28) : (a * b).natAbs < 2 ^ 56 := by
  rw [Int.natAbs_mul]
  exact Nat.lt_of_lt_of_le (Nat.mul_lt_mul'' ha hb) (by decide)

theorem sp_cleared {c : Cx} (W : Fa c) {n k s col : Nat} {r h : Nat → Int} {bf : Int} {fm fd : Addr} (hk : 0 < k) (hk12 : k ≤ 12) (hs : s ≤ 1000) (hc : col < s) (hr : ∀ j, j < s → (r j).natAbs < 2 ^ 28) (hh : ∀ j, j < s → (h j).natAbs < 2 ^ 28)
    (hfm : MulF c k fm) (hfd : DivF c k fd) (hb0 : bf ≠ 0) (hb : bf.natAbs < 2 ^ k) :
    Sp c (n + 7) "cleared" [rowV k s r, rowV k s h, .int col, SV k bf, .int k, .raw (.ref fm), .raw (.ref fd)] [] (rowV k s (clr r h col bf)) [] := by
  have hB := W.b
  refine Sp.intro 29 ["row", "head", "column", "before", "w", "mul", "divrem"] (v := .mu 0) (σ' := ⟨[], [rowL k s (clr r h col bf)]⟩) [("row", .local), ("head", .local), ("column", .local), ("before", .local), ("w", .local), ("mul", .local), ("divrem", .local), ("pivot", .local), ("own", .local), ("found", .local), ("at", .local), ("value", .local), ("here", .local), ("enumerate", .globalImplicit), ("s_sub", .globalImplicit), ("s_mul", .globalImplicit), ("exact", .globalImplicit)] W (by decide) rfl rfl (by decide) rfl (by decide) (by decide)
    (fun _ _ _ _ _ => bA7 rfl fun _ _ _ _ _ _ _ => rfl) ⟨rfl, rfl, rfl⟩ (fun F hF _ => ?_)
    (.mu (by decide) rfl (Fzs.refl (rowL_bel _))) rfl rfl nofun
  have g1 : (rowL k s h)[((col : Nat) : Int).toNat]? = some (SV k (h col)) := rowL_getC hc
  have g2 : (rowL k s r)[((col : Nat) : Int).toNat]? = some (SV k (r col)) := rowL_getC hc
  apply Exs.cons
  · walk_at "st"
  apply Exs.cons
  · walk_at "st"
  refine Exs.at (τ := ⟨[("row", rowV k s r), ("head", rowV k s h), ("before", SV k bf), ("w", .int k), ("mul", .raw (.ref fm)), ("divrem", .raw (.ref fd)), ("pivot", SV k (h col)), ("own", SV k (r col)), ("found", .mu 0)], [rowL k 0 (clr r h col bf)]⟩) rfl (by walk_at "lk") ?_
  apply Exs.cons
  · refine Ex.forN (fun i => ⟨[("row", rowV k s r), ("head", rowV k s h), ("before", SV k bf), ("w", .int k), ("mul", .raw (.ref fm)), ("divrem", .raw (.ref fd)), ("pivot", SV k (h col)), ("own", SV k (r col)), ("found", .mu 0)], [rowL k i (clr r h col bf)]⟩)
      (fun i => ⟨[("value", SV k (r i)), ("at", .int (i : Int)), ("row", rowV k s r), ("head", rowV k s h), ("before", SV k bf), ("w", .int k), ("mul", .raw (.ref fm)), ("divrem", .raw (.ref fd)), ("pivot", SV k (h col)), ("own", SV k (r col)), ("found", .mu 0)], [rowL k i (clr r h col bf)]⟩) hF (k := s) (X := fun i => .tup [.int (i : Int), SV k (r i)]) ?_ (fun i hi F' hF' _ _ => ⟨?_, ?_⟩) ?_
    · apply Mk.enumC hF hB (xs := rowL k s r) (X := fun i => SV k (r i))
      · rfl
      · walk_at "ev"
      · exact fun _ _ => rfl
      · exact rowL_length
      · exact fun i hi => rowL_get hi
      · walk_at "ev"
    · exact asg2 hF' rfl rfl
    · have g3 : (rowL k s h)[((i : Nat) : Int).toNat]? = some (SV k (h i)) := rowL_getC hi
      have b1 := mul28 (hr i hi) (hh col hc)
      have b2 := mul28 (hr col hc) (hh i hi)
      have b3 := hr i hi
      have b4 := hh i hi
      have b5 := hr col hc
      have b6 := hh col hc
      apply Exs.cons
      · apply Ex.nassign hF'
        · apply Ev.spP hF' rfl (sp_s_sub (n := n + 2) W (x := r i * h col) (y := r col * h i) hk hk12 (by omega) (by omega))
          · apply Evs.cons
            · apply Ev.spP hF' rfl (sp_s_mul (n := n + 3) W (x := r i) (y := h col) hk hfm (by omega) (by omega))
              all_goals walk_at "ev"
            · apply Evs.cons
              · apply Ev.spP hF' rfl (sp_s_mul (n := n + 3) W (x := r col) (y := h i) hk hfm (by omega) (by omega))
                all_goals walk_at "ev"
              all_goals walk_at "ev"
            · walk_at "ev"
          all_goals walk_at "ev"
        all_goals walk_at "ev"
      apply Exs.cons
      · apply Ex.nappend hF'
        · walk_at "ev"
        · apply Ev.spP hF' rfl (sp_exact (n := n) (x := r i * h col - r col * h i) (y := bf) W hk hfd (by omega) hb0 hb)
          all_goals walk_at "ev"
        · exact ⟨_, rfl⟩
        · rfl
        · rw [rowL_length]; omega
        all_goals walk_at "ev"
      refine Exs.fin ?_ ?_
      · show [_ ++ _] = [rowL k (i + 1) _]
        rw [rowL_succ]; rfl
      · walk_at "lk"
    · walk_at "ev"
  apply Exs.cut
  · apply Exs.ret
    apply Ex.ret
    walk_at "ev"
  · rfl
  · nofun

-- Pr13
theorem FrS.comp {F : Fm} {N N' : List (Str × NameKind)} (hF : FrS F N) {scope : Scope} {cl : List (Str × Addr)} {C : Addr} {Y : List Addr} (hk : scope.kind = .function) (hn : (relabel scope F.env).names = N') : FrS (F.comp scope cl C Y) N' :=
  ⟨hn, hk, hF.glob, hF.bi⟩
theorem Ev.compMuN {c : Cx} {F : Fm} {n : Nat} {σ : St} {N : List (Str × NameKind)} {elt iter tgt : Expr} {scope : Scope} {pos : Pos} {T : Nat → St} {k : Nat} {X Yv : Nat → V} {ys : List V} (N' : List (Str × NameKind)) (hF : FrS F N)
    (hm : Mk c F n iter tgt σ (fun _ => σ) k X) (hclos : closureFor scope F.env = pure []) (hkind : scope.kind = .function)
    (hnames : ∀ x ∈ scope.names, x.2 = .local → scope.names.lookup x.1 = some .local) (hs : ∀ x, foldedSetIterable iter F.env x = pure x)
    (hN' : (relabel scope F.env).names = N') (hlen : ys.length = k) (hys : ∀ i, i < k → ys[i]? = some (Yv i)) (hk : k ≤ 1000000)
    (turn : ∀ i, i < k → ∀ F' : Fm, FrS F' N' → Asg c F' n tgt (X i) ⟨[], σ.mu⟩ (T i) ∧ Ev c F' n elt (T i) (Yv i) ⟨(T i).loc, σ.mu⟩) :
    Ev c F n (.ListComp elt [⟨tgt, iter, [], 0⟩] scope pos) σ (.mu σ.mu.length) ⟨σ.loc, σ.mu ++ [ys]⟩ :=
  Ev.compMu (lo := σ.loc) (cl := []) (mus := fun _ => σ.mu) (T := T) (U := fun i => ⟨(T i).loc, σ.mu⟩) [] hm hclos hkind hnames hs nofun (fun _ => nofun) hlen hys hk
    (fun i hi _ _ _ => turn i hi _ (hF.comp hkind hN')) fun _ _ => rfl
theorem Ev.compN {c : Cx} {F : Fm} {n : Nat} {σ : St} {N : List (Str × NameKind)} {elt iter tgt : Expr} {scope : Scope} {pos : Pos} {T : Nat → St} {k : Nat} {X Yv : Nat → V} {ys : List V} (N' : List (Str × NameKind)) (hF : FrS F N)
    (hm : Mk c F n iter tgt σ (fun _ => σ) k X) (hclos : closureFor scope F.env = pure []) (hkind : scope.kind = .function)
    (hnames : ∀ x ∈ scope.names, x.2 = .local → scope.names.lookup x.1 = some .local) (hs : ∀ x, foldedSetIterable iter F.env x = pure x)
    (hN' : (relabel scope F.env).names = N') (hlen : ys.length = k) (hys : ∀ i, i < k → ys[i]? = some (Yv i)) (hk : k ≤ 1000000)
    (turn : ∀ i, i < k → ∀ F' : Fm, FrS F' N' → Asg c F' n tgt (X i) ⟨[], σ.mu⟩ (T i) ∧ Ev c F' n elt (T i) (Yv i) ⟨(T i).loc, σ.mu⟩) :
    Ev c F n (.ListComp elt [⟨tgt, iter, [], 0⟩] scope pos) σ (.lst ys) σ :=
  Ev.comp (lo := σ.loc) (cl := []) (mus := fun _ => σ.mu) (T := T) (U := fun i => ⟨(T i).loc, σ.mu⟩) [] hm hclos hkind hnames hs nofun (fun _ => nofun) hlen hys hk
    (fun i hi _ _ _ => turn i hi _ (hF.comp hkind hN')) fun _ _ => rfl

theorem Mk.listC {c : Cx} {F : Fm} {n : Nat} {σ : St} {e : Expr} {tgt : Expr} {o : V} {xs : List V} {k : Nat} {S : Nat → St} {X : Nat → V} (h : Ev c F n e σ o (S 0)) (hS : ∀ i, i ≤ xs.length → (S i).items o = some xs) (hk : xs.length = k) (hX : ∀ i, i < k → xs[i]? = some (X i))
    (ht : ∀ it v, letOwnedTupleGo tgt it v = pure ()) : Mk c F n e tgt σ S k X := by subst hk; exact Mk.list h hS hX ht
/-- how far the steps are down -/
structure BS where
  m : Nat → Nat → Int
  pl : List Nat
  odd : Bool
  bf : Int
def bpiv (s : Nat) (m : Nat → Nat → Int) (top col : Nat) : Option Nat := (List.range s).find? fun i => decide (top ≤ i) && decide (m i col ≠ 0)
def swp (m : Nat → Nat → Int) (a b : Nat) : Nat → Nat → Int := fun i => if i = a then m b else if i = b then m a else m i
def low1 (m : Nat → Nat → Int) (top e col : Nat) (bf : Int) : Nat → Nat → Int := fun i => if top < i ∧ i < e then clr (m i) (m top) col bf else m i
def bstep (s : Nat) (b : BS) (col : Nat) : BS := match bpiv s b.m b.pl.length col with
  | none => b
  | some p => ⟨low1 (swp b.m b.pl.length p) b.pl.length s col b.bf, b.pl ++ [col], if p = b.pl.length then b.odd else !b.odd, swp b.m b.pl.length p b.pl.length col⟩
def bst (s : Nat) (m : Nat → Nat → Int) : Nat → BS
  | 0 => ⟨m, [], false, 1⟩
  | i + 1 => bstep s (bst s m i) i
def bdet (s : Nat) (m : Nat → Nat → Int) : Int := if (bst s m s).pl.length < s then 0 else if (bst s m s).odd = true then -((bst s m s).m (s - 1) (s - 1)) else (bst s m s).m (s - 1) (s - 1)
structure Good (k s : Nat) (b : BS) : Prop where
  m : ∀ i j, i < s → j < s → (b.m i j).natAbs < 2 ^ 28
  b0 : b.bf ≠ 0
  b1 : b.pl.length + 1 < s → b.bf.natAbs < 2 ^ k

theorem bpiv_none {s top col : Nat} {m : Nat → Nat → Int} (h : bpiv s m top col = none) : ∀ i, top ≤ i → i < s → m i col = 0 := fun i h1 h2 => by
  have := List.find?_eq_none.mp h i (List.mem_range.mpr h2)
  simp only [Bool.and_eq_true, decide_eq_true_eq, not_and] at this
  exact Classical.not_not.mp (this h1)
theorem bpiv_some {s top col p : Nat} {m : Nat → Nat → Int} (h : bpiv s m top col = some p) : top ≤ p ∧ p < s ∧ m p col ≠ 0 ∧ ∀ i, top ≤ i → i < p → m i col = 0 := by
  obtain ⟨h1, as, bs, h2, h3⟩ := List.find?_eq_some_iff_append.mp h
  simp only [Bool.and_eq_true, decide_eq_true_eq] at h1
  have hp : p < s := List.mem_range.mp (h2 ▸ List.mem_append_right _ List.mem_cons_self)
  refine ⟨h1.1, hp, h1.2, fun i hi hip => ?_⟩
  have hm : i ∈ as := by
    have e : as.length = p := by
      have := congrArg (fun l => l[as.length]?) h2
      simp only [List.getElem?_append_right (Nat.le_refl _), Nat.sub_self, List.getElem?_cons_zero] at this
      by_cases hl : as.length < s
      · simpa [hl] using this
      · rw [List.getElem?_eq_none (by simp; omega)] at this; cases this
    have := congrArg (fun l => l[i]?) h2
    simp only [List.getElem?_append_left (show i < as.length by omega)] at this
    rw [List.getElem?_range (by omega)] at this
    exact List.mem_of_getElem? this.symm
  have := h3 i hm
  simp only [Bool.not_eq_true', Bool.and_eq_false_iff, decide_eq_false_iff_not] at this
  rcases this with h | h
  · exact absurd hi h
  · exact Classical.not_not.mp h
theorem bst_len (s : Nat) (m : Nat → Nat → Int) : ∀ i, (bst s m i).pl.length ≤ i
  | 0 => Nat.le_refl _
  | i + 1 => by
    show (bstep s (bst s m i) i).pl.length ≤ i + 1
    have := bst_len s m i
    unfold bstep
    split
    · omega
    · simp only [List.length_append, List.length_cons, List.length_nil]; omega

-- Pr14
theorem SV_one (k : Nat) (hk : 0 < k) : SV k 1 = .tup [.bool false, .lst [.int 1]] := by
  show V.tup [_, V.lst (nats (dig k 1))] = _
  have h2 : 1 < 2 ^ k := by
    obtain ⟨j, rfl⟩ : ∃ j, k = j + 1 := ⟨k - 1, by omega⟩
    rw [Nat.pow_succ]; have := Nat.two_pow_pos j; omega
  rw [dig_small hk (by decide) h2]; rfl
theorem swp_bound {s : Nat} {m : Nat → Nat → Int} {a b : Nat} (ha : a < s) (hb : b < s) (h : ∀ i j, i < s → j < s → (m i j).natAbs < 2 ^ 28) : ∀ i j, i < s → j < s → (swp m a b i j).natAbs < 2 ^ 28 := fun i j hi hj => by
  unfold swp
  split
  · exact h b j hb hj
  · split
    · exact h a j ha hj
    · exact h i j hi hj

abbrev sdN : List (Str × NameKind) := [("a", .local), ("columns", .local), ("w", .local), ("mul", .local), ("divrem", .local), ("rows", .local), ("places", .local), ("is_odd", .local), ("before", .local), ("column", .local), ("top", .local), ("spot", .local), ("at", .local), ("UNIT", .globalImplicit), ("range", .globalImplicit), ("len", .globalImplicit), ("pivot_row", .globalImplicit), ("cleared", .globalImplicit)]
/-- the state between two columns -/
def sdS (k s : Nat) (fm fd : Addr) (b : BS) : St :=
  ⟨[("columns", .int s), ("w", .int k), ("mul", .raw (.ref fm)), ("divrem", .raw (.ref fd)), ("rows", .mu 0), ("places", .mu 1), ("is_odd", .bool b.odd), ("before", SV k b.bf)], [rowsL k s s b.m, nats b.pl]⟩

theorem sp_steps_down {c : Cx} (W : Fa c) {n k s : Nat} {m : Nat → Nat → Int} {fm fd : Addr} (hk : 0 < k) (hk12 : k ≤ 12) (hs : s ≤ 1000) (hG : ∀ i, i < s → Good k s (bst s m i)) (hfm : MulF c k fm) (hfd : DivF c k fd) :
    Sp c (n + 8) "steps_down" [rowsV k s s m, .int s, .int k, .raw (.ref fm), .raw (.ref fd)] [] (.tup [rowsV k s s (bst s m s).m, .lst (nats (bst s m s).pl), .bool (bst s m s).odd]) [] := by
  have hB := W.b
  obtain ⟨un, hu1, hu2⟩ := W.unit
  refine Sp.intro 30 ["a", "columns", "w", "mul", "divrem"] (v := .tup [.mu 0, .mu 1, .bool (bst s m s).odd]) (σ' := ⟨[], [rowsL k s s (bst s m s).m, nats (bst s m s).pl]⟩) sdN W (by decide) rfl rfl (by decide) rfl (by decide) (by decide)
    (fun _ _ _ _ _ => bA5 rfl fun _ _ _ _ _ => rfl) ⟨rfl, rfl, rfl⟩ (fun F hF _ => ?_)
    (.tup (.cons (.mu (by decide) rfl (Fzs.refl (rowsL_bel _))) (.cons (.mu (by decide) rfl (Fzs.refl (nats_bel _ _))) (.cons (.raw _) .nil)))) rfl rfl nofun
  apply Exs.cons
  · apply Ex.assignT
    · apply Ev.tuple
      · apply Evs.cons
        · apply Ev.compMuN [(".0", .local), ("row", .local)] hF (k := s) (X := fun i => rowV k s (m i)) (Yv := fun i => rowV k s (m i)) (ys := rowsL k s s m) (T := fun i => ⟨[("row", rowV k s (m i))], []⟩)
          · apply Mk.listC (o := rowsV k s s m) (xs := rowsL k s s m)
            · walk_at "ev"
            · exact fun _ _ => rfl
            · exact rowsL_length
            · exact fun i hi => rowsL_get hi
            · exact fun _ _ => rfl
          · rfl
          · rfl
          · decide
          · exact fun _ => rfl
          · rfl
          · exact rowsL_length
          · exact fun i hi => rowsL_get hi
          · omega
          · intro i hi F' hF'
            refine ⟨Asg.nloc hF' rfl, ?_⟩
            apply Ev.sliceAll
            all_goals walk_at "ev"
        · apply Evs.cons
          · walk_at "ev"
          · apply Evs.cons
            · walk_at "ev"
            · apply Evs.cons
              · exact Ev.gdat hF hu1 hu2 rfl rfl
              all_goals walk_at "ev"
            · walk_at "ev"
          · walk_at "ev"
        · walk_at "ev"
      · walk_at "ev"
    · exact Asg.tuple (AsgL.cons (Asg.nloc hF rfl) (AsgL.cons (Asg.nloc hF rfl) (AsgL.cons (Asg.nloc hF rfl) (AsgL.cons (Asg.nloc hF rfl) AsgL.nil rfl) rfl) rfl) rfl) rfl rfl
    · rfl
    · rfl
  refine Exs.at (τ := sdS k s fm fd (bst s m 0)) rfl (by dsimp only [sdS]; rw [show (bst s m 0).bf = 1 from rfl, SV_one k hk]; walk_at "lk") ?_
  apply Exs.cons
  · refine Ex.forN (fun i => sdS k s fm fd (bst s m i)) (fun i => ⟨("column", .int (i : Int)) :: (sdS k s fm fd (bst s m i)).loc, (sdS k s fm fd (bst s m i)).mu⟩) hF (k := s) (X := fun i => .int (i : Int)) ?_ (fun i hi F' hF' _ _ => ⟨?_, ?_⟩) ?_
    · apply Mk.range1C hF hB
      all_goals walk_at "ev"
    · exact Asg.nloc hF' rfl
    · have htop := bst_len s m i
      have G := hG i hi
      have hnext : bst s m (i + 1) = bstep s (bst s m i) i := rfl
      rw [hnext]
      generalize bst s m i = b at htop G ⊢
      dsimp only [sdS]
      apply Exs.cons
      · walk_at "st"
      refine Exs.at (τ := ⟨[("top", .int (b.pl.length : Nat)), ("column", .int (i : Int)), ("columns", .int s), ("w", .int k), ("mul", .raw (.ref fm)), ("divrem", .raw (.ref fd)), ("rows", .mu 0), ("places", .mu 1), ("is_odd", .bool b.odd), ("before", SV k b.bf)], [rowsL k s s b.m, nats b.pl]⟩) rfl ?_ ?_
      · walk_at "lk"
        rw [nats_length]
      have bels : ∀ xs ∈ [nats b.pl], V.bels ([nats b.pl].length + 1) xs = true := fun xs h => by rw [List.mem_singleton.mp h]; exact nats_bel _ _
      have pv : ∀ r : Int, (r = -1 ∧ ∀ i_1, b.pl.length ≤ i_1 → i_1 < s → b.m i_1 i = 0) ∨ (∃ p, r = (p : Nat) ∧ b.pl.length ≤ p ∧ p < s ∧ b.m p i ≠ 0 ∧ ∀ i_1, b.pl.length ≤ i_1 → i_1 < p → b.m i_1 i = 0) →
          Sp c (n + 7) "pivot_row" [.mu 0, .int (b.pl.length : Nat), .int (i : Nat)] (rowsL k s s b.m :: [nats b.pl]) (.int r) (rowsL k s s b.m :: [nats b.pl]) := fun r h =>
        sp_pivot_row (n := n + 5) W hk hs (by omega) hi (fun q hq => by have := G.m q i hq hi; omega) h bels
      rcases hp : bpiv s b.m b.pl.length i with _ | p
      · have hb' : bstep s b i = b := by unfold bstep; rw [hp]
        rw [hb']
        apply Exs.cons
        · apply Ex.nassign hF'
          · apply Ev.sp hF' rfl (pv (-1) (.inl ⟨rfl, bpiv_none hp⟩))
            all_goals walk_at "ev"
          all_goals walk_at "ev"
        apply Exs.cons
        · apply Ex.ifF
          · apply Tst.is
            · walk_at "ev"
            · rfl
          · exact Exs.nil
        exact Exs.fin rfl (by walk_at "lk")
      · obtain ⟨p1, p2, p3, p4⟩ := bpiv_some hp
        have hb' : bstep s b i = ⟨low1 (swp b.m b.pl.length p) b.pl.length s i b.bf, b.pl ++ [i], if p = b.pl.length then b.odd else !b.odd, swp b.m b.pl.length p b.pl.length i⟩ := by unfold bstep; rw [hp]
        rw [hb']
        have htl : b.pl.length < s := by omega
        have gT : (rowsL k s s b.m)[((b.pl.length : Nat) : Int).toNat]? = some (rowV k s (b.m b.pl.length)) := rowsL_getC htl
        have gP : (rowsL k s s b.m)[((p : Nat) : Int).toNat]? = some (rowV k s (b.m p)) := rowsL_getC p2
        apply Exs.cons
        · apply Ex.nassign hF'
          · apply Ev.sp hF' rfl (pv p (.inr ⟨p, rfl, p1, p2, p3, p4⟩))
            all_goals walk_at "ev"
          all_goals walk_at "ev"
        refine Exs.cons (σ1 := ⟨[("columns", .int s), ("w", .int k), ("mul", .raw (.ref fm)), ("divrem", .raw (.ref fd)), ("rows", .mu 0), ("places", .mu 1), ("is_odd", .bool (if p = b.pl.length then b.odd else !b.odd)), ("before", SV k (swp b.m b.pl.length p b.pl.length i))], [rowsL k s s (low1 (swp b.m b.pl.length p) b.pl.length s i b.bf), nats (b.pl ++ [i])]⟩) (Ex.ifT ?_ ?_) (Exs.fin rfl (by walk_at "lk"))
        · apply Tst.is
          · walk_at "ev"
          · exact decide_eq_true (by omega)
        refine Exs.cons (σ1 := ⟨[("top", .int (b.pl.length : Nat)), ("column", .int (i : Int)), ("columns", .int s), ("w", .int k), ("mul", .raw (.ref fm)), ("divrem", .raw (.ref fd)), ("rows", .mu 0), ("places", .mu 1), ("is_odd", .bool (if p = b.pl.length then b.odd else !b.odd)), ("before", SV k b.bf)], [rowsL k s s (low1 (swp b.m b.pl.length p) b.pl.length (b.pl.length + 1 + 0) i b.bf), nats b.pl]⟩) ?_ ?_
        · by_cases hpt : p = b.pl.length
          · apply Ex.ifF
            · apply Tst.is
              · walk_at "ev"
              · exact bne_same hpt
            · refine Exs.fin ?_ ?_
              · show [rowsL k s s _, _] = [rowsL k s s _, _]
                rw [rowsL_ext fun q _ j _ => ?_]
                unfold low1
                rw [if_neg (by omega)]
                unfold swp
                subst hpt
                split
                · rename_i h; rw [h]
                · rfl
              · rw [if_pos hpt]; walk_at "lk"
          · apply Ex.ifT
            · apply Tst.is
              · walk_at "ev"
              · exact bne_cast hpt
            · apply Exs.cons
              · apply Ex.assignT
                · walk_at "ev"
                · apply Asg.tuple
                  · apply AsgL.cons
                    · apply Asg.item
                      all_goals walk_at "ev"
                      all_goals (try rw [rowsL_length]); omega
                    · apply AsgL.cons
                      · apply Asg.item
                        all_goals walk_at "ev"
                        all_goals (try rw [List.length_set, rowsL_length]); omega
                      · exact AsgL.nil
                      · rfl
                    · rfl
                  · rfl
                  · rfl
                · rfl
                · have hbk : F'.env.blockKind = .function := by unfold Env.blockKind; rw [hF'.kind]; rfl
                  simp only [swappedStores, hbk]; rfl
              apply Exs.cons
              · walk_at "st"
              refine Exs.fin ?_ ?_
              · show [((rowsL k s s b.m).set b.pl.length (rowV k s (b.m p))).set p (rowV k s (b.m b.pl.length)), _] = _
                rw [rowsL_set (m' := fun q => if q = b.pl.length then b.m p else b.m q) htl (fun q _ hq j _ => by rw [if_neg hq]) (fun j _ => by rw [if_pos rfl]),
                  rowsL_set (m' := low1 (swp b.m b.pl.length p) b.pl.length (b.pl.length + 1 + 0) i b.bf) p2 (fun q _ hq j _ => ?_) (fun j _ => ?_)]
                · have e : low1 (swp b.m b.pl.length p) b.pl.length (b.pl.length + 1 + 0) i b.bf q = swp b.m b.pl.length p q := by unfold low1; rw [if_neg (by omega)]
                  rw [e]; unfold swp; by_cases h1 : q = b.pl.length
                  · rw [if_pos h1, if_pos h1]
                  · rw [if_neg h1, if_neg h1, if_neg hq]
                · have e : low1 (swp b.m b.pl.length p) b.pl.length (b.pl.length + 1 + 0) i b.bf p = swp b.m b.pl.length p p := by unfold low1; rw [if_neg (by omega)]
                  rw [e]; unfold swp; rw [if_neg hpt, if_pos rfl]
              · rw [if_neg hpt]; walk_at "lk"
        have hS := swp_bound htl p2 G.m
        apply Exs.cons
        · refine Ex.forN (fun j => ⟨[("top", .int (b.pl.length : Nat)), ("column", .int (i : Int)), ("columns", .int s), ("w", .int k), ("mul", .raw (.ref fm)), ("divrem", .raw (.ref fd)), ("rows", .mu 0), ("places", .mu 1), ("is_odd", .bool (if p = b.pl.length then b.odd else !b.odd)), ("before", SV k b.bf)], [rowsL k s s (low1 (swp b.m b.pl.length p) b.pl.length (b.pl.length + 1 + j) i b.bf), nats b.pl]⟩)
            (fun j => ⟨[("at", .int ((b.pl.length + 1 + j : Nat) : Int)), ("top", .int (b.pl.length : Nat)), ("column", .int (i : Int)), ("columns", .int s), ("w", .int k), ("mul", .raw (.ref fm)), ("divrem", .raw (.ref fd)), ("rows", .mu 0), ("places", .mu 1), ("is_odd", .bool (if p = b.pl.length then b.odd else !b.odd)), ("before", SV k b.bf)], [rowsL k s s (low1 (swp b.m b.pl.length p) b.pl.length (b.pl.length + 1 + j) i b.bf), nats b.pl]⟩) hF' (k := s - (b.pl.length + 1)) (X := fun j => .int (((b.pl.length + 1 : Nat) : Int) + (j : Int))) ?_ (fun j hj F' hF' _ _ => ⟨?_, ?_⟩) ?_
          · apply Mk.range2C hF' hB
            all_goals walk_at "ev"
          · exact Asg.nloc hF' rfl
          · have gA : (rowsL k s s (low1 (swp b.m b.pl.length p) b.pl.length (b.pl.length + 1 + j) i b.bf))[((b.pl.length + 1 + j : Nat) : Int).toNat]? = some (rowV k s (swp b.m b.pl.length p (b.pl.length + 1 + j))) := by
              rw [rowsL_getC (by omega)]; unfold low1; rw [if_neg (by omega)]
            have gT : (rowsL k s s (low1 (swp b.m b.pl.length p) b.pl.length (b.pl.length + 1 + j) i b.bf))[((b.pl.length : Nat) : Int).toNat]? = some (rowV k s (swp b.m b.pl.length p b.pl.length)) := by
              rw [rowsL_getC htl]; unfold low1; rw [if_neg (by omega)]
            apply Exs.cons
            · apply Ex.setItem
              · apply Ev.spP hF' rfl (sp_cleared (n := n) (r := swp b.m b.pl.length p (b.pl.length + 1 + j)) (h := swp b.m b.pl.length p b.pl.length) (bf := b.bf) (col := i) W hk hk12 hs hi (fun q hq => hS _ q (by omega) hq) (fun q hq => hS _ q htl hq) hfm hfd G.b0 (G.b1 (by omega)))
                · walk_at "ev"
                · simp only [V.bels, V.bel, nats_bel, rowL_bel, Bool.and_self]
                · walk_at "ev"
                · walk_at "ev"
              all_goals walk_at "ev"
              rw [rowsL_length]; omega
            refine Exs.fin ?_ ?_
            · show [(rowsL k s s _).set (b.pl.length + 1 + j) (rowV k s _), _] = _
              rw [rowsL_set (m' := low1 (swp b.m b.pl.length p) b.pl.length (b.pl.length + 1 + (j + 1)) i b.bf) (by omega) (fun q _ hq x _ => ?_) (fun x _ => ?_)]
              · unfold low1
                by_cases h1 : b.pl.length < q ∧ q < b.pl.length + 1 + j
                · rw [if_pos h1, if_pos (by omega)]
                · rw [if_neg h1, if_neg (by omega)]
              · unfold low1; rw [if_pos (by omega)]
            · walk_at "lk"
          · walk_at "ev"
        have e : b.pl.length + 1 + (s - (b.pl.length + 1)) = s := by omega
        rw [e]
        have gT : (rowsL k s s (low1 (swp b.m b.pl.length p) b.pl.length s i b.bf))[((b.pl.length : Nat) : Int).toNat]? = some (rowV k s (swp b.m b.pl.length p b.pl.length)) := by
          rw [rowsL_getC htl]; unfold low1; rw [if_neg (by omega)]
        have gI : (rowL k s (swp b.m b.pl.length p b.pl.length))[((i : Nat) : Int).toNat]? = some (SV k (swp b.m b.pl.length p b.pl.length i)) := rowL_getC hi
        apply Exs.cons
        · walk_at "st"
        apply Exs.cons
        · walk_at "st"
        refine Exs.fin ?_ ?_
        · show [_, nats b.pl ++ _] = _
          rw [nats_append]; rfl
        · walk_at "lk"
    · walk_at "ev"
  apply Exs.cut
  · apply Exs.ret
    apply Ex.ret
    walk_at "ev"
  · rfl
  · nofun

-- Pr15
theorem sp_det {c : Cx} (W : Fa c) {n k s : Nat} {m : Nat → Nat → Int} {fm fd : Addr} (hk : 0 < k) (hk12 : k ≤ 12) (hs0 : 0 < s) (hs : s ≤ 1000) (hG : ∀ i, i < s → Good k s (bst s m i)) (hL : ((bst s m s).m (s - 1) (s - 1)).natAbs < 2 ^ 60) (hfm : MulF c k fm) (hfd : DivF c k fd) :
    Sp c (n + 9) "det_bareiss" [rowsV k s s m, .int k, .raw (.ref fm), .raw (.ref fd)] [] (SV k (bdet s m)) [] := by
  have hB := W.b
  obtain ⟨nv, hn1, hn2⟩ := W.nought
  have hpl := bst_len s m s
  refine Sp.intro 31 ["a", "w", "mul", "divrem"] (v := SV k (bdet s m)) (σ' := ⟨[], []⟩) [("a", .local), ("w", .local), ("mul", .local), ("divrem", .local), ("rows", .local), ("places", .local), ("is_odd", .local), ("last", .local), ("len", .globalImplicit), ("UNIT", .globalImplicit), ("steps_down", .globalImplicit), ("NOUGHT", .globalImplicit), ("s_neg", .globalImplicit)] W (by decide) rfl rfl (by decide) rfl (by decide) (by decide)
    (fun _ _ _ _ _ => bA4 rfl fun _ _ _ _ => rfl) ⟨rfl, rfl, rfl⟩ (fun F hF _ => ?_)
    (Fz.refl (SV_bel _ _ _)) rfl rfl nofun
  apply Exs.cons
  · apply Ex.ifF
    · apply Tst.is
      · walk_at "ev"
      · rw [rowsL_length]; exact beq_eq_false_iff_ne.mpr (by omega)
    · exact Exs.nil
  apply Exs.cons
  · apply Ex.assignT
    · apply Ev.spP hF rfl (sp_steps_down (n := n) (s := s) (m := m) W hk hk12 hs hG hfm hfd)
      · apply Evs.cons
        · walk_at "ev"
        · apply Evs.cons
          · apply Ev.is (v' := .int (s : Int))
            · walk_at "ev"
            · rw [rowsL_length]
          all_goals walk_at "ev"
        · walk_at "ev"
      · simp only [V.bels, V.bel, rowsL_bel, Bool.and_self]
      all_goals walk_at "ev"
    · exact Asg.tuple (AsgL.cons (Asg.nloc hF rfl) (AsgL.cons (Asg.nloc hF rfl) (AsgL.cons (Asg.nloc hF rfl) AsgL.nil rfl) rfl) rfl) rfl rfl
    · rfl
    · rfl
  by_cases hlt : (bst s m s).pl.length < s
  · apply Exs.cut
    · apply Exs.ret
      apply Ex.ifT
      · apply Tst.is
        · walk_at "ev"
        · rw [nats_length, rowsL_length]; exact decide_eq_true (by omega)
      · apply Exs.ret
        apply Ex.ret
        apply Ev.is
        · exact Ev.gdat hF hn1 hn2 rfl rfl
        · unfold bdet; rw [if_pos hlt]; rfl
    · rfl
    · nofun
  · apply Exs.cons
    · apply Ex.ifF
      · apply Tst.is
        · walk_at "ev"
        · rw [nats_length, rowsL_length]; exact decide_eq_false (by omega)
      · exact Exs.nil
    have gI : (rowL k s ((bst s m s).m (s - 1)))[((s - 1 : Nat) : Int).toNat]? = some (SV k ((bst s m s).m (s - 1) (s - 1))) := rowL_getC (by omega)
    apply Exs.cons
    · apply Ex.nassign hF
      · apply Ev.sub (k := ((s - 1 : Nat) : Int)) (xs := rowL k s ((bst s m s).m (s - 1)))
        · apply Ev.itemNeg (k := -1) (xs := rowsL k s s (bst s m s).m)
          · walk_at "ev"
          · walk_at "ev"
          · rfl
          · decide
          · rw [rowsL_length]; omega
          · decide
          · rw [rowsL_length, show ((-1 : Int) + (s : Int)).toNat = s - 1 by omega]; exact rowsL_get (by omega)
          · exact fun _ _ => ⟨_, rfl⟩
        · apply Ev.is
          · walk_at "ev"
          · rw [rowsL_length]; simp only [V.int.injEq]; omega
        all_goals walk_at "ev"
      all_goals walk_at "ev"
    have hbd : bdet s m = if (bst s m s).odd = true then -((bst s m s).m (s - 1) (s - 1)) else (bst s m s).m (s - 1) (s - 1) := by unfold bdet; rw [if_neg hlt]
    rw [hbd]
    generalize (bst s m s).m (s - 1) (s - 1) = z at hL ⊢
    generalize (bst s m s).odd = o
    cases o with
    | true =>
      apply Exs.cut
      · apply Exs.ret
        apply Ex.ret
        apply Ev.iteT
        · apply Tst.bool
          · walk_at "ev"
          · exact fun _ => rfl
        · rw [if_pos rfl]
          apply Ev.spP hF rfl (sp_s_neg (n := n + 6) W (z := z) hk hL)
          all_goals walk_at "ev"
      · rfl
      · nofun
    | false =>
      apply Exs.cut
      · apply Exs.ret
        apply Ex.ret
        apply Ev.iteF
        · apply Tst.bool
          · walk_at "ev"
          · exact fun _ => rfl
        · rw [if_neg (by decide)]
          walk_at "ev"
      · rfl
      · nofun

-- Pr16
theorem Ev.compMuG {c : Cx} {F : Fm} {n : Nat} {σ : St} {N : List (Str × NameKind)} {elt iter tgt : Expr} {scope : Scope} {pos : Pos} {T : Nat → St} {k : Nat} {X Yv : Nat → V} {ys : List V} (mus : Nat → List (List V)) (N' : List (Str × NameKind)) (hF : FrS F N)
    (hm : Mk c F n iter tgt σ (fun i => ⟨σ.loc, mus i⟩) k X) (hclos : closureFor scope F.env = pure []) (hkind : scope.kind = .function)
    (hnames : ∀ x ∈ scope.names, x.2 = .local → scope.names.lookup x.1 = some .local) (hs : ∀ x, foldedSetIterable iter F.env x = pure x)
    (hN' : (relabel scope F.env).names = N') (hlen : ys.length = k) (hys : ∀ i, i < k → ys[i]? = some (Yv i)) (hk : k ≤ 1000000)
    (turn : ∀ i, i < k → ∀ F' : Fm, FrS F' N' → Asg c F' n tgt (X i) ⟨[], mus i⟩ (T i) ∧ Ev c F' n elt (T i) (Yv i) ⟨(T i).loc, mus (i + 1)⟩) :
    Ev c F n (.ListComp elt [⟨tgt, iter, [], 0⟩] scope pos) σ (.mu (mus k).length) ⟨σ.loc, mus k ++ [ys]⟩ :=
  Ev.compMu (lo := σ.loc) (cl := []) (mus := mus) (T := T) (U := fun i => ⟨(T i).loc, mus (i + 1)⟩) [] hm hclos hkind hnames hs nofun (fun _ => nofun) hlen hys hk
    (fun i hi _ _ _ => turn i hi _ (hF.comp hkind hN')) fun _ _ => rfl

/-- four rows of four, held as lists that may change -/
def gridMu (k : Nat) (m : Nat → Nat → Int) : List (List V) := [rowL k 4 (m 0), rowL k 4 (m 1), rowL k 4 (m 2), rowL k 4 (m 3), [.mu 0, .mu 1, .mu 2, .mu 3]]
theorem lt4 {t : Nat} (h : t < 4) : t = 0 ∨ t = 1 ∨ t = 2 ∨ t = 3 := by omega
theorem gridMu_get {k t : Nat} {m : Nat → Nat → Int} (h : t < 4) : (gridMu k m)[t]? = some (rowL k 4 (m t)) := by
  rcases lt4 h with rfl | rfl | rfl | rfl <;> rfl
theorem gridIds_get {t : Nat} (h : t < 4) : [V.mu 0, V.mu 1, V.mu 2, V.mu 3][((t : Nat) : Int).toNat]? = some (.mu t) := by
  rcases lt4 h with rfl | rfl | rfl | rfl <;> rfl
theorem gridMu_ext {k : Nat} {m m' : Nat → Nat → Int} (h : ∀ i, i < 4 → ∀ j, j < 4 → m i j = m' i j) : gridMu k m = gridMu k m' := by
  unfold gridMu
  rw [rowL_ext (h 0 (by decide)), rowL_ext (h 1 (by decide)), rowL_ext (h 2 (by decide)), rowL_ext (h 3 (by decide))]
theorem gridMu_set {k t : Nat} {m : Nat → Nat → Int} {r : Nat → Int} (h : t < 4) : (gridMu k m).set t (rowL k 4 r) = gridMu k (fun i => if i = t then r else m i) := by
  rcases lt4 h with rfl | rfl | rfl | rfl <;> rfl
theorem rowL_set {k s j : Nat} {r : Nat → Int} {z : Int} (hj : j < s) : (rowL k s r).set j (SV k z) = rowL k s (fun x => if x = j then z else r x) := by
  apply List.ext_getElem?
  intro p
  rw [List.getElem?_set]
  by_cases e : j = p
  · subst e
    rw [if_pos rfl, if_pos (by rw [rowL_length]; exact hj), rowL_get hj]; simp
  · rw [if_neg e]
    by_cases hp : p < s
    · rw [rowL_get hp, rowL_get hp, if_neg (Ne.symm e)]
    · rw [List.getElem?_eq_none (by rw [rowL_length]; omega), List.getElem?_eq_none (by rw [rowL_length]; omega)]

def put1 (m : Nat → Nat → Int) (s t : Nat) (a : Int) (e : Nat) : Nat → Nat → Int := fun p q => if p = t ∧ q < e then m p q + a * m s q else m p q
def put2 (m : Nat → Nat → Int) (s t : Nat) (a : Int) (e : Nat) : Nat → Nat → Int := fun p q => if q = t ∧ p < e then m p q + a * m p s else m p q

theorem mul_lt {a b : Int} {x y : Nat} (ha : a.natAbs < x) (hb : b.natAbs < y) : (a * b).natAbs < x * y := by
  rw [Int.natAbs_mul]; exact Nat.mul_lt_mul'' ha hb

theorem put1_bound {m : Nat → Nat → Int} {s t e : Nat} {a : Int} (hs : s < 4) (ha : a.natAbs < 2 ^ 8) (hm : ∀ i j, i < 4 → j < 4 → (m i j).natAbs < 2 ^ 16) : ∀ i j, i < 4 → j < 4 → (put1 m s t a e i j).natAbs < 2 ^ 25 := fun i j hi hj => by
  have h1 := hm i j hi hj
  have h2 := mul_lt ha (hm s j hs hj)
  unfold put1; split <;> omega

local macro_rules | `(tactic| walk_at "ev1") => `(tactic| ((with_reducible show @Eq (Option (List V)) _ _); first | assumption | rfl))

theorem sp_law_put {c : Cx} (W : Fa c) {n k s t : Nat} {a : Int} {m : Nat → Nat → Int} {fm : Addr} (hk : 0 < k) (hk12 : k ≤ 12) (hs : s < 4) (ht : t < 4) (hst : s ≠ t) (ha : a.natAbs < 2 ^ 8) (hm : ∀ i j, i < 4 → j < 4 → (m i j).natAbs < 2 ^ 16) (hg : c.mg (Str.ofString "mul_school") = some (.ref fm)) (hfm : MulF c k fm) :
    Sp c (n + 4) "_law_put" [rowsV k 4 4 m, .int s, .int t, .int a, .int k] [] (rowsV k 4 4 (put2 (put1 m s t a 4) s t a 4)) [] := by
  have hB := W.b
  refine Sp.intro 46 ["grid", "source", "target", "many", "w"] (v := .mu 4) (σ' := ⟨[], gridMu k (put2 (put1 m s t a 4) s t a 4)⟩) [("grid", .local), ("source", .local), ("target", .local), ("many", .local), ("w", .local), ("often", .local), ("found", .local), ("at", .local), ("_law_signed", .globalImplicit), ("range", .globalImplicit), ("s_add", .globalImplicit), ("s_mul", .globalImplicit), ("mul_school", .globalImplicit)] W (by decide) rfl rfl (by decide) rfl (by decide) (by decide)
    (fun _ _ _ _ _ => bA5 rfl fun _ _ _ _ _ => rfl) ⟨rfl, rfl, rfl⟩ (fun F hF _ => ?_)
    (.mu (by decide) rfl (.cons (.mu (by decide) rfl (Fzs.refl (rowL_bel _))) (.cons (.mu (by decide) rfl (Fzs.refl (rowL_bel _))) (.cons (.mu (by decide) rfl (Fzs.refl (rowL_bel _))) (.cons (.mu (by decide) rfl (Fzs.refl (rowL_bel _))) .nil))))) rfl rfl nofun
  apply Exs.cons
  · apply Ex.nassign2 hF
    · apply Ev.tuple
      · apply Evs.cons
        · apply Ev.spP hF rfl (sp_law_signed (n := n + 1) W (z := a) hk hk12 (by omega))
          all_goals walk_at "ev"
        · apply Evs.cons
          · apply Ev.compMuG (fun i => [rowL k 4 (m 0), rowL k 4 (m 1), rowL k 4 (m 2), rowL k 4 (m 3)].take i) [(".0", .local), ("row", .local)] hF (k := 4) (X := fun i => rowV k 4 (m i)) (Yv := fun i => .mu i) (ys := [.mu 0, .mu 1, .mu 2, .mu 3]) (T := fun i => ⟨[("row", rowV k 4 (m i))], [rowL k 4 (m 0), rowL k 4 (m 1), rowL k 4 (m 2), rowL k 4 (m 3)].take i⟩)
            · apply Mk.listC (o := rowsV k 4 4 m) (xs := rowsL k 4 4 m)
              · walk_at "ev"
              · exact fun _ _ => rfl
              · exact rowsL_length
              · exact fun i hi => rowsL_get hi
              · exact fun _ _ => rfl
            · rfl
            · rfl
            · decide
            · exact fun _ => rfl
            · rfl
            · rfl
            · intro i hi; rcases lt4 hi with rfl | rfl | rfl | rfl <;> rfl
            · decide
            · intro i hi F' hF'
              refine ⟨Asg.nloc hF' rfl, ?_⟩
              rcases lt4 hi with rfl | rfl | rfl | rfl <;> (apply Ev.sliceAllMu <;> walk_at "ev")
          all_goals walk_at "ev"
        · walk_at "ev"
      · walk_at "ev"
    · rfl
    · rfl
    · walk_at "sw"
  refine Exs.at (τ := ⟨[("source", .int s), ("target", .int t), ("w", .int k), ("often", SV k a), ("found", .mu 4)], gridMu k (put1 m s t a 0)⟩) ?_ (by walk_at "lk") ?_
  · exact gridMu_ext (m' := put1 m s t a 0) fun i _ j _ => by unfold put1; rw [if_neg (by omega)]
  apply Exs.cons
  · refine Ex.forN (fun i => ⟨[("source", .int s), ("target", .int t), ("w", .int k), ("often", SV k a), ("found", .mu 4)], gridMu k (put1 m s t a i)⟩)
      (fun i => ⟨[("at", .int (i : Int)), ("source", .int s), ("target", .int t), ("w", .int k), ("often", SV k a), ("found", .mu 4)], gridMu k (put1 m s t a i)⟩) hF (k := 4) (X := fun i => .int (i : Int)) ?_ (fun i hi F' hF' _ _ => ⟨?_, ?_⟩) ?_
    · apply Mk.range1C hF hB
      all_goals walk_at "ev"
    · exact Asg.nloc hF' rfl
    · have b1 := put1_bound (e := i) (t := t) hs ha hm t i ht hi
      have b2 := put1_bound (e := i) (t := t) hs ha hm s i hs hi
      have b3 := mul_lt ha b2
      have i1 := gridIds_get ht
      have i2 := gridIds_get hs
      have r1 := gridMu_get (k := k) (m := put1 m s t a i) ht
      have r2 := gridMu_get (k := k) (m := put1 m s t a i) hs
      have c1 := rowL_getC (k := k) (r := put1 m s t a i t) hi
      have c2 := rowL_getC (k := k) (r := put1 m s t a i s) hi
      apply Exs.cons
      · apply Ex.setItem
        · apply Ev.spP hF' rfl (sp_s_add (n := n) W (x := put1 m s t a i t i) (y := a * put1 m s t a i s i) hk hk12 (by omega) (by omega))
          · apply Evs.cons
            · apply Ev.sub (xs := rowL k 4 (put1 m s t a i t)) (o := .mu t)
              all_goals walk_at "ev"
            · apply Evs.cons
              · apply Ev.spP hF' rfl (sp_s_mul (n := n) W (x := a) (y := put1 m s t a i s i) hk hfm (by omega) (by omega))
                · apply Evs.cons
                  · walk_at "ev"
                  · apply Evs.cons
                    · apply Ev.sub (xs := rowL k 4 (put1 m s t a i s)) (o := .mu s)
                      all_goals walk_at "ev"
                    all_goals walk_at "ev"
                  · walk_at "ev"
                all_goals walk_at "ev"
              all_goals walk_at "ev"
            · walk_at "ev"
          all_goals walk_at "ev"
        all_goals walk_at "ev"
        rw [rowL_length]; omega
      refine Exs.fin ?_ ?_
      · show (gridMu k _).set t ((rowL k 4 _).set i (SV k _)) = gridMu k _
        rw [rowL_set hi, gridMu_set ht]
        refine gridMu_ext fun p _ q _ => ?_
        unfold put1
        by_cases hp : p = t
        · subst hp
          simp only [hst, false_and, if_false, true_and, if_true]
          by_cases hq : q = i
          · subst hq
            rw [if_pos rfl, if_neg (Nat.lt_irrefl _), if_pos (Nat.lt_succ_self _)]
          · rw [if_neg hq]
            by_cases hl : q < i
            · rw [if_pos hl, if_pos (by omega)]
            · rw [if_neg hl, if_neg (by omega)]
        · simp only [hp, false_and, if_false]
      · walk_at "lk"
    · walk_at "ev"
  have hm2 := put1_bound (e := 4) (t := t) hs ha hm
  generalize put1 m s t a 4 = m2 at hm2 ⊢
  refine Exs.at (τ := ⟨[("source", .int s), ("target", .int t), ("w", .int k), ("often", SV k a), ("found", .mu 4)], gridMu k (put2 m2 s t a 0)⟩) ?_ (by walk_at "lk") ?_
  · exact gridMu_ext (m' := put2 m2 s t a 0) fun i _ j _ => by unfold put2; rw [if_neg (by omega)]
  apply Exs.cons
  · refine Ex.forN (fun i => ⟨[("source", .int s), ("target", .int t), ("w", .int k), ("often", SV k a), ("found", .mu 4)], gridMu k (put2 m2 s t a i)⟩)
      (fun i => ⟨[("at", .int (i : Int)), ("source", .int s), ("target", .int t), ("w", .int k), ("often", SV k a), ("found", .mu 4)], gridMu k (put2 m2 s t a i)⟩) hF (k := 4) (X := fun i => .int (i : Int)) ?_ (fun i hi F' hF' _ _ => ⟨?_, ?_⟩) ?_
    · apply Mk.range1C hF hB
      all_goals walk_at "ev"
    · exact Asg.nloc hF' rfl
    · have e1 : put2 m2 s t a i i t = m2 i t := by unfold put2; rw [if_neg (by omega)]
      have e2 : put2 m2 s t a i i s = m2 i s := by unfold put2; rw [if_neg (by omega)]
      have b1 := hm2 i t hi ht
      have b2 := hm2 i s hi hs
      have b3 := mul_lt ha b2
      have i1 := gridIds_get hi
      have r1 := gridMu_get (k := k) (m := put2 m2 s t a i) hi
      have c1 := rowL_getC (k := k) (r := put2 m2 s t a i i) ht
      have c2 := rowL_getC (k := k) (r := put2 m2 s t a i i) hs
      rw [e1] at c1
      rw [e2] at c2
      apply Exs.cons
      · apply Ex.setItem
        · apply Ev.spP hF' rfl (sp_s_add (n := n) W (x := m2 i t) (y := a * m2 i s) hk hk12 (by omega) (by omega))
          · apply Evs.cons
            · apply Ev.sub (xs := rowL k 4 (put2 m2 s t a i i)) (o := .mu i)
              all_goals walk_at "ev"
            · apply Evs.cons
              · apply Ev.spP hF' rfl (sp_s_mul (n := n) W (x := a) (y := m2 i s) hk hfm (by omega) (by omega))
                · apply Evs.cons
                  · walk_at "ev"
                  · apply Evs.cons
                    · apply Ev.sub (xs := rowL k 4 (put2 m2 s t a i i)) (o := .mu i)
                      all_goals walk_at "ev"
                    all_goals walk_at "ev"
                  · walk_at "ev"
                all_goals walk_at "ev"
              all_goals walk_at "ev"
            · walk_at "ev"
          all_goals walk_at "ev"
        all_goals walk_at "ev"
        rw [rowL_length]; omega
      refine Exs.fin ?_ ?_
      · show (gridMu k _).set i ((rowL k 4 _).set t (SV k _)) = gridMu k _
        rw [rowL_set ht, gridMu_set hi]
        refine gridMu_ext fun p _ q _ => ?_
        unfold put2
        by_cases hp : p = i
        · subst hp
          rw [if_pos rfl]
          by_cases hq : q = t
          · rw [if_pos hq, if_pos ⟨hq, Nat.lt_succ_self _⟩, hq]
          · rw [if_neg hq, if_neg (fun h => hq h.1), if_neg (fun h => hq h.1)]
        · rw [if_neg hp]
          by_cases hq : q = t ∧ p < i
          · rw [if_pos hq, if_pos ⟨hq.1, by omega⟩]
          · rw [if_neg hq, if_neg (fun h => hq ⟨h.1, by omega⟩)]
      · walk_at "lk"
    · walk_at "ev"
  apply Exs.cut
  · apply Exs.ret
    apply Ex.ret
    walk_at "ev"
  · rfl
  · nofun

-- Pr17
theorem Sp.introC {c : Cx} {n : Nat} (k : Nat) {x : Str} (names : List Str) {vs : List V} {mu mu' : List (List V)} {v r : V} {σ' : St} (N : List (Str × NameKind)) (W : Fa c) (hin : k ∈ [4, 5, 6, 7, 8, 9, 14, 15, 16, 17, 18, 19, 20, 21, 25, 26, 27, 28, 29, 30, 31, 33, 34, 39, 41, 42, 43, 45, 46])
    (hx : defName (theDef k) = x) (hN : (defScope (theDef k)).names = N) (hlen : names.length = vs.length) (hnd : names.Nodup) (hloc : ∀ x ∈ names, N.lookup x = some .local ∨ (N.lookup x = some .cell ∧ ∀ L, ((cellsFrom (L + 1) N []).lookup x).isSome = true))
    (hcs : ∀ L, ∀ p ∈ cellsFrom (L + 1) N [], (cellsFrom (L + 1) N []).lookup p.1 = some p.2)
    (hbind : ∀ doc pm an cd ct, ∀ vs' : List Value, vs'.length = vs.length → bindArgs (fdOf k doc pm an cd ct) ⟨vs', []⟩ = pure (names.zip vs'))
    (hsc : (defScope (theDef k)).isCoroutine = false ∧ (defScope (theDef k)).isGenerator = false ∧ (defScope (theDef k)).kind = .function)
    (h : ∀ (F : Fm) (L : Addr), FrS F N → F.env.cells = cellsFrom (L + 1) N [] → F.wc = (cellsFrom (L + 1) N []).map (·.2) → Exs c F n (defBody (theDef k)) ⟨names.zip vs, mu⟩ (.ret v) σ') (hfz : Fz mu.length σ'.mu v r) (hmu : σ'.mu.take mu.length = mu') (hl : mu'.length = mu.length) (hbel : ∀ xs ∈ mu', V.bels mu.length xs = true) :
    Sp c (n + 1) x vs mu r mu' := by
  obtain ⟨f, hg, doc, pm, an, cd, ct, hf⟩ := W.f k hin
  subst hN
  refine ⟨f, hx ▸ hg, CallM.introC hf rfl hlen hnd (hbind _ _ _ _ _) hloc hcs hsc.1 hsc.2.1 hsc.2.2 rfl (fun L O => h _ L ⟨rfl, hsc.2.2, rfl, rfl⟩ rfl rfl) hfz hmu hl hbel⟩

theorem Ev.compC {c : Cx} {F : Fm} {n : Nat} {σ : St} {N : List (Str × NameKind)} {elt iter tgt : Expr} {scope : Scope} {pos : Pos} {T : Nat → St} {k : Nat} {X Yv : Nat → V} {ys : List V} (x : Str) {a : Addr} {v : V} (mus : Nat → List (List V)) (N' : List (Str × NameKind)) (hF : FrS F N)
    (hx : F.env.cells.lookup x = some a) (hxk : N.lookup x = some .cell) (hlo : σ.loc.lookup x = some v)
    (hclos : ∀ env : Env, env.cells.lookup x = some a → closureFor scope env = pure [(x, a)]) (hcf : ∀ C cl, cellsFrom (C + 1) scope.names cl = cl) (hkind : scope.kind = .function)
    (hnames : ∀ x ∈ scope.names, x.2 = .local → scope.names.lookup x.1 = some .local) (hs : ∀ env x, foldedSetIterable iter env x = pure x)
    (hN' : ∀ env : Env, env.scope.kind = .function → env.kindOf x = some .cell → (relabel scope env).names = N') (hxN : N'.lookup x = some .cell)
    (hm : Mk c F n iter tgt σ (fun i => ⟨σ.loc, mus i⟩) k X) (hlen : ys.length = k) (hys : ∀ i, i < k → ys[i]? = some (Yv i)) (hk : k ≤ 1000000)
    (turn : ∀ i, i < k → ∀ F' : Fm, FrS F' N' → F'.env.cells.lookup x = some a → Asg c F' n tgt (X i) ⟨[(x, v)], mus i⟩ (T i) ∧ Ev c F' n elt (T i) (Yv i) ⟨(T i).loc, mus (i + 1)⟩) :
    Ev c F n (.ListComp elt [⟨tgt, iter, [], 0⟩] scope pos) σ (.lst ys) ⟨σ.loc, mus k⟩ := by
  have hr := hN' F.env hF.kind (hF.of hxk)
  refine Ev.comp (lo := σ.loc) (cl := [(x, a)]) (mus := mus) (T := T) (U := fun i => ⟨(T i).loc, mus (i + 1)⟩) [(x, v)] hm (hclos _ hx) hkind hnames (hs _) (fun p hp => by rw [List.mem_singleton.mp hp]; exact hx) (fun C p hp => ?_) hlen hys hk
    (fun i hi C Y' _ => turn i hi _ (hF.comp hkind hr) ?_) fun _ _ => rfl
  · rw [List.mem_singleton.mp hp]
    refine ⟨hlo, by rw [hF.of hxk]; simp, ?_, ?_⟩
    · show (relabel scope F.env).names.lookup x ≠ _
      rw [hr, hxN]; simp
    · rw [hcf, hx]; simp
  · show (cellsFrom (C + 1) scope.names [(x, a)]).lookup x = _
    rw [hcf]; simp

local macro_rules | `(tactic| walk_at "cl") => `(tactic| (intro env h; simp [closureFor, cellOf, h]))

def intL (r : Nat → Int) : List V := (List.range 4).map fun q => .int (r q)
theorem intL_get {r : Nat → Int} {j : Nat} (h : j < 4) : (intL r)[j]? = some (.int (r j)) := by simp [intL, h]

theorem sp_m_of {c : Cx} (W : Fa c) {n k j : Nat} {mu : List (List V)} {ids : List V} {r : Nat → Nat} {p : Nat → Nat → Int} (hk : 0 < k) (hk12 : k ≤ 12) (hj : mu[j]? = some ids) (hl : ids.length = 4) (hi : ∀ i, i < 4 → ids[i]? = some (.mu (r i)))
    (hr : ∀ i, i < 4 → mu[r i]? = some (intL (p i))) (hp : ∀ i q, i < 4 → q < 4 → (p i q).natAbs < 2 ^ 60) (hb : ∀ xs ∈ mu, V.bels mu.length xs = true) :
    Sp c (n + 3) "m_of" [.mu j, .int k] mu (rowsV k 4 4 p) mu := by
  have hB := W.b
  refine Sp.introC 25 ["rows", "w"] (v := rowsV k 4 4 p) (σ' := ⟨[], mu⟩) [("rows", .local), ("w", .cell)] W (by decide) rfl rfl rfl (by decide) ?_ ?_
    (fun _ _ _ _ _ => bA2 rfl fun _ _ => rfl) ⟨rfl, rfl, rfl⟩ (fun F L hF hcells hwc => ?_)
    (Fz.refl (rowsV_bel _)) (List.take_of_length_le (Nat.le_refl _)) rfl hb
  · intro x hx
    rcases List.mem_cons.mp hx with rfl | hx
    · exact .inl rfl
    · rw [List.mem_singleton.mp hx]; exact .inr ⟨rfl, fun _ => rfl⟩
  · intro L p hp
    rw [List.mem_singleton.mp (show p ∈ [(("w" : Str), L + 1)] from hp)]; rfl
  have hx : F.env.cells.lookup ("w" : Str) = some (L + 1) := by rw [hcells]; rfl
  apply Exs.cut
  · apply Exs.ret
    apply Ex.ret
    apply Ev.compC (k := 4) "w" (fun _ => mu) [(".0", .local), ("row", .local), ("w", .cell)] hF hx rfl rfl (X := fun i => .mu (r i)) (Yv := fun i => rowV k 4 (p i)) (ys := rowsL k 4 4 p) (T := fun i => ⟨[("row", .mu (r i)), ("w", .int k)], mu⟩)
    · walk_at "cl"
    · exact fun _ _ => rfl
    · rfl
    · decide
    · exact fun _ _ => rfl
    · intro env h1 h2
      simp only [relabel, List.map_cons, List.map_nil, h1, h2]; rfl
    · rfl
    · apply Mk.listC (o := .mu j) (xs := ids)
      · walk_at "ev"
      · exact fun _ _ => hj
      · exact hl
      · exact hi
      · exact fun _ _ => rfl
    · exact rowsL_length
    · exact fun i hi => rowsL_get hi
    · decide
    · intro i hi4 F' hF' hx'
      refine ⟨Asg.nloc hF' rfl, ?_⟩
      apply Ev.compC (k := 4) "w" (fun _ => mu) [(".0", .local), ("one", .local), ("s_of", .globalImplicit), ("w", .cell)] hF' hx' rfl rfl (X := fun q => .int (p i q)) (Yv := fun q => SV k (p i q)) (ys := rowL k 4 (p i)) (T := fun q => ⟨[("one", .int (p i q)), ("w", .int k)], mu⟩)
      · walk_at "cl"
      · exact fun _ _ => rfl
      · rfl
      · decide
      · exact fun _ _ => rfl
      · intro env h1 h2
        simp only [relabel, List.map_cons, List.map_nil, h1, h2]; rfl
      · rfl
      · apply Mk.listC (o := .mu (r i)) (xs := intL (p i))
        · walk_at "ev"
        · exact fun _ _ => hr i hi4
        · rfl
        · exact fun q hq => intL_get hq
        · exact fun _ _ => rfl
      · exact rowL_length
      · exact fun q hq => rowL_get hq
      · decide
      · intro q hq F' hF' hx'
        refine ⟨Asg.nloc hF' rfl, ?_⟩
        apply Ev.spP hF' rfl (sp_s_of (n := n) W (z := p i q) hk hk12 (hp i q hi4 hq))
        all_goals walk_at "ev"
  · rfl
  · nofun

theorem sp_m_turned {c : Cx} (W : Fa c) {n k : Nat} {m : Nat → Nat → Int} (hk : 0 < k) :
    Sp c (n + 1) "m_turned" [rowsV k 4 4 m] [] (rowsV k 4 4 fun i j => m j i) [] := by
  have hB := W.b
  refine Sp.introC 26 ["a"] (v := rowsV k 4 4 fun i j => m j i) (σ' := ⟨[], []⟩) [("a", .cell), ("len", .globalImplicit), ("range", .globalImplicit)] W (by decide) rfl rfl rfl (by decide) ?_ ?_
    (fun _ _ _ _ _ => bA1 rfl fun _ => rfl) ⟨rfl, rfl, rfl⟩ (fun F L hF hcells hwc => ?_)
    (Fz.refl (rowsV_bel _)) rfl rfl nofun
  · intro x hx
    rw [List.mem_singleton.mp hx]; exact .inr ⟨rfl, fun _ => rfl⟩
  · intro L p hp
    rw [List.mem_singleton.mp (show p ∈ [(("a" : Str), L + 1)] from hp)]; rfl
  have hx : F.env.cells.lookup ("a" : Str) = some (L + 1) := by rw [hcells]; rfl
  have g0 : (rowsL k 4 4 m)[((0 : Int)).toNat]? = some (rowV k 4 (m 0)) := rfl
  refine Exs.at (τ := ⟨[("a", rowsV k 4 4 m)], []⟩) rfl (by walk_at "lk") ?_
  apply Exs.cut
  · apply Exs.ret
    apply Ex.ret
    apply Ev.iteT
    · apply Tst.is
      · walk_at "ev"
      · rw [rowsL_length]; rfl
    · refine Ev.comp (lo := [("a", rowsV k 4 4 m)]) (cl := [("a", L + 1)]) (k := 4) (mus := fun _ => []) (X := fun i => .int (i : Int)) (Yv := fun i => rowV k 4 (fun j => m j i)) (ys := rowsL k 4 4 fun i j => m j i)
        (T := fun i => ⟨[("at", .int (i : Int)), ("a", rowsV k 4 4 m)], []⟩) (U := fun i => ⟨[("at", .int (i : Int)), ("a", rowsV k 4 4 m)], []⟩) [("a", rowsV k 4 4 m)] ?_ ?_ rfl (by decide) (fun _ => rfl) ?_ ?_ rowsL_length (fun i hi => rowsL_get hi) (by decide) ?_ (fun _ _ => rfl)
      · apply Mk.range1C hF hB
        all_goals walk_at "ev"
      · simp [closureFor, cellOf, hx]
      · intro p hp; rw [List.mem_singleton.mp hp]; exact hx
      · intro C p hp
        rw [List.mem_singleton.mp hp]
        refine ⟨rfl, by rw [hF.of rfl]; simp, ?_, ?_⟩
        · show (relabel _ F.env).names.lookup ("a" : Str) ≠ _
          simp only [relabel, List.map_cons, List.map_nil, hF.kind, hF.of (x := "a") (k := .cell) rfl]
          exact fun h => by
            have : (some NameKind.cell) = some NameKind.local := h
            cases this
        · rw [hx]; rfl
      · intro i hi C Y' hdis
        have hne : C + 1 ≠ L + 1 := fun e => hdis ("a" : Str) (L + 1) hx (by rw [← e]; exact List.mem_cons_of_mem _ (by exact List.mem_singleton.mpr rfl))
        have hF1 : FrS (F.comp { kind := .function, names := [(".0", .local), ("at", .cell), ("a", .free)], isGenerator := false, isCoroutine := false } [("a", L + 1)] C Y') [(".0", .local), ("at", .cell), ("a", .cell)] := by
          refine hF.comp rfl ?_
          simp only [relabel, List.map_cons, List.map_nil, hF.kind, hF.of (x := "a") (k := .cell) rfl]; rfl
        refine ⟨Asg.cell (cx := C + 1) (hF1.of rfl) rfl rfl (by exact List.mem_singleton.mpr rfl) ?_, ?_⟩
        · show List.Pairwise _ [(("at" : Str), C + 1), (("a" : Str), L + 1)]
          refine List.Pairwise.cons (fun p hp => ?_) (List.Pairwise.cons nofun .nil)
          rw [List.mem_singleton.mp hp]; exact hne
        · apply Ev.compC (k := 4) "at" (a := C + 1) (fun _ => []) [(".0", .local), ("row", .local), ("at", .cell)] hF1 rfl rfl rfl (X := fun j => rowV k 4 (m j)) (Yv := fun j => SV k (m j i)) (ys := rowL k 4 fun j => m j i) (T := fun j => ⟨[("row", rowV k 4 (m j)), ("at", .int (i : Int))], []⟩)
          · walk_at "cl"
          · exact fun _ _ => rfl
          · rfl
          · decide
          · exact fun _ _ => rfl
          · intro env h1 h2
            simp only [relabel, List.map_cons, List.map_nil, h1, h2]; rfl
          · rfl
          · apply Mk.listC (o := rowsV k 4 4 m) (xs := rowsL k 4 4 m)
            · walk_at "ev"
            · exact fun _ _ => rfl
            · exact rowsL_length
            · exact fun i hi => rowsL_get hi
            · exact fun _ _ => rfl
          · exact rowL_length
          · exact fun i hi => rowL_get hi
          · decide
          · intro j hj F' hF' hx'
            refine ⟨Asg.nloc hF' rfl, ?_⟩
            have g : (rowL k 4 (m j))[((i : Nat) : Int).toNat]? = some (SV k (m j i)) := rowL_getC hi
            walk_at "ev"
  · rfl
  · nofun

-- Pr18
theorem Ev.sliceRaw {c : Cx} {F : Fm} {n : Nat} {σ : St} {value u : Expr} {p p' : Pos} {a : Addr} {vs : List Value} {xs : List V} {k : Nat} (hv : Ev c F n value σ (.raw (.ref a)) σ) (hu : Ev c F n u σ (.int (k : Int)) σ) (hH : c.H0.IsList a vs.toArray)
    (hx : VRs [] [] c.H0 xs vs) (hl : xs.length ≤ sizeLine) : Ev c F n (.Subscript value (.Slice none (some u) none p') p) σ (.lst (xs.take k)) σ := fun A as s E ok I => by
  refine Subscript_ (wpAny_mono (hv A as s E ok I) (fun v1 s1 ⟨as1, I1, q1, S1⟩ => ?_) fun _ _ x => x)
  refine wpAny_Slice (wpAny_pure (wpAny_mono (hu A as1 s1 E ok I1) (fun v s3 ⟨as3, I3, q3, S3⟩ => ?_) fun _ _ x => x))
  cases q1 with
  | raw _ =>
    cases q3 with
    | int _ t =>
      refine wpAny_pure ?_
      obtain ⟨o, e1, e2, e3⟩ := hH
      have e' : (s3.heap.push { cls := .type "slice", data := .fields #[Value.none, .int (k : Int) t, Value.none] }).IsList a vs.toArray := ⟨o, Heap.get?_push_of_some _ (I3.base _ _ e1), e2, e3⟩
      have r : VRs (F.vol as3) as3 s3.heap xs vs := hx.mono (fun a o _ e => I3.base a o e) (fun a m => .inr (I3.off a m)) (fun i a e => by simp at e)
      refine sub_tail e'.typeIs slot_list_getitem.lookup (wpAny_getItem_list_slice e' (Heap.IsSliceOf.new ..) .none (.int _ _) .none (by simp) ?_ (by simpa [← r.length] using hl)) ⟨_, rfl⟩
      have hn := Heap.get?_push_size (s3.heap.push { cls := .type "slice", data := .fields #[Value.none, .int (k : Int) t, Value.none] }) (o := { cls := .type "list", data := .seq (slicePick vs.toArray none (some (k : Int)) none) }) rfl
      rw [slicePick_upto'] at hn
      exact Out.lst I3 (S1.trans S3) (r.take k) rfl _ _ push2_keeps push2_none (by rw [slicePick_upto']; exact hn)

abbrev lawN : List (Str × NameKind) := [("script", .local), ("yard", .local), ("row", .local), ("w", .cell), ("plain", .local), ("at", .local), ("grid", .local), ("total", .local), ("dues", .local), ("size", .cell), ("turn", .local), ("source", .local), ("target", .local), ("many", .cell), ("_law_next", .globalImplicit), ("range", .globalImplicit), ("m_of", .globalImplicit), ("_law_pairings", .globalImplicit), ("det_bareiss", .globalImplicit), ("mul_school", .globalImplicit), ("divrem_school", .globalImplicit), ("_law_signed", .globalImplicit), ("_law_put", .globalImplicit), ("zip", .globalImplicit), ("m_turned", .globalImplicit)]
/-- the frame of the law -/
structure LF (F : Fm) (L : Addr) : Prop where
  fr : FrS F lawN
  cells : F.env.cells = [(("many" : Str), L + 3), (("size" : Str), L + 2), (("w" : Str), L + 1)]
  wc : F.wc = [L + 3, L + 2, L + 1]
def lawSt (i : Nat) : Stmt := (defBody (theDef 47)).getD i (.Pass default)
theorem LF.of {F F' : Fm} {L : Addr} (h : LF F L) (hF' : FrS F' lawN) (he : F'.env = F.env) (hw : F'.wc = F.wc) : LF F' L := ⟨hF', he ▸ h.cells, hw ▸ h.wc⟩
theorem LF.apart {F : Fm} {L : Addr} (h : LF F L) : F.env.cells.Pairwise fun x y => x.2 ≠ y.2 := by
  rw [h.cells]; simp
theorem LF.many {c : Cx} {F : Fm} {L : Addr} {n : Nat} {σ : St} {p : Pos} {v : V} (h : LF F L) : Asg c F n (.Name "many" p) v σ ⟨("many", v) :: σ.loc, σ.mu⟩ :=
  Asg.cell (cx := L + 3) (h.fr.of rfl) h.fr.kind (by rw [h.cells]; rfl) (by rw [h.wc]; simp) h.apart
theorem LF.size {c : Cx} {F : Fm} {L : Addr} {n : Nat} {σ : St} {p : Pos} {v : V} (h : LF F L) : Asg c F n (.Name "size" p) v σ ⟨("size", v) :: σ.loc, σ.mu⟩ :=
  Asg.cell (cx := L + 2) (h.fr.of rfl) h.fr.kind (by rw [h.cells]; rfl) (by rw [h.wc]; simp) h.apart
theorem LF.w {c : Cx} {F : Fm} {L : Addr} {n : Nat} {σ : St} {p : Pos} {v : V} (h : LF F L) : Asg c F n (.Name "w" p) v σ ⟨("w", v) :: σ.loc, σ.mu⟩ :=
  Asg.cell (cx := L + 1) (h.fr.of rfl) h.fr.kind (by rw [h.cells]; rfl) (by rw [h.wc]; simp) h.apart

def poles (ns : List Int) : List Nat := (ns.take 13).map Int.natAbs
def z4 : List V := intL fun _ => 0
theorem law_0 {c : Cx} {n : Nat} {F : Fm} {L a : Addr} {vs : List Value} {ns : List Int} (W : Fa c) (hF : LF F L) (hH : c.H0.IsList a vs.toArray) (hx : VRs [] [] c.H0 (ns.map V.int) vs) (hl : ns.length ≤ 1000) {ts : List Stmt} {f : Fl} {σ2 : St}
    (next : Exs c F n ts ⟨[("yard", .mu 0)], [yd 0 (poles ns)]⟩ f σ2) : Exs c F n (lawSt 0 :: ts) ⟨[("script", .raw (.ref a))], []⟩ f σ2 := by
  have hB := W.b
  have hFF := hF.fr
  apply Exs.cons
  · apply Ex.nassign hFF
    · apply Ev.listMu
      · apply Evs.cons
        · walk_at "ev"
        · apply Evs.cons
          · apply Ev.compN [(".0", .local), ("pole", .local), ("abs", .globalImplicit), ("int", .globalImplicit)] hFF (k := (poles ns).length) (X := fun i => .int ((ns.take 13).getD i 0)) (Yv := fun i => .int (((ns.take 13).getD i 0).natAbs : Nat)) (T := fun i => ⟨[("pole", .int ((ns.take 13).getD i 0))], []⟩)
            · apply Mk.listC (o := .lst ((ns.map V.int).take 13)) (xs := (ns.map V.int).take 13)
              · apply Ev.sliceRaw (k := 13) _ _ hH hx
                · simp; exact Nat.le_trans hl (by decide)
                · walk_at "ev"
                · exact Ev.int
              · exact fun _ _ => rfl
              · simp [poles]
              · intro i hi
                have : i < (ns.take 13).length := by simpa [poles] using hi
                rw [← List.map_take, List.getElem?_map, List.getD_eq_getElem?_getD, List.getElem?_eq_getElem this]; rfl
              · exact fun _ _ => rfl
            · rfl
            · rfl
            · decide
            · exact fun _ => rfl
            · rfl
            · rw [nats_length]
            · intro i hi
              have : i < (ns.take 13).length := by simpa [poles] using hi
              refine nats_get ?_
              rw [poles, List.getElem?_map, List.getD_eq_getElem?_getD, List.getElem?_eq_getElem this]; rfl
            · have : (ns.take 13).length ≤ 13 := by simp; omega
              simp [poles]; omega
            · intro i hi F' hF'
              refine ⟨Asg.nloc hF' rfl, ?_⟩
              walk_at "ev"
          all_goals walk_at "ev"
        · walk_at "ev"
      · walk_at "ev"
    all_goals walk_at "ev"
  refine Exs.at ?_ ?_ next
  · rfl
  · walk_at "lk"

-- Pr19
mutual
theorem V.lay : ∀ x : V, x.flat = true → x.data.canLay0 = true
  | .int _, _ => rfl
  | .raw v, h => by cases v <;> first | rfl | (simp [V.flat] at h; done)
  | .tup xs, h => by
    simp only [V.data, PyData.canLay0]; exact V.lays xs (by simpa only [V.flat] using h)
  | .lst xs, h => by
    simp only [V.data, PyData.canLay0]; exact V.lays xs (by simpa only [V.flat] using h)
  | .mu _, h => by simp [V.flat] at h
theorem V.lays : ∀ xs : List V, V.flats xs = true → PyData.canLayAll0 (V.datas xs) = true
  | [], _ => rfl
  | x :: r, h => by
    simp only [V.flats, Bool.and_eq_true] at h
    simp only [V.datas, PyData.canLayAll0, V.lay x h.1, V.lays r h.2, Bool.and_self]
end
theorem flats_of : ∀ {xs : List V}, (∀ x ∈ xs, x.flat = true) → V.flats xs = true
  | [], _ => rfl
  | x :: r, h => by
    simp only [V.flats, Bool.and_eq_true]
    exact ⟨h x List.mem_cons_self, flats_of fun y m => h y (List.mem_cons_of_mem _ m)⟩
theorem depth_of {d : Nat} : ∀ {xs : List V}, (∀ x ∈ xs, x.data.depth ≤ d) → PyData.depthAll (V.datas xs) ≤ d
  | [], _ => Nat.zero_le _
  | x :: r, h => by
    simp only [V.datas, PyData.depthAll]
    exact Nat.max_le.mpr ⟨h x List.mem_cons_self, depth_of fun y m => h y (List.mem_cons_of_mem _ m)⟩
/-- a value may be compared with itself -/
structure Plainly (d : Nat) (x : V) : Prop where
  flat : x.flat = true
  depth : x.data.depth ≤ d
theorem Plainly.ne {d : Nat} {x : V} (h : Plainly d x) (hd : d ≤ 64) : CmpV .NotEq x x false := by
  have hs : SeqAt.shaped x.data = true := by
    unfold SeqAt.shaped
    rw [V.lay x h.flat, decide_eq_true (Nat.le_trans h.depth hd)]; rfl
  have := CmpV.ned h.flat h.flat hs hs
  rwa [SeqAt.eqv_refl _ (V.lay x h.flat)] at this
theorem Plainly.lst {d : Nat} {xs : List V} (h : ∀ x ∈ xs, Plainly d x) : Plainly (d + 1) (.lst xs) :=
  ⟨by simp only [V.flat]; exact flats_of fun x m => (h x m).flat, by simp only [V.data, PyData.depth]; exact Nat.succ_le_succ (depth_of fun x m => (h x m).depth)⟩
theorem Plainly.tup {d : Nat} {xs : List V} (h : ∀ x ∈ xs, Plainly d x) : Plainly (d + 1) (.tup xs) :=
  ⟨by simp only [V.flat]; exact flats_of fun x m => (h x m).flat, by simp only [V.data, PyData.depth]; exact Nat.succ_le_succ (depth_of fun x m => (h x m).depth)⟩
theorem Plainly.mono {d e : Nat} {x : V} (h : Plainly d x) (hde : d ≤ e) : Plainly e x := ⟨h.flat, Nat.le_trans h.depth hde⟩
theorem plain_LV (k N : Nat) : Plainly 1 (LV k N) := .lst fun x m => by
  obtain ⟨a, _, rfl⟩ := List.mem_map.mp m
  exact ⟨rfl, Nat.le_refl _⟩
theorem plain_SV (k : Nat) (z : Int) : Plainly 2 (SV k z) := .tup fun x m => by
  rcases List.mem_cons.mp m with rfl | m
  · exact ⟨rfl, Nat.zero_le _⟩
  · rw [List.mem_singleton.mp m]; exact plain_LV _ _
theorem plain_rowV (k s : Nat) (r : Nat → Int) : Plainly 3 (rowV k s r) := .lst fun x m => by
  obtain ⟨a, _, rfl⟩ := List.mem_map.mp m
  exact plain_SV _ _
theorem plain_rowsV (k s t : Nat) (m : Nat → Nat → Int) : Plainly 4 (rowsV k s t m) := .lst fun x h => by
  obtain ⟨a, _, rfl⟩ := List.mem_map.mp h
  exact plain_rowV _ _ _

-- Pr20
theorem Mk.ext {c : Cx} {F : Fm} {n : Nat} {iter tgt : Expr} {σ : St} {S : Nat → St} {k : Nat} {X X' : Nat → V} (h : Mk c F n iter tgt σ S k X) (e : ∀ i, X i = X' i) : Mk c F n iter tgt σ S k X' := (funext e : X = X') ▸ h

/-- the lists of the law: the yard, four rows, the list of the rows -/
def lawMu (pt : Nat) (ps : List Nat) (M : Nat → Nat → Int) : List (List V) := [yd pt ps, intL (M 0), intL (M 1), intL (M 2), intL (M 3), [.mu 1, .mu 2, .mu 3, .mu 4]]
theorem lawMu_get {pt t : Nat} {ps : List Nat} {M : Nat → Nat → Int} (h : t < 4) : (lawMu pt ps M)[t + 1]? = some (intL (M t)) := by
  rcases lt4 h with rfl | rfl | rfl | rfl <;> rfl
theorem lawIds_get {t : Nat} (h : t < 4) : [V.mu 1, V.mu 2, V.mu 3, V.mu 4][((t : Nat) : Int).toNat]? = some (.mu (t + 1)) := by
  rcases lt4 h with rfl | rfl | rfl | rfl <;> rfl
theorem lawMu_set {pt t : Nat} {ps : List Nat} {M : Nat → Nat → Int} {r : Nat → Int} (h : t < 4) : (lawMu pt ps M).set (t + 1) (intL r) = lawMu pt ps (fun i => if i = t then r else M i) := by
  rcases lt4 h with rfl | rfl | rfl | rfl <;> rfl
theorem intL_set {j : Nat} {r : Nat → Int} {z : Int} (h : j < 4) : (intL r).set j (.int z) = intL (fun x => if x = j then z else r x) := by
  rcases lt4 h with rfl | rfl | rfl | rfl <;> rfl
theorem intL_length {r : Nat → Int} : (intL r).length = 4 := rfl
theorem intL_ext {r r' : Nat → Int} (h : ∀ j, j < 4 → r j = r' j) : intL r = intL r' := by
  unfold intL; exact List.map_congr_left fun j hj => by rw [h j (List.mem_range.mp hj)]
theorem intL_bel {r : Nat → Int} (n : Nat) : V.bels n (intL r) = true := rfl
theorem lawMu_ext {pt : Nat} {ps : List Nat} {M M' : Nat → Nat → Int} (h : ∀ i, i < 4 → ∀ j, j < 4 → M i j = M' i j) : lawMu pt ps M = lawMu pt ps M' := by
  unfold lawMu
  rw [intL_ext (h 0 (by decide)), intL_ext (h 1 (by decide)), intL_ext (h 2 (by decide)), intL_ext (h 3 (by decide))]
theorem yd_bel (n p : Nat) (ps : List Nat) : V.bels n (yd p ps) = true := by simp only [yd, V.bels, V.bel, nats_bel, Bool.and_self]
theorem lawMu_bel {pt : Nat} {ps : List Nat} {M : Nat → Nat → Int} : ∀ xs ∈ lawMu pt ps M, V.bels (lawMu pt ps M).length xs = true := fun xs h => by
  unfold lawMu at h
  simp only [List.mem_cons, List.not_mem_nil, or_false] at h
  rcases h with rfl | rfl | rfl | rfl | rfl | rfl
  · exact yd_bel _ _ _
  all_goals rfl
theorem lawRest_bel {M : Nat → Nat → Int} : ∀ xs ∈ [intL (M 0), intL (M 1), intL (M 2), intL (M 3), [V.mu 1, .mu 2, .mu 3, .mu 4]], V.bels ([intL (M 0), intL (M 1), intL (M 2), intL (M 3), [V.mu 1, .mu 2, .mu 3, .mu 4]].length + 1) xs = true := fun xs h => by
  simp only [List.mem_cons, List.not_mem_nil, or_false] at h
  rcases h with rfl | rfl | rfl | rfl | rfl <;> rfl

def kOf (ps : List Nat) : Nat := 8 + nxt ps 0 5
theorem kOf_le (ps : List Nat) : kOf ps ≤ 12 := by have := nxt_lt (ps := ps) (p := 0) (many := 5) (by decide); unfold kOf; omega
theorem kOf_ge (ps : List Nat) : 8 ≤ kOf ps := by unfold kOf; omega

theorem law_1 {c : Cx} {n : Nat} {F : Fm} {L : Addr} {ps : List Nat} (W : Fa c) (hF : LF F L) (hps : ps.length ≤ 1000) {ts : List Stmt} {f : Fl} {σ2 : St}
    (next : Exs c F (n + 1) ts ⟨[("yard", .mu 0), ("w", .int (kOf ps : Nat)), ("plain", .mu 5)], lawMu 1 ps fun _ _ => 0⟩ f σ2) : Exs c F (n + 1) (lawSt 1 :: ts) ⟨[("yard", .mu 0)], [yd 0 ps]⟩ f σ2 := by
  have hB := W.b
  have hFF := hF.fr
  apply Exs.cons
  · apply Ex.assignT
    · apply Ev.tuple
      · apply Evs.cons
        · apply Ev.binop
          · walk_at "ev"
          · apply Ev.sp hFF rfl (sp_law_next (n := n) (p := 0) (many := 5) (ps := ps) (rest := []) W (by decide) (by decide) hps nofun)
            · apply Evs.cons
              · walk_at "ev"
              · apply Evs.cons
                · exact Ev.is (v' := .int ((5 : Nat) : Int)) Ev.int rfl
                all_goals walk_at "ev"
              · walk_at "ev"
            all_goals walk_at "ev"
          · exact IntOp.add _ _
        · apply Evs.cons
          · apply Ev.compMuG (fun i => [yd 1 ps, z4, z4, z4, z4].take (i + 1)) [(".0", .local), ("row", .local)] hFF (k := 4) (X := fun i => .int (i : Int)) (Yv := fun i => .mu (i + 1)) (ys := [.mu 1, .mu 2, .mu 3, .mu 4]) (T := fun i => ⟨[("row", .int (i : Int))], [yd 1 ps, z4, z4, z4, z4].take (i + 1)⟩)
            · apply Mk.range1C hFF hB (a := 4)
              · rfl
              · exact Ev.int
              · rfl
              all_goals walk_at "ev"
            · rfl
            · rfl
            · decide
            · exact fun _ => rfl
            · rfl
            · rfl
            · intro i hi; rcases lt4 hi with rfl | rfl | rfl | rfl <;> rfl
            · decide
            · intro i hi F' hF'
              refine ⟨Asg.nloc hF' rfl, ?_⟩
              rcases lt4 hi with rfl | rfl | rfl | rfl <;>
                (apply Ev.replMu (k := 4) (v := .int 0); exact Ev.int; exact Ev.is (v' := .int ((4 : Nat) : Int)) Ev.int rfl; decide; rfl)
          all_goals walk_at "ev"
        · walk_at "ev"
      · walk_at "ev"
    · exact Asg.tuple (AsgL.cons (hF.w) (AsgL.cons (Asg.nloc hFF rfl) AsgL.nil rfl) rfl) rfl rfl
    · rfl
    · have hbk : F.env.blockKind = .function := by unfold Env.blockKind; rw [hFF.kind]; rfl
      simp only [swappedStores, hbk, List.filterMap_cons, List.filterMap_nil, hFF.of (x := "w") (k := .cell) rfl, hFF.of (x := "plain") (k := .local) rfl]; rfl
  refine Exs.at ?_ ?_ next
  · rfl
  · walk_at "lk"

-- Pr21
def bs : Nat → Nat
  | 0 => 1
  | 1 => 4
  | 2 => 6
  | _ => 7
def lv (ps : List Nat) (p q : Nat) : Int := ((nxt ps (bs p + (q - p - 1)) 9 : Nat) : Int) - 4
theorem lv_bound (ps : List Nat) (p q : Nat) : (lv ps p q).natAbs ≤ 4 := by
  have := nxt_lt (ps := ps) (p := bs p + (q - p - 1)) (many := 9) (by decide)
  unfold lv; omega
def fillM (v : Nat → Nat → Int) (r e : Nat) : Nat → Nat → Int := fun p q =>
  if p < q ∧ (p < r ∨ (p = r ∧ q < r + 1 + e)) then v p q else if q < p ∧ (q < r ∨ (q = r ∧ p < r + 1 + e)) then 0 - v q p else 0
/-- the skew grid that the script gives -/
def lawM (ps : List Nat) : Nat → Nat → Int := fillM (lv ps) 4 0
abbrev lawLoc (ps : List Nat) : List (Str × V) := [("yard", .mu 0), ("w", .int (kOf ps : Nat)), ("plain", .mu 5)]

theorem fill_step {v : Nat → Nat → Int} {r e : Nat} (hr : r < 4) (he : e < 3 - r) : ∀ i, i < 4 → ∀ j, j < 4 →
    (if i = r + 1 + e then (fun x => if x = r then 0 - v r (r + 1 + e) else fillM v r e (r + 1 + e) x) else (if i = r then (fun x => if x = r + 1 + e then v r (r + 1 + e) else fillM v r e r x) else fillM v r e i)) j = fillM v r (e + 1) i j := by
  have hre : (r = 0 ∧ e = 0) ∨ (r = 0 ∧ e = 1) ∨ (r = 0 ∧ e = 2) ∨ (r = 1 ∧ e = 0) ∨ (r = 1 ∧ e = 1) ∨ (r = 2 ∧ e = 0) := by omega
  intro i hi j hj
  rcases hre with ⟨rfl, rfl⟩ | ⟨rfl, rfl⟩ | ⟨rfl, rfl⟩ | ⟨rfl, rfl⟩ | ⟨rfl, rfl⟩ | ⟨rfl, rfl⟩ <;> rcases lt4 hi with rfl | rfl | rfl | rfl <;> rcases lt4 hj with rfl | rfl | rfl | rfl <;> rfl
theorem fill_next {v : Nat → Nat → Int} {r : Nat} (hr : r < 4) : ∀ i, i < 4 → ∀ j, j < 4 → fillM v r (3 - r) i j = fillM v (r + 1) 0 i j := by
  intro i hi j hj
  rcases lt4 hr with rfl | rfl | rfl | rfl <;> rcases lt4 hi with rfl | rfl | rfl | rfl <;> rcases lt4 hj with rfl | rfl | rfl | rfl <;> rfl

theorem law_2 {c : Cx} {n : Nat} {F : Fm} {L : Addr} {ps : List Nat} (W : Fa c) (hF : LF F L) (hps : ps.length ≤ 1000) {ts : List Stmt} {f : Fl} {σ2 : St}
    (next : Exs c F (n + 1) ts ⟨lawLoc ps, lawMu 7 ps (lawM ps)⟩ f σ2) : Exs c F (n + 1) (lawSt 2 :: ts) ⟨lawLoc ps, lawMu 1 ps fun _ _ => 0⟩ f σ2 := by
  have hB := W.b
  have hFF := hF.fr
  refine Exs.at (τ := ⟨lawLoc ps, lawMu (bs 0) ps (fillM (lv ps) 0 0)⟩) ?_ (by walk_at "lk") ?_
  · exact lawMu_ext (M' := fillM (lv ps) 0 0) fun i hi j hj => by
      rcases lt4 hi with rfl | rfl | rfl | rfl <;> rcases lt4 hj with rfl | rfl | rfl | rfl <;> rfl
  apply Exs.cons
  · refine Ex.forN (fun r => ⟨lawLoc ps, lawMu (bs r) ps (fillM (lv ps) r 0)⟩) (fun r => ⟨("row", .int (r : Int)) :: lawLoc ps, lawMu (bs r) ps (fillM (lv ps) r 0)⟩) hFF (k := 4) (X := fun i => .int (i : Int)) ?_ (fun r hr F' hF' he hw => ⟨?_, ?_⟩) ?_
    · apply Mk.range1C hFF hB (a := 4)
      · rfl
      · exact Ev.int
      · rfl
      all_goals walk_at "ev"
    · exact Asg.nloc hF' rfl
    · apply Exs.cons
      · refine Ex.forN (fun e => ⟨("row", .int (r : Int)) :: lawLoc ps, lawMu (bs r + e) ps (fillM (lv ps) r e)⟩) (fun e => ⟨("at", .int ((r + 1 + e : Nat) : Int)) :: ("row", .int (r : Int)) :: lawLoc ps, lawMu (bs r + e) ps (fillM (lv ps) r e)⟩) hF' (k := 3 - r) (X := fun e => .int ((r + 1 + e : Nat) : Int)) ?_ (fun e he F' hF' _ _ => ⟨?_, ?_⟩) ?_
        · apply Mk.ext
          · apply Mk.range2C hF' hB (a' := ((r + 1 : Nat) : Int)) (a := (r : Int) + 1) (b := 4)
            · rfl
            · apply Ev.binop
              · walk_at "ev"
              · exact Ev.int
              · exact IntOp.add _ _
            · omega
            · exact Ev.int
            · omega
            · omega
            · omega
            · omega
            · omega
            all_goals walk_at "ev"
          · intro i; simp only [V.int.injEq]; omega
        · exact Asg.nloc hF' rfl
        · have hq : r + 1 + e < 4 := by omega
          have hbs : bs r + e < 1000 := by
            rcases lt4 hr with rfl | rfl | rfl | rfl <;> simp only [bs] <;> omega
          have hval : ((nxt ps (bs r + e) 9 : Nat) : Int) - 4 = lv ps r (r + 1 + e) := by unfold lv; rw [show r + 1 + e - r - 1 = e by omega]
          have i1 := lawIds_get hr
          have i2 := lawIds_get hq
          have r1 := lawMu_get (pt := bs r + e + 1) (ps := ps) (M := fillM (lv ps) r e) hr
          have hne : r + 1 + e ≠ r := by omega
          have r2 : (lawMu (bs r + e + 1) ps (fun i => if i = r then (fun x => if x = r + 1 + e then lv ps r (r + 1 + e) else fillM (lv ps) r e r x) else fillM (lv ps) r e i))[r + 1]? = some (intL (fun x => if x = r + 1 + e then lv ps r (r + 1 + e) else fillM (lv ps) r e r x)) := by
            rw [lawMu_get hr, if_pos rfl]
          have r3 : (lawMu (bs r + e + 1) ps (fun i => if i = r then (fun x => if x = r + 1 + e then lv ps r (r + 1 + e) else fillM (lv ps) r e r x) else fillM (lv ps) r e i))[r + 1 + e + 1]? = some (intL (fillM (lv ps) r e (r + 1 + e))) := by
            rw [lawMu_get hq, if_neg hne]
          have g : (intL (fun x => if x = r + 1 + e then lv ps r (r + 1 + e) else fillM (lv ps) r e r x))[((r + 1 + e : Nat) : Int).toNat]? = some (.int (lv ps r (r + 1 + e))) := by
            rw [show ((r + 1 + e : Nat) : Int).toNat = r + 1 + e from rfl, intL_get hq, if_pos rfl]
          apply Exs.cons
          · apply Ex.setItem
            · apply Ev.binop
              · apply Ev.sp hF' rfl (sp_law_next (n := n) (p := bs r + e) (many := 9) (ps := ps) (rest := [intL (fillM (lv ps) r e 0), intL (fillM (lv ps) r e 1), intL (fillM (lv ps) r e 2), intL (fillM (lv ps) r e 3), [.mu 1, .mu 2, .mu 3, .mu 4]]) W (by decide) hbs hps (lawRest_bel (M := fillM (lv ps) r e)))
                · apply Evs.cons
                  · walk_at "ev"
                  · apply Evs.cons
                    · exact Ev.is (v' := .int ((9 : Nat) : Int)) Ev.int rfl
                    all_goals walk_at "ev"
                  · walk_at "ev"
                all_goals walk_at "ev"
              · walk_at "ev"
              · exact IntOp.sub _ _
            · walk_at "ev"
            · walk_at "ev"
            · exact r1
            · walk_at "ev"
            · rw [intL_length]; omega
            all_goals walk_at "ev"
          refine Exs.at (τ := ⟨("at", .int ((r + 1 + e : Nat) : Int)) :: ("row", .int (r : Int)) :: lawLoc ps, lawMu (bs r + e + 1) ps (fun i => if i = r then (fun x => if x = r + 1 + e then lv ps r (r + 1 + e) else fillM (lv ps) r e r x) else fillM (lv ps) r e i)⟩) ?_ (by walk_at "lk") ?_
          · show (lawMu (bs r + e + 1) ps (fillM (lv ps) r e)).set (r + 1) ((intL (fillM (lv ps) r e r)).set (r + 1 + e) (.int _)) = _
            rw [hval, intL_set hq, lawMu_set hr]
          apply Exs.cons
          · apply Ex.setItem
            · apply Ev.binop
              · walk_at "ev"
              · apply Ev.sub (o := .mu (r + 1)) (xs := intL (fun x => if x = r + 1 + e then lv ps r (r + 1 + e) else fillM (lv ps) r e r x))
                · walk_at "ev"
                · walk_at "ev"
                · exact r2
                all_goals walk_at "ev"
              · exact IntOp.sub _ _
            · walk_at "ev"
            · walk_at "ev"
            · exact r3
            · walk_at "ev"
            · rw [intL_length]; omega
            all_goals walk_at "ev"
          refine Exs.fin ?_ ?_
          · show (lawMu (bs r + e + 1) ps (fun i => if i = r then (fun x => if x = r + 1 + e then lv ps r (r + 1 + e) else fillM (lv ps) r e r x) else fillM (lv ps) r e i)).set (r + 1 + e + 1) ((intL (fillM (lv ps) r e (r + 1 + e))).set r (.int _)) = _
            rw [intL_set hr, lawMu_set hq]
            exact lawMu_ext (fill_step hr he)
          · walk_at "lk"
        · walk_at "ev"
      refine Exs.fin ?_ ?_
      · have e1 : bs r + (3 - r) = bs (r + 1) := by rcases lt4 hr with rfl | rfl | rfl | rfl <;> rfl
        rw [e1]
        exact lawMu_ext (fill_next hr)
      · walk_at "lk"
    · walk_at "ev"
  refine Exs.at ?_ ?_ next
  · rfl
  · walk_at "lk"

-- Pr22
def pf (M : Nat → Nat → Int) : Int := M 0 1 * M 2 3 - M 0 2 * M 1 3 + M 0 3 * M 1 2
def du (M : Nat → Nat → Int) : List Int := [0, M 0 1 * M 0 1, 0, pf M * pf M]
theorem small_mul {a b : Int} {x y : Nat} (ha : a.natAbs ≤ x) (hb : b.natAbs ≤ y) : (a * b).natAbs ≤ x * y := by
  rw [Int.natAbs_mul]; exact Nat.mul_le_mul ha hb
theorem pf_bound {M : Nat → Nat → Int} {x : Nat} (h : ∀ i j, i < 4 → j < 4 → (M i j).natAbs ≤ x) : (pf M).natAbs ≤ 3 * (x * x) := by
  have h1 := small_mul (h 0 1 (by decide) (by decide)) (h 2 3 (by decide) (by decide))
  have h2 := small_mul (h 0 2 (by decide) (by decide)) (h 1 3 (by decide) (by decide))
  have h3 := small_mul (h 0 3 (by decide) (by decide)) (h 1 2 (by decide) (by decide))
  unfold pf; omega

abbrev loc3 (ps : List Nat) (M : Nat → Nat → Int) : List (Str × V) := ("grid", rowsV (kOf ps) 4 4 M) :: ("total", .int (pf M)) :: lawLoc ps
abbrev loc4 (ps : List Nat) (M : Nat → Nat → Int) : List (Str × V) := ("dues", .lst ((du M).map V.int)) :: loc3 ps M

theorem law_3 {c : Cx} {n : Nat} {F : Fm} {L : Addr} {ps : List Nat} {M : Nat → Nat → Int} (W : Fa c) (hF : LF F L) (hM : ∀ i j, i < 4 → j < 4 → (M i j).natAbs ≤ 4) {ts : List Stmt} {f : Fl} {σ2 : St}
    (next : Exs c F (n + 3) ts ⟨loc3 ps M, lawMu 7 ps M⟩ f σ2) : Exs c F (n + 3) (lawSt 3 :: ts) ⟨lawLoc ps, lawMu 7 ps M⟩ f σ2 := by
  have hB := W.b
  have hFF := hF.fr
  have hk1 := kOf_ge ps
  have hk2 := kOf_le ps
  have b1 := hM 0 1 (by decide) (by decide)
  have b2 := hM 0 2 (by decide) (by decide)
  have b3 := hM 0 3 (by decide) (by decide)
  apply Exs.cons
  · apply Ex.nassign2 hFF
    · apply Ev.tuple
      · apply Evs.cons
        · apply Ev.sp hFF rfl (sp_m_of (n := n) (k := kOf ps) (j := 5) (mu := lawMu 7 ps M) (ids := [.mu 1, .mu 2, .mu 3, .mu 4]) (r := fun i => i + 1) (p := M) W (by omega) hk2 rfl rfl (fun i hi => by rcases lt4 hi with rfl | rfl | rfl | rfl <;> rfl) (fun i hi => lawMu_get hi) (fun i j hi hj => by have := hM i j hi hj; omega) lawMu_bel)
          all_goals walk_at "ev"
        · apply Evs.cons
          · apply Ev.sp hFF rfl (sp_law_pairings (n := n + 2) (j := 5) (mu := lawMu 7 ps M) (r0 := 1) (r1 := 2) (r2 := 3) (r3 := 4) (x0 := intL (M 0)) (x1 := intL (M 1)) (x2 := intL (M 2)) (x3 := intL (M 3)) (a01 := M 0 1) (a23 := M 2 3) (a02 := M 0 2) (a13 := M 1 3) (a03 := M 0 3) (a12 := M 1 2) W rfl rfl rfl rfl rfl rfl rfl rfl rfl rfl (by omega) (by omega) (by omega) lawMu_bel)
            all_goals walk_at "ev"
          all_goals walk_at "ev"
        · walk_at "ev"
      · walk_at "ev"
    · rfl
    · rfl
    · walk_at "sw"
  refine Exs.at ?_ ?_ next
  · rfl
  · walk_at "lk"

theorem law_4 {c : Cx} {n : Nat} {F : Fm} {L : Addr} {ps : List Nat} {M : Nat → Nat → Int} (W : Fa c) (hF : LF F L) (hM : ∀ i j, i < 4 → j < 4 → (M i j).natAbs ≤ 4) {ts : List Stmt} {f : Fl} {σ2 : St}
    (next : Exs c F n ts ⟨loc4 ps M, lawMu 7 ps M⟩ f σ2) : Exs c F n (lawSt 4 :: ts) ⟨loc3 ps M, lawMu 7 ps M⟩ f σ2 := by
  have hB := W.b
  have hFF := hF.fr
  have b1 := hM 0 1 (by decide) (by decide)
  have b2 := pf_bound hM
  apply Exs.cons
  · apply Ex.nassign hFF
    · apply Ev.list (vs := [.int 0, .int (M 0 1 * M 0 1), .int 0, .int (pf M * pf M)])
      · apply Evs.cons
        · walk_at "ev"
        · apply Evs.cons
          · apply Ev.binop
            · apply Ev.sub (o := .mu 1) (xs := intL (M 0)) (k := 1)
              · apply Ev.sub (o := .mu 5) (xs := [.mu 1, .mu 2, .mu 3, .mu 4]) (k := 0)
                all_goals walk_at "ev"
              all_goals walk_at "ev"
            · exact Ev.int
            · exact IntOp.sq (a := M 0 1) (by omega)
          · apply Evs.cons
            · walk_at "ev"
            · apply Evs.cons
              · apply Ev.binop
                · walk_at "ev"
                · exact Ev.int
                · exact IntOp.sq (a := pf M) (by omega)
              all_goals walk_at "ev"
            · walk_at "ev"
          · walk_at "ev"
        · walk_at "ev"
      · walk_at "ev"
    all_goals walk_at "ev"
  refine Exs.at ?_ ?_ next
  · rfl
  · walk_at "lk"

-- Pr23
theorem rowL_take {k s t : Nat} {r : Nat → Int} (h : s ≤ t) : (rowL k t r).take s = rowL k s r := by
  unfold rowL; rw [← List.map_take, List.take_range, Nat.min_eq_left h]
theorem rowsL_take {k s t u : Nat} {m : Nat → Nat → Int} (h : s ≤ t) : (rowsL k u t m).take s = rowsL k u s m := by
  unfold rowsL; rw [← List.map_take, List.take_range, Nat.min_eq_left h]

/-- what the four determinants must come to, and what keeps the run of each small -/
structure Dets (k : Nat) (M : Nat → Nat → Int) : Prop where
  good : ∀ s, 1 ≤ s → s ≤ 4 → ∀ i, i < s → Good k s (bst s M i)
  last : ∀ s, 1 ≤ s → s ≤ 4 → ((bst s M s).m (s - 1) (s - 1)).natAbs < 2 ^ 60
  due : ∀ s, 1 ≤ s → s ≤ 4 → (du M)[s - 1]? = some (bdet s M)

theorem law_5 {c : Cx} {n : Nat} {F : Fm} {L : Addr} {ps : List Nat} {M : Nat → Nat → Int} {fm fd : Addr} (W : Fa c) (hF : LF F L) (hM : ∀ i j, i < 4 → j < 4 → (M i j).natAbs ≤ 4) (hD : Dets (kOf ps) M)
    (hg1 : c.mg (Str.ofString "mul_school") = some (.ref fm)) (hg2 : c.mg (Str.ofString "divrem_school") = some (.ref fd)) (hfm : MulF c (kOf ps) fm) (hfd : DivF c (kOf ps) fd) {ts : List Stmt} {f : Fl} {σ2 : St}
    (next : Exs c F (n + 9) ts ⟨loc3 ps M, lawMu 7 ps M⟩ f σ2) : Exs c F (n + 9) (lawSt 5 :: ts) ⟨loc4 ps M, lawMu 7 ps M⟩ f σ2 := by
  have hB := W.b
  have hFF := hF.fr
  have hk1 := kOf_ge ps
  have hk2 := kOf_le ps
  have b1 := hM 0 1 (by decide) (by decide)
  have b2 := pf_bound hM
  have b3 := small_mul b1 b1
  have b4 := small_mul b2 b2
  apply Exs.cons
  · refine Ex.forN (fun _ => ⟨loc4 ps M, lawMu 7 ps M⟩) (fun i => ⟨("size", .int ((1 + i : Nat) : Int)) :: loc4 ps M, lawMu 7 ps M⟩) hFF (k := 4) (X := fun i => .int ((1 + i : Nat) : Int)) ?_ (fun i hi F' hF' he hw => ⟨?_, ?_⟩) ?_
    · apply Mk.ext
      · apply Mk.range2C hFF hB (a' := 1) (a := 1) (b := 5)
        · rfl
        · exact Ev.int
        · rfl
        · exact Ev.int
        all_goals walk_at "ev"
      · intro i; simp only [V.int.injEq]; omega
    · exact (hF.of hF' he hw).size
    · have hL := hF.of hF' he hw
      have hx : F'.env.cells.lookup ("size" : Str) = some (L + 2) := by rw [hL.cells]; rfl
      have hdu := hD.due (1 + i) (by omega) (by omega)
      have hdb : (bdet (1 + i) M).natAbs < 2 ^ 60 := by
        rcases lt4 hi with rfl | rfl | rfl | rfl
        · have := Option.some.inj hdu; rw [← this]; decide
        · have := Option.some.inj hdu; rw [← this]; omega
        · have := Option.some.inj hdu; rw [← this]; decide
        · have := Option.some.inj hdu; rw [← this]; omega
      have gd : ((du M).map V.int)[(((1 + i : Nat) : Int) - 1).toNat]? = some (.int (bdet (1 + i) M)) := by
        rw [show (((1 + i : Nat) : Int) - 1).toNat = 1 + i - 1 by omega, List.getElem?_map, hdu]; rfl
      apply Exs.cons
      · apply Ex.ifF
        · apply Tst.is
          · apply Tst.cmpV (a := SV (kOf ps) (bdet (1 + i) M)) (b := SV (kOf ps) (bdet (1 + i) M)) (k := false)
            · apply Ev.spP hF' rfl (sp_det (n := n) (k := kOf ps) (s := 1 + i) (m := M) (fm := fm) (fd := fd) W (by omega) hk2 (by omega) (by omega) (hD.good _ (by omega) (by omega)) (hD.last _ (by omega) (by omega)) hfm hfd)
              · apply Evs.cons
                · apply Ev.compC (k := 1 + i) "size" (a := L + 2) (v := .int ((1 + i : Nat) : Int)) (fun _ => lawMu 7 ps M) [(".0", .local), ("row", .local), ("size", .cell)] hF' hx rfl rfl (X := fun q => rowV (kOf ps) 4 (M q)) (Yv := fun q => rowV (kOf ps) (1 + i) (M q)) (ys := rowsL (kOf ps) (1 + i) (1 + i) M) (T := fun q => ⟨[("row", rowV (kOf ps) 4 (M q)), ("size", .int ((1 + i : Nat) : Int))], lawMu 7 ps M⟩)
                  · walk_at "cl"
                  · exact fun _ _ => rfl
                  · rfl
                  · decide
                  · exact fun _ _ => rfl
                  · intro env h1 h2
                    simp only [relabel, List.map_cons, List.map_nil, h1, h2]; rfl
                  · rfl
                  · apply Mk.listC (o := rowsV (kOf ps) 4 (1 + i) M) (xs := rowsL (kOf ps) 4 (1 + i) M)
                    · apply Ev.is
                      · apply Ev.sliceTo (k := 1 + i) (o := rowsV (kOf ps) 4 4 M) (xs := rowsL (kOf ps) 4 4 M)
                        · walk_at "ev"
                        · walk_at "ev"
                        · rfl
                        · rw [rowsL_length]; decide
                      · rw [rowsL_take (by omega)]
                    · exact fun _ _ => rfl
                    · exact rowsL_length
                    · exact fun q hq => rowsL_get hq
                    · exact fun _ _ => rfl
                  · exact rowsL_length
                  · exact fun q hq => rowsL_get hq
                  · omega
                  · intro q hq F2 hF2 hx2
                    refine ⟨Asg.nloc hF2 rfl, ?_⟩
                    apply Ev.is
                    · apply Ev.sliceTo (k := 1 + i) (o := rowV (kOf ps) 4 (M q)) (xs := rowL (kOf ps) 4 (M q))
                      · walk_at "ev"
                      · walk_at "ev"
                      · rfl
                      · rw [rowL_length]; decide
                    · rw [rowL_take (by omega)]
                · walk_at "ev"
                · walk_at "ev"
              · simp only [V.bels, V.bel, rowsL_bel, Bool.and_self]
              all_goals walk_at "ev"
            · apply Ev.spP hF' rfl (sp_law_signed (n := n + 7) (k := kOf ps) (z := bdet (1 + i) M) W (by omega) hk2 hdb)
              · apply Evs.cons
                · apply Ev.sub (o := .lst ((du M).map V.int)) (xs := (du M).map V.int) (k := ((1 + i : Nat) : Int) - 1)
                  all_goals walk_at "ev"
                all_goals walk_at "ev"
              all_goals walk_at "ev"
            · exact (plain_SV _ _).ne (by decide)
            · rfl
          · rfl
        · exact Exs.nil
      exact Exs.fin rfl (by walk_at "lk")
    · walk_at "ev"
  refine Exs.at ?_ ?_ next
  · rfl
  · walk_at "lk"

-- Lg15
section
variable {c : Cx} {F : Fm} {n : Nat} {σ σ1 σ2 : St}
theorem Nx.zip {ts : List Expr} {tk : Nat} {tp : Pos} {z TI TO i1 i2 l1 l2 : Addr} {o1 o2 : V} {xs ys : List V} {k : Nat} {S : Nat → St} {Xa Xb : Nat → V} (D : ZipApart z TI TO i1 i2 l1 l2)
    (hS1 : ∀ i, i ≤ k → (S i).items o1 = some xs) (hS2 : ∀ i, i ≤ k → (S i).items o2 = some ys) (hl1 : xs.length = k) (hl2 : ys.length = k) (hX : ∀ i, i < k → xs[i]? = some (Xa i)) (hY : ∀ i, i < k → ys[i]? = some (Xb i)) :
    Nx c F n (.Tuple ts tk tp) (.ref z) [z, TI, TO, i1, i2] S k (fun i => .tup [Xa i, Xb i]) (fun Y i as h => IsZip h z TI TO .none ∧ IsPair h TI (.ref i1) (.ref i2) ∧ (∃ a b, IsPair h TO a b) ∧ h.IsListIter i1 l1 i ∧ h.IsListIter i2 l2 i ∧ VR ((F.at Y).vol as) as h o1 (.ref l1) ∧ VR ((F.at Y).vol as) as h o2 (.ref l2)) where
  live Y i as h j a m := by
    obtain ⟨hz, hTI, ⟨a', b', hTO⟩, ⟨_, e1, _⟩, ⟨_, e2, _⟩, _⟩ := j
    simp only [List.mem_cons, List.not_mem_nil, or_false] at m
    rcases m with rfl | rfl | rfl | rfl | rfl
    · exact ⟨_, hz⟩
    · exact ⟨_, hTI⟩
    · exact ⟨_, hTO⟩
    · exact ⟨_, e1⟩
    · exact ⟨_, e2⟩
  frame Y i as h as' h' j hv hf hp hk := by
    obtain ⟨hz, hTI, ⟨a', b', hTO⟩, q1, q2, v1, v2⟩ := j
    exact ⟨hk z (by simp) _ hz, hk TI (by simp) _ hTI, ⟨a', b', hk TO (by simp) _ hTO⟩, q1.at fun o e => hk i1 (by simp) o e, q2.at fun o e => hk i2 (by simp) o e, v1.frame hv hf hp, v2.frame hv hf hp⟩
  enl Y Y' i as h h' j hk hY := by
    obtain ⟨hz, hTI, ⟨a', b', hTO⟩, q1, q2, v1, v2⟩ := j
    exact ⟨hk z _ hz, hk TI _ hTI, ⟨a', b', hk TO _ hTO⟩, q1.at fun o e => hk i1 o e, q2.at fun o e => hk i2 o e, v1.enl hk hY, v2.enl hk hY⟩
  item Y i A as s E QN QS hYZ hi ok Iv j hQ := by
    obtain ⟨hz, hTI, ⟨a', b', hTO⟩, q1, q2, v1, v2⟩ := j
    obtain ⟨p1, vs1, m1, e1, e1', r1⟩ := Iv.items v1 (hS1 i (Nat.le_of_lt hi))
    obtain ⟨p2, vs2, m2, e2, e2', r2⟩ := Iv.items v2 (hS2 i (Nat.le_of_lt hi))
    cases e1
    cases e2
    obtain ⟨x, ex, qx⟩ := r1.get (hX i hi)
    obtain ⟨y, ey, qy⟩ := r2.get (hY i hi)
    refine wpAny_pyNext_zip_item D hz hTI hTO q1 q2 (is_list e1') (is_list e2') (by simpa using ex) (by simpa using ey) fun h1 b1 b2 b3 b4 b5 b6 bk => ?_
    refine wpAny_letOwnedTupleGo_zip b1 fun h2 hz2 hs2 => ?_
    have zlt : z < s.heap.objs.size := Heap.lt_size hz
    have nZ : ∀ {b : Addr}, b ∉ [z, TI, TO, i1, i2] → b ≠ z ∧ b ≠ TO ∧ b ≠ i1 ∧ b ≠ i2 := fun nb => by
      simp only [List.mem_cons, List.not_mem_nil, or_false, not_or] at nb
      exact ⟨nb.1, nb.2.2.1, nb.2.2.2.1, nb.2.2.2.2⟩
    have hk : ∀ a o, a ∉ [z, TI, TO, i1, i2] → s.heap.get? a = some o → h2.get? a = some o := fun b o nb x => hs2.extBut b o (nZ nb).1 (bk b o (nZ nb).1 (nZ nb).2.1 (nZ nb).2.2.1 (nZ nb).2.2.2 x)
    have ht2 : h2.get? s.heap.objs.size = some (tobj [x, y] 0) := (hs2.2 _ (Nat.ne_of_gt zlt)).trans b5
    exact hQ _ h2 _ ⟨hz2, hs2.extBut _ _ D.TIz (bk _ _ D.TIz D.TITO D.TIi1 D.TIi2 hTI), ⟨x, y, hs2.extBut _ _ D.TOz b2⟩, b3.extBut hs2.extBut D.i1z, b4.extBut hs2.extBut D.i2z, v1.turn hYZ hk, v2.turn hYZ hk⟩ hk
      (.tup (Iv.new_off (size_none _)) ht2 (.cons (qx.turn hYZ hk) (.cons (qy.turn hYZ hk) .nil)))
  done Y A as s E Q hYZ ok Iv j hQ := by
    obtain ⟨hz, hTI, ⟨a', b', hTO⟩, q1, q2, v1, v2⟩ := j
    obtain ⟨p1, vs1, m1, e1, e1', r1⟩ := Iv.items v1 (hS1 k (Nat.le_refl _))
    obtain ⟨p2, vs2, m2, e2, e2', r2⟩ := Iv.items v2 (hS2 k (Nat.le_refl _))
    cases e1
    cases e2
    refine wpAny_pyNext_zip_end ok.h D hz hTI hTO q1 q2 (is_list e1') (is_list e2') (.inl (by simp [← r1.length, hl1])) fun h' hk => hQ h' s.toks fun b o nb x => ?_
    simp only [List.mem_cons, List.not_mem_nil, or_false, not_or] at nb
    exact hk b o nb.1 nb.2.2.1 nb.2.2.2.1 nb.2.2.2.2 x
  self Y A as s E Q j hQ := wpAny_pyIter_zip j.1 hQ

theorem Mk.zip {x : Str} {p pos : Pos} {e1 e2 : Expr} {ts : List Expr} {tk : Nat} {tp : Pos} {o1 o2 : V} {xs ys : List V} {k : Nat} {S : Nat → St} {Xa Xb : Nat → V} (hf : Ev c F n (.Name x p) σ (.raw (.type "zip")) σ)
    (h1 : Ev c F n e1 σ o1 σ1) (h2 : Ev c F n e2 σ1 o2 (S 0))
    (hS1 : ∀ i, i ≤ k → (S i).items o1 = some xs) (hS2 : ∀ i, i ≤ k → (S i).items o2 = some ys) (hl1 : xs.length = k) (hl2 : ys.length = k) (hX : ∀ i, i < k → xs[i]? = some (Xa i)) (hY : ∀ i, i < k → ys[i]? = some (Xb i))
    (he : starEach [e1, e2] F.env = [(false, eval e1 F.env), (false, eval e2 F.env)]) (he2 : starEach [e2] F.env = [(false, eval e2 F.env)]) :
    Mk c F n (.Call (.Name x p) [e1, e2] [] pos) (.Tuple ts tk tp) σ S k (fun i => .tup [Xa i, Xb i]) := fun A as s E R ok I hR => by
  refine Call_ (wpAny_mono (hf A as s E ok I) (fun f s1 ⟨as1, I1, q1, S1⟩ => ?_) fun _ _ x => x)
  cases q1 with
  | raw _ =>
    have he' : starEach (e1 :: [e2]) F.env = (false, eval e1 F.env) :: starEach [e2] F.env := by rw [he, he2]
    refine callWith_type1 (wpAny_mono ((Evs.cons h1 (Evs.cons h2 Evs.nil he2) he') A as1 s1 E ok I1) (fun vs' s2 ⟨as2, I2, q2, S2⟩ => ?_) fun _ _ x => x) he' (by rw [he2]; rfl)
    cases q2 with
    | cons v1 q2 =>
      cases q2 with
      | cons v2 q2 =>
        cases q2
        obtain ⟨l1, vs1, m1, rfl, e1', r1⟩ := I2.items v1 (hS1 0 (Nat.zero_le _))
        obtain ⟨l2, vs2, m2, rfl, e2', r2⟩ := I2.items v2 (hS2 0 (Nat.zero_le _))
        have lt1 : l1 < s2.heap.objs.size := Heap.lt_size e1'
        have lt2 : l2 < s2.heap.objs.size := Heap.lt_size e2'
        refine call_zip_2 (is_list e1') (is_list e2') fun h' hz hTI hTO hi1 hi2 hsz hk => ?_
        refine wpAny_pyIter_zip hz ?_
        have hn : ∀ b ∈ [s2.heap.objs.size + 4, s2.heap.objs.size + 2, s2.heap.objs.size + 3, s2.heap.objs.size, s2.heap.objs.size + 1], s2.heap.get? b = none := fun b m => by
          refine Heap.get?_none_of_le ?_
          simp only [List.mem_cons, List.not_mem_nil, or_false] at m
          rcases m with rfl | rfl | rfl | rfl | rfl
          · exact Nat.le_add_right _ _
          · exact Nat.le_add_right _ _
          · exact Nat.le_add_right _ _
          · exact Nat.le_refl _
          · exact Nat.le_add_right _ _
        have J0 : IsZip h' (s2.heap.objs.size + 4) (s2.heap.objs.size + 2) (s2.heap.objs.size + 3) .none ∧ IsPair h' (s2.heap.objs.size + 2) (.ref s2.heap.objs.size) (.ref (s2.heap.objs.size + 1)) ∧ (∃ a b, IsPair h' (s2.heap.objs.size + 3) a b) ∧ h'.IsListIter s2.heap.objs.size l1 0 ∧ h'.IsListIter (s2.heap.objs.size + 1) l2 0 :=
          ⟨hz, hTI, ⟨_, _, hTO⟩, hi1, hi2⟩
        refine hR _ [_, _, _, _, _] _ as2 _ (Nx.zip (l1 := l1) (l2 := l2) (zipApart_new lt1 lt2) hS1 hS2 hl1 hl2 hX hY) ⟨J0.1, J0.2.1, J0.2.2.1, J0.2.2.2.1, J0.2.2.2.2, v1.grow hk hn, v2.grow hk hn⟩ (I2.grow hk hn fun b m => ?_) (fun b m => ⟨?_, new_not_own I2 (hn b m)⟩) ((S1.trans S2).trans (Stp.keeps hk ⟨h', s2.toks, rfl⟩))
        · simp only [List.mem_cons, List.not_mem_nil, or_false] at m
          rcases m with rfl | rfl | rfl | rfl | rfl
          · exact ⟨_, hz⟩
          · exact ⟨_, hTI⟩
          · exact ⟨_, hTO⟩
          · obtain ⟨o, e, _⟩ := hi1; exact ⟨o, e⟩
          · obtain ⟨o, e, _⟩ := hi2; exact ⟨o, e⟩
        · cases e : s.heap.get? b with
          | none => rfl
          | some o => obtain ⟨o', e'⟩ := (S1.trans S2).alive b o e; rw [hn b m] at e'; cases e'
theorem Mk.zipB {N : List (Str × NameKind)} {p pos : Pos} {e1 e2 : Expr} {ts : List Expr} {tk : Nat} {tp : Pos} {o1 o2 : V} {xs ys : List V} {k : Nat} {S : Nat → St} {Xa Xb : Nat → V} (hF : FrS F N) (hB : Bi c) (hn : N.lookup (Str.ofString "zip") = some .globalImplicit)
    (h1 : Ev c F n e1 σ o1 σ1) (h2 : Ev c F n e2 σ1 o2 (S 0))
    (hS1 : ∀ i, i ≤ k → (S i).items o1 = some xs) (hS2 : ∀ i, i ≤ k → (S i).items o2 = some ys) (hl1 : xs.length = k) (hl2 : ys.length = k) (hX : ∀ i, i < k → xs[i]? = some (Xa i)) (hY : ∀ i, i < k → ys[i]? = some (Xb i))
    (he : starEach [e1, e2] F.env = [(false, eval e1 F.env), (false, eval e2 F.env)]) (he2 : starEach [e2] F.env = [(false, eval e2 F.env)]) :
    Mk c F n (.Call (.Name (Str.ofString "zip") p) [e1, e2] [] pos) (.Tuple ts tk tp) σ S k (fun i => .tup [Xa i, Xb i]) := Mk.zip (Ev.nbi hF hB.zip hn rfl) h1 h2 hS1 hS2 hl1 hl2 hX hY he he2
end

-- Pr24
theorem Ev.compMuC {c : Cx} {F : Fm} {n : Nat} {σ : St} {N : List (Str × NameKind)} {elt iter tgt : Expr} {scope : Scope} {pos : Pos} {T : Nat → St} {k : Nat} {X Yv : Nat → V} {ys : List V} (x : Str) {a : Addr} {v : V} (mus : Nat → List (List V)) (N' : List (Str × NameKind)) (hF : FrS F N)
    (hx : F.env.cells.lookup x = some a) (hxk : N.lookup x = some .cell) (hlo : σ.loc.lookup x = some v)
    (hclos : ∀ env : Env, env.cells.lookup x = some a → closureFor scope env = pure [(x, a)]) (hcf : ∀ C cl, cellsFrom (C + 1) scope.names cl = cl) (hkind : scope.kind = .function)
    (hnames : ∀ x ∈ scope.names, x.2 = .local → scope.names.lookup x.1 = some .local) (hs : ∀ env x, foldedSetIterable iter env x = pure x)
    (hN' : ∀ env : Env, env.scope.kind = .function → env.kindOf x = some .cell → (relabel scope env).names = N') (hxN : N'.lookup x = some .cell)
    (hm : Mk c F n iter tgt σ (fun i => ⟨σ.loc, mus i⟩) k X) (hlen : ys.length = k) (hys : ∀ i, i < k → ys[i]? = some (Yv i)) (hk : k ≤ 1000000)
    (turn : ∀ i, i < k → ∀ F' : Fm, FrS F' N' → F'.env.cells.lookup x = some a → Asg c F' n tgt (X i) ⟨[(x, v)], mus i⟩ (T i) ∧ Ev c F' n elt (T i) (Yv i) ⟨(T i).loc, mus (i + 1)⟩) :
    Ev c F n (.ListComp elt [⟨tgt, iter, [], 0⟩] scope pos) σ (.mu (mus k).length) ⟨σ.loc, mus k ++ [ys]⟩ := by
  have hr := hN' F.env hF.kind (hF.of hxk)
  refine Ev.compMu (lo := σ.loc) (cl := [(x, a)]) (mus := mus) (T := T) (U := fun i => ⟨(T i).loc, mus (i + 1)⟩) [(x, v)] hm (hclos _ hx) hkind hnames (hs _) (fun p hp => by rw [List.mem_singleton.mp hp]; exact hx) (fun C p hp => ?_) hlen hys hk
    (fun i hi C Y' _ => turn i hi _ (hF.comp hkind hr) ?_) fun _ _ => rfl
  · rw [List.mem_singleton.mp hp]
    refine ⟨hlo, by rw [hF.of hxk]; simp, ?_, ?_⟩
    · show (relabel scope F.env).names.lookup x ≠ _
      rw [hr, hxN]; simp
    · rw [hcf, hx]; simp
  · show (cellsFrom (C + 1) scope.names [(x, a)]).lookup x = _
    rw [hcf]; simp

theorem sp_next {c : Cx} (W : Fa c) {n p many : Nat} {ps : List Nat} {mu : List (List V)} (hm : 0 < many) (hp : p < 1000) (hps : ps.length ≤ 1000) (h0 : mu[0]? = some (yd p ps)) (hb : ∀ xs ∈ mu, V.bels mu.length xs = true) :
    Sp c (n + 1) "_law_next" [.mu 0, .int many] mu (.int (nxt ps p many : Nat)) (mu.set 0 (yd (p + 1) ps)) := by
  cases mu with
  | nil => simp at h0
  | cons y rest =>
    have : y = yd p ps := by simpa using h0
    subst this
    exact sp_law_next W hm hp hps fun xs hx => hb xs (List.mem_cons_of_mem _ hx)

/-- four ids -/
def ids4 (r : Nat → Nat) : List V := [.mu (r 0), .mu (r 1), .mu (r 2), .mu (r 3)]
theorem ids4_get {r : Nat → Nat} {t : Nat} (h : t < 4) : (ids4 r)[t]? = some (.mu (r t)) := by
  rcases lt4 h with rfl | rfl | rfl | rfl <;> rfl
theorem ids4_getC {r : Nat → Nat} {t : Nat} (h : t < 4) : (ids4 r)[((t : Nat) : Int).toNat]? = some (.mu (r t)) := ids4_get h
theorem ids4_set {r : Nat → Nat} {t x : Nat} (h : t < 4) : (ids4 r).set t (.mu x) = ids4 (fun i => if i = t then x else r i) := by
  rcases lt4 h with rfl | rfl | rfl | rfl <;> rfl

/-- the yard, the plain grid and its rows among the lists -/
structure Pl (mu : List (List V)) (pt : Nat) (ps : List Nat) (r : Nat → Nat) (M : Nat → Nat → Int) : Prop where
  h0 : mu[0]? = some (yd pt ps)
  h5 : mu[5]? = some (ids4 r)
  row : ∀ i, i < 4 → mu[r i]? = some (intL (M i))
  inj : ∀ i j, i < 4 → j < 4 → r i = r j → i = j
  n0 : ∀ i, i < 4 → r i ≠ 0
  n5 : ∀ i, i < 4 → r i ≠ 5
  bel : ∀ xs ∈ mu, V.bels mu.length xs = true

mutual
theorem V.bel_mono {n m : Nat} (h : n ≤ m) : ∀ {x : V}, V.bel n x = true → V.bel m x = true
  | .int _, _ => rfl
  | .raw _, _ => rfl
  | .tup xs, e => by simp only [V.bel] at e ⊢; exact V.bels_mono h e
  | .lst xs, e => by simp only [V.bel] at e ⊢; exact V.bels_mono h e
  | .mu i, e => by simp only [V.bel, decide_eq_true_eq] at e ⊢; omega
theorem V.bels_mono {n m : Nat} (h : n ≤ m) : ∀ {xs : List V}, V.bels n xs = true → V.bels m xs = true
  | [], _ => rfl
  | x :: r, e => by
    simp only [V.bels, Bool.and_eq_true] at e ⊢
    exact ⟨V.bel_mono h e.1, V.bels_mono h e.2⟩
end
theorem bel_set {mu : List (List V)} {i : Nat} {xs : List V} (hb : ∀ xs ∈ mu, V.bels mu.length xs = true) (hx : V.bels mu.length xs = true) : ∀ ys ∈ mu.set i xs, V.bels (mu.set i xs).length ys = true := fun ys h => by
  rw [List.length_set]
  rcases List.mem_or_eq_of_mem_set h with h | rfl
  · exact hb ys h
  · exact hx
theorem Pl.step {mu : List (List V)} {pt : Nat} {ps : List Nat} {r : Nat → Nat} {M : Nat → Nat → Int} (P : Pl mu pt ps r M) {q : Nat} : Pl (mu.set 0 (yd q ps)) q ps r M where
  h0 := by
    have := (List.getElem?_eq_some_iff.mp P.h0).1
    rw [List.getElem?_set_self this]
  h5 := by rw [List.getElem?_set_ne (by decide)]; exact P.h5
  row i hi := by rw [List.getElem?_set_ne (Ne.symm (P.n0 i hi))]; exact P.row i hi
  inj := P.inj
  n0 := P.n0
  n5 := P.n5
  bel := bel_set P.bel (yd_bel _ _ _)
theorem Pl.len5 {mu : List (List V)} {pt : Nat} {ps : List Nat} {r : Nat → Nat} {M : Nat → Nat → Int} (P : Pl mu pt ps r M) : 5 < mu.length := (List.getElem?_eq_some_iff.mp P.h5).1
theorem Pl.lenr {mu : List (List V)} {pt : Nat} {ps : List Nat} {r : Nat → Nat} {M : Nat → Nat → Int} (P : Pl mu pt ps r M) {i : Nat} (hi : i < 4) : r i < mu.length := (List.getElem?_eq_some_iff.mp (P.row i hi)).1
/-- a new row put into the plain grid -/
theorem Pl.newRow {mu : List (List V)} {pt : Nat} {ps : List Nat} {r : Nat → Nat} {M : Nat → Nat → Int} {t : Nat} {w : Nat → Int} (P : Pl mu pt ps r M) (ht : t < 4) :
    Pl ((mu ++ [intL w]).set 5 ((ids4 r).set t (.mu mu.length))) pt ps (fun i => if i = t then mu.length else r i) (fun i => if i = t then w else M i) where
  h0 := by
    have := (List.getElem?_eq_some_iff.mp P.h0).1
    rw [List.getElem?_set_ne (by decide), List.getElem?_append_left this]; exact P.h0
  h5 := by
    rw [List.getElem?_set_self (by have := P.len5; simp; omega), ids4_set ht]
  row i hi := by
    have h5 := P.len5
    by_cases e : i = t
    · simp only [if_pos e]
      rw [List.getElem?_set_ne (by omega), List.getElem?_append_right (Nat.le_refl _), Nat.sub_self]; rfl
    · simp only [if_neg e]
      rw [List.getElem?_set_ne (Ne.symm (P.n5 i hi)), List.getElem?_append_left (P.lenr hi)]; exact P.row i hi
  inj i j hi hj e := by
    by_cases e1 : i = t <;> by_cases e2 : j = t
    · rw [e1, e2]
    · simp only [if_pos e1, if_neg e2] at e; have := P.lenr hj; omega
    · simp only [if_neg e1, if_pos e2] at e; have := P.lenr hi; omega
    · simp only [if_neg e1, if_neg e2] at e; exact P.inj i j hi hj e
  n0 i hi := by
    have := P.len5
    by_cases e : i = t
    · simp only [if_pos e]; omega
    · simp only [if_neg e]; exact P.n0 i hi
  n5 i hi := by
    have := P.len5
    by_cases e : i = t
    · simp only [if_pos e]; omega
    · simp only [if_neg e]; exact P.n5 i hi
  bel := by
    refine bel_set (fun xs h => ?_) ?_
    · rw [List.length_append]
      rcases List.mem_append.mp h with h | h
      · exact V.bels_mono (by simp) (P.bel xs h)
      · rw [List.mem_singleton.mp h]; exact intL_bel _
    · rw [ids4_set ht]
      have h0 := P.lenr (show 0 < 4 by decide)
      have h1 := P.lenr (show 1 < 4 by decide)
      have h2 := P.lenr (show 2 < 4 by decide)
      have h3 := P.lenr (show 3 < 4 by decide)
      simp only [ids4, V.bels, V.bel, List.length_append, List.length_cons, List.length_nil, Bool.and_true, Bool.and_eq_true, decide_eq_true_eq]
      refine ⟨?_, ?_, ?_, ?_⟩ <;> split <;> omega
/-- a row written anew -/
theorem Pl.setRow {mu : List (List V)} {pt : Nat} {ps : List Nat} {r : Nat → Nat} {M : Nat → Nat → Int} {t : Nat} {w : Nat → Int} (P : Pl mu pt ps r M) (ht : t < 4) :
    Pl (mu.set (r t) (intL w)) pt ps r (fun i => if i = t then w else M i) where
  h0 := by rw [List.getElem?_set_ne (P.n0 t ht)]; exact P.h0
  h5 := by rw [List.getElem?_set_ne (P.n5 t ht)]; exact P.h5
  row i hi := by
    by_cases e : i = t
    · subst e; rw [if_pos rfl, List.getElem?_set_self (P.lenr hi)]
    · rw [if_neg e, List.getElem?_set_ne (fun h => e (P.inj t i ht hi h).symm)]; exact P.row i hi
  inj := P.inj
  n0 := P.n0
  n5 := P.n5
  bel := bel_set P.bel (intL_bel _)
theorem Pl.ext {mu : List (List V)} {pt : Nat} {ps : List Nat} {r : Nat → Nat} {M M' : Nat → Nat → Int} (P : Pl mu pt ps r M) (h : ∀ i, i < 4 → ∀ j, j < 4 → M i j = M' i j) : Pl mu pt ps r M' :=
  ⟨P.h0, P.h5, fun i hi => by rw [P.row i hi, intL_ext (h i hi)], P.inj, P.n0, P.n5, P.bel⟩
theorem Pl.init (pt : Nat) (ps : List Nat) (M : Nat → Nat → Int) : Pl (lawMu pt ps M) pt ps (fun i => i + 1) M :=
  ⟨rfl, rfl, fun _ hi => lawMu_get hi, fun _ _ _ _ e => by omega, fun _ _ => by omega, fun _ hi => by omega, lawMu_bel⟩

-- Pr25
def forBody : Stmt → List Stmt
  | .For _ _ b _ _ => b
  | _ => []
abbrev tloc (ps : List Nat) (M : Nat → Nat → Int) (tot : Int) : List (Str × V) := ("grid", rowsV (kOf ps) 4 4 M) :: ("total", .int tot) :: lawLoc ps
def rowsMu (mu : List (List V)) (r : Nat → Nat) (f : Nat → Nat → Int) : Nat → List (List V)
  | 0 => mu
  | i + 1 => (rowsMu mu r f i).set (r i) (intL (f i))
theorem Pl.rows {mu : List (List V)} {pt : Nat} {ps : List Nat} {r : Nat → Nat} {M f : Nat → Nat → Int} (P : Pl mu pt ps r M) : ∀ i, i ≤ 4 → Pl (rowsMu mu r f i) pt ps r (fun p => if p < i then f p else M p)
  | 0, _ => P.ext fun i _ j _ => by rw [if_neg (Nat.not_lt_zero _)]
  | i + 1, h => ((P.rows i (by omega)).setRow (t := i) (by omega)).ext fun p _ q _ => by
    by_cases e : p = i
    · rw [if_pos e, if_pos (by omega), e]
    · rw [if_neg e]
      by_cases e2 : p < i
      · rw [if_pos e2, if_pos (by omega)]
      · rw [if_neg e2, if_neg (by omega)]

theorem modt {s x : Nat} (hs : s < 4) (hx : x < 3) : (s + 1 + x) % 4 < 4 ∧ s ≠ (s + 1 + x) % 4 := by omega

/-- what a turn keeps: the law of the plain grid -/
structure Turn (M : Nat → Nat → Int) (tot : Int) (M' : Nat → Nat → Int) : Prop where
  skew : ∀ i, i < 4 → ∀ j, j < 4 → M' j i = -M' i j
  tot : pf M' = tot
  small : ∀ i j, i < 4 → j < 4 → (M' i j).natAbs < 2 ^ 40

theorem law_turn {c : Cx} {n : Nat} {L : Addr} {ps : List Nat} {M : Nat → Nat → Int} {tot : Int} {mu : List (List V)} {pt : Nat} {r : Nat → Nat} {fm : Addr} {tv : V} (W : Fa c) (hps : ps.length ≤ 1000) (hpt : pt < 900) (P : Pl mu pt ps r M)
    (hM : ∀ i j, i < 4 → j < 4 → (M i j).natAbs < 2 ^ 16) (hg1 : c.mg (Str.ofString "mul_school") = some (.ref fm)) (hfm : MulF c (kOf ps) fm)
    (ht : ∀ s t a, s < 4 → t < 4 → s ≠ t → a.natAbs ≤ 3 → Turn M tot (put2 (put1 M s t a 4) s t a 4)) :
    ∃ s t a mu' r', s < 4 ∧ t < 4 ∧ s ≠ t ∧ a.natAbs ≤ 3 ∧ Pl mu' (pt + 3) ps r' (put2 (put1 M s t a 4) s t a 4) ∧
      ∀ F, LF F L → Exs c F (n + 9) (forBody (lawSt 6)) ⟨("turn", tv) :: tloc ps M tot, mu⟩ .next ⟨tloc ps (put2 (put1 M s t a 4) s t a 4) tot, mu'⟩ := by
  have hB := W.b
  have hk1 := kOf_ge ps
  have hk2 := kOf_le ps
  have hs : nxt ps pt 4 < 4 := nxt_lt (by decide)
  have hx : nxt ps (pt + 1) 3 < 3 := nxt_lt (by decide)
  have hy : nxt ps (pt + 2) 7 < 7 := nxt_lt (by decide)
  obtain ⟨ht4, hst⟩ := modt hs hx
  generalize hse : nxt ps pt 4 = s at hs hst ht4
  generalize hte : (s + 1 + nxt ps (pt + 1) 3) % 4 = t at hst ht4
  have ha : (((nxt ps (pt + 2) 7 : Nat) : Int) - 3).natAbs ≤ 3 := by omega
  generalize hae : ((nxt ps (pt + 2) 7 : Nat) : Int) - 3 = a at ha
  have P1 := P.step (q := pt + 1)
  have P2 := P1.step (q := pt + 2)
  have P3 := P2.step (q := pt + 3)
  have P4 := (P3.newRow (t := t) (w := fun q => M t q + a * M s q) ht4).ext (M' := put1 M s t a 4) fun i _ j hj => by
    unfold put1
    by_cases e : i = t
    · rw [if_pos e, if_pos ⟨e, hj⟩, e]
    · rw [if_neg e, if_neg (fun h => e h.1)]
  have hb1 := put1_bound (e := 4) (t := t) hs (show a.natAbs < 2 ^ 8 by omega) hM
  have hT := ht s t a hs ht4 hst ha
  refine ⟨s, t, a, _, _, hs, ht4, hst, ha, ((P4.rows (f := put2 (put1 M s t a 4) s t a 4) 4 (Nat.le_refl _)).ext fun p hp q _ => by rw [if_pos hp]), fun F hF => ?_⟩
  have hFF := hF.fr
  -- source
  apply Exs.cons
  · apply Ex.nassign hFF
    · apply Ev.sp hFF rfl (sp_next (n := n + 8) (p := pt) (many := 4) (ps := ps) (mu := mu) W (by decide) (by omega) hps P.h0 P.bel)
      · apply Evs.cons
        · walk_at "ev"
        · apply Evs.cons
          · exact Ev.is (v' := .int ((4 : Nat) : Int)) Ev.int rfl
          all_goals walk_at "ev"
        · walk_at "ev"
      all_goals walk_at "ev"
    all_goals walk_at "ev"
  rw [hse]
  refine Exs.at (τ := ⟨("source", .int (s : Nat)) :: tloc ps M tot, mu.set 0 (yd (pt + 1) ps)⟩) rfl (by walk_at "lk") ?_
  generalize mu.set 0 (yd (pt + 1) ps) = mu1 at P1 P2 P3 P4 ⊢
  -- target, many
  apply Exs.cons
  · apply Ex.assignT
    · apply Ev.tuple
      · apply Evs.cons
        · apply Ev.binop
          · apply Ev.binop
            · walk_at "ev"
            · apply Ev.sp hFF rfl (sp_next (n := n + 8) (p := pt + 1) (many := 3) (ps := ps) (mu := mu1) W (by decide) (by omega) hps P1.h0 P1.bel)
              · apply Evs.cons
                · walk_at "ev"
                · apply Evs.cons
                  · exact Ev.is (v' := .int ((3 : Nat) : Int)) Ev.int rfl
                  all_goals walk_at "ev"
                · walk_at "ev"
              all_goals walk_at "ev"
            · exact IntOp.add _ _
          · exact Ev.int
          · exact IntOp.mod (by decide)
        · apply Evs.cons
          · apply Ev.binop
            · apply Ev.sp hFF rfl (sp_next (n := n + 8) (p := pt + 2) (many := 7) (ps := ps) (mu := mu1.set 0 (yd (pt + 2) ps)) W (by decide) (by omega) hps P2.h0 P2.bel)
              · apply Evs.cons
                · walk_at "ev"
                · apply Evs.cons
                  · exact Ev.is (v' := .int ((7 : Nat) : Int)) Ev.int rfl
                  all_goals walk_at "ev"
                · walk_at "ev"
              all_goals walk_at "ev"
            · exact Ev.int
            · exact IntOp.sub _ _
          all_goals walk_at "ev"
        · walk_at "ev"
      · walk_at "ev"
    · exact Asg.tuple (AsgL.cons (Asg.nloc hFF rfl) (AsgL.cons hF.many AsgL.nil rfl) rfl) rfl rfl
    · rfl
    · have hbk : F.env.blockKind = .function := by unfold Env.blockKind; rw [hFF.kind]; rfl
      simp only [swappedStores, hbk, List.filterMap_cons, List.filterMap_nil, hFF.of (x := "target") (k := .local) rfl, hFF.of (x := "many") (k := .cell) rfl]; rfl
  refine Exs.at (τ := ⟨("source", .int (s : Nat)) :: ("target", .int (t : Nat)) :: ("many", .int a) :: tloc ps M tot, (mu1.set 0 (yd (pt + 2) ps)).set 0 (yd (pt + 3) ps)⟩) rfl ?_ ?_
  · walk_at "lk"
  generalize (mu1.set 0 (yd (pt + 2) ps)).set 0 (yd (pt + 3) ps) = mu3 at P3 P4 ⊢
  -- grid
  apply Exs.cons
  · apply Ex.nassign hFF
    · apply Ev.spP hFF rfl (sp_law_put (n := n + 5) (k := kOf ps) (s := s) (t := t) (a := a) (m := M) (fm := fm) W (by omega) hk2 hs ht4 hst (by omega) hM hg1 hfm)
      · walk_at "ev"
      · simp only [V.bels, V.bel, rowsL_bel, Bool.and_self]
      all_goals walk_at "ev"
    all_goals walk_at "ev"
  have hMs : ∀ i j, i < 4 → j < 4 → (put2 (put1 M s t a 4) s t a 4 i j).natAbs < 2 ^ 40 := hT.small
  generalize hM' : put2 (put1 M s t a 4) s t a 4 = M' at hT hMs ⊢
  have hx : F.env.cells.lookup ("many" : Str) = some (L + 3) := by rw [hF.cells]; rfl
  refine Exs.at (τ := ⟨[("grid", rowsV (kOf ps) 4 4 M'), ("source", .int (s : Nat)), ("target", .int (t : Nat)), ("many", .int a), ("total", .int tot), ("yard", .mu 0), ("w", .int (kOf ps : Nat)), ("plain", .mu 5)], mu3⟩) rfl (by walk_at "lk") ?_
  have q5 := P3.h5
  have i1 := ids4_getC (r := r) ht4
  have i2 := ids4_getC (r := r) hs
  have w1 := P3.row t ht4
  have w2 := P3.row s hs
  -- a row of the plain grid anew
  apply Exs.cons
  · apply Ex.setItem
    · apply Ev.compMuC (k := 4) "many" (a := L + 3) (v := .int a) (fun _ => mu3) [(".0", .local), ("one", .local), ("other", .local), ("many", .cell)] hFF hx rfl rfl (X := fun q => .tup [.int (M t q), .int (M s q)]) (Yv := fun q => .int (M t q + a * M s q)) (ys := intL fun q => M t q + a * M s q)
        (T := fun q => ⟨[("other", .int (M s q)), ("one", .int (M t q)), ("many", .int a)], mu3⟩)
      · walk_at "cl"
      · exact fun _ _ => rfl
      · rfl
      · decide
      · exact fun _ _ => rfl
      · intro env h1 h2
        simp only [relabel, List.map_cons, List.map_nil, h1, h2]; rfl
      · rfl
      · apply Mk.zipB hFF hB rfl (o1 := .mu (r t)) (o2 := .mu (r s)) (xs := intL (M t)) (ys := intL (M s)) (Xa := fun q => .int (M t q)) (Xb := fun q => .int (M s q))
        · apply Ev.sub (o := .mu 5) (xs := ids4 r)
          all_goals walk_at "ev"
        · apply Ev.sub (o := .mu 5) (xs := ids4 r)
          all_goals walk_at "ev"
        · exact fun _ _ => w1
        · exact fun _ _ => w2
        · rfl
        · rfl
        · exact fun i hi => intL_get hi
        · exact fun i hi => intL_get hi
        · rfl
        · rfl
      · rfl
      · exact fun i hi => intL_get hi
      · decide
      · intro q hq F' hF' hx'
        refine ⟨asg2 hF' rfl rfl, ?_⟩
        apply Ev.binop
        · walk_at "ev"
        · apply Ev.binop
          · walk_at "ev"
          · walk_at "ev"
          · exact IntOp.mul (by omega)
        · exact IntOp.add _ _
    · walk_at "ev"
    · walk_at "ev"
    · rw [List.getElem?_append_left P3.len5]; exact q5
    · walk_at "ev"
    · show ((t : Nat) : Int) < (4 : Int); omega
    all_goals walk_at "ev"
  refine Exs.at (τ := ⟨[("grid", rowsV (kOf ps) 4 4 M'), ("source", .int (s : Nat)), ("target", .int (t : Nat)), ("many", .int a), ("total", .int tot), ("yard", .mu 0), ("w", .int (kOf ps : Nat)), ("plain", .mu 5)], (mu3 ++ [intL fun q => M t q + a * M s q]).set 5 ((ids4 r).set t (.mu mu3.length))⟩) rfl (by walk_at "lk") ?_
  generalize (mu3 ++ [intL fun q => M t q + a * M s q]).set 5 ((ids4 r).set t (.mu mu3.length)) = mu4 at P4 ⊢
  generalize (fun i => if i = t then mu3.length else r i) = r4 at P4 ⊢
  generalize hM1 : put1 M s t a 4 = M1 at P4 hb1 hM' ⊢
  -- a column of the plain grid anew
  apply Exs.cons
  · refine Ex.forN (fun i => ⟨[("grid", rowsV (kOf ps) 4 4 M'), ("source", .int (s : Nat)), ("target", .int (t : Nat)), ("many", .int a), ("total", .int tot), ("yard", .mu 0), ("w", .int (kOf ps : Nat)), ("plain", .mu 5)], rowsMu mu4 r4 M' i⟩)
      (fun i => ⟨[("row", .mu (r4 i)), ("grid", rowsV (kOf ps) 4 4 M'), ("source", .int (s : Nat)), ("target", .int (t : Nat)), ("many", .int a), ("total", .int tot), ("yard", .mu 0), ("w", .int (kOf ps : Nat)), ("plain", .mu 5)], rowsMu mu4 r4 M' i⟩) hFF (k := 4) (X := fun i => .mu (r4 i)) ?_ (fun i hi F' hF' he hw => ⟨?_, ?_⟩) ?_
    · apply Mk.listC (o := .mu 5) (xs := ids4 r4)
      · walk_at "ev"
      · exact fun i hi => (P4.rows (f := M') i hi).h5
      · rfl
      · exact fun i hi => ids4_get hi
      · exact fun _ _ => rfl
    · exact Asg.nloc hF' rfl
    · have Pi := P4.rows (f := M') i (Nat.le_of_lt hi)
      have wi := Pi.row i hi
      simp only [Nat.lt_irrefl, if_false] at wi
      have c1 : (intL (M1 i))[((t : Nat) : Int).toNat]? = some (.int (M1 i t)) := intL_get ht4
      have c2 : (intL (M1 i))[((s : Nat) : Int).toNat]? = some (.int (M1 i s)) := intL_get hs
      apply Exs.cons
      · apply Ex.setItem
        · apply Ev.binop
          · apply Ev.sub (o := .mu (r4 i)) (xs := intL (M1 i))
            all_goals walk_at "ev"
          · apply Ev.binop
            · walk_at "ev"
            · apply Ev.sub (o := .mu (r4 i)) (xs := intL (M1 i))
              all_goals walk_at "ev"
            · exact IntOp.mul (by omega)
          · exact IntOp.add _ _
        · walk_at "ev"
        · walk_at "ev"
        · exact wi
        · walk_at "ev"
        · show ((t : Nat) : Int) < (4 : Int); omega
        all_goals walk_at "ev"
      refine Exs.fin ?_ (by walk_at "lk")
      show (rowsMu mu4 r4 M' i).set (r4 i) ((intL (M1 i)).set t (.int _)) = (rowsMu mu4 r4 M' i).set (r4 i) (intL (M' i))
      rw [intL_set ht4]
      congr 1
      refine intL_ext fun q _ => ?_
      rw [← hM']
      unfold put2
      by_cases e : q = t
      · rw [if_pos e, if_pos ⟨e, hi⟩, e]
      · rw [if_neg e, if_neg (fun h => e h.1)]
    · walk_at "ev"
  have P5 := (P4.rows (f := M') 4 (Nat.le_refl _)).ext (M' := M') fun p hp q _ => by rw [if_pos hp]
  generalize rowsMu mu4 r4 M' 4 = mu5 at P5 ⊢
  have hxw : F.env.cells.lookup ("w" : Str) = some (L + 1) := by rw [hF.cells]; rfl
  have p5 := P5.h5
  -- the grid is the plain grid, the pairings are what they were
  apply Exs.cons
  · apply Ex.ifF
    · apply Tst.is (v := false || false)
      · apply Tst.orS
        · apply Tst.cmpV (a := rowsV (kOf ps) 4 4 M') (b := rowsV (kOf ps) 4 4 M') (k := false)
          · walk_at "ev"
          · apply Ev.compC (k := 4) "w" (a := L + 1) (v := .int (kOf ps : Nat)) (fun _ => mu5) [(".0", .local), ("row", .local), ("w", .cell)] hFF hxw rfl rfl (X := fun i => .mu (r4 i)) (Yv := fun i => rowV (kOf ps) 4 (M' i)) (ys := rowsL (kOf ps) 4 4 M') (T := fun i => ⟨[("row", .mu (r4 i)), ("w", .int (kOf ps : Nat))], mu5⟩)
            · walk_at "cl"
            · exact fun _ _ => rfl
            · rfl
            · decide
            · exact fun _ _ => rfl
            · intro env h1 h2
              simp only [relabel, List.map_cons, List.map_nil, h1, h2]; rfl
            · rfl
            · apply Mk.listC (o := .mu 5) (xs := ids4 r4)
              · walk_at "ev"
              · exact fun _ _ => p5
              · rfl
              · exact fun i hi => ids4_get hi
              · exact fun _ _ => rfl
            · exact rowsL_length
            · exact fun i hi => rowsL_get hi
            · decide
            · intro i hi F' hF' hx'
              refine ⟨Asg.nloc hF' rfl, ?_⟩
              apply Ev.compC (k := 4) "w" (a := L + 1) (v := .int (kOf ps : Nat)) (fun _ => mu5) [(".0", .local), ("one", .local), ("_law_signed", .globalImplicit), ("w", .cell)] hF' hx' rfl rfl (X := fun q => .int (M' i q)) (Yv := fun q => SV (kOf ps) (M' i q)) (ys := rowL (kOf ps) 4 (M' i)) (T := fun q => ⟨[("one", .int (M' i q)), ("w", .int (kOf ps : Nat))], mu5⟩)
              · walk_at "cl"
              · exact fun _ _ => rfl
              · rfl
              · decide
              · exact fun _ _ => rfl
              · intro env h1 h2
                simp only [relabel, List.map_cons, List.map_nil, h1, h2]; rfl
              · rfl
              · apply Mk.listC (o := .mu (r4 i)) (xs := intL (M' i))
                · walk_at "ev"
                · exact fun _ _ => P5.row i hi
                · rfl
                · exact fun q hq => intL_get hq
                · exact fun _ _ => rfl
              · exact rowL_length
              · exact fun q hq => rowL_get hq
              · decide
              · intro q hq F' hF' hx'
                refine ⟨Asg.nloc hF' rfl, ?_⟩
                apply Ev.spP hF' rfl (sp_law_signed (n := n + 7) (k := kOf ps) (z := M' i q) W (by omega) hk2 (by have := hMs i q hi hq; omega))
                all_goals walk_at "ev"
          · exact (plain_rowsV _ _ _ _).ne (by decide)
          · rfl
        · intro _
          have f0 := P5.row 0 (by decide)
          have f1 := P5.row 1 (by decide)
          have f2 := P5.row 2 (by decide)
          have m1 := hMs 0 1 (by decide) (by decide)
          have m2 := hMs 0 2 (by decide) (by decide)
          have m3 := hMs 0 3 (by decide) (by decide)
          apply Tst.is
          · apply Tst.cmpV
            · apply Ev.sp hFF rfl (sp_law_pairings (n := n + 8) (j := 5) (mu := mu5) (r0 := r4 0) (r1 := r4 1) (r2 := r4 2) (r3 := r4 3) (x0 := intL (M' 0)) (x1 := intL (M' 1)) (x2 := intL (M' 2)) (x3 := intL (M' 3)) (a01 := M' 0 1) (a23 := M' 2 3) (a02 := M' 0 2) (a13 := M' 1 3) (a03 := M' 0 3) (a12 := M' 1 2) W p5 f0 f1 f2 rfl rfl rfl rfl rfl rfl (by omega) (by omega) (by omega) P5.bel)
              all_goals walk_at "ev"
            · walk_at "ev"
            · exact CmpV.int (CmpI.ne _ _)
            · rfl
          · have := hT.tot
            unfold pf at this
            rw [this]; simp
      · rfl
    · exact Exs.nil
  refine Exs.at (τ := ⟨tloc ps M' tot, mu5⟩) rfl (by walk_at "lk") ?_
  -- the turned grid is the grid below nought
  have hsk : rowsV (kOf ps) 4 4 (fun i j => M' j i) = rowsV (kOf ps) 4 4 (fun i j => -M' i j) := by
    rw [rowsV, rowsL_ext (m' := fun i j => -M' i j) fun i hi j hj => hT.skew i hi j hj]
  apply Exs.cons
  · apply Ex.ifF
    · apply Tst.cmpV (a := rowsV (kOf ps) 4 4 (fun i j => -M' i j)) (b := rowsV (kOf ps) 4 4 (fun i j => -M' i j)) (k := false)
      · apply Ev.is (v := rowsV (kOf ps) 4 4 (fun i j => M' j i))
        · apply Ev.spP hFF rfl (sp_m_turned (n := n + 8) (k := kOf ps) (m := M') W (by omega))
          · walk_at "ev"
          · simp only [V.bels, V.bel, rowsL_bel, Bool.and_self]
          all_goals walk_at "ev"
        · exact hsk
      · apply Ev.compN (k := 4) [(".0", .local), ("row", .local)] hFF (X := fun i => rowV (kOf ps) 4 (M' i)) (Yv := fun i => rowV (kOf ps) 4 (fun j => -M' i j)) (ys := rowsL (kOf ps) 4 4 fun i j => -M' i j) (T := fun i => ⟨[("row", rowV (kOf ps) 4 (M' i))], mu5⟩)
        · apply Mk.listC (o := rowsV (kOf ps) 4 4 M') (xs := rowsL (kOf ps) 4 4 M')
          · walk_at "ev"
          · exact fun _ _ => rfl
          · exact rowsL_length
          · exact fun i hi => rowsL_get hi
          · exact fun _ _ => rfl
        · rfl
        · rfl
        · decide
        · exact fun _ => rfl
        · rfl
        · exact rowsL_length
        · exact fun i hi => rowsL_get hi
        · decide
        · intro i hi F' hF'
          refine ⟨Asg.nloc hF' rfl, ?_⟩
          apply Ev.compN (k := 4) [(".0", .local), ("one", .local), ("s_neg", .globalImplicit)] hF' (X := fun j => SV (kOf ps) (M' i j)) (Yv := fun j => SV (kOf ps) (-M' i j)) (ys := rowL (kOf ps) 4 fun j => -M' i j) (T := fun j => ⟨[("one", SV (kOf ps) (M' i j))], mu5⟩)
          · apply Mk.listC (o := rowV (kOf ps) 4 (M' i)) (xs := rowL (kOf ps) 4 (M' i))
            · walk_at "ev"
            · exact fun _ _ => rfl
            · exact rowL_length
            · exact fun i hi => rowL_get hi
            · exact fun _ _ => rfl
          · rfl
          · rfl
          · decide
          · exact fun _ => rfl
          · rfl
          · exact rowL_length
          · exact fun i hi => rowL_get hi
          · decide
          · intro j hj F' hF'
            refine ⟨Asg.nloc hF' rfl, ?_⟩
            apply Ev.spP hF' rfl (sp_s_neg (n := n + 7) (k := kOf ps) (z := M' i j) W (by omega) (by have := hMs i j hi hj; omega))
            all_goals walk_at "ev"
      · exact (plain_rowsV _ _ _ _).ne (by decide)
      · rfl
    · exact Exs.nil
  exact Exs.fin rfl (by walk_at "lk")

-- Bar0
def D2 (A : Nat → Nat → Int) (c0 i j : Nat) : Int := A i j * A 0 c0 - A i c0 * A 0 j
def D3 (A : Nat → Nat → Int) (c0 c1 i j : Nat) : Int := A i j * D2 A c0 1 c1 - A i c1 * D2 A c0 1 j + A i c0 * D2 A c1 1 j
def D4 (A : Nat → Nat → Int) (c0 c1 c2 i j : Nat) : Int := A i j * D3 A c0 c1 2 c2 - A i c2 * D3 A c0 c1 2 j + A i c1 * D3 A c0 c2 2 j - A i c0 * D3 A c1 c2 2 j

theorem syl3 (A : Nat → Nat → Int) (c0 c1 i j : Nat) : D2 A c0 i j * D2 A c0 1 c1 - D2 A c0 i c1 * D2 A c0 1 j = A 0 c0 * D3 A c0 c1 i j := by
  unfold D3 D2
  generalize A i j = x1
  generalize A i c0 = x2
  generalize A i c1 = x3
  generalize A 0 c0 = x4
  generalize A 0 c1 = x5
  generalize A 0 j = x6
  generalize A 1 c0 = x7
  generalize A 1 c1 = x8
  generalize A 1 j = x9
  grind
theorem syl4 (A : Nat → Nat → Int) (c0 c1 c2 i j : Nat) : D3 A c0 c1 i j * D3 A c0 c1 2 c2 - D3 A c0 c1 i c2 * D3 A c0 c1 2 j = D2 A c0 1 c1 * D4 A c0 c1 c2 i j := by
  unfold D4 D3 D2
  generalize A i j = x1
  generalize A i c0 = x2
  generalize A i c1 = x3
  generalize A i c2 = y1
  generalize A 0 c0 = x4
  generalize A 0 c1 = x5
  generalize A 0 c2 = y2
  generalize A 0 j = x6
  generalize A 1 c0 = x7
  generalize A 1 c1 = x8
  generalize A 1 c2 = y3
  generalize A 1 j = x9
  generalize A 2 c0 = z1
  generalize A 2 c1 = z2
  generalize A 2 c2 = z3
  generalize A 2 j = z4
  grind

-- Bar1
def Dn (A : Nat → Nat → Int) : List Nat → Nat → Nat → Int
  | [], i, j => A i j
  | [c0], i, j => D2 A c0 i j
  | [c0, c1], i, j => D3 A c0 c1 i j
  | [c0, c1, c2], i, j => D4 A c0 c1 c2 i j
  | _, _, _ => 0
def piv (A : Nat → Nat → Int) : List Nat → Int
  | [] => 1
  | [c0] => A 0 c0
  | [c0, c1] => D2 A c0 1 c1
  | [c0, c1, c2] => D3 A c0 c1 2 c2
  | [c0, c1, c2, c3] => D4 A c0 c1 c2 3 c3
  | _ => 1
theorem syl (A : Nat → Nat → Int) {pl : List Nat} (h : pl.length ≤ 2) (c i j : Nat) : Dn A pl i j * Dn A pl pl.length c - Dn A pl i c * Dn A pl pl.length j = piv A pl * Dn A (pl ++ [c]) i j := by
  match pl, h with
  | [], _ => exact (Int.one_mul _).symm
  | [c0], _ => exact syl3 A c0 c i j
  | [c0, c1], _ => exact syl4 A c0 c1 c i j
theorem piv_next (A : Nat → Nat → Int) {pl : List Nat} (h : pl.length ≤ 3) (c : Nat) : piv A (pl ++ [c]) = Dn A pl pl.length c := by
  match pl, h with
  | [], _ => rfl
  | [c0], _ => rfl
  | [c0, c1], _ => rfl
  | [c0, c1, c2], _ => rfl
theorem Dn_congr {A A' : Nat → Nat → Int} {pl : List Nat} (hp : pl.length ≤ 3) (h : ∀ r, r < pl.length → ∀ j, A' r j = A r j) {i i' : Nat} (hi : ∀ j, A' i j = A i' j) (j : Nat) : Dn A' pl i j = Dn A pl i' j := by
  match pl, hp with
  | [], _ => exact hi j
  | [c0], _ => simp only [Dn, D2, hi, h 0 (by simp)]
  | [c0, c1], _ => simp only [Dn, D3, D2, hi, h 0 (by simp), h 1 (by simp)]
  | [c0, c1, c2], _ => simp only [Dn, D4, D3, D2, hi, h 0 (by simp), h 1 (by simp), h 2 (by simp)]
theorem piv_congr {A A' : Nat → Nat → Int} {pl : List Nat} (hp : pl.length ≤ 3) (h : ∀ r, r < pl.length → ∀ j, A' r j = A r j) : piv A' pl = piv A pl := by
  match pl, hp with
  | [], _ => rfl
  | [c0], _ => exact h 0 (by simp) c0
  | [c0, c1], _ => simp only [piv, D2, h 0 (by simp), h 1 (by simp)]
  | [c0, c1, c2], _ => simp only [piv, D3, D2, h 0 (by simp), h 1 (by simp), h 2 (by simp)]

-- how large
theorem nmul {a b : Int} {x y : Nat} (ha : a.natAbs ≤ x) (hb : b.natAbs ≤ y) : (a * b).natAbs ≤ x * y := by
  rw [Int.natAbs_mul]; exact Nat.mul_le_mul ha hb
section
variable {A : Nat → Nat → Int} (hA : ∀ i j, (A i j).natAbs ≤ 4)
include hA
theorem D2_le (c i j : Nat) : (D2 A c i j).natAbs ≤ 32 := by
  have h1 := nmul (hA i j) (hA 0 c)
  have h2 := nmul (hA i c) (hA 0 j)
  unfold D2; omega
theorem D3_le (c0 c1 i j : Nat) : (D3 A c0 c1 i j).natAbs ≤ 384 := by
  have h1 := nmul (hA i j) (D2_le hA c0 1 c1)
  have h2 := nmul (hA i c1) (D2_le hA c0 1 j)
  have h3 := nmul (hA i c0) (D2_le hA c1 1 j)
  unfold D3; omega
theorem D4_le (c0 c1 c2 i j : Nat) : (D4 A c0 c1 c2 i j).natAbs ≤ 6144 := by
  have h1 := nmul (hA i j) (D3_le hA c0 c1 2 c2)
  have h2 := nmul (hA i c2) (D3_le hA c0 c1 2 j)
  have h3 := nmul (hA i c1) (D3_le hA c0 c2 2 j)
  have h4 := nmul (hA i c0) (D3_le hA c1 c2 2 j)
  unfold D4; omega
theorem Dn_le (pl : List Nat) (i j : Nat) : (Dn A pl i j).natAbs ≤ 6144 := by
  unfold Dn; split
  · have := hA i j; omega
  · rename_i c0; have := D2_le hA c0 i j; omega
  · rename_i c0 c1; have := D3_le hA c0 c1 i j; omega
  · rename_i c0 c1 c2; exact D4_le hA c0 c1 c2 i j
  · decide
theorem piv_le {pl : List Nat} (h : pl.length ≤ 2) : (piv A pl).natAbs ≤ 32 := by
  match pl, h with
  | [], _ => show (1 : Int).natAbs ≤ 32; decide
  | [c0], _ => have := hA 0 c0; show (A 0 c0).natAbs ≤ 32; omega
  | [c0, c1], _ => exact D2_le hA c0 1 c1
end

-- the determinant, and what a swap does to it
def dets (s : Nat) (A : Nat → Nat → Int) : Int := match s with
  | 1 => A 0 0
  | 2 => D2 A 0 1 1
  | 3 => D3 A 0 1 2 2
  | 4 => D4 A 0 1 2 3 3
  | _ => 0
theorem swp_self (A : Nat → Nat → Int) (t : Nat) : swp A t t = A := by
  funext i; unfold swp; split
  · rename_i h; rw [h]
  · rfl
theorem pair_all : ((List.range 5).all fun s => (List.range 5).all fun a => (List.range 5).all fun b => !(Nat.blt b s && Nat.blt a b) || ([(2, 0, 1), (3, 0, 1), (3, 0, 2), (3, 1, 2), (4, 0, 1), (4, 0, 2), (4, 0, 3), (4, 1, 2), (4, 1, 3), (4, 2, 3)] : List (Nat × Nat × Nat)).contains (s, a, b)) = true := by decide +kernel
theorem pair_cases {s a b : Nat} (hs : s < 5) (h1 : b < s) (h2 : a < b) : (s, a, b) ∈ ([(2, 0, 1), (3, 0, 1), (3, 0, 2), (3, 1, 2), (4, 0, 1), (4, 0, 2), (4, 0, 3), (4, 1, 2), (4, 1, 3), (4, 2, 3)] : List (Nat × Nat × Nat)) := by
  have h := List.all_eq_true.mp (List.all_eq_true.mp (List.all_eq_true.mp pair_all s (List.mem_range.mpr hs)) a (List.mem_range.mpr (by omega))) b (List.mem_range.mpr (by omega))
  have e1 : Nat.blt b s = true := by simpa [Nat.blt_eq] using h1
  have e2 : Nat.blt a b = true := by simpa [Nat.blt_eq] using h2
  rw [e1, e2] at h
  exact List.contains_iff_mem.mp h
theorem dets_swp {s a b : Nat} (hs : s ≤ 4) (ha : a < s) (hb : b < s) (hab : a < b) (A : Nat → Nat → Int) : dets s (swp A a b) = -dets s A := by
  have := pair_cases (by omega) hb hab
  simp only [List.mem_cons, Prod.mk.injEq, List.not_mem_nil, or_false] at this
  rcases this with ⟨rfl, rfl, rfl⟩ | ⟨rfl, rfl, rfl⟩ | ⟨rfl, rfl, rfl⟩ | ⟨rfl, rfl, rfl⟩ | ⟨rfl, rfl, rfl⟩ | ⟨rfl, rfl, rfl⟩ | ⟨rfl, rfl, rfl⟩ | ⟨rfl, rfl, rfl⟩ | ⟨rfl, rfl, rfl⟩ | ⟨rfl, rfl, rfl⟩ <;> simp [dets, D4, D3, D2, swp] <;> grind

/-- a column without a pivot: the determinant is nought -/
theorem sing {s i : Nat} (hs : s ≤ 4) (hi : i < s) {A : Nat → Nat → Int} (hp : piv A (List.range i) ≠ 0) (h0 : i = 1 → A 0 0 ≠ 0) (h : ∀ q, i ≤ q → q < s → Dn A (List.range i) q i = 0) : dets s A = 0 := by
  have : i + 1 = s ∨ i = 0 ∨ (s = 3 ∧ i = 1) ∨ (s = 4 ∧ i = 1) ∨ (s = 4 ∧ i = 2) := by omega
  rcases this with rfl | rfl | ⟨rfl, rfl⟩ | ⟨rfl, rfl⟩ | ⟨rfl, rfl⟩
  · have := h i (Nat.le_refl _) (by omega)
    rcases (show i = 0 ∨ i = 1 ∨ i = 2 ∨ i = 3 by omega) with rfl | rfl | rfl | rfl <;> exact this
  · have e : ∀ q, q < s → A q 0 = 0 := fun q hq => h q (Nat.zero_le _) hq
    rcases (show s = 1 ∨ s = 2 ∨ s = 3 ∨ s = 4 by omega) with rfl | rfl | rfl | rfl
    · exact e 0 (by decide)
    · simp [dets, D2, e 0 (by decide), e 1 (by decide)]
    · simp [dets, D3, D2, e 0 (by decide), e 1 (by decide), e 2 (by decide)]
    · simp [dets, D4, D3, D2, e 0 (by decide), e 1 (by decide), e 2 (by decide), e 3 (by decide)]
  · have e1 : D2 A 0 1 1 = 0 := h 1 (by decide) (by decide)
    have e2 : D2 A 0 2 1 = 0 := h 2 (by decide) (by decide)
    have := syl3 A 0 1 2 2
    rw [e1, e2, Int.mul_zero, Int.zero_mul, Int.sub_zero] at this
    exact (Int.mul_eq_zero.mp this.symm).resolve_left hp
  · have e1 : D2 A 0 1 1 = 0 := h 1 (by decide) (by decide)
    have e2 : D2 A 0 2 1 = 0 := h 2 (by decide) (by decide)
    have e3 : D2 A 0 3 1 = 0 := h 3 (by decide) (by decide)
    have : A 0 0 * dets 4 A = 0 := by
      simp only [D2] at e1 e2 e3
      simp only [dets, D4, D3, D2]
      grind
    exact (Int.mul_eq_zero.mp this).resolve_left hp
  · have e1 : D3 A 0 1 2 2 = 0 := h 2 (by decide) (by decide)
    have e2 : D3 A 0 1 3 2 = 0 := h 3 (by decide) (by decide)
    have := syl4 A 0 1 2 3 3
    rw [e1, e2, Int.mul_zero, Int.zero_mul, Int.sub_zero] at this
    exact (Int.mul_eq_zero.mp this.symm).resolve_left hp

-- Bar2
def sgn (o : Bool) : Int := if o = true then -1 else 1
/-- what holds before column i -/
structure BI (s : Nat) (M A : Nat → Nat → Int) (i : Nat) (b : BS) : Prop where
  hA : ∀ p q, (A p q).natAbs ≤ 4
  bf : b.bf = piv A b.pl
  b0 : b.bf ≠ 0
  m : ∀ p q, p < s → q < s → b.m p q = Dn A (b.pl.take p) p q
  len : b.pl.length ≤ i
  det : dets s A = sgn b.odd * dets s M
  full : b.pl = List.range i ∨ (dets s A = 0 ∧ b.pl.length < i)

theorem take_ge {pl : List Nat} {p : Nat} (h : pl.length ≤ p) : pl.take p = pl := List.take_of_length_le h

theorem BI.step {s i : Nat} {M A : Nat → Nat → Int} {b : BS} (hs : s ≤ 4) (hi : i < s) (I : BI s M A i b) : ∃ A', BI s M A' (i + 1) (bstep s b i) := by
  have hlen := I.len
  cases hp : bpiv s b.m b.pl.length i with
  | none =>
    have hb : bstep s b i = b := by unfold bstep; rw [hp]
    rw [hb]
    have hz := bpiv_none hp
    refine ⟨A, I.hA, I.bf, I.b0, I.m, by omega, I.det, .inr ?_⟩
    rcases I.full with hf | ⟨h0, hl⟩
    · have hl : b.pl.length = i := by rw [hf]; simp
      refine ⟨sing hs hi ?_ ?_ fun q h1 h2 => ?_, by omega⟩
      · rw [← hf, ← I.bf]; exact I.b0
      · intro h1; subst h1
        have := I.b0
        rw [I.bf, hf] at this; exact this
      · have := hz q (by omega) h2
        rw [I.m q i h2 hi, take_ge (by omega), hf] at this
        exact this
    · exact ⟨h0, by omega⟩
  | some p =>
    obtain ⟨p1, p2, p3, p4⟩ := bpiv_some hp
    have hb : bstep s b i = ⟨low1 (swp b.m b.pl.length p) b.pl.length s i b.bf, b.pl ++ [i], if p = b.pl.length then b.odd else !b.odd, swp b.m b.pl.length p b.pl.length i⟩ := by unfold bstep; rw [hp]
    rw [hb]
    obtain ⟨mm, pl, od, bf⟩ := b
    simp only at *
    have Im : ∀ p q, p < s → q < s → mm p q = Dn A (pl.take p) p q := I.m
    have If : pl = List.range i ∨ (dets s A = 0 ∧ pl.length < i) := I.full
    have hd : dets s A = sgn od * dets s M := I.det
    have ht : pl.length < s := by omega
    have ht3 : pl.length ≤ 3 := by omega
    generalize hA' : swp A pl.length p = A'
    have hrow : ∀ r, r < pl.length → ∀ j, A' r j = A r j := fun r hr j => by
      rw [← hA']; unfold swp; rw [if_neg (by omega), if_neg (by omega)]
    -- the rows below, swapped
    have hm1 : ∀ q, pl.length ≤ q → q < s → ∀ j, j < s → swp mm pl.length p q j = Dn A' pl q j := fun q h1 h2 j hj => by
      have key : ∀ q', pl.length ≤ q' → q' < s → (∀ j, A' q j = A q' j) → mm q' j = Dn A' pl q j := fun q' g1 g2 g3 => by
        rw [Im q' j g2 hj, take_ge g1, Dn_congr ht3 hrow g3]
      unfold swp
      by_cases e1 : q = pl.length
      · rw [if_pos e1]; exact key p p1 p2 fun j => by rw [← hA']; unfold swp; rw [if_pos e1]
      · rw [if_neg e1]
        by_cases e2 : q = p
        · rw [if_pos e2]; exact key _ (Nat.le_refl _) ht fun j => by rw [← hA']; unfold swp; rw [if_neg e1, if_pos e2]
        · rw [if_neg e2]; exact key q h1 h2 fun j => by rw [← hA']; unfold swp; rw [if_neg e1, if_neg e2]
    have hpv : piv A' pl = bf := by rw [piv_congr ht3 hrow]; exact I.bf.symm
    have hnew : swp mm pl.length p pl.length i = piv A' (pl ++ [i]) := by rw [piv_next A' ht3, hm1 _ (Nat.le_refl _) ht i hi]
    refine ⟨A', ?_, hnew, ?_, ?_, ?_, ?_, ?_⟩
    · intro x y; rw [← hA']; unfold swp; split
      · exact I.hA _ _
      · split <;> exact I.hA _ _
    · show swp mm pl.length p pl.length i ≠ 0
      unfold swp; rw [if_pos rfl]; exact p3
    · intro q j hq hj
      show low1 (swp mm pl.length p) pl.length s i bf q j = Dn A' ((pl ++ [i]).take q) q j
      rcases Nat.lt_trichotomy q pl.length with h1 | h1 | h1
      · unfold low1; rw [if_neg (by omega)]
        have e : swp mm pl.length p q j = mm q j := by unfold swp; rw [if_neg (by omega), if_neg (by omega)]
        rw [e, Im q j hq hj, List.take_append_of_le_length (by omega)]
        have hl : (pl.take q).length ≤ pl.length := by simp; omega
        have hl2 : (pl.take q).length ≤ q := by simp; omega
        exact (Dn_congr (by omega) (fun r hr j => hrow r (by omega) j) (fun j => hrow q h1 j) j).symm
      · unfold low1; rw [if_neg (by omega), hm1 q (by omega) hq j hj, List.take_append_of_le_length (by omega), take_ge (by omega)]
      · unfold low1; rw [if_pos ⟨h1, hq⟩]
        unfold clr
        rw [hm1 q (by omega) hq j hj, hm1 q (by omega) hq i hi, hm1 _ (Nat.le_refl _) ht i hi, hm1 _ (Nat.le_refl _) ht j hj, syl A' (by omega) i q j, hpv]
        rw [take_ge (by simp; omega)]
        exact Int.mul_tdiv_cancel_left _ (by have := I.b0; exact this)
    · simp only [List.length_append, List.length_cons, List.length_nil]; omega
    · show dets s A' = sgn (if p = pl.length then od else !od) * dets s M
      by_cases e : p = pl.length
      · rw [if_pos e, ← hA', e, swp_self]; exact hd
      · rw [if_neg e, ← hA', dets_swp hs ht p2 (by omega), hd]
        cases od <;> simp [sgn]
    · rcases If with hf | ⟨h0, hl⟩
      · have hl : pl.length = i := by rw [hf]; simp
        left; show pl ++ [i] = List.range (i + 1)
        rw [List.range_succ, hf]
      · right
        refine ⟨?_, by show (pl ++ [i]).length < i + 1; simp only [List.length_append, List.length_cons, List.length_nil]; omega⟩
        by_cases e : p = pl.length
        · rw [← hA', e, swp_self]; exact h0
        · rw [← hA', dets_swp hs ht p2 (by omega), h0]; rfl

theorem BI.init {s : Nat} {M : Nat → Nat → Int} (hM : ∀ i j, (M i j).natAbs ≤ 4) : BI s M M 0 (bst s M 0) :=
  ⟨hM, rfl, (by decide : (1 : Int) ≠ 0), fun p q _ _ => by show M p q = Dn M ([].take p) p q; simp [Dn], Nat.le_refl _, by show dets s M = 1 * dets s M; rw [Int.one_mul], .inl rfl⟩
theorem BI.all {s : Nat} {M : Nat → Nat → Int} (hs : s ≤ 4) (hM : ∀ i j, (M i j).natAbs ≤ 4) : ∀ i, i ≤ s → ∃ A, BI s M A i (bst s M i)
  | 0, _ => ⟨M, BI.init hM⟩
  | i + 1, h => by
    obtain ⟨A, I⟩ := BI.all hs hM i (by omega)
    exact I.step hs (by omega)
theorem BI.good {s i k : Nat} {M A : Nat → Nat → Int} {b : BS} (hs : s ≤ 4) (hk : 8 ≤ k) (I : BI s M A i b) : Good k s b where
  m p q hp hq := by rw [I.m p q hp hq]; have := Dn_le I.hA (b.pl.take p) p q; omega
  b0 := I.b0
  b1 h := by
    rw [I.bf]
    have := piv_le I.hA (pl := b.pl) (by omega)
    have h2 : 2 ^ 8 ≤ 2 ^ k := Nat.pow_le_pow_right (by decide) hk
    omega
theorem bdet_dets {s : Nat} {M : Nat → Nat → Int} (hs1 : 1 ≤ s) (hs : s ≤ 4) (hM : ∀ i j, (M i j).natAbs ≤ 4) : bdet s M = dets s M := by
  obtain ⟨A, I⟩ := BI.all hs hM s (Nat.le_refl _)
  unfold bdet
  rcases I.full with hf | ⟨h0, hl⟩
  · have hl : (bst s M s).pl.length = s := by rw [hf]; simp
    rw [if_neg (by omega), I.m (s - 1) (s - 1) (by omega) (by omega), hf]
    have e : Dn A ((List.range s).take (s - 1)) (s - 1) (s - 1) = dets s A := by
      rcases (show s = 1 ∨ s = 2 ∨ s = 3 ∨ s = 4 by omega) with rfl | rfl | rfl | rfl <;> rfl
    rw [e, I.det]
    cases (bst s M s).odd <;> simp [sgn]
  · rw [if_pos hl]
    have := I.det
    rw [h0] at this
    cases h : (bst s M s).odd <;> rw [h] at this <;> simp [sgn] at this <;> omega
theorem dets_of {k : Nat} {M : Nat → Nat → Int} (hk : 8 ≤ k) (hM : ∀ i j, (M i j).natAbs ≤ 4) (hsk : ∀ i, i < 4 → ∀ j, j < 4 → M j i = -M i j) : Dets k M where
  good s _ h4 i hi := by
    obtain ⟨A, I⟩ := BI.all h4 hM i (Nat.le_of_lt hi)
    exact I.good h4 hk
  last s h1 h4 := by
    obtain ⟨A, I⟩ := BI.all h4 hM s (Nat.le_refl _)
    rw [I.m (s - 1) (s - 1) (by omega) (by omega)]
    have := Dn_le I.hA ((bst s M s).pl.take (s - 1)) (s - 1) (s - 1)
    omega
  due s h1 h4 := by
    rw [bdet_dets h1 h4 hM]
    have d : ∀ i, i < 4 → M i i = 0 := fun i hi => by have := hsk i hi i hi; omega
    have s10 := hsk 0 (by decide) 1 (by decide)
    have s20 := hsk 0 (by decide) 2 (by decide)
    have s30 := hsk 0 (by decide) 3 (by decide)
    have s21 := hsk 1 (by decide) 2 (by decide)
    have s31 := hsk 1 (by decide) 3 (by decide)
    have s32 := hsk 2 (by decide) 3 (by decide)
    have d0 := d 0 (by decide)
    have d1 := d 1 (by decide)
    have d2 := d 2 (by decide)
    have d3 := d 3 (by decide)
    rcases (show s = 1 ∨ s = 2 ∨ s = 3 ∨ s = 4 by omega) with rfl | rfl | rfl | rfl
    · show some (0 : Int) = some (M 0 0); rw [d0]
    · show some (M 0 1 * M 0 1) = some (D2 M 0 1 1); unfold D2; congr 1; rw [d1, s10]; grind
    · show some (0 : Int) = some (D3 M 0 1 2 2); simp only [D3, D2]; congr 1; rw [d0, d1, d2, s10, s20, s21]; grind
    · show some (pf M * pf M) = some (D4 M 0 1 2 3 3); simp only [D4, D3, D2, pf]; congr 1; rw [d0, d1, d2, d3, s10, s20, s30, s21, s31, s32]; grind

-- Bar3
theorem lawM_bound (ps : List Nat) (i j : Nat) : (lawM ps i j).natAbs ≤ 4 := by
  unfold lawM fillM
  split
  · exact lv_bound _ _ _
  · split
    · have := lv_bound ps j i; omega
    · decide
theorem lawM_skew (ps : List Nat) : ∀ i, i < 4 → ∀ j, j < 4 → lawM ps j i = -lawM ps i j := by
  intro i hi j hj
  unfold lawM fillM
  rcases Nat.lt_trichotomy i j with h | h | h
  · rw [if_neg (by omega), if_pos ⟨h, .inl hi⟩, if_pos ⟨h, .inl hi⟩]; omega
  · subst h; rw [if_neg (by omega), if_neg (by omega)]; rfl
  · rw [if_pos ⟨h, .inl hj⟩, if_neg (by omega), if_pos ⟨h, .inl hj⟩]; omega

/-- an entry after the row and the column of a turn -/
theorem put_entry {M : Nat → Nat → Int} {s t : Nat} {a : Int} (hs : s < 4) (hst : s ≠ t) {i j : Nat} (hi : i < 4) (hj : j < 4) :
    put2 (put1 M s t a 4) s t a 4 i j = (M i j + if i = t then a * M s j else 0) + if j = t then a * (M i s + if i = t then a * M s s else 0) else 0 := by
  unfold put2 put1
  by_cases h1 : i = t <;> by_cases h2 : j = t <;> simp [h1, h2, hi, hj, hs] <;> (try subst h1) <;> (try subst h2) <;> simp_all
theorem turn_of {M : Nat → Nat → Int} {X : Nat} (hX : X ≤ 2 ^ 20) (hsk : ∀ i, i < 4 → ∀ j, j < 4 → M j i = -M i j) (hM : ∀ i j, i < 4 → j < 4 → (M i j).natAbs ≤ X) {s t : Nat} {a : Int} (hs : s < 4) (ht : t < 4) (hst : s ≠ t) (ha : a.natAbs ≤ 3) :
    Turn M (pf M) (put2 (put1 M s t a 4) s t a 4) ∧ ∀ i j, i < 4 → j < 4 → (put2 (put1 M s t a 4) s t a 4 i j).natAbs ≤ 16 * X := by
  have d : ∀ i, i < 4 → M i i = 0 := fun i hi => by have := hsk i hi i hi; omega
  have hb : ∀ i j, i < 4 → j < 4 → (put2 (put1 M s t a 4) s t a 4 i j).natAbs ≤ 16 * X := fun i j hi hj => by
    rw [put_entry hs hst hi hj, d s hs]
    have h1 := hM i j hi hj
    have h2 := nmul ha (hM s j hs hj)
    have h3 := nmul ha (hM i s hi hs)
    rw [Int.mul_zero]
    split <;> split <;> (try simp only [Int.add_zero]) <;> omega
  refine ⟨⟨?_, ?_, fun i j hi hj => by have := hb i j hi hj; omega⟩, hb⟩
  · intro i hi j hj
    rw [put_entry hs hst hi hj, put_entry hs hst hj hi, d s hs, hsk i hi j hj, hsk s hs i hi, hsk s hs j hj]
    by_cases h1 : i = t <;> by_cases h2 : j = t <;> simp only [h1, h2, if_true, if_false] <;> grind
  · have s10 := hsk 0 (by decide) 1 (by decide)
    have s20 := hsk 0 (by decide) 2 (by decide)
    have s30 := hsk 0 (by decide) 3 (by decide)
    have s21 := hsk 1 (by decide) 2 (by decide)
    have s31 := hsk 1 (by decide) 3 (by decide)
    have s32 := hsk 2 (by decide) 3 (by decide)
    have d0 := d 0 (by decide)
    have d1 := d 1 (by decide)
    have d2 := d 2 (by decide)
    have d3 := d 3 (by decide)
    unfold pf
    rw [put_entry hs hst (by decide : 0 < 4) (by decide : 1 < 4), put_entry hs hst (by decide : 2 < 4) (by decide : 3 < 4), put_entry hs hst (by decide : 0 < 4) (by decide : 2 < 4), put_entry hs hst (by decide : 1 < 4) (by decide : 3 < 4), put_entry hs hst (by decide : 0 < 4) (by decide : 3 < 4), put_entry hs hst (by decide : 1 < 4) (by decide : 2 < 4)]
    rcases lt4 hs with rfl | rfl | rfl | rfl <;> rcases lt4 ht with rfl | rfl | rfl | rfl <;> first | exact absurd rfl hst | (simp [s10, s20, s30, s21, s31, s32, d0, d1, d2, d3]; try grind)

-- Pr26
theorem law_6 {c : Cx} {n : Nat} {F : Fm} {L : Addr} {ps : List Nat} {M : Nat → Nat → Int} {fm : Addr} (W : Fa c) (hF : LF F L) (hps : ps.length ≤ 1000) (hM : ∀ i j, i < 4 → j < 4 → (M i j).natAbs ≤ 4) (hsk : ∀ i, i < 4 → ∀ j, j < 4 → M j i = -M i j)
    (hg1 : c.mg (Str.ofString "mul_school") = some (.ref fm)) (hfm : MulF c (kOf ps) fm) :
    ∃ σ', Ex c F (n + 9) (lawSt 6) ⟨tloc ps M (pf M), lawMu 7 ps M⟩ .next σ' := by
  have hB := W.b
  have hFF := hF.fr
  have big : ∀ (i j : Nat) (M : Nat → Nat → Int), (M i j).natAbs ≤ 4 → (M i j).natAbs < 2 ^ 16 := fun i j M h => by omega
  obtain ⟨s1, t1, a1, mu1, r1, hs1, ht1, hst1, ha1, P1, E1⟩ := law_turn (n := n) (L := L) (tv := .int ((0 : Nat) : Int)) (tot := pf M) W hps (by decide) (Pl.init 7 ps M) (fun i j hi hj => big i j M (hM i j hi hj)) hg1 hfm
    (fun s t a hs ht hst ha => (turn_of (X := 4) (by decide) hsk hM hs ht hst ha).1)
  obtain ⟨T1, b1⟩ := turn_of (X := 4) (by decide) hsk hM hs1 ht1 hst1 ha1
  generalize put2 (put1 M s1 t1 a1 4) s1 t1 a1 4 = M1 at P1 E1 T1 b1
  obtain ⟨s2, t2, a2, mu2, r2, hs2, ht2, hst2, ha2, P2, E2⟩ := law_turn (n := n) (L := L) (tv := .int ((1 : Nat) : Int)) (tot := pf M) W hps (by decide) P1 (fun i j hi hj => by have := b1 i j hi hj; omega) hg1 hfm
    (fun s t a hs ht hst ha => by
      have := (turn_of (X := 64) (by decide) T1.skew b1 hs ht hst ha).1
      rw [T1.tot] at this; exact this)
  refine ⟨_, Ex.forN (fun i => match i with | 0 => ⟨tloc ps M (pf M), lawMu 7 ps M⟩ | 1 => ⟨tloc ps M1 (pf M), mu1⟩ | _ => ⟨tloc ps (put2 (put1 M1 s2 t2 a2 4) s2 t2 a2 4) (pf M), mu2⟩)
    (fun i => match i with | 0 => ⟨("turn", .int ((0 : Nat) : Int)) :: tloc ps M (pf M), lawMu 7 ps M⟩ | 1 => ⟨("turn", .int ((1 : Nat) : Int)) :: tloc ps M1 (pf M), mu1⟩ | _ => ⟨tloc ps M (pf M), mu2⟩) hFF (k := 2) (X := fun i => .int (i : Int)) ?_ (fun i hi F' hF' he hw => ⟨?_, ?_⟩) ?_⟩
  · apply Mk.range1C hFF hB (a := 2)
    · rfl
    · exact Ev.int
    · rfl
    all_goals walk_at "ev"
  · rcases (show i = 0 ∨ i = 1 by omega) with rfl | rfl
    · exact Asg.nloc hF' rfl
    · exact Asg.nloc hF' rfl
  · rcases (show i = 0 ∨ i = 1 by omega) with rfl | rfl
    · exact E1 F' (hF.of hF' he hw)
    · exact E2 F' (hF.of hF' he hw)
  · walk_at "ev"

theorem law_all {c : Cx} {n : Nat} {F : Fm} {L a : Addr} {vs : List Value} {ns : List Int} (W : Fa c) (hF : LF F L) (hH : c.H0.IsList a vs.toArray) (hx : VRs [] [] c.H0 (ns.map V.int) vs) (hl : ns.length ≤ 1000) :
    ∃ σ', Exs c F (n + 9) (defBody (theDef 47)) ⟨[("script", .raw (.ref a))], []⟩ (.ret (.bool true)) σ' := by
  have hps : (poles ns).length ≤ 1000 := by simp [poles]; omega
  generalize hpe : poles ns = ps at hps
  obtain ⟨fm, hg1, -⟩ := sp_mul_school (n := 0) (k := 8) (A := 0) (C := 0) W (by decide) (by decide) (by decide) (by decide)
  obtain ⟨fd, hg2, -⟩ := sp_divrem_school (n := 0) (k := 8) (A := 0) (d := 1) W (by decide) (by decide) (by decide) (by decide) (by decide)
  have hk1 := kOf_ge ps
  have hk2 := kOf_le ps
  have hfm : MulF c (kOf ps) fm := fun n A C hA hC => (sp_mul_school W (by omega) hk2 (nd_sm (by omega) hA) (nd_sm (by omega) hC)).at hg1
  have hfd : DivF c (kOf ps) fd := fun n A d hA h0 h1 => (sp_divrem_school W (by omega) hk2 (nd_sm (by omega) hA) h0 h1).at hg2
  have hM : ∀ i j, i < 4 → j < 4 → (lawM ps i j).natAbs ≤ 4 := fun i j _ _ => lawM_bound ps i j
  have hD := dets_of (k := kOf ps) hk1 (lawM_bound ps) (lawM_skew ps)
  obtain ⟨σ6, h6⟩ := law_6 (n := n) W hF hps hM (lawM_skew ps) hg1 hfm
  refine ⟨σ6, ?_⟩
  show Exs c F (n + 9) (lawSt 0 :: lawSt 1 :: lawSt 2 :: lawSt 3 :: lawSt 4 :: lawSt 5 :: lawSt 6 :: lawSt 7 :: []) _ _ _
  refine law_0 W hF hH hx hl ?_
  rw [hpe]
  refine law_1 (n := n + 8) W hF hps ?_
  refine law_2 (n := n + 8) W hF hps ?_
  refine law_3 (n := n + 6) W hF hM ?_
  refine law_4 W hF hM ?_
  refine law_5 (n := n) W hF hM hD hg1 hg2 hfm hfd ?_
  refine Exs.cons h6 ?_
  apply Exs.ret
  apply Ex.ret
  exact Ev.bool

-- Jn0
def recAt (k : Nat) : Str × Arguments × List Stmt × Scope := (defName (theDef k), defArgs (theDef k), defBody (theDef k), defScope (theDef k))
theorem recs_are : (recsOf view).map (fun d => (d.name, d.params, d.body, d.scope)) = [4, 5, 6, 7, 8, 9, 10, 11, 12, 14, 15, 16, 17, 18, 19, 20, 21, 25, 26, 27, 28, 29, 30, 31, 33, 34, 35, 36, 37, 38, 39, 41, 42, 43, 44, 45, 46, 47].map recAt := by kernel_rfl
theorem Fa.fn {loose : List Str} {mean : ExcName → Option Value} {c : Cx} {mb : Str → Option Value} (T : Top view loose mean c.mg mb c.H0) {k : Nat}
    (h : k ∈ [4, 5, 6, 7, 8, 9, 10, 11, 12, 14, 15, 16, 17, 18, 19, 20, 21, 25, 26, 27, 28, 29, 30, 31, 33, 34, 35, 36, 37, 38, 39, 41, 42, 43, 44, 45, 46, 47]) : ∃ f, At c k f := by
  have h : recAt k ∈ (recsOf view).map (fun d => (d.name, d.params, d.body, d.scope)) := by rw [recs_are]; exact List.mem_map_of_mem h
  obtain ⟨d, hd, e⟩ := List.mem_map.mp h
  simp only [recAt, Prod.mk.injEq] at e
  obtain ⟨h1, h2, h3, h4⟩ := e
  obtain ⟨a, o, pm, code, doc, e1, e2, e3, e4⟩ := T.fn d hd
  rw [h1] at e1 e3 e4
  rw [h2, h3, h4] at e3
  exact ⟨a, e1, doc, pm, _, code, _, ⟨o, e2, e3⟩, e4⟩
theorem fns : ∀ k ∈ [4, 5, 6, 7, 8, 9, 14, 15, 16, 17, 18, 19, 20, 21, 25, 26, 27, 28, 29, 30, 31, 33, 34, 39, 41, 42, 43, 45, 46], k ∈ [4, 5, 6, 7, 8, 9, 10, 11, 12, 14, 15, 16, 17, 18, 19, 20, 21, 25, 26, 27, 28, 29, 30, 31, 33, 34, 35, 36, 37, 38, 39, 41, 42, 43, 44, 45, 46, 47] := by decide
theorem boots : bootBuiltins (Str.ofString "len") = some (.builtin "len") ∧ bootBuiltins (Str.ofString "abs") = some (.builtin "abs") ∧ bootBuiltins (Str.ofString "range") = some (.type "range") ∧ bootBuiltins (Str.ofString "enumerate") = some (.type "enumerate")
    ∧ bootBuiltins (Str.ofString "int") = some (.type "int") ∧ bootBuiltins (Str.ofString "zip") = some (.type "zip") := ⟨rfl, rfl, rfl, rfl, rfl, rfl⟩
theorem free_names : ∀ x ∈ ([Str.ofString "len", Str.ofString "abs", Str.ofString "range", Str.ofString "enumerate", Str.ofString "int", Str.ofString "zip"] : List Str),
    x ≠ Str.ofString "__name__" ∧ x ∉ startupNames ∧ x ∉ looseW view lo ∧ x ∉ (recsOf view).map (·.name) ∧ x ∉ (litsOf view).map (·.1) ∧ x ∉ (clssOf view (looseW view lo)).map (·.name) := by decide +kernel

-- Jn2
theorem ints_of {h : Heap} : ∀ {vs : List Value} {ns : List Int}, IntsAre vs ns → VRs [] [] h (ns.map V.int) vs
  | _, _, .nil => .nil
  | _, _, .cons n t r => .cons (.int n t) (ints_of r)

theorem fa_all {mean : ExcName → Option Value} {c : Cx} (T : Top view (looseW view lo) mean c.mg c.mb c.H0) (X : Says c.H0) : Fa c where
  b := by
    obtain ⟨b1, b2, b3, b4, b5, b6⟩ := boots
    have go : ∀ {x : Str} {v : Value}, x ∈ ([Str.ofString "len", Str.ofString "abs", Str.ofString "range", Str.ofString "enumerate", Str.ofString "int", Str.ofString "zip"] : List Str) → bootBuiltins x = some v → c.mg x = none ∧ c.mb x = some v := fun hx hv =>
      let ⟨h0, h1, h2, h3, h4, h5⟩ := free_names _ hx
      ⟨T.free _ h1 h2 h3 h4 h5, (T.builtins _ h0).trans hv⟩
    exact ⟨go (by simp) b1, go (by simp) b2, go (by simp) b3, go (by simp) b4, go (by simp) b5, go (by simp) b6⟩
  f k hk := Fa.fn T (fns k hk)
  nought := by
    obtain ⟨m, n, a, -⟩ := X.ns
    exact ⟨_, (T.g.agree n _).trans a, .tup (by simp) X.o1 (.cons (.raw _) (.cons (.lst (by simp) X.o2 .nil) .nil))⟩
  unit := by
    obtain ⟨m, n, -, a⟩ := X.ns
    exact ⟨_, (T.g.agree n _).trans a, .tup (by simp) X.o3 (.cons (.raw _) (.cons (.lst (by simp) X.o4 (.cons (.int _ _) .nil)) .nil))⟩

theorem law_run {prog : Program} {w : World} {mean : ExcName → Option Value} {mg mb : Str → Option Value} {s₁ : Shared} {h₁ : Heap} {tk : Nat} {a : Addr} {vs : List Value} {ns : List Int} {env : Env} {m : Str → Option Value}
    {Q : Flow → Shared → Prop} {E : Value → Shared → Prop} (T : Top view (looseW view lo) mean mg mb s₁.heap) (X : Says s₁.heap) (hL : s₁.heap.IsList a vs.toArray) (hI : IntsAre vs ns) (hl : ns.length ≤ 63) (F : Fr s₁.heap s₁.heap.objs.size h₁ m)
    (hm : m "script" = some (.ref a)) (hc : ∀ d ∈ [s₁.heap.objs.size + 3, s₁.heap.objs.size + 2, s₁.heap.objs.size + 1], ∃ v0, h₁.IsCell d v0)
    (e1 : env.scope.names = lawN) (e2 : env.scope.kind = .function) (e3 : env.globals = mainGlobals) (e4 : env.builtins = builtinsNs)
    (e5 : env.cells = [(("many" : Str), s₁.heap.objs.size + 3), (("size" : Str), s₁.heap.objs.size + 2), (("w" : Str), s₁.heap.objs.size + 1)]) (e6 : env.locals = s₁.heap.objs.size)
    (hQ : ∀ h tk m', Fr s₁.heap s₁.heap.objs.size h m' → Q (.ret (.bool true)) ⟨h, s₁.gens, s₁.drawn, tk, s₁.os⟩) :
    wpAny (model prog w) (callerA.deeper env) (execs (defBody (theDef 47)) env) Q E ⟨h₁, s₁.gens, s₁.drawn, tk, s₁.os⟩ := by
  let c : Cx := ⟨prog, w, s₁.heap, mg, mb, T.g, T.b, T.nolimit⟩
  let Fm' : Fm := ⟨env, [], 0, [s₁.heap.objs.size + 3, s₁.heap.objs.size + 2, s₁.heap.objs.size + 1]⟩
  have W : Fa c := fa_all (c := c) T X
  have hF : LF Fm' s₁.heap.objs.size := ⟨⟨e1, e2, e3, e4⟩, e5, rfl⟩
  obtain ⟨σ', hr⟩ := law_all (n := 0) W hF hL (ints_of hI) (by omega)
  have zL : ∀ b, s₁.heap.objs.size ≤ b → s₁.heap.get? b = none := fun b hb => Heap.get?_none_of_le hb
  have vz : ∀ b ∈ Fm'.vol [], s₁.heap.get? b = none := fun b mm => by
    have mm : b ∈ [] ++ ((env.locals :: [s₁.heap.objs.size + 3, s₁.heap.objs.size + 2, s₁.heap.objs.size + 1]) ++ []) := mm
    rw [e6] at mm
    simp only [List.nil_append, List.append_nil, List.mem_cons, List.not_mem_nil, or_false] at mm
    rcases mm with rfl | rfl | rfl | rfl
    · exact zL _ (Nat.le_refl _)
    · exact zL _ (Nat.le_add_right _ 3)
    · exact zL _ (Nat.le_add_right _ 2)
    · exact zL _ (Nat.le_add_right _ 1)
  have hk : Fm'.env.kindOf "script" = some .local := hF.fr.of rfl
  have I : Inv c.H0 Fm' ⟨[("script", .raw (.ref a))], []⟩ [] h₁ := {
    base := fun b o e => F.keep b o e
    off := vz
    nodup := by
      show ((env.locals :: [s₁.heap.objs.size + 3, s₁.heap.objs.size + 2, s₁.heap.objs.size + 1]) ++ []).Nodup
      rw [e6]; simp
    apart := fun i b _ e => by simp at e
    ns := ⟨m, by show h₁.Ns env.locals m; rw [e6]; exact F.ns, fun x v e k => by
      have e : List.lookup x [(("script" : Str), V.raw (.ref a))] = some v := e
      simp only [List.lookup] at e
      split at e
      · rename_i q; cases e; rw [beq_iff_eq.mp q]; exact ⟨_, hm, .raw _⟩
      · cases e⟩
    cel := fun x v e k => by
      have e : List.lookup x [(("script" : Str), V.raw (.ref a))] = some v := e
      simp only [List.lookup] at e
      split at e
      · rename_i q; rw [beq_iff_eq.mp q] at k; exact absurd hk k
      · cases e
    cex := hc
    ro := fun x d e => by
      have e : env.cells.lookup x = some d := e
      rw [e5] at e
      left
      obtain hmem := mem_of_lookup e
      simp only [List.mem_cons, Prod.mk.injEq, List.not_mem_nil, or_false] at hmem
      show d ∈ [s₁.heap.objs.size + 3, s₁.heap.objs.size + 2, s₁.heap.objs.size + 1]
      simp only [List.mem_cons, List.not_mem_nil, or_false]
      rcases hmem with ⟨-, rfl⟩ | ⟨-, rfl⟩ | ⟨-, rfl⟩
      · exact .inl rfl
      · exact .inr (.inl rfl)
      · exact .inr (.inr rfl)
    len := rfl
    muts := fun i xs e => by simp at e
    live := fun b mm => (nomatch mm) }
  have ok : Okay 9 (callerA.deeper env) := ⟨rfl, by show callerA.depth + 1 + 9 ≤ 400; decide, by show callerA.units + 3 + 10 * 9 ≤ 1000; decide⟩
  refine wpAny_mono (hr (callerA.deeper env) [] ⟨h₁, s₁.gens, s₁.drawn, tk, s₁.os⟩ E ok I) (fun fl s' ⟨as', I', q, S⟩ => ?_) fun _ _ x => x
  obtain ⟨h', t', rfl⟩ := S.rest
  cases q with
  | ret q =>
    cases q with
    | raw _ =>
      obtain ⟨m', n', -⟩ := I'.ns
      refine hQ h' t' m' ⟨?_, I'.base, Nat.le_refl _⟩
      have n' : h'.Ns env.locals m' := n'
      rw [e6] at n'; exact n'

end Mine
open PySem PySem.W PyProof.Rows PySem.Calls

theorem PySem.Challenge.cw_xm0444_01_holds : PySem.Challenge.rw_xm0444_01.Holds := by
  refine Mine.law_of fun said => ?_
  refine holds_open (q := Mine.view) (loose := Mine.lo) (Xt := Mine.xt) (XP := XL Mine.view []) (Yf := Mine.obs) (Ya := Mine.val) (YP := fun _ h => Mine.Says h) (N := 3958) Mine.left Mine.says_of Mine.says_keeps
    (fun s e => xl_of s (Bool.and_eq_true_iff.mp e).1) XL.keeps (by rfl) (by rfl) (by rfl) (fun s e => recFacts_of (Bool.and_eq_true_iff.mp e).2) (by rfl) said Mine.opens Mine.bare Mine.promised ?walk
  intro w s₀ s₁ mg mb G Y fa o pm cd doc dV kV ho hd hcd hD hmg hg args vals as hpre hlay hrd hwl hlo
  k_behind G ho hd hcd hD hmg hpre hlay hrd hwl hlo cd
  rename Top _ _ _ _ _ _ => T'
  rename Heap.IsList _ _ _ => hL'
  rename IntsAre _ _ => hI'
  rename Fr _ _ _ _ => F'
  rename News _ _ _ _ => N'
  refine Mine.law_run T' Y hL' hI' (by omega) F' rfl ?hc rfl rfl rfl rfl rfl rfl ?hQ
  case hc =>
    intro d hd'
    simp only [List.mem_cons, List.not_mem_nil, or_false] at hd'
    rcases hd' with rfl | rfl | rfl
    · exact ⟨_, _, (N' _ (.head _)).1, by assumption⟩
    · exact ⟨_, _, (N' _ (.tail _ (.head _))).1, by assumption⟩
    · exact ⟨_, _, (N' _ (.tail _ (.tail _ (.head _)))).1, by assumption⟩
  case hQ =>
    intro h tk m' F2
    refine goodW_bool F2 hg (raisesW_false ?hn) ?hp
    case hn => wrow_none_raised
    case hp => (refine' postW_of ?zs ?zv ?ze; (case zs => o_shape); (case zv => wtm_val); (case ze => w_fin))
