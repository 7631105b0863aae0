import PyProof.Rows.All
import Wide.All
import OpenK.AllK
import Wide.FinOn
import HandS.ForMost
import HandS.Exc
import HandS.IsInst
import HandS.TupAny
import HandS.Star
import HandS.DictComp
import HandS.Conv
import HandS.Zip
import HandS.Codes
import HandS.Walk
import HandS.More
import PySem.Challenge.RW_upnext_k37_stands_recognized
set_option pp.deepTerms false
set_option pp.maxSteps 700
set_option Elab.async false
set_option linter.all false
set_option maxRecDepth 100000
set_option maxHeartbeats 4000000
namespace U
open PySem L2
/-- a def of the text that may be called by its name -/
def Has (P : Program) (w : World) (K : PySem.W.Frag) (mg : Str → Option Value) (base : Heap) (CX : CXT) (k : Nat) (x : Str) (ps : List Str) (sp : Sp) : Prop :=
  ∃ (f : Addr) (fd : FuncData), FnOk P w K mg base CX k f fd ps sp ∧ mg x = some (.ref f) ∧ PySem.W.keepIn K (.ref f) = true ∧ Binds K fd ps []
theorem pe_h {X : Cx} {CX : CXT} {k : Nat} {ps : List Str} {sp : Sp} {E : XK} {x : Str} {p pos : Pos} {e : Expr} {es : List Expr} {t : TA}
    (h : Has X.prog X.w X.K X.mg X.base CX k x ps sp) (hr : Room k X.A) (hg : Gl X x) (hx : Passes CX X E) (ha : PA X (e :: es) t)
    (hdb : (x == ("__debug__" : Str)) = false := by decide) (he : starEach (e :: es) X.env = (false, eval e X.env) :: starEach es X.env := by rfl) (hpl : (backTo pos (starEach es X.env)).any (·.1) = false := by rfl) :
    PE X (.Call (.Name x p) (e :: es) [] pos) (tCall sp [] E t) := by
  obtain ⟨f, fd, F, hm, hk, hb⟩ := h
  exact pe_call F hr hg hm hk hb .nil hx ha hdb he hpl
theorem bb_len : bootBuiltins "len" = some (.builtin "len") := by decide +kernel
theorem bb_max : bootBuiltins "max" = some (.builtin "max") := by decide +kernel
theorem bb_all : bootBuiltins "all" = some (.builtin "all") := by decide +kernel
theorem bb_any : bootBuiltins "any" = some (.builtin "any") := by decide +kernel
theorem bb_sorted : bootBuiltins "sorted" = some (.builtin "sorted") := by decide +kernel
theorem bb_isinstance : bootBuiltins "isinstance" = some (.builtin "isinstance") := by decide +kernel
theorem bb_list : bootBuiltins "list" = some (.type "list") := by decide +kernel
theorem bb_tuple : bootBuiltins "tuple" = some (.type "tuple") := by decide +kernel
theorem bb_int : bootBuiltins "int" = some (.type "int") := by decide +kernel
theorem bb_bool : bootBuiltins "bool" = some (.type "bool") := by decide +kernel
theorem bb_str : bootBuiltins "str" = some (.type "str") := by decide +kernel
theorem bb_dict : bootBuiltins "dict" = some (.type "dict") := by decide +kernel
theorem bb_set : bootBuiltins "set" = some (.type "set") := by decide +kernel
/-- names of builtins that the text leaves alone -/
structure Bl (mg : Str → Option Value) : Prop where
  b_len : mg "len" = none
  b_max : mg "max" = none
  b_all : mg "all" = none
  b_any : mg "any" = none
  b_sorted : mg "sorted" = none
  b_isinstance : mg "isinstance" = none
  b_list : mg "list" = none
  b_tuple : mg "tuple" = none
  b_int : mg "int" = none
  b_bool : mg "bool" = none
  b_str : mg "str" = none
  b_dict : mg "dict" = none
  b_set : mg "set" = none
  b_range : mg "range" = none
  b_enumerate : mg "enumerate" = none
  b_zip : mg "zip" = none

/-! ### tests -/
theorem iteD {p A B : Prop} [Decidable p] (h1 : p → A) (h2 : ¬ p → B) : if decide p = true then A else B := by
  by_cases h : p
  · rw [decide_eq_true h, if_pos rfl]
    exact h1 h
  · rw [decide_eq_false h, if_neg Bool.false_ne_true]
    exact h2 h
theorem iteND {p A B : Prop} [Decidable p] (h1 : p → B) (h2 : ¬ p → A) : if (!decide p) = true then A else B := by
  by_cases h : p
  · rw [decide_eq_true h]
    exact iteF (h1 h)
  · rw [decide_eq_false h]
    exact iteT (h2 h)
theorem iteI {i j : Int} {A B : Prop} (h1 : i = j → A) (h2 : i ≠ j → B) : if decide (V.int i = V.int j) = true then A else B :=
  iteD (fun h => h1 (V.int.inj h)) fun h => h2 fun e => h (by rw [e])
theorem iteNI {i j : Int} {A B : Prop} (h1 : i = j → B) (h2 : i ≠ j → A) : if (!decide (V.int i = V.int j)) = true then A else B :=
  iteND (fun h => h1 (V.int.inj h)) fun h => h2 fun e => h (by rw [e])
theorem iteS {i j : Str} {A B : Prop} (h1 : i = j → A) (h2 : i ≠ j → B) : if decide (V.str i = V.str j) = true then A else B :=
  iteD (fun h => h1 (V.str.inj h)) fun h => h2 fun e => h (by rw [e])
theorem iteB {c : Bool} {A B : Prop} (h1 : c = true → A) (h2 : c = false → B) : if c = true then A else B := by
  cases c
  · exact iteF (h2 rfl)
  · exact iteT (h1 rfl)
theorem iteNB {c : Bool} {A B : Prop} (h1 : c = true → B) (h2 : c = false → A) : if (!c) = true then A else B := by
  cases c
  · exact iteT (h2 rfl)
  · exact iteF (h1 rfl)
/-! ### heaps: a part H0 that stands still, a heap H around it -/
structure Ext (M : Addr → Prop) (H0 H H0' H' : Hp) : Prop where
  same : Same H0 H0'
  new : ∀ a o, H0' a = some o → H0 a = some o ∨ H a = none
  keep : ∀ a o, ¬ M a → H a = some o → H' a = some o
  live : ∀ a, H' a = none → H a = none
  sub : Same H0' H'
theorem Ext.refl {M : Addr → Prop} {H0 H : Hp} (s : Same H0 H) : Ext M H0 H H0 H :=
  ⟨Same.refl _, fun _ _ e => .inl e, fun _ _ _ e => e, fun _ e => e, s⟩
theorem Ext.trans {M : Addr → Prop} {H0 H H1 H' H2 H'' : Hp} (x : Ext M H0 H H1 H') (y : Ext M H1 H' H2 H'') : Ext M H0 H H2 H'' :=
  ⟨x.same.trans y.same, fun a o e => by
    rcases y.new a o e with q | q
    · exact x.new a o q
    · exact .inr (x.live a q), fun a o m e => y.keep a o m (x.keep a o m e), fun a e => x.live a (y.live a e), y.sub⟩
theorem Same.none {H0 H : Hp} {a : Addr} (s : Same H0 H) (h : H a = Option.none) : H0 a = Option.none := Same.free s h
theorem Same.upd0 {H0 H : Hp} {p : Addr} {o : HO} (s : Same H0 H) (h : H0 p = Option.none) : Same H0 (upd H p o) := fun b u e => by
  rw [upd_ne (ne_of_none e h)]
  exact s b u e
theorem Same.upd2 {H0 H : Hp} {p : Addr} {o : HO} (s : Same H0 H) : Same (upd H0 p o) (upd H p o) := fun b u e => by
  by_cases q : b = p
  · subst q
    rw [upd_same] at e ⊢
    exact e
  · rw [upd_ne q] at e ⊢
    exact s b u e
theorem Same.new {H : Hp} {p : Addr} {o : HO} (h : H p = Option.none) : Same H (upd H p o) := Same.upd0 (Same.refl H) h
/-- a new object that stands still from now on -/
theorem Ext.lay {M : Addr → Prop} {H0 H : Hp} {p : Addr} {o : HO} (s : Same H0 H) (h : H p = none) : Ext M H0 H (upd H0 p o) (upd H p o) :=
  ⟨Same.new (s.free h), fun a u e => by
    by_cases q : a = p
    · subst q
      exact .inr h
    · rw [upd_ne q] at e
      exact .inl e, fun a u _ e => by
    rw [upd_ne (ne_of_none e h)]
    exact e, fun a e => by
    by_cases q : a = p
    · subst q
      exact h
    · rw [upd_ne q] at e
      exact e, Same.upd2 s⟩
/-- a new object that is left out of sight -/
theorem Ext.pass {M : Addr → Prop} {H0 H H' : Hp} (s : Same H0 H) (h : Same H H') : Ext M H0 H H0 H' :=
  ⟨Same.refl _, fun _ _ e => .inl e, fun a o _ e => h a o e, fun a e => h.free e, s.trans h⟩
theorem Ext.mono {M N : Addr → Prop} {H0 H H0' H' : Hp} (x : Ext M H0 H H0' H') (h : ∀ a, M a → N a) : Ext N H0 H H0' H' :=
  ⟨x.same, x.new, fun a o m e => x.keep a o (fun z => m (h a z)) e, x.live, x.sub⟩
theorem Ext.off {M : Addr → Prop} {H0 H H0' H' : Hp} (x : Ext M H0 H H0' H') {a : Addr} (h0 : H0 a = none) (h : H a ≠ none) : H0' a = none := by
  cases q : H0' a with
  | none => rfl
  | some o =>
    rcases x.new a o q with e | e
    · rw [h0] at e; cases e
    · exact absurd e h
theorem SqL.up {K : PySem.W.Frag} {H H' : Hp} {a : Addr} {xs : List V} (h : SqL K H a xs) (e : Same H H') : SqL K H' a xs := e.seq h
theorem SqT.up {K : PySem.W.Frag} {H H' : Hp} {a : Addr} {xs : List V} (h : SqT K H a xs) (e : Same H H') : SqT K H' a xs := by
  rcases h with (h | ⟨o, h⟩) | h
  · exact .inl (.inl (e _ _ h))
  · exact .inl (.inr ⟨o, e _ _ h⟩)
  · exact .inr h
mutual
theorem Dp.up {K : PySem.W.Frag} {H H' : Hp} (e : Same H H') : ∀ (d : PyData) (v : V), Dp K H v d → Dp K H' v d
  | .none, _, h => by cases h; exact .non
  | .bool b, _, h => by cases h; exact .bl b
  | .int i, _, h => by cases h; exact .int i
  | .str x, _, h => by cases h; exact .str x
  | .list ds, _, h => by
    cases h with
    | lst s a => exact .lst (SqL.up s e) (DpAll.up e ds _ a)
  | .tuple ds, _, h => by
    cases h with
    | tup s a => exact .tup (SqT.up s e) (DpAll.up e ds _ a)
  | .dict kvs, _, h => by cases h
theorem DpAll.up {K : PySem.W.Frag} {H H' : Hp} (e : Same H H') : ∀ (ds : List PyData) (vs : List V), DpAll K H vs ds → DpAll K H' vs ds
  | [], _, h => by cases h; exact .nil
  | d :: ds, _, h => by
    cases h with
    | cons a b => exact .cons (Dp.up e d _ a) (DpAll.up e ds _ b)
end
/-! ### the box of draws: great cells at g, the rest of the one at hand, small cells, the count -/
structure BA where
  b : Addr
  g : Addr
  s : Addr
structure Bx (H0 H : Hp) (β : BA) (c : Int) : Prop where
  sub : Same H0 H
  b0 : H0 β.b = none
  g0 : H0 β.g = none
  ne : β.g ≠ β.b
  c0 : 0 ≤ c
  at_ : ∃ (gs : List Int) (n : Int) (ss : List Int), H β.b = some (.lst [.ref β.g, .int n, .ref β.s, .int c]) ∧ H β.g = some (.lst (gs.map V.int)) ∧ H0 β.s = some (.lst (ss.map V.int)) ∧ 0 ≤ n ∧ (∀ x ∈ gs, 0 < x) ∧ gs.length ≤ 63 ∧ ss.length ≤ 63
/-- what may change in a draw -/
def MB (β : BA) : Addr → Prop := fun a => a = β.b ∨ a = β.g
theorem Bx.bs {H0 H : Hp} {β : BA} {c : Int} (x : Bx H0 H β c) : H β.b ≠ none := by
  obtain ⟨gs, n, ss, hb, _⟩ := x.at_
  rw [hb]; exact fun z => nomatch z
theorem Bx.gs {H0 H : Hp} {β : BA} {c : Int} (x : Bx H0 H β c) : H β.g ≠ none := by
  obtain ⟨gs, n, ss, _, hg, _⟩ := x.at_
  rw [hg]; exact fun z => nomatch z
theorem Bx.over {M : Addr → Prop} {H0 H H0' H' : Hp} {β : BA} {c : Int} (x : Bx H0 H β c) (y : Ext M H0 H H0' H') (nb : ¬ M β.b) (ng : ¬ M β.g) : Bx H0' H' β c := by
  obtain ⟨gs, n, ss, hb, hg, hs, r⟩ := x.at_
  exact ⟨y.sub, y.off x.b0 x.bs, y.off x.g0 x.gs, x.ne, x.c0, gs, n, ss, y.keep _ _ nb hb, y.keep _ _ ng hg, y.same _ _ hs, r⟩
theorem Bx.more {H0 Hz H : Hp} {β : BA} {c : Int} (x : Bx H0 H β c) (s1 : Same H0 Hz) (s2 : Same Hz H) (nb : Hz β.b = none) (ng : Hz β.g = none) : Bx Hz H β c := by
  obtain ⟨gs, n, ss, hb, hg, hs, r⟩ := x.at_
  exact ⟨s2, nb, ng, x.ne, x.c0, gs, n, ss, hb, hg, s1 _ _ hs, r⟩
theorem Bx.less {H0 Hz H H' : Hp} {β : BA} {c c' : Int} (y : Bx Hz H' β c') (x : Bx H0 H β c) (s1 : Same H0 Hz) : Bx H0 H' β c' := by
  obtain ⟨gs, n, ss, hb, hg, hs, r⟩ := y.at_
  obtain ⟨_, _, ss', _, _, hs', _⟩ := x.at_
  have e := s1 _ _ hs'
  rw [hs] at e
  rw [← e] at hs'
  exact ⟨s1.trans y.sub, x.b0, x.g0, y.ne, y.c0, gs, n, ss, hb, hg, hs', r⟩
theorem Bx.put {H0 H : Hp} {β : BA} {c : Int} {a : Addr} {o : HO} (x : Bx H0 H β c) (h0 : H0 a = none) (n1 : a ≠ β.b) (n2 : a ≠ β.g) : Bx H0 (upd H a o) β c := by
  obtain ⟨gs, n, ss, hb, hg, hs, r⟩ := x.at_
  exact ⟨Same.upd0 x.sub h0, x.b0, x.g0, x.ne, x.c0, gs, n, ss, by rw [upd_ne n1.symm]; exact hb, by rw [upd_ne n2.symm]; exact hg, hs, r⟩
theorem Bx.nb {H0 H : Hp} {β : BA} {c : Int} {a : Addr} (x : Bx H0 H β c) (h : H a = none) : a ≠ β.b := fun e => x.bs (by rw [← e]; exact h)
theorem Bx.ng {H0 H : Hp} {β : BA} {c : Int} {a : Addr} (x : Bx H0 H β c) (h : H a = none) : a ≠ β.g := fun e => x.gs (by rw [← e]; exact h)
theorem Ext.put {M : Addr → Prop} {H0 H H0' H' : Hp} {a : Addr} {o : HO} (x : Ext M H0 H H0' H') (h0 : H0' a = none) (h : H a = none) : Ext M H0 H H0' (upd H' a o) :=
  ⟨x.same, x.new, fun b u m e => by rw [upd_ne (ne_of_none e h)]; exact x.keep b u m e, fun b e => by
    by_cases q : b = a
    · rw [q, upd_same] at e; cases e
    · rw [upd_ne q] at e; exact x.live b e, Same.upd0 x.sub h0⟩
theorem Ext.less {M : Addr → Prop} {H0 Hz H H' : Hp} (x : Ext M Hz H Hz H') (s : Same H0 Hz) : Ext M H0 H H0 H' :=
  ⟨Same.refl _, fun _ _ e => .inl e, x.keep, x.live, s.trans x.sub⟩
/-- what a loop has built at D, out of sight so far, now stands still -/
theorem Ext.seal {M : Addr → Prop} {H0 H H0' H' : Hp} {D : Addr} {o : HO} (x : Ext M H0 H H0' H') (h : H D = none) (e : H' D = some o) (h0 : H0' D = none) : Ext M H0 H (upd H0' D o) H' :=
  ⟨x.same.trans (Same.new h0), fun a u z => by
    by_cases q : a = D
    · subst q; exact .inr h
    · rw [upd_ne q] at z; exact x.new a u z, x.keep, x.live, fun a u z => by
    by_cases q : a = D
    · subst q; rw [upd_same] at z; rw [e]; exact z
    · rw [upd_ne q] at z; exact x.sub a u z⟩
theorem Bx.seal {H0 H : Hp} {β : BA} {c : Int} {D : Addr} {o : HO} (x : Bx H0 H β c) (e : H D = some o) (h0 : H0 D = none) (n1 : D ≠ β.b) (n2 : D ≠ β.g) : Bx (upd H0 D o) H β c :=
  x.more (Same.new h0) (fun a u z => by
    by_cases q : a = D
    · subst q; rw [upd_same] at z; rw [e]; exact z
    · rw [upd_ne q] at z; exact x.sub a u z) (by rw [upd_ne n1.symm]; exact x.b0) (by rw [upd_ne n2.symm]; exact x.g0)
theorem ne_none {H : Hp} {a b : Addr} {o : HO} (h' : H b = none) (h : H a = some o) : a ≠ b := ne_of_none h h'
theorem seqIx0 {n : Nat} : seqIndex? 0 (n + 1) = some 0 := by
  have h : ixN (n + 1) 0 = some 0 := by
    unfold ixN
    rw [if_pos (by omega), if_pos (by omega)]
    rfl
  exact (ixN_seq h).1
theorem at_mem {α : Type} {xs : List α} {i : Int} (h0 : 0 ≤ i) (h : i < xs.length) : ∃ v, atI xs i = some v ∧ v ∈ xs := by
  have hj : i.toNat < xs.length := by omega
  have e : atI xs (i.toNat : Int) = some xs[i.toNat] := atI_nat (List.getElem?_eq_getElem hj)
  rw [show ((i.toNat : Nat) : Int) = i by omega] at e
  exact ⟨xs[i.toNat], e, List.getElem_mem hj⟩
theorem take_more {α : Type} : ∀ {l : List α} {i : Nat} {x : α}, l[i]? = some x → l.take (i + 1) = l.take i ++ [x]
  | [], _, _, h => by simp at h
  | a :: l, 0, x, h => by
    have e : a = x := Option.some.inj h
    subst e
    rfl
  | a :: l, i + 1, x, h => by
    have ih := take_more (l := l) (i := i) (x := x) h
    show a :: l.take (i + 1) = a :: l.take i ++ [x]
    rw [ih]
    rfl
theorem int_at {ns : List Int} {i : Nat} {y : V} (h : (ns.map V.int)[i]? = some y) : ∃ z, ns[i]? = some z ∧ y = V.int z := by
  rw [List.getElem?_map] at h
  cases e : ns[i]? with
  | none => rw [e] at h; cases h
  | some z => rw [e] at h; exact ⟨z, rfl, (Option.some.inj h).symm⟩
theorem small_le {n : Nat} (h : n ≤ 1000000) : n ≤ sizeLine := Nat.le_trans h (by decide)
theorem small_lt {n : Nat} (h : n ≤ 1000000) : n < sizeLine := Nat.lt_of_le_of_lt h (by decide)
/-! ### comprehensions: what stands in the block may be told by the block's own context -/
abbrev Dep (α : Type) : Type := Shared → Hp → Addr → List (Str × Addr) → List Addr → α
section
variable {X : Cx}
theorem pe_lcD {elt tg iter : Expr} {ifs : List Expr} {scope : Scope} {own : List (Str × Nat)} {pos : Pos} {wi : TI} {g : Dep TG} {tt : Dep TT} {te : Dep TE} (hc : X.calm = true) (hN : X.N.Nodup) (hi : PI X tg iter wi) (ok : BlkOk X.N X.env.scope scope own)
    (hg : ∀ s H C cl fp, PG (X.blk s H scope (compEnvC scope cl C X.env) fp) tg (g s H C cl fp)) (ht : ∀ s H C cl fp, PTs (X.blk s H scope (compEnvC scope cl C X.env) fp) ifs (tt s H C cl fp))
    (he : ∀ s H C cl fp, PE (X.blk s H scope (compEnvC scope cl C X.env) fp) elt (te s H C cl fp))
    (eg : ∀ s H C cl fp, g s H C cl fp = g X.s_0 X.H_0 0 [] [] := by intros; rfl) (et : ∀ s H C cl fp, tt s H C cl fp = tt X.s_0 X.H_0 0 [] [] := by intros; rfl) (ee : ∀ s H C cl fp, te s H C cl fp = te X.s_0 X.H_0 0 [] [] := by intros; rfl)
    (hs : ∀ x, foldedSetIterable iter X.env x = pure x := by intro _; rfl) :
    PE X (.ListComp elt [⟨tg, iter, ifs, 0⟩] scope pos) (tLc wi (g X.s_0 X.H_0 0 [] []) (tt X.s_0 X.H_0 0 [] []) (te X.s_0 X.H_0 0 [] []) (own.map (·.2))) :=
  pe_lc hc hN hi ok (fun s H C cl fp => by rw [← eg s H C cl fp]; exact hg s H C cl fp) (fun s H C cl fp => by rw [← et s H C cl fp]; exact ht s H C cl fp) (fun s H C cl fp => by rw [← ee s H C cl fp]; exact he s H C cl fp) hs
theorem ps_setLcD {i : Nat} {y : Str} {py : Pos} {elt tg iter : Expr} {ifs : List Expr} {scope : Scope} {own : List (Str × Nat)} {pos spos : Pos} {wi : TI} {g : Dep TG} {tt : Dep TT} {te : Dep TE} (hc : X.calm = true) (hN : X.N.Nodup) (hy : X.N[i]? = some y) (hyl : X.env.scope.names.lookup y = some .local)
    (hsw : swapsWith (.ListComp elt [⟨tg, iter, ifs, 0⟩] scope pos) (some (.Name y py)) spos.line X.env = pure true) (hi : PI X tg iter wi) (ok : BlkOk X.N X.env.scope scope own)
    (hg : ∀ s H C cl fp, PG (X.blk s H scope (compEnvC scope cl C X.env) fp) tg (g s H C cl fp)) (ht : ∀ s H C cl fp, PTs (X.blk s H scope (compEnvC scope cl C X.env) fp) ifs (tt s H C cl fp))
    (he : ∀ s H C cl fp, PE (X.blk s H scope (compEnvC scope cl C X.env) fp) elt (te s H C cl fp))
    (eg : ∀ s H C cl fp, g s H C cl fp = g X.s_0 X.H_0 0 [] [] := by intros; rfl) (et : ∀ s H C cl fp, tt s H C cl fp = tt X.s_0 X.H_0 0 [] [] := by intros; rfl) (ee : ∀ s H C cl fp, te s H C cl fp = te X.s_0 X.H_0 0 [] [] := by intros; rfl)
    (hs : ∀ x, foldedSetIterable iter X.env x = pure x := by intro _; rfl) :
    PS X (.Assign [.Name y py] (.ListComp elt [⟨tg, iter, ifs, 0⟩] scope pos) spos) (tAsg (tLc wi (g X.s_0 X.H_0 0 [] []) (tt X.s_0 X.H_0 0 [] []) (te X.s_0 X.H_0 0 [] []) (own.map (·.2))) (gName i)) :=
  ps_setLc hc hN hy hyl hsw hi ok (fun s H C cl fp => by rw [← eg s H C cl fp]; exact hg s H C cl fp) (fun s H C cl fp => by rw [← et s H C cl fp]; exact ht s H C cl fp) (fun s H C cl fp => by rw [← ee s H C cl fp]; exact he s H C cl fp) hs
theorem pe_dcD {kx vx tg iter : Expr} {ifs : List Expr} {scope : Scope} {own : List (Str × Nat)} {pos : Pos} {wi : TI} {g : Dep TG} {tt : Dep TT} {tk tv : Dep TE} (hc : X.calm = true) (hN : X.N.Nodup) (hi : PI X tg iter wi) (ok : BlkOk X.N X.env.scope scope own)
    (hg : ∀ s H C cl fp, PG (X.blk s H scope (compEnvC scope cl C X.env) fp) tg (g s H C cl fp)) (ht : ∀ s H C cl fp, PTs (X.blk s H scope (compEnvC scope cl C X.env) fp) ifs (tt s H C cl fp))
    (hk : ∀ s H C cl fp, PE (X.blk s H scope (compEnvC scope cl C X.env) fp) kx (tk s H C cl fp)) (he : ∀ s H C cl fp, PE (X.blk s H scope (compEnvC scope cl C X.env) fp) vx (tv s H C cl fp))
    (eg : ∀ s H C cl fp, g s H C cl fp = g X.s_0 X.H_0 0 [] [] := by intros; rfl) (et : ∀ s H C cl fp, tt s H C cl fp = tt X.s_0 X.H_0 0 [] [] := by intros; rfl) (ek : ∀ s H C cl fp, tk s H C cl fp = tk X.s_0 X.H_0 0 [] [] := by intros; rfl) (ee : ∀ s H C cl fp, tv s H C cl fp = tv X.s_0 X.H_0 0 [] [] := by intros; rfl)
    (hs : ∀ x, foldedSetIterable iter X.env x = pure x := by intro _; rfl) :
    PE X (.DictComp kx vx [⟨tg, iter, ifs, 0⟩] scope pos) (tDc wi (g X.s_0 X.H_0 0 [] []) (tt X.s_0 X.H_0 0 [] []) (tk X.s_0 X.H_0 0 [] []) (tv X.s_0 X.H_0 0 [] []) (own.map (·.2))) :=
  pe_dc hc hN hi ok (fun s H C cl fp => by rw [← eg s H C cl fp]; exact hg s H C cl fp) (fun s H C cl fp => by rw [← et s H C cl fp]; exact ht s H C cl fp) (fun s H C cl fp => by rw [← ek s H C cl fp]; exact hk s H C cl fp) (fun s H C cl fp => by rw [← ee s H C cl fp]; exact he s H C cl fp) hs
end
/-- any data -/
inductive Dat (K : PySem.W.Frag) (H : Hp) : V → PyData → Prop where
  | of {v : V} {d : PyData} (h : Dp K H v d) : Dat K H v d
  | dict {a : Addr} {kvs : List (Key × V)} (h : H a = some (.dK kvs)) : Dat K H (.ref a) (.dict [])
theorem Dat.up {K : PySem.W.Frag} {H H' : Hp} {v : V} {d : PyData} (h : Dat K H v d) (e : Same H H') : Dat K H' v d := by
  cases h with
  | of h => exact .of (Dp.up e _ _ h)
  | dict h => exact .dict (e _ _ h)
theorem dp_new {K : PySem.W.Frag} {H : Hp} {v : V} {d : PyData} {p : Addr} {o : HO} (n : H p = none) (h : Dp K H v d) : Dp K (upd H p o) v d := Dp.up (Same.new n) _ _ h
theorem dat_new {K : PySem.W.Frag} {H : Hp} {v : V} {d : PyData} {p : Addr} {o : HO} (n : H p = none) (h : Dat K H v d) : Dat K (upd H p o) v d := h.up (Same.new n)
theorem dp_same {K : PySem.W.Frag} {H H' : Hp} {v : V} {d : PyData} (e : Same H H') (h : Dp K H v d) : Dp K H' v d := Dp.up e _ _ h
theorem dat_same {K : PySem.W.Frag} {H H' : Hp} {v : V} {d : PyData} (e : Same H H') (h : Dat K H v d) : Dat K H' v d := h.up e
/-- a method of a class of the text -/
def HasM (P : Program) (w : World) (K : PySem.W.Frag) (mg : Str → Option Value) (base : Heap) (CX : CXT) (k : Nat) (C : Addr) (m : Str) (ps : List Str) (sp : Sp) : Prop :=
  ∃ (f : Addr) (fd : FuncData), FnOk P w K mg base CX k f fd ps sp ∧ Meth K C m f ∧ Binds K fd ps []
theorem pe_hm0 {X : Cx} {CX : CXT} {k : Nat} {C : Addr} {m : Str} {ps : List Str} {sp : Sp} {E : XK} {apos pos : Pos} {o : Expr} {ta : TE} {pl : Sem Bool} (h : HasM X.prog X.w X.K X.mg X.base CX k C m ps sp) (c : Cls X.K C) (hr : Room k X.A) (hx : Passes CX X E) (ho : PE X o ta)
    (ht : eval (.Call (.Attribute o m apos) [] [] pos) X.env = (do
      let ov ← eval o X.env
      standAt apos.atName
      let (f, first) ← holding [ov] (getMethod ov m pl)
      callWith pos f first (backTo pos (starEach [] X.env)) (backToKw pos (keywordEach [] X.env))) := by rfl) :
    PE X (.Call (.Attribute o m apos) [] [] pos) (tMeth C m sp [] E ta tNil) := by
  obtain ⟨f, fd, F, hm, hb⟩ := h
  exact pe_meth0 ho c hm F hr hb .nil hx ht
theorem pe_hm {X : Cx} {CX : CXT} {k : Nat} {C : Addr} {m : Str} {ps : List Str} {sp : Sp} {E : XK} {apos pos : Pos} {o e : Expr} {es : List Expr} {ta : TE} {t : TA} {pl : Sem Bool} (h : HasM X.prog X.w X.K X.mg X.base CX k C m ps sp) (c : Cls X.K C) (hr : Room k X.A) (hx : Passes CX X E) (ho : PE X o ta) (ha : PA X (e :: es) t)
    (hst : starEach (e :: es) X.env = (false, eval e X.env) :: starEach es X.env := by rfl) (hpl : (backTo pos (starEach es X.env)).any (·.1) = false := by rfl)
    (ht : eval (.Call (.Attribute o m apos) (e :: es) [] pos) X.env = (do
      let ov ← eval o X.env
      standAt apos.atName
      let (f, first) ← holding [ov] (getMethod ov m pl)
      callWith pos f first (backTo pos (starEach (e :: es) X.env)) (backToKw pos (keywordEach [] X.env))) := by rfl) :
    PE X (.Call (.Attribute o m apos) (e :: es) [] pos) (tMeth C m sp [] E ta t) := by
  obtain ⟨f, fd, F, hm, hb⟩ := h
  exact pe_meth ho c hm F hr hb .nil hx ha hst hpl ht
/-- a class of the text, made by its __init__ -/
def HasC (P : Program) (w : World) (K : PySem.W.Frag) (mg : Str → Option Value) (base : Heap) (CX : CXT) (k : Nat) (x : Str) (C : Addr) (ps : List Str) (sp : Sp) : Prop :=
  ∃ (f : Addr) (fd : FuncData), FnOk P w K mg base CX k f fd ps sp ∧ Mk K C f ∧ Binds K fd ps [] ∧ mg x = some (.ref C)
theorem pe_hc {X : Cx} {CX : CXT} {k : Nat} {C : Addr} {x : Str} {ps : List Str} {sp : Sp} {E : XK} {p pos : Pos} {e : Expr} {es : List Expr} {t : TA} (h : HasC X.prog X.w X.K X.mg X.base CX k x C ps sp) (hr : Room (k + 1) X.A) (hg : Gl X x) (hx : Passes CX X E) (ha : PA X (e :: es) t)
    (hdb : (x == ("__debug__" : Str)) = false := by decide) (he : starEach (e :: es) X.env = (false, eval e X.env) :: starEach es X.env := by rfl) (hpl : (backTo pos (starEach es X.env)).any (·.1) = false := by rfl) :
    PE X (.Call (.Name x p) (e :: es) [] pos) (tMake C sp [] E t) := by
  obtain ⟨f, fd, F, M, hb, hm⟩ := h
  exact pe_make M F hr hg hm hb .nil hx ha hdb he hpl
def tNo : TE := fun _ _ _ => False
theorem pe_never {X : Cx} {e : Expr} : PE X e tNo := ⟨fun _ _ _ _ _ _ h => h.elim⟩
end U
open PySem L2 U
local macro_rules | `(tactic| walk_at "kx") => `(tactic| dsimp only [cxOf, Cx.nox, Cx.blk])
local macro_rules | `(tactic| walk_at "ne") => `(tactic| first
  | assumption
  | (refine Ne.symm ?_; assumption)
  | (apply ne_none; assumption; walk_at "hp")
  | (refine Ne.symm ?_; apply ne_none; assumption; walk_at "hp"))
local macro_rules | `(tactic| walk_at "hp") => `(tactic| first
  | assumption
  | exact upd_same
  | (refine Eq.trans (upd_ne ?_) ?_; walk_at "ne"; walk_at "hp"))
local macro_rules | `(tactic| walk_at "sq") => `(tactic| first
  | assumption
  | (refine SqL.of ?_; walk_at "hp")
  | (refine SqT.of ?_; walk_at "hp")
  | walk_at "hp")
local macro_rules | `(tactic| walk_at "dp") => `(tactic| first
  | assumption
  | exact Dp.int _
  | exact Dp.str _
  | exact Dp.bl _
  | exact Dp.non
  | (refine Dat.of ?_; walk_at "dp")
  | (refine dp_new ?_ ?_; assumption; walk_at "dp")
  | (refine dat_new ?_ ?_; assumption; walk_at "dp")
  | (apply dp_same; assumption; walk_at "dp")
  | (apply dat_same; assumption; walk_at "dp"))
local macro_rules | `(tactic| walk_at "sd") => `(tactic| first
  | assumption
  | exact Nat.le_of_ble_eq_true rfl
  | omega
  | (dsimp only; omega)
  | exact ⟨by decide, by decide, by decide⟩
  | (refine ⟨?_, ?_⟩ <;> omega)
  | (rw [sizeLine_eq]; simp only [List.length_map, List.length_append, List.length_cons, List.length_nil]; omega)
  | (refine Or.inl ⟨?_, ?_⟩ <;> omega)
  | (refine Or.inr ⟨?_, ?_⟩ <;> omega)
  | (refine Or.inl ⟨rfl, ?_, SqL.of ?_⟩; rotate_left 1; walk_at "hp"))
local macro_rules | `(tactic| walk_at "rd") => `(tactic| repeat (first
  | (refine And.intro ?_ ?_; omega)
  | refine ⟨_, rfl, ?_⟩
  | refine ⟨rfl, ?_⟩
  | refine ⟨_, _, rfl, rfl, ?_⟩
  | (refine ⟨_, ?_, _, ?_, rfl, rfl, ?_, ?_, ?_⟩; rotate_left 2; walk_at "sq"; rfl)
  | (refine ⟨_, ?_, rfl, Or.inl ⟨?_, ?_, ?_⟩, ?_⟩; rotate_left 2; walk_at "sq"; rfl)
  | (refine ⟨_, _, ?_, ?_, rfl, rfl, ?_, ?_, ?_⟩; rotate_left 2; walk_at "sq"; walk_at "sq")
  | refine ⟨_, _, rfl, ?_⟩
  | (refine ⟨_, _, ?_, rfl, ?_, rfl, ?_⟩; rotate_left 1; walk_at "dp")
  | (refine ⟨_, ?_, ?_, rfl, ?_, ?_, ?_⟩; rotate_left 2; walk_at "dp"; rfl)
  | (refine ⟨?_, ?_, _, ?_, rfl, ?_, ?_, ?_, ?_⟩; rotate_left 3; walk_at "dp"; rfl; rfl; intro _ _)
  | (refine ⟨_, ?_, rfl, SqT.of ?_, ?_, ?_⟩; rotate_left 1; walk_at "hp"; rfl)
  | (refine And.intro ?_ ?_; walk_at "sd")
  | refine fun _ (_ : _ = none) => ?_))
namespace U
open PySem PyProof.Rows
/-! ### sum of lists, with a list to begin with -/
/-- what k lists, from the i-th on, hold -/
def cat (its : Nat → List Value) : Nat → Nat → List Value
  | _, 0 => []
  | i, k + 1 => its i ++ cat its (i + 1) k
theorem sum_args2 (a b : Value) : argsOk "sum" ⟨[a, b], []⟩ := by unfold argsOk; kernel_rfl
abbrev LstAt (h : Heap) (l : Addr) (items : Array Value) (n : Nat) : Prop := h.get? l = some { cls := .type "list", dict := none, data := .seq items n, slots := #[] }
section
variable {prog : Program} {w : World} {A : Around} {R : Result → Shared → Prop} {I : Addr} {fp wr : List Addr} {n : Nat} {P : Nat → Value → Prop} {St : Nat → Heap → Prop}
/-- one turn of sum's loop over what is neither ints nor floats: what comes next is added to the total, which the list at S keeps -/
theorem sum_turn {s : Shared} {S : Addr} {t : Addr} {c : Nat} (kept : LstAt s.heap S #[.ref t] c)
    (next : ∀ E, wpAny (model prog w) A.in1 (pyNext (.ref I)) (fun v s1 => match v with
      | none => R (.ok (.ret (.ref t))) s1
      | some x => LstAt s1.heap S #[.ref t] c ∧ ∀ E2, wpAny (model prog w) A.in1 (binaryOp .Add (.ref t) x) (fun r s2 => LstAt s2.heap S #[.ref t] c ∧
          ∀ h', LstAt h' S #[r] c → (∀ b o, b ≠ S → s2.heap.get? b = some o → h'.get? b = some o) → codeAny (model prog w) A (.builtin "sum.loop" ⟨[.ref I, .ref S, rawInt 2, rawInt 0], []⟩) R { s2 with heap := h' }) E2 s1) E s) :
    codeAny (model prog w) A (.builtin "sum.loop" ⟨[.ref I, .ref S, rawInt 2, rawInt 0], []⟩) R s := by
  refine codeAny_builtin F.entry_sum_loop ?_
  rw [Around.under_plainId F.plain_sum_loop _]
  refine wpAny_bind (m := seqItems? (.ref S)) (wpAny_seqItems kept rfl (wpAny_bind (m := tryCatch (pyNext (.ref I)) _) (wpAny_tryCatch (wpAny_mono (next _) (fun v s1 z => ?_) fun _ _ e => e))))
  cases v with
  | none => exact wpAny_pure z
  | some x =>
    refine wpAny_bind (wpAny_attempt (wpAny_holding (wpAny_mono (z.2 _) (fun r s2 y => ?_) fun _ _ e => e)))
    have one := Heap.get?_update_self (Obj.mapSeq fun _ => #[r]) y.1 rfl
    have two := Heap.get?_update_self (Obj.mapSeq fun _ => #[r]) one rfl
    refine wpAny_bind (wpAny_updateSeq y.1 rfl (wpAny_bind (wpAny_letGo (wpAny_bind (wpAny_updateSeq one rfl (wpAny_pure ⟨plainId_quiet F.plain_sum_loop _, y.2 _ two fun b o n e => ?_⟩))))))
    rw [Heap.get?_update_other _ _ (Ne.symm n), Heap.get?_update_other _ _ (Ne.symm n), e]
theorem sum_loopL (W : Walks prog w A.in1 I fp wr n P St) (S : Addr) (hSf : S ∉ fp) (ad : Nat → Addr) (its : Nat → List Value) (hval : ∀ i v, P i v → v = .ref (ad i)) (h0 : Heap)
    (hold : ∀ i, i < n → ∃ m, LstAt h0 (ad i) (its i).toArray m) (hI : ∀ i h, St i h → I < h.objs.size) (hwI : ∀ b ∈ wr, b ≤ I) (h0I : h0.objs.size ≤ I) (hIS : I < S) (hfs : ∀ b ∈ fp, b ≤ I) :
    ∀ (k i : Nat) (s : Shared) (t : Addr) (acc : List Value) (m c : Nat), n - i = k → i ≤ n → St i s.heap → LstAt s.heap S #[.ref t] c → LstAt s.heap t acc.toArray m → t ∉ wr → t ≠ S →
      (∀ b o, h0.get? b = some o → s.heap.get? b = some o) → (∀ b ∈ wr, h0.get? b = none) → acc.length + (cat its i k).length ≤ sizeLine →
      (∀ h' tk t' m', (∀ b o, h0.get? b = some o → h'.get? b = some o) → LstAt h' t' (acc ++ cat its i k).toArray m' → (k = 0 → t' = t) → (k ≠ 0 → h0.objs.size ≤ t') → R (.ok (.ret (.ref t'))) { s with heap := h', toks := tk }) →
      codeAny (model prog w) A (.builtin "sum.loop" ⟨[.ref I, .ref S, rawInt 2, rawInt 0], []⟩) R s := by
  have apart : ∀ b o, h0.get? b = some o → b ≠ S := fun b o e => Nat.ne_of_lt (Nat.lt_trans (Nat.lt_of_lt_of_le (Heap.lt_size e) h0I) hIS)
  intro k
  induction k with
  | zero =>
    intro i s t acc m c hk hi hst hS ht htw _ k0 kw _ hR
    obtain rfl : i = n := by omega
    refine sum_turn hS fun E => W.done s _ _ hst fun h' tk kp => hR h' tk t m (fun b o e => kp b o (fun z => ?_) (k0 b o e)) (by rw [show cat its i 0 = [] from rfl, List.append_nil]; exact kp t _ htw ht) (fun _ => rfl) fun z => (z rfl).elim
    rw [kw b z] at e
    cases e
  | succ k ih =>
    intro i s t acc m c hk hi hst hS ht htw htS k0 kw hz hR
    have lt : i < n := by omega
    have more : cat its i (k + 1) = its i ++ cat its (i + 1) k := rfl
    rw [more, List.length_append] at hz
    refine sum_turn hS fun E => W.item i s _ _ lt hst fun v h1 tk is_ nx kp => ?_
    obtain ⟨mi, at_⟩ := hold i lt
    have up : ∀ b o, h0.get? b = some o → h1.get? b = some o := fun b o e => kp b o (fun z => by rw [kw b z] at e; cases e) (k0 b o e)
    have at1 := kp S _ (fun z => hSf (W.sub _ z)) hS
    cases hval i v is_
    refine ⟨at1, fun E2 => PySem.P.add_list (kp t _ htw ht) (up _ _ at_) ⟨Heap.get?_push_of_some _ at1, fun h2 at2 off => ?_⟩ (by rw [List.size_toArray, List.size_toArray]; omega)⟩
    have new : LstAt h2 h1.objs.size (acc ++ its i).toArray 0 := off _ _ (Nat.ne_of_gt (Heap.lt_size at1)) (by rw [Heap.get?_push_size _ rfl, List.append_toArray])
    have old : ∀ b o, b ≠ S → h1.get? b = some o → h2.get? b = some o := fun b o n e => off b o n (Heap.get?_push_of_some _ e)
    refine ih (i + 1) _ h1.objs.size (acc ++ its i) 0 c (by omega) lt (W.frame _ _ _ nx fun b hb o e => old b o (Nat.ne_of_lt (Nat.lt_of_le_of_lt (hfs b hb) hIS)) e) at2 new (fun z => Nat.not_le_of_lt (hI _ _ nx) (hwI _ z)) (Nat.ne_of_gt (Heap.lt_size at1))
      (fun b o e => old b o (apart b o e) (up b o e)) kw (by rw [List.length_append]; omega) fun h3 tk3 t3 m3 k3 at3 z1 z2 => hR h3 tk3 t3 m3 k3 (by rw [more, ← List.append_assoc]; exact at3) (fun z => by omega) fun _ => ?_
    rcases Nat.eq_zero_or_pos k with z | z
    · rw [z1 z]
      exact Nat.le_of_lt (Nat.lt_of_le_of_lt h0I (hI _ _ nx))
    · exact z2 (Nat.ne_of_gt z)
end
section
variable {prog : Program} {w : World} {A : Around} {E : Value → Shared → Prop} {s : Shared}
/-- sum(v, b), b a list: what its loop is begun with -/
theorem sum_enter {v : Value} {b : Addr} {bs : Array Value} {mb : Nat} {Q : Value → Shared → Prop}
    (h : ∀ E2, wpAny (model prog w) A.in1 (pyIter v) (fun it s1 => ∃ I, it = .ref I ∧ LstAt s1.heap b bs mb ∧
      codeAny (model prog w) A (.builtin "sum.loop" ⟨[.ref I, .ref s1.heap.objs.size, rawInt 2, rawInt 0], []⟩) (wants Q E) { s1 with heap := s1.heap.push { cls := .type "list", data := .seq #[.ref b] } }) E2 s) :
    wpAny (model prog w) A (call (.builtin "sum") [v, .ref b]) Q E s := by
  refine call_function_tree F.kind_sum F.plain_sum F.entry_sum (sum_args2 _ _) ?_
  unfold Builtin.«sum»
  simp only [List.length]
  rw [if_neg (Nat.lt_irrefl 2)]
  refine wpAny_bind (wpAny_of_eq (show Builtin.Builtins.bindParams "sum" ["start"] 0 { pos := [.ref b] } = pure [some (.ref b)] from rfl) (wpAny_bind (wpAny_mono (h _) (fun it s1 z => ?_) fun _ _ e => e)))
  obtain ⟨I, rfl, at_, z⟩ := z
  have ty : s1.TypeIs (.ref b) "list" := ⟨_, at_, rfl⟩
  refine wpAny_bind (wpAny_pure ?_)
  simp only [List.forIn_cons, List.forIn_nil]
  refine wpAny_bind ?_
  iterate 3
    refine wpAny_bind (wpAny_bind (wpAny_isInstance (b := false) ty (by rw [isSubtype_type]; kernel_rfl) ?_))
    rw [if_neg (by decide)]
    refine wpAny_pure ?_
  exact wpAny_pure (wpAny_bind (wpAny_newObj_type (wpAny_pure ⟨plainId_quiet F.plain_sum_loop _, z⟩)))
theorem call_sumL {l b : Addr} {ads : List Addr} {iss : Nat → List Value} {bs : List Value} {mb : Nat} {Q : Value → Shared → Prop} (hh : A.handled = none) (hl : s.heap.IsList l (ads.map Value.ref).toArray) (hb : LstAt s.heap b bs.toArray mb)
    (hold : ∀ i, i < ads.length → ∃ m, LstAt s.heap (ads.getD i 0) (iss i).toArray m) (hz : bs.length + (cat iss 0 ads.length).length ≤ sizeLine)
    (hQ : ∀ h' tk t' m', (∀ c o, s.heap.get? c = some o → h'.get? c = some o) → LstAt h' t' (bs ++ cat iss 0 ads.length).toArray m' → (ads.length = 0 → t' = b) → (ads.length ≠ 0 → s.heap.objs.size ≤ t') → Q (.ref t') { s with heap := h', toks := tk }) :
    wpAny (model prog w) A (call (.builtin "sum") [.ref l, .ref b]) Q E s := by
  have fresh : ∀ c, s.heap.objs.size ≤ c → s.heap.get? c = none := fun c h => by
    cases e : s.heap.get? c with
    | none => rfl
    | some o => exact (Nat.not_le_of_lt (Heap.lt_size e) h).elim
  have ll : l < s.heap.objs.size := Heap.lt_size hl.choose_spec.1
  have lb := Heap.lt_size hb
  refine sum_enter fun E2 => wpAny_pyIter_list hl ⟨_, rfl, Heap.get?_push_of_some _ hb, ?_⟩
  have W := Walks.list (prog := prog) (w := w) (A := A.in1) hh s.heap.objs.size l (Nat.ne_of_lt ll) (ads.map Value.ref).toArray
  have sz : (ads.map Value.ref).toArray.size = ads.length := by rw [List.size_toArray, List.length_map]
  have two : ∀ {c : Addr} {P : Prop}, c ∈ [s.heap.objs.size, l] → (c = s.heap.objs.size → P) → (c = l → P) → P := fun m f g => (List.mem_cons.mp m).elim f fun m => g (List.mem_singleton.mp m)
  have top : (s.heap.push { cls := .type "list_iterator", data := .fields #[.ref l, .int 0 0] }).objs.size = s.heap.objs.size + 1 := by rw [Heap.size_push]
  have up : ∀ c o, s.heap.get? c = some o → ((s.heap.push { cls := .type "list_iterator", data := .fields #[.ref l, .int 0 0] }).push { cls := .type "list", data := .seq #[.ref b] }).get? c = some o := fun c o e => Heap.get?_push_of_some _ (Heap.get?_push_of_some _ e)
  refine sum_loopL W _ (fun m => two m (fun z => ?_) fun z => ?_) (fun i => ads.getD i 0) iss (fun i v e => ?_) s.heap (fun i lt => hold i (sz ▸ lt)) (fun i h st => Heap.lt_size st.1.choose_spec.1) (fun c m => Nat.le_of_eq (List.mem_singleton.mp m)) (Nat.le_refl _) (by rw [top]; exact Nat.lt_succ_self _)
    (fun c m => two m Nat.le_of_eq fun z => z ▸ Nat.le_of_lt ll) ads.length 0 _ b bs mb 0 (by rw [sz]; rfl) (Nat.zero_le _) (W.frame _ _ _ ⟨⟨_, Heap.get?_push_size _ rfl, rfl, rfl⟩, hl.push _⟩ fun c _ o e => Heap.get?_push_of_some _ e) (Heap.get?_push_size _ rfl) (up _ _ hb)
    (fun m => Nat.ne_of_lt lb (List.mem_singleton.mp m)) (by rw [top]; exact Nat.ne_of_lt (Nat.lt_succ_of_lt lb)) up (fun c m => fresh c (Nat.le_of_eq (List.mem_singleton.mp m).symm)) hz hQ
  · exact Nat.succ_ne_self _ (top.symm.trans z)
  · exact Nat.ne_of_gt (Nat.lt_succ_of_lt ll) (top.symm.trans z)
  · rw [List.getElem?_toArray, List.getElem?_map] at e
    obtain ⟨x, ex, rfl⟩ := Option.map_eq_some_iff.mp e
    show Value.ref x = Value.ref (ads.getD i 0)
    rw [List.getD_eq_getElem?_getD, ex]
    rfl
end
end U
namespace U
open PySem L2 PyProof.Rows
section
variable {X : Cx}
theorem cat_flat : ∀ (xss : List (List Value)) (f : Nat → List Value) (j : Nat), (∀ i, i < xss.length → f (j + i) = xss.getD i []) → cat f j xss.length = xss.flatten
  | [], _, _, _ => rfl
  | x :: r, f, j, h => by
    show f j ++ cat f (j + 1) r.length = x ++ r.flatten
    have h0 := h 0 (by simp)
    rw [Nat.add_zero] at h0
    rw [h0, cat_flat r f (j + 1) fun i hi => by
      have := h (i + 1) (by simpa using hi)
      rw [show j + 1 + i = j + (i + 1) by omega, this]
      rfl]
    rfl
/-- the lists xss, one after another, at the addresses ads -/
def Lists (H : Hp) : List Addr → List (List V) → Prop
  | [], [] => True
  | a :: as, x :: xs => H a = some (.lst x) ∧ Lists H as xs
  | _, _ => False
theorem lists_raw {pins : List (Addr × Obj)} {σ : L2.St} {H : Hp} {s : Shared} (I : Inv X pins σ H s) : ∀ {ads : List Addr} {xss : List (List V)}, Lists H ads xss → ∃ iss : List (List Value), iss.length = ads.length ∧ Vals xss.flatten iss.flatten ∧ ∀ i, i < ads.length → ∃ m, LstAt s.heap (ads.getD i 0) (iss.getD i []).toArray m
  | [], [], _ => ⟨[], rfl, .nil, fun i hi => absurd hi (Nat.not_lt_zero _)⟩
  | a :: as, x :: xs, h => by
    obtain ⟨iss, hl, hv, hg⟩ := lists_raw I h.2
    obtain ⟨_, its, n, r, _, e⟩ := I.lstM h.1
    refine ⟨its :: iss, by rw [List.length_cons, List.length_cons, hl], ?_, fun i hi => ?_⟩
    · rw [List.flatten_cons, List.flatten_cons]
      exact r.append hv
    · cases i with
      | zero => exact ⟨n, e⟩
      | succ i => exact hg i (by simpa using hi)
  | [], _ :: _, h => h.elim
  | _ :: _, [], h => h.elim
/-- sum(lists, start) -/
def rSumL (K : PySem.W.Frag) : List V → Hp → VK → Prop := fun vs H Q => ∃ (a b : Addr) (ads : List Addr) (xss : List (List V)) (st : List V), vs = [V.ref a, V.ref b] ∧ SqL K H a (ads.map V.ref) ∧ H b = some (.lst st) ∧ Lists H ads xss ∧ st.length + xss.flatten.length ≤ sizeLine ∧
  (ads = [] → Q (.ref b) H) ∧ (ads ≠ [] → ∀ p, H p = none → Q (.ref p) (upd H p (.lst (st ++ xss.flatten))))
theorem refs_vals : ∀ {ads : List Addr} {us : List Value}, Vals (ads.map V.ref) us → us = ads.map Value.ref
  | [], _, .nil => rfl
  | a :: as, _, .cons r t => by
    cases (show _ = Value.ref a from r)
    rw [List.map_cons, ← refs_vals t]
theorem lists_len {H : Hp} : ∀ {ads : List Addr} {xss : List (List V)}, Lists H ads xss → xss.length = ads.length
  | [], [], _ => rfl
  | a :: as, x :: xs, h => by rw [List.length_cons, List.length_cons, lists_len h.2]
  | [], _ :: _, h => h.elim
  | _ :: _, [], h => h.elim
theorem cr_sumL (hc : X.calm = true) : CallR X (.builtin "sum") (rSumL X.K) := by
  intro pins s σ H vs us Q I r h
  obtain ⟨a, b, ads, xss, st, rfl, hs, hb, hls, hz, q0, q1⟩ := h
  obtain ⟨u1, u2, rfl, r1, r2⟩ := vals2 r
  cases r1
  cases r2
  obtain ⟨its, rv, hl, _⟩ := I.list hs
  obtain rfl := refs_vals rv
  obtain ⟨iss, hlen, hfv, hg⟩ := lists_raw I hls
  obtain ⟨_, bs, mb, rb, hbl, eb⟩ := I.lstM hb
  have hcat : cat (fun i => iss.getD i []) 0 ads.length = iss.flatten := by
    rw [← hlen]
    exact cat_flat iss _ 0 fun i hi => by rw [Nat.zero_add]
  have hfl := hfv.length
  refine call_sumL (iss := fun i => iss.getD i []) (I.ok.hd hc) hl.isList eb hg (by rw [hcat]; omega) fun h' tk t' m' kk hh z1 z2 => ?_
  rw [hcat] at hh
  by_cases e0 : ads.length = 0
  · have en : ads = [] := List.eq_nil_of_length_eq_zero e0
    rw [z1 e0]
    exact ⟨.ref b, H, I.kept kk, rfl, q0 en⟩
  · have en : ads ≠ [] := fun z => e0 (by rw [z]; rfl)
    refine ⟨.ref t', upd H t' (.lst (st ++ xss.flatten)), I.laid kk (z2 e0) ⟨?_, bs ++ iss.flatten, m', rb.append hfv, hh⟩, rfl, q1 en t' (I.hok.fresh (z2 e0))⟩
    rw [List.length_append]
    exact hz
end
/-! ### len(set(xs)) of ints -/
section
variable {X : Cx}
/-- how many unlike ones there are -/
def unlike (ns : List Int) : Nat := (firstMet (fun i => ns.getD i 0) ns.length).length
def tLenSetA (K : PySem.W.Frag) (ta : TE) : TE := fun σ H Q => ta σ H fun x H1 => ∃ (l : Addr) (ns : List Int), x = V.ref l ∧ SqL K H1 l (ns.map V.int) ∧ ns.length ≤ 60 ∧ Q (.int (unlike ns)) H1
theorem unlike_le (ns : List Int) : ∀ i, (firstMet (fun i => ns.getD i 0) i).length ≤ i
  | 0 => Nat.le_refl _
  | i + 1 => by
    rw [firstMet_succ]
    unfold step_dedup
    have ih := unlike_le ns i
    split
    · omega
    · rw [List.length_append, List.length_singleton]
      omega
theorem pe_lenSetA {a : Expr} {ta : TE} {p p2 q pos : Pos} (hc : X.calm = true) (hg : Gl X "len") (hm : X.mg "len" = none) (hg2 : Gl X "set") (hm2 : X.mg "set" = none) (ha : PE X a ta)
    (na : starEach [a] X.env = (false, eval a X.env) :: starEach [] X.env := by rfl) : PE X (.Call (.Name "len" p) [.Call (.Name "set" p2) [a] [] q] [] pos) (tLenSetA X.K ta) := by
  refine ⟨fun pins s σ H Q I h => Call_ (ld_blt I hg hm PySem.boot_len (callWith_builtin1 (args_cons (Call_ (ld_blt I hg2 hm2 PyProof.Rows.boot_set (callWith_type1 (args_cons (thn (ha.run pins s σ H _ I h) fun v s1 w => args_nil ?_) na) na rfl))) rfl) rfl rfl))⟩
  obtain ⟨_, H1, J, rv, l, ns, rfl, sq, few, q⟩ := w
  cases rv
  obtain ⟨is, r, ol, _⟩ := J.list sq
  have n : is.toArray.size = ns.length := by rw [List.size_toArray, ← r.length, List.length_map]
  refine call_set_list (J.ok.hd hc) ol.isList (ns := ns) (by rw [List.toList_toArray]; exact r.ints) (by rw [n]; unfold scanBound; omega) fun h' tk made kp => args_nil ?_
  rw [n] at made
  obtain ⟨_, _, _, _, at_, ex, dt, _, _, _, fl, cnt⟩ := made
  have few2 := unlike_le ns ns.length
  have K2 : Inv X pins σ H1 { s1 with heap := h', toks := tk } := J.kept fun b o e => kp b o (Heap.lt_size e) e
  exact call_len_set at_ ex dt fl (by rw [cnt]; omega) ⟨.int (unlike ns), H1, K2.tok _, ⟨_, by rw [cnt]; rfl⟩, q⟩
end
end U
namespace U
open PySem L2
/-! ### data of any kind: what isinstance, len, an item tell of it -/
def tyS : PyData → String
  | .none => "NoneType"
  | .bool _ => "bool"
  | .int _ => "int"
  | .str _ => "str"
  | .list _ => "list"
  | .tuple _ => "tuple"
  | .dict _ => "dict"
/-- isinstance(d, c) -/
def isa (c : String) (d : PyData) : Bool := match d with
  | .none => false
  | .bool _ => c == "bool" || c == "int"
  | .int _ => c == "int"
  | .str _ => c == "str"
  | .list _ => c == "list"
  | .tuple _ => c == "tuple"
  | .dict _ => c == "dict"
def isC (c : String) : Bool := c == "int" || c == "bool" || c == "str" || c == "list" || c == "tuple" || c == "dict"
theorem isC_cases {c : String} (h : isC c = true) : c = "int" ∨ c = "bool" ∨ c = "str" ∨ c = "list" ∨ c = "tuple" ∨ c = "dict" := by
  unfold isC at h
  simp only [Bool.or_eq_true, beq_iff_eq] at h
  rcases h with ((((h | h) | h) | h) | h) | h <;> simp [h]
theorem kit_isa {K : PySem.W.Frag} (d : PyData) {c : String} (h : isC c = true) : PySem.W.kitOne K (.type (tyS d)) (.type c) = some (isa c d) := by
  rcases isC_cases h with h | h | h | h | h | h <;> subst h <;> cases d <;> exact kit_ty (by kernel_rfl)
theorem Dat.ty {K : PySem.W.Frag} {H : Hp} {v : V} {d : PyData} (h : Dat K H v d) : TyX K H v (.type (tyS d)) := by
  cases h with
  | dict h => exact .base (.dK h)
  | of h =>
    cases h with
    | non => exact .base .non
    | bl b => exact .base (.bl b)
    | int i => exact .base (.int i)
    | str x => exact .base (.str x)
    | lst s a =>
      rcases s with (s | ⟨o, s⟩) | ⟨o, its, n, s, c, _⟩
      · exact .base (.lst s)
      · exact .base (.frz s)
      · exact .kList s c
    | tup s a =>
      rcases s with (s | ⟨o, s⟩) | ⟨o, its, n, s, c, _⟩
      · exact .base (.tup s)
      · exact .fTuple s
      · exact .kTuple s c
section
variable {X : Cx}
theorem CallR.imp {f : Value} {r r' : List V → Hp → VK → Prop} (h : CallR X f r) (i : ∀ xs H Q, r' xs H Q → r xs H Q) : CallR X f r' :=
  fun pins s σ H xs us Q I rs q => h pins s σ H xs us Q I rs (i _ _ _ q)
theorem IxR.imp {r r' : R2} (h : IxR X r) (i : ∀ x y H Q, r' x y H Q → r x y H Q) : IxR X r' :=
  fun value slice pins s σ H x y v u Q I rx ry q hs => h value slice pins s σ H x y v u Q I rx ry (i _ _ _ _ q) hs
theorem OpR.imp {f : Value → Value → Sem Value} {r r' : R2} (h : OpR X f r) (i : ∀ x y H Q, r' x y H Q → r x y H Q) : OpR X f r' :=
  fun pins s σ H x y v u Q I rx ry q => h pins s σ H x y v u Q I rx ry (i _ _ _ _ q)
def rIsD (K : PySem.W.Frag) : List V → Hp → VK → Prop := fun xs H Q => ∃ (v : V) (c : String) (d : PyData), xs = [v, .ty c] ∧ Dat K H v d ∧ isC c = true ∧ Q (.bl (isa c d)) H
theorem call_isD : CallR X (.builtin "isinstance") (rIsD X.K) :=
  CallR.imp call_isi fun xs H Q ⟨v, c, d, e, h, hc, q⟩ => ⟨v, .ty c, _, _, _, e, .ty c, h.ty, kit_isa d hc, q⟩
theorem kitAny_isa {K : PySem.W.Frag} (d : PyData) : ∀ {cs : List String}, cs.all isC = true → PySem.W.kitAny K (.type (tyS d)) (cs.map Value.type) = some (cs.any fun c => isa c d)
  | [], _ => rfl
  | c :: cs, h => by
    rw [List.all_cons, Bool.and_eq_true] at h
    refine kitAny_cons (kit_isa d h.1) (fun e => ?_) (fun e => ?_)
    · rw [kitAny_isa d h.2, List.any_cons, e, Bool.false_or]
    · rw [List.any_cons, e, Bool.true_or]
theorem clsV_map : ∀ cs : List String, Paired ClsV (cs.map V.ty) (cs.map Value.type)
  | [] => .nil
  | c :: cs => .cons (.ty c) (clsV_map cs)
def rIsTD (K : PySem.W.Frag) : List V → Hp → VK → Prop := fun xs H Q => ∃ (v : V) (p : Addr) (cs : List String) (d : PyData), xs = [v, .ref p] ∧ H p = some (.tup (cs.map V.ty)) ∧ cs.all isC = true ∧ Dat K H v d ∧ Q (.bl (cs.any fun c => isa c d)) H
theorem call_isTD : CallR X (.builtin "isinstance") (rIsTD X.K) :=
  CallR.imp call_isiT fun xs H Q ⟨v, p, cs, d, e, hp, hc, h, q⟩ => ⟨v, p, _, _, _, _, e, hp, clsV_map cs, h.ty, kitAny_isa d hc, q⟩
end
theorem dp_len {K : PySem.W.Frag} {H : Hp} : ∀ {xs : List V} {ds : List PyData}, DpAll K H xs ds → xs.length = ds.length
  | _, _, .nil => rfl
  | _, _, .cons _ t => by rw [List.length_cons, List.length_cons, dp_len t]
theorem dp_get {K : PySem.W.Frag} {H : Hp} : ∀ {xs : List V} {ds : List PyData} {i : Nat} {d : PyData}, DpAll K H xs ds → ds[i]? = some d → ∃ x, xs[i]? = some x ∧ Dp K H x d
  | _, _, _, _, .nil, e => by simp at e
  | _, _, 0, _, .cons h _, e => by
    cases e
    exact ⟨_, rfl, h⟩
  | _, _, i + 1, _, .cons _ t, e => by
    obtain ⟨x, h1, h2⟩ := dp_get (i := i) t (by simpa using e)
    exact ⟨x, by simpa using h1, h2⟩
theorem dp_get' {K : PySem.W.Frag} {H : Hp} {xs : List V} {ds : List PyData} {i : Nat} {x : V} (h : DpAll K H xs ds) (e : xs[i]? = some x) : ∃ d, ds[i]? = some d ∧ Dp K H x d := by
  have hl := dp_len h
  have hi : i < xs.length := (List.getElem?_eq_some_iff.mp e).1
  have hd : ds[i]? = some (ds[i]'(by omega)) := List.getElem?_eq_getElem (by omega)
  obtain ⟨y, h1, h2⟩ := dp_get h hd
  rw [e] at h1
  cases h1
  exact ⟨_, hd, h2⟩
theorem atI_ds {K : PySem.W.Frag} {H : Hp} {xs : List V} {ds : List PyData} {i : Int} {d : PyData} (h : DpAll K H xs ds) (e : atI ds i = some d) : ∃ x, atI xs i = some x ∧ Dp K H x d := by
  unfold atI at e ⊢
  rw [dp_len h]
  cases q : ixN ds.length i with
  | none => rw [q] at e; cases e
  | some j =>
    rw [q] at e
    exact dp_get h e
/-- the things of a list or a tuple -/
def parts : PyData → Option (List PyData)
  | .list ds => some ds
  | .tuple ds => some ds
  | _ => none
theorem dp_parts {K : PySem.W.Frag} {H : Hp} {v : V} {d : PyData} {ds : List PyData} (h : Dp K H v d) (e : parts d = some ds) : ∃ a xs, v = .ref a ∧ (SqL K H a xs ∨ SqT K H a xs) ∧ DpAll K H xs ds := by
  cases h with
  | lst s t => cases e; exact ⟨_, _, rfl, .inl s, t⟩
  | tup s t => cases e; exact ⟨_, _, rfl, .inr s, t⟩
  | _ => cases e
section
variable {X : Cx}
/-- d[i] of a list or a tuple -/
def rIxDt (K : PySem.W.Frag) : R2 := fun x y H Q => ∃ (d : PyData) (ds : List PyData) (i : Int) (e : PyData), y = .int i ∧ Dp K H x d ∧ parts d = some ds ∧ atI ds i = some e ∧ ∀ v, Dp K H v e → Q v H
theorem ix_D : IxR X (rIxDt X.K) := by
  refine IxR.imp (IxR.or ix_list ix_tup) fun x y H Q ⟨d, ds, i, e, ey, h, hp, ha, q⟩ => ?_
  obtain ⟨a, xs, rfl, s, t⟩ := dp_parts h hp
  obtain ⟨z, hz, hd⟩ := atI_ds t ha
  rcases s with s | s
  · exact .inl ⟨a, xs, i, z, rfl, ey, s, hz, q z hd⟩
  · exact .inr ⟨a, xs, i, z, rfl, ey, s, hz, q z hd⟩
/-- len(d) of a list or a tuple -/
def rLenD (K : PySem.W.Frag) : List V → Hp → VK → Prop := fun xs H Q => ∃ (v : V) (d : PyData) (ds : List PyData), xs = [v] ∧ Dp K H v d ∧ parts d = some ds ∧ Q (.int ds.length) H
theorem call_lenD' : CallR X (.builtin "len") (rLenD X.K) := by
  refine CallR.imp call_len_seq fun xs H Q ⟨v, d, ds, e, h, hp, q⟩ => ?_
  obtain ⟨a, ys, rfl, s, t⟩ := dp_parts h hp
  exact ⟨a, ys, e, s, by rw [dp_len t]; exact q⟩
end
/-! ### a comprehension whose things only lay new objects: what comes is L -/
theorem lc_f {J : It} {n : Nat} {G : Hp → Prop} {Y : Nat → Hp → V → Hp → Prop} (w : Walk J n G Y) {g : TG} {te : TE} {vs : List Nat} {σ : St} {H1 : Hp} {D : Addr} {Qd : Hp → Prop} (L : List V) (hL : L.length = n) (hn : n ≤ 1000000) (hD : H1 D = none)
    (hG : ∀ H, Same H1 H → G H)
    (hs : ∀ i x H H' (R : V → Hp → Prop), i < n → Same H1 H → Y i H x H' → (∀ y H4, L[i]? = some y → Same H H4 → R y H4) → g x (wipe σ vs) H' fun σ2 H2 => wipe σ2 vs = wipe σ vs ∧ te σ2 H2 R)
    (hd : ∀ H, Same H1 H → H D = some (.lst L) → Qd H) :
    ∃ W : Nat → Nat → Hp → Prop, (∃ m, W 0 m (upd H1 D (.lst []))) ∧ ∀ i m H, W i m H →
      (J.stop i H ∧ Qd H) ∨ (J.go i H ∧ ∃ Nx : Hp → Prop, (∀ H', Nx H' → ∃ m', m' < m ∧ W (i + 1) m' H') ∧ ∀ x H', J.yld i H x H' → g x (wipe σ vs) H' fun σ2 H2 => wipe σ2 vs = wipe σ vs ∧ tYes σ2 H2 fun b H3 =>
        if b = true then te σ2 H3 fun y H4 => ∃ acc, H4 D = some (.lst acc) ∧ acc.length < sizeLine ∧ Nx (upd H4 D (.lst (acc ++ [y]))) else Nx H3) := by
  refine lc_it w (fun i H => Same H1 H ∧ H D = some (.lst (L.take i))) ⟨Same.new hD, upd_same⟩ (fun i H _ z => hG H z.1) (fun i x H H' hi z y => ?_) (fun H z => ?_)
  · obtain ⟨z1, z2⟩ := z
    have key := hs i x H H' (fun y H4 => ∃ acc, H4 D = some (.lst acc) ∧ acc.length < sizeLine ∧ (Same H1 (upd H4 D (.lst (acc ++ [y]))) ∧ upd H4 D (.lst (acc ++ [y])) D = some (.lst (L.take (i + 1))))) hi z1 y (fun y H4 ey s4 => by
      refine ⟨L.take i, s4 _ _ z2, small_lt (by rw [List.length_take]; omega), Same.upd0 (z1.trans s4) hD, ?_⟩
      rw [upd_same, take_more ey])
    have e : (fun (σ2 : L2.St) (H2 : Hp) => wipe σ2 vs = wipe σ vs ∧ te σ2 H2 (fun y H4 => ∃ acc, H4 D = some (.lst acc) ∧ acc.length < sizeLine ∧ (Same H1 (upd H4 D (.lst (acc ++ [y]))) ∧ upd H4 D (.lst (acc ++ [y])) D = some (.lst (L.take (i + 1)))))) =
        (fun (σ2 : L2.St) (H2 : Hp) => wipe σ2 vs = wipe σ vs ∧ tYes σ2 H2 fun b H3 => if b = true then te σ2 H3 fun y H4 => ∃ acc, H4 D = some (.lst acc) ∧ acc.length < sizeLine ∧ (Same H1 (upd H4 D (.lst (acc ++ [y]))) ∧ upd H4 D (.lst (acc ++ [y])) D = some (.lst (L.take (i + 1)))) else (Same H1 H3 ∧ H3 D = some (.lst (L.take (i + 1))))) := by
      funext σ2 H2
      rfl
    rw [e] at key
    exact key
  · refine hd H z.1 ?_
    rw [z.2, ← hL, List.take_length]
/-- .. any things come -/
theorem lc_some {J : It} {n : Nat} {G : Hp → Prop} {Y : Nat → Hp → V → Hp → Prop} (w : Walk J n G Y) {g : TG} {te : TE} {vs : List Nat} {σ : St} {H1 : Hp} {D : Addr} {Qd : Hp → Prop} (Rel : Hp → Nat → V → Prop) (hn : n ≤ 1000000) (hD : H1 D = none)
    (hG : ∀ H, Same H1 H → G H) (hR : ∀ H H' i v, Same H H' → H D = none → Rel H i v → Rel H' i v)
    (hs : ∀ i x H H' (R : V → Hp → Prop), i < n → Same H1 H → Y i H x H' → (∀ y H4, Same H H4 → Rel (fun a => if a = D then none else H4 a) i y → R y H4) → g x (wipe σ vs) H' fun σ2 H2 => wipe σ2 vs = wipe σ vs ∧ te σ2 H2 R)
    (hd : ∀ H (L : List V), Same H1 H → H D = some (.lst L) → L.length = n → (∀ i v, L[i]? = some v → Rel (fun a => if a = D then none else H a) i v) → Qd H) :
    ∃ W : Nat → Nat → Hp → Prop, (∃ m, W 0 m (upd H1 D (.lst []))) ∧ ∀ i m H, W i m H →
      (J.stop i H ∧ Qd H) ∨ (J.go i H ∧ ∃ Nx : Hp → Prop, (∀ H', Nx H' → ∃ m', m' < m ∧ W (i + 1) m' H') ∧ ∀ x H', J.yld i H x H' → g x (wipe σ vs) H' fun σ2 H2 => wipe σ2 vs = wipe σ vs ∧ tYes σ2 H2 fun b H3 =>
        if b = true then te σ2 H3 fun y H4 => ∃ acc, H4 D = some (.lst acc) ∧ acc.length < sizeLine ∧ Nx (upd H4 D (.lst (acc ++ [y]))) else Nx H3) := by
  have off : ∀ (H H' : Hp), Same H H' → Same (fun a => if a = D then none else H a) (fun a => if a = D then none else H' a) := fun H H' e a o z => by
    by_cases q : a = D
    · simp only [q, if_true] at z; cases z
    · simp only [q, if_false] at z ⊢; exact e a o z
  have offu : ∀ (H : Hp) (o : HO), (fun a => if a = D then none else upd H D o a) = (fun a => if a = D then none else H a) := fun H o => by
    funext a
    by_cases q : a = D
    · simp only [q, if_true]
    · simp only [q, if_false, upd_ne q]
  let Inv : Nat → Hp → Prop := fun i H => Same H1 H ∧ ∃ L : List V, H D = some (.lst L) ∧ L.length = i ∧ ∀ j v, L[j]? = some v → Rel (fun a => if a = D then none else H a) j v
  refine lc_it w Inv ⟨Same.new hD, [], upd_same, rfl, fun j v z => by simp at z⟩ (fun i H _ z => hG H z.1) (fun i x H H' hi z y => ?_) (fun H z => ?_)
  · obtain ⟨z1, L, z2, z3, z4⟩ := z
    have key := hs i x H H' (fun y H4 => ∃ acc, H4 D = some (.lst acc) ∧ acc.length < sizeLine ∧ Inv (i + 1) (upd H4 D (.lst (acc ++ [y])))) hi z1 y (fun y H4 s4 ry => by
      refine ⟨L, s4 _ _ z2, small_lt (by omega), Same.upd0 (z1.trans s4) hD, L ++ [y], upd_same, by simp [z3], fun j v e => ?_⟩
      rw [offu]
      by_cases hj : j < L.length
      · rw [List.getElem?_append_left hj] at e
        exact hR _ _ j v (off _ _ s4) (by simp) (z4 j v e)
      · have hj2 : j = L.length := by
          have := (List.getElem?_eq_some_iff.mp e).1
          rw [List.length_append, List.length_singleton] at this
          omega
        subst hj2
        rw [List.getElem?_append_right (Nat.le_refl _)] at e
        simp at e
        subst e
        rw [z3]
        exact ry)
    have e : (fun (σ2 : L2.St) (H2 : Hp) => wipe σ2 vs = wipe σ vs ∧ te σ2 H2 (fun y H4 => ∃ acc, H4 D = some (.lst acc) ∧ acc.length < sizeLine ∧ Inv (i + 1) (upd H4 D (.lst (acc ++ [y]))))) =
        (fun (σ2 : L2.St) (H2 : Hp) => wipe σ2 vs = wipe σ vs ∧ tYes σ2 H2 fun b H3 => if b = true then te σ2 H3 fun y H4 => ∃ acc, H4 D = some (.lst acc) ∧ acc.length < sizeLine ∧ Inv (i + 1) (upd H4 D (.lst (acc ++ [y]))) else Inv (i + 1) H3) := by
      funext σ2 H2
      rfl
    rw [e] at key
    exact key
  · obtain ⟨z1, L, z2, z3, z4⟩ := z
    exact hd H L z1 z2 z3 z4
/-- the turns of a walk, counted from their end; Z: what a turn must make of what is wanted behind it -/
theorem walk_turns {J : It} {n : Nat} {G Qd : Hp → Prop} {Y : Nat → Hp → V → Hp → Prop} {H0 : Hp} (w : Walk J n G Y) {Z : (Hp → Prop) → V → Hp → Prop} (Pv : Nat → Hp → Prop) (first : Pv 0 H0) (there : ∀ i H, i ≤ n → Pv i H → G H)
    (turn : ∀ i x H H', i < n → Pv i H → Y i H x H' → Z (Pv (i + 1)) x H') (last : ∀ H, Pv n H → Qd H) :
    ∃ W : Nat → Nat → Hp → Prop, (∃ m, W 0 m H0) ∧ ∀ i m H, W i m H → (J.stop i H ∧ Qd H) ∨ (J.go i H ∧ ∃ Nx : Hp → Prop, (∀ H', Nx H' → ∃ m', m' < m ∧ W (i + 1) m' H') ∧ ∀ x H', J.yld i H x H' → Z Nx x H') := by
  refine ⟨fun i m H => i + m = n ∧ Pv i H, ⟨n, Nat.zero_add n, first⟩, fun i m H ⟨e, p⟩ => ?_⟩
  have g := there i H (by omega) p
  match m, e with
  | 0, e =>
    cases (show i = n from e)
    exact .inl ⟨w.stops H g, last H p⟩
  | m + 1, e => exact .inr ⟨w.goes i H (by omega) g, Pv (i + 1), fun H' p' => ⟨m, Nat.lt_succ_self m, by omega, p'⟩, fun x H' y => turn i x H H' (by omega) p (w.yields i H x H' (by omega) g y)⟩
theorem dc_it {J : It} {n : Nat} {G : Hp → Prop} {Y : Nat → Hp → V → Hp → Prop} (w : Walk J n G Y) {g : TG} {tt : TT} {tk tv : TE} {vs : List Nat} {σ : St} {H1 : Hp} {D : Addr} {Qd : Hp → Prop} (Pv : Nat → Hp → Prop) (h0 : Pv 0 (upd H1 D (.dK []))) (hG : ∀ i H, i ≤ n → Pv i H → G H)
    (hs : ∀ i x H H', i < n → Pv i H → Y i H x H' → g x (wipe σ vs) H' fun σ2 H2 => wipe σ2 vs = wipe σ vs ∧ tt σ2 H2 fun b H3 =>
      if b = true then tk σ2 H3 fun y H4 => tv σ2 H4 fun z H5 => ∃ kvs k, y = kV k ∧ H5 D = some (.dK kvs) ∧ kvs.length < sizeLine ∧ Pv (i + 1) (upd H5 D (.dK (putK kvs k z))) else Pv (i + 1) H3) (hd : ∀ H, Pv n H → Qd H) :
    ∃ W : Nat → Nat → Hp → Prop, (∃ m, W 0 m (upd H1 D (.dK []))) ∧ ∀ i m H, W i m H →
      (J.stop i H ∧ Qd H) ∨ (J.go i H ∧ ∃ Nx : Hp → Prop, (∀ H', Nx H' → ∃ m', m' < m ∧ W (i + 1) m' H') ∧ ∀ x H', J.yld i H x H' → g x (wipe σ vs) H' fun σ2 H2 => wipe σ2 vs = wipe σ vs ∧ tt σ2 H2 fun b H3 =>
        if b = true then tk σ2 H3 fun y H4 => tv σ2 H4 fun z H5 => ∃ kvs k, y = kV k ∧ H5 D = some (.dK kvs) ∧ kvs.length < sizeLine ∧ Nx (upd H5 D (.dK (putK kvs k z))) else Nx H3) :=
  walk_turns w Pv h0 hG hs hd
theorem putK_len {κ : Type} [DecidableEq κ] (kvs : List (κ × V)) (k : κ) (v : V) : (putK kvs k v).length ≤ kvs.length + 1 := by
  unfold putK
  split
  · rw [List.length_map]; omega
  · rw [List.length_append, List.length_singleton]; omega
end U
namespace U
open PySem L2
def top (i : Nat) : Stmt := PySem.Challenge.pw_upnext_k37_stands_recognized.main.body.getD i (.Pass ⟨0, 0, 0, 0⟩)
section
variable {P : Program} {w : World} {K : PySem.W.Frag} {mg : Str → Option Value} {base : Heap}
/-! ### mixed -/
abbrev s__law_mixed : Stmt := (top 31)
theorem sc__law_mixed : FnScope ["_law_cell", "_law_k", "_law_whole"] ["_law_cell", "_law_k"] (defScope s__law_mixed) := ⟨rfl, rfl, rfl, by decide +kernel, rfl, by decide +kernel, by decide +kernel⟩
def spMixed : Sp := fun vs H Q _ => ∃ (c k : Int), vs = [.int c, .int k] ∧ 0 ≤ k ∧ k ≤ 20000000 ∧ ∀ m : Int, 0 ≤ m → Q (.int m) H
theorem ok_mixed {f : Addr} {fd : FuncData} (F : Fun K "_law_mixed" "_law_mixed" s__law_mixed f fd) : FnOk P w K mg base CX0 1 f fd ["_law_cell", "_law_k"] spMixed := by
  have sc := sc__law_mixed
  refine F.ok sc (fun vs H Q E h => ?_) (fun cdv A outer s H vs Q E hr h => ?_)
  · obtain ⟨c, k, rfl, _⟩ := h
    rfl
  · obtain ⟨c, k, rfl, h0, h1, q⟩ := h
    refine ⟨_, (pss_cons (ps_set (i := 2) sc.nd rfl (Or.inl rfl) (pe_op op_mod (pe_op op_pow (pe_op op_add (pe_op op_add (pe_op op_add (pe_op op_mod (pv 0) pe_int) (pe_op op_mul (pe_op op_mul pe_int (pv 1)) (pv 1))) (pe_op op_mul pe_int (pv 1))) pe_int) pe_int) pe_int))
 (pss_one (ps_ret (pe_op op_mod (pe_op op_add (pe_op op_mul (pv 2) pe_int) (pe_op op_mul pe_int (pv 1))) pe_int)))), ?_⟩
    have hm : 0 ≤ c % 2147483647 ∧ c % 2147483647 < 2147483647 := ⟨by omega, by omega⟩
    have h2 : k * k ≤ 20000000 * 20000000 := Int.mul_le_mul h1 h1 h0 (by decide)
    have h3 : 0 ≤ k * k := Int.mul_nonneg h0 h0
    walk_at "rd"
    refine ⟨?_, ?_⟩
    · refine ⟨by decide, by decide, ?_⟩
      show (c % 2147483647 + 1009 * k * k + 48611 * k + 17).natAbs < 2 ^ 64
      rw [Int.mul_assoc]
      omega
    walk_at "rd"
    exact q _ (Int.emod_nonneg _ (by decide))
/-! ### take -/
abbrev s__law_take : Stmt := (top 32)
theorem sc__law_take : FnScope ["_law_box_here", "_law_size", "_law_found", "_law_cell", "_law_span"] ["_law_box_here", "_law_size"] (defScope s__law_take) := ⟨rfl, rfl, rfl, by decide +kernel, rfl, by decide +kernel, by decide +kernel⟩
/-- one draw -/
def spTake : Sp := fun vs H Q _ => ∃ (H0 : Hp) (β : BA) (c n : Int), vs = [.ref β.b, .int n] ∧ Bx H0 H β c ∧ c ≤ 10000000 ∧ 1 ≤ n ∧ n ≤ 1000000 ∧
  ∀ (r : Int) (H' : Hp), 0 ≤ r → r < n → Ext (MB β) H0 H H0 H' → Bx H0 H' β (c + 1) → Q (.int r) H'
theorem ok_take {f : Addr} {fd : FuncData} (F : Fun K "_law_take" "_law_take" s__law_take f fd) (T : Bl mg) (h__law_mixed : Has P w K mg base CX0 1 "_law_mixed" ["_law_cell", "_law_k"] spMixed) :
    FnOk P w K mg base CX0 2 f fd ["_law_box_here", "_law_size"] spTake := by
  have sc := sc__law_take
  refine F.ok sc (fun vs H Q E h => ?_) (fun cdv A outer s H vs Q E hr h => ?_)
  · obtain ⟨H0, β, c, n, rfl, _⟩ := h
    rfl
  · obtain ⟨H0, ⟨b, g, sm⟩, c, n, rfl, B, hc, h1, h2, q⟩ := h
    refine ⟨_, (pss_cons (ps_asg (pe_op op_add (pe_ix ix_list (pv 0) pe_int (fun _ _ => rfl)) pe_int) (pg_sub (pv 0) pe_int set_list))
 (C8.pss_cut (ps_if (PW.pt (pw_and (pt_cmpR op_eq (pe_ix ix_list (pv 0) pe_int (fun _ _ => rfl)) pe_int (nomark _)) (pw_and1 (pt_cmpR op_gt (pe_callB call_len (by rfl) T.b_len bb_len (pa_cons (pe_ix ix_list (pv 0) pe_int (fun _ _ => rfl)) pa_nil)) pe_int (nomark _)))))
  (pss_one (ps_asg (pe_bm PySem.F.plainAttrs_list PySem.F.slot_list_pop PySem.F.type_list_pop mt_popAt (pe_ix ix_list (pv 0) pe_int (fun _ _ => rfl)) (pa_cons pe_int pa_nil)) (pg_sub (pv 0) pe_int set_list)))
  pss_nil)
 (pss_cons (ps_if (pt_cmpR op_gt (pe_ix ix_list (pv 0) pe_int (fun _ _ => rfl)) pe_int (nomark _))
  (pss_cons (ps_set (i := 2) sc.nd rfl (Or.inl rfl) (pe_op op_mod (pe_ix ix_list (pv 0) pe_int (fun _ _ => rfl)) (pv 1)))
 (pss_cons (ps_asg (pe_op op_fdiv (pe_ix ix_list (pv 0) pe_int (fun _ _ => rfl)) (pv 1)) (pg_sub (pv 0) pe_int set_list))
 (pss_one (ps_ret (pv 2)))))
  pss_nil)
 (pss_cons (ps_set (i := 3) sc.nd rfl (Or.inl rfl) (pe_ix ix_list (pe_op op_cat (pe_ix ix_list (pv 0) pe_int (fun _ _ => rfl)) (pe_lst (pa_cons (pe_op op_mul pe_int (pe_ix ix_list (pv 0) pe_int (fun _ _ => rfl))) pa_nil))) (pe_op op_mod (pe_ix ix_list (pv 0) pe_int (fun _ _ => rfl)) (pe_callB (call_max2 rfl) (by rfl) T.b_max bb_max (pa_cons pe_int (pa_cons (pe_callB call_len (by rfl) T.b_len bb_len (pa_cons (pe_ix ix_list (pv 0) pe_int (fun _ _ => rfl)) pa_nil)) pa_nil)))) (fun _ _ => rfl)))
 (pss_cons (ps_set (i := 2) sc.nd rfl (Or.inl rfl) pe_int)
 (pss_cons (ps_set (i := 4) sc.nd rfl (Or.inl rfl) pe_int)
 (pss_cons (ps_while PassesOwn.never (pt_cmpR op_lt (pv 4) (pv 1) (nomark _))
  (pss_cons (ps_set (i := 2) sc.nd rfl (Or.inl rfl) (pe_op op_add (pe_op op_mul (pv 2) pe_int) (pe_h h__law_mixed (hr.mono (by decide)) (by rfl) pass0 (pa_cons (pv 3) (pa_cons (pe_op op_add (pe_ix ix_list (pv 0) pe_int (fun _ _ => rfl)) (pe_op op_mul pe_int (pe_op op_mod (pv 2) pe_int))) pa_nil)))))
 (pss_one (ps_set (i := 4) sc.nd rfl (Or.inl rfl) (pe_op op_mul (pv 4) pe_int)))))
 (pss_one (ps_ret (pe_op op_mod (pv 2) (pv 1))))))))))), ?_⟩
    obtain ⟨gs, m, ss, hb, hg, hs0, hm, hgp, hgl, hsl⟩ := B.at_
    have hs := B.sub _ _ hs0
    dsimp only at hb hg hs0 hs
    have nsb : sm ≠ b := ne_of_none hs0 B.b0
    have nsg : sm ≠ g := ne_of_none hs0 B.g0
    have ngb : g ≠ b := B.ne
    have keep1 : ∀ (H' : Hp) (x : HO), Ext (MB ⟨b, g, sm⟩) H0 H H0 H' → Ext (MB ⟨b, g, sm⟩) H0 H H0 (upd H' b x) := fun H' x e =>
      ⟨e.same, e.new, fun a o m z => by rw [upd_ne (fun k => m (.inl k))]; exact e.keep a o m z, fun a z => by
        by_cases k : a = b
        · rw [k, upd_same] at z; cases z
        · rw [upd_ne k] at z; exact e.live a z, Same.upd0 e.sub B.b0⟩
    have keep2 : ∀ (H' : Hp) (x : HO), Ext (MB ⟨b, g, sm⟩) H0 H H0 H' → Ext (MB ⟨b, g, sm⟩) H0 H H0 (upd H' g x) := fun H' x e =>
      ⟨e.same, e.new, fun a o m z => by rw [upd_ne (fun k => m (.inr k))]; exact e.keep a o m z, fun a z => by
        by_cases k : a = g
        · rw [k, upd_same] at z; cases z
        · rw [upd_ne k] at z; exact e.live a z, Same.upd0 e.sub B.g0⟩
    have e0 : Ext (MB ⟨b, g, sm⟩) H0 H H0 H := Ext.refl B.sub
    have c0 := B.c0
    walk_at "rd"
    refine ⟨fun σ H' => σ = [some (.ref b), some (.int n), none, none, none] ∧ Ext (MB ⟨b, g, sm⟩) H0 H H0 H' ∧ ∃ (gs' : List Int) (m' : Int), H' b = some (.lst [.ref g, .int m', .ref sm, .int (c + 1)]) ∧ H' g = some (.lst (gs'.map V.int)) ∧ 0 ≤ m' ∧ (∀ x ∈ gs', 0 < x) ∧ gs'.length ≤ 63, ?_, ?_⟩
    · walk_at "rd"
      refine iteI (fun em => ?_) (fun em => ?_)
      · walk_at "rd"
        refine iteD (fun el => ?_) (fun el => ?_)
        · cases gs with
          | nil => exact absurd el (by decide)
          | cons x rest =>
            walk_at "rd"
            refine ⟨g, _, 0, 0, .int x, rfl, rfl, Eq.trans (upd_ne ngb) hg, by decide, by decide, seqIx0, rfl, ?_⟩
            walk_at "rd"
            exact ⟨keep1 _ _ (keep2 _ _ (keep1 _ _ e0)), rest, x, upd_same, by rw [upd_ne ngb]; exact upd_same, Int.le_of_lt (hgp x (List.mem_cons_self ..)), fun y hy => hgp y (List.mem_cons_of_mem _ hy), Nat.le_of_succ_le hgl⟩
        · exact ⟨rfl, keep1 _ _ e0, gs, m, upd_same, Eq.trans (upd_ne ngb) hg, hm, hgp, hgl⟩
      · exact ⟨rfl, keep1 _ _ e0, gs, m, upd_same, Eq.trans (upd_ne ngb) hg, hm, hgp, hgl⟩
    · rintro σ H1 ⟨rfl, e1, gs1, m1, hb1, hg1, hm1, hp1, hl1⟩
      have hs1 := e1.sub _ _ hs0
      walk_at "rd"
      refine iteD (fun el => ?_) (fun el => ?_)
      · walk_at "rd"
        refine q _ _ (Int.emod_nonneg _ (by omega)) (Int.emod_lt_of_pos _ (by omega)) (keep1 _ _ e1) ?_
        exact ⟨Same.upd0 e1.sub B.b0, B.b0, B.g0, ngb, by omega, gs1, _, ss, upd_same, Eq.trans (upd_ne ngb) hg1, hs0, Int.ediv_nonneg hm1 (by omega), hp1, hl1, hsl⟩
      · walk_at "rd"
        have hlen : (0 : Int) ≤ (List.map V.int ss).length := Int.natCast_nonneg _
        have hM : (0 : Int) < (if ((List.map V.int ss).length : Int) > 1 then ((List.map V.int ss).length : Int) else 1) ∧ (if ((List.map V.int ss).length : Int) > 1 then ((List.map V.int ss).length : Int) else 1) < (List.map V.int ss).length + 2 := by
          split <;> omega
        have i0 := Int.emod_nonneg (c + 1) (Int.ne_of_gt hM.1)
        have i1 := Int.emod_lt_of_pos (c + 1) hM.1
        obtain ⟨v, hv, hvm⟩ := at_mem (xs := List.map V.int ss ++ [V.int (7 * (c + 1))]) i0 (by rw [List.length_append, List.length_singleton]; omega)
        obtain ⟨cell, rfl⟩ : ∃ cell, v = V.int cell := by
          rcases List.mem_append.mp hvm with z | z
          · obtain ⟨y, _, e⟩ := List.mem_map.mp z
            exact ⟨y, e.symm⟩
          · exact ⟨_, List.mem_singleton.mp z⟩
        refine ⟨_, _, _, _, rfl, rfl, SqL.of upd_same, hv, ?_⟩
        rename_i p1 hp1' p2 hp2'
        have s2 := (Same.new (o := HO.lst [V.int (7 * (c + 1))]) hp1').trans (Same.new (o := HO.lst (List.map V.int ss ++ [V.int (7 * (c + 1))])) hp2')
        have e2 := e1.trans (Ext.pass (M := MB ⟨b, g, sm⟩) e1.sub s2)
        have hb2 := s2 _ _ hb1
        have hg2 := s2 _ _ hg1
        generalize upd (upd H1 p1 (HO.lst [V.int (7 * (c + 1))])) p2 (HO.lst (List.map V.int ss ++ [V.int (7 * (c + 1))])) = H2 at s2 e2 hb2 hg2
        show tWhile _ _ _ _ H2
        refine ⟨fun k σ H' => H' = H2 ∧ ((k = 1 ∧ σ = [some (.ref b), some (.int n), some (.int 0), some (.int cell), some (.int 1)]) ∨ (k = 0 ∧ ∃ (t u : Int), 0 ≤ t ∧ n ≤ u ∧ σ = [some (.ref b), some (.int n), some (.int t), some (.int cell), some (.int u)])), ⟨1, rfl, .inl ⟨rfl, rfl⟩⟩, ?_⟩
        have fin : ∀ t : Int, 0 ≤ t → Q (.int (t % n)) H2 := fun t ht =>
          q _ _ (Int.emod_nonneg _ (by omega)) (Int.emod_lt_of_pos _ (by omega)) e2 ⟨e2.sub, B.b0, B.g0, ngb, by omega, gs1, _, ss, hb2, hg2, hs0, hm1, hp1, hl1, hsl⟩
        rintro k σ H' ⟨rfl, (⟨rfl, rfl⟩ | ⟨rfl, t, u, ht, hu, rfl⟩)⟩
        · walk_at "rd"
          refine iteD (fun el => ?_) (fun el => ?_)
          · refine ⟨fun σ Hx => Hx = H' ∧ ∃ (t u : Int), 0 ≤ t ∧ n ≤ u ∧ σ = [some (.ref b), some (.int n), some (.int t), some (.int cell), some (.int u)], fun σ H' z => ⟨0, by decide, z.1, .inr ⟨rfl, z.2⟩⟩, ?_⟩
            walk_at "rd"
            intro m hm
            walk_at "rd"
            exact ⟨_, _, by omega, by omega, rfl⟩
          · walk_at "rd"
            exact fin _ (Int.le_refl _)
        · walk_at "rd"
          refine iteD (fun el => by omega) (fun el => ?_)
          walk_at "rd"
          exact fin _ ht
end
end U
namespace U
open PySem L2
section
variable {P : Program} {w : World} {K : PySem.W.Frag} {mg : Str → Option Value} {base : Heap}
/-! ### pick -/
abbrev s__law_pick : Stmt := (top 33)
theorem sc__law_pick : FnScope ["_law_box_here", "_law_things"] ["_law_box_here", "_law_things"] (defScope s__law_pick) := ⟨rfl, rfl, rfl, by decide +kernel, rfl, by decide +kernel, by decide +kernel⟩
def spPick (K : PySem.W.Frag) : Sp := fun vs H Q _ => ∃ (H0 : Hp) (β : BA) (l : Addr) (c : Int) (xs : List V), vs = [.ref β.b, .ref l] ∧ Bx H0 H β c ∧ c ≤ 10000000 ∧ SqL K H0 l xs ∧ 1 ≤ xs.length ∧ xs.length ≤ 1000 ∧
  ∀ (x : V) (H' : Hp), x ∈ xs → Ext (MB β) H0 H H0 H' → Bx H0 H' β (c + 1) → Q x H'
theorem ok_pick {f : Addr} {fd : FuncData} (F : Fun K "_law_pick" "_law_pick" s__law_pick f fd) (T : Bl mg) (h__law_take : Has P w K mg base CX0 2 "_law_take" ["_law_box_here", "_law_size"] spTake) :
    FnOk P w K mg base CX0 3 f fd ["_law_box_here", "_law_things"] (spPick K) := by
  have sc := sc__law_pick
  refine F.ok sc (fun vs H Q E h => ?_) (fun cdv A outer s H vs Q E hr h => ?_)
  · obtain ⟨H0, β, l, c, xs, rfl, _⟩ := h
    rfl
  · obtain ⟨H0, β, l, c, xs, rfl, B, hc, hl, h1, h2, q⟩ := h
    refine ⟨_, (pss_one (ps_ret (pe_ix ix_list (pv 1) (pe_h h__law_take (hr.mono (by decide)) (by rfl) pass0 (pa_cons (pv 0) (pa_cons (pe_callB call_len (by rfl) T.b_len bb_len (pa_cons (pv 1) pa_nil)) pa_nil))) (fun _ _ => rfl)))), ?_⟩
    have hl1 := SqL.up hl B.sub
    walk_at "rd"
    refine ⟨H0, β, c, _, rfl, B, hc, by omega, by omega, fun r H' r0 r1 e B' => ?_⟩
    obtain ⟨v, hv, hm⟩ := at_mem (xs := xs) r0 r1
    exact ⟨_, _, _, _, rfl, rfl, SqL.up hl B'.sub, hv, q _ _ hm e B'⟩
end
end U
namespace U
open PySem L2
section
variable {P : Program} {w : World} {K : PySem.W.Frag} {mg : Str → Option Value} {base : Heap}
/-! ### the box is made -/
abbrev s__law_box : Stmt := (top 30)
theorem sc__law_box : FnScope ["_law_script", "_law_great", "_law_cell"] ["_law_script"] (defScope s__law_box) := ⟨rfl, rfl, rfl, by decide +kernel, rfl, by decide +kernel, by decide +kernel⟩
def spBox (K : PySem.W.Frag) : Sp := fun vs H Q _ => ∃ (a : Addr) (ns : List Int), vs = [.ref a] ∧ SqL K H a (ns.map V.int) ∧ ns.length ≤ 63 ∧
  ∀ (β : BA) (H0 H' : Hp), Same H H0 → Bx H0 H' β 0 → Q (.ref β.b) H'
theorem filter_le {α : Type} (p : α → Bool) (l : List α) (i : Nat) : ((l.take i).filter p).length ≤ l.length :=
  Nat.le_trans (List.length_filter_le _ _) (by rw [List.length_take]; exact Nat.min_le_right _ _)
theorem filter_more {α : Type} {p : α → Bool} {l : List α} {i : Nat} {x : α} (h : l[i]? = some x) : (l.take (i + 1)).filter p = (l.take i).filter p ++ (if p x = true then [x] else []) := by
  rw [take_more h, List.filter_append]
  congr 1
  by_cases q : p x = true
  · rw [if_pos q]; simp [q]
  · rw [if_neg q]; simp [q]
theorem ok_box {f : Addr} {fd : FuncData} (F : Fun K "_law_box" "_law_box" s__law_box f fd) : FnOk P w K mg base CX0 1 f fd ["_law_script"] (spBox K) := by
  have sc := sc__law_box
  refine F.ok sc (fun vs H Q E h => ?_) (fun cdv A outer s H vs Q E hr h => ?_)
  · obtain ⟨a, ns, rfl, _⟩ := h
    rfl
  · obtain ⟨a, ns, rfl, hS, hl, q⟩ := h
    refine ⟨_, (pss_cons (ps_setLcD (i := 1) (own := [("_law_cell", 2)])   (by rfl) sc.nd rfl rfl (sw_true rfl rfl rfl (by decide +kernel)) (pi_list (pv 0)) (blkOk_by (by kernel_rfl)) (fun _ _ _ _ _ => (pg_name (i := 2) sc.nd rfl (Or.inl rfl))) (fun _ _ _ _ _ => (pts_one (pt_cmpR op_ge (pv 2) (pe_op op_pow pe_int pe_int) (nomark _)))) (fun _ _ _ _ _ => (pv 2)))
 (pss_one (ps_ret (pe_lst (pa_cons (pv 1) (pa_cons pe_int (pa_cons (pe_lcD (own := [("_law_cell", 2)])   (by rfl) sc.nd (pi_list (pv 0)) (blkOk_by (by kernel_rfl)) (fun _ _ _ _ _ => (pg_name (i := 2) sc.nd rfl (Or.inl rfl))) (fun _ _ _ _ _ => (pts_one (pt_cmpR op_lt (pv 2) (pe_op op_pow pe_int pe_int) (nomark _)))) (fun _ _ _ _ _ => (pv 2))) (pa_cons pe_int pa_nil)))))))), ?_⟩
    let p1 : Int → Bool := fun n => decide (10 ^ 18 ≤ n)
    let p2 : Int → Bool := fun n => decide (n < 10 ^ 18)
    walk_at "rd"
    refine ⟨⟨_, hS⟩, fun D hD => lc_list (K := K) (a := a) (xs := ns.map V.int) (fun i H' => H' = upd H D (.lst (((ns.take i).filter p1).map V.int))) rfl (fun i H' _ e => ?_) (fun i x H' hx e => ?_) (fun H' e => ?_)⟩
    · subst e
      exact SqL.up hS (Same.new hD)
    · subst e
      obtain ⟨z, hz, rfl⟩ := int_at hx
      walk_at "rd"
      refine iteD (fun c => ?_) (fun c => ?_)
      · walk_at "rd"
        refine ⟨_, upd_same, small_lt ?_, ?_⟩
        · rw [List.length_map]
          exact Nat.le_trans (filter_le _ _ _) (Nat.le_trans hl (by decide))
        · rw [upd_upd, filter_more hz, if_pos (show p1 z = true from decide_eq_true c), List.map_append]
          rfl
      · rw [filter_more hz, if_neg (show ¬ p1 z = true from fun k => c (of_decide_eq_true k)), List.append_nil]
    · subst e
      rw [List.length_map, List.take_length]
      have hS1 := SqL.up hS (Same.new (o := .lst ((ns.filter p1).map V.int)) hD)
      walk_at "rd"
      refine ⟨⟨_, hS1⟩, fun D2 hD2 => lc_list (K := K) (a := a) (xs := ns.map V.int) (fun i H' => H' = upd (upd H D (.lst ((ns.filter p1).map V.int))) D2 (.lst (((ns.take i).filter p2).map V.int))) rfl (fun i H' _ e => ?_) (fun i x H' hx e => ?_) (fun H' e => ?_)⟩
      · subst e
        exact SqL.up hS1 (Same.new hD2)
      · subst e
        obtain ⟨z, hz, rfl⟩ := int_at hx
        walk_at "rd"
        refine iteD (fun c => ?_) (fun c => ?_)
        · walk_at "rd"
          refine ⟨_, upd_same, small_lt ?_, ?_⟩
          · rw [List.length_map]
            exact Nat.le_trans (filter_le _ _ _) (Nat.le_trans hl (by decide))
          · rw [upd_upd, filter_more hz, if_pos (show p2 z = true from decide_eq_true c), List.map_append]
            rfl
        · rw [filter_more hz, if_neg (show ¬ p2 z = true from fun k => c (of_decide_eq_true k)), List.append_nil]
      · subst e
        rw [List.length_map, List.take_length]
        walk_at "rd"
        rename_i b hb
        have nDD : D ≠ D2 := by
          intro z
          rw [z, upd_same] at hD2
          cases hD2
        have hD2' : H D2 = none := by
          rw [upd_ne nDD.symm] at hD2
          exact hD2
        have nDb : D ≠ b := ne_none hb (by rw [upd_ne nDD]; exact upd_same)
        have nDb2 : D2 ≠ b := ne_none hb upd_same
        have hb0 : H b = none := by
          rw [upd_ne nDb2.symm, upd_ne nDb.symm] at hb
          exact hb
        refine q ⟨b, D, D2⟩ (upd H D2 (.lst ((ns.filter p2).map V.int))) _ (Same.new hD2') ⟨?_, ?_, ?_, nDb, Int.le_refl _, ns.filter p1, 0, ns.filter p2, upd_same, ?_, upd_same, Int.le_refl _, fun x hx => ?_, Nat.le_trans (List.length_filter_le _ _) hl, Nat.le_trans (List.length_filter_le _ _) hl⟩
        · refine Same.upd0 (Same.upd2 (Same.new hD)) ?_
          rw [upd_ne nDb2.symm]
          exact hb0
        · rw [upd_ne nDb2.symm]
          exact hb0
        · rw [upd_ne nDD]
          exact hD
        · rw [upd_ne nDb, upd_ne nDD]
          exact upd_same
        · have z : (10 : Int) ^ 18 ≤ x := of_decide_eq_true (List.mem_filter.mp hx).2
          omega
end
end U
namespace U
open PySem L2
section
variable {P : Program} {w : World} {K : PySem.W.Frag} {mg : Str → Option Value} {base : Heap}
/-! ### all things in any order -/
abbrev s__law_shuffled : Stmt := (top 34)
theorem sc__law_shuffled : FnScope ["_law_box_here", "_law_things", "_law_pile", "_law_k"] ["_law_box_here", "_law_things"] (defScope s__law_shuffled) := ⟨rfl, rfl, rfl, by decide +kernel, rfl, by decide +kernel, by decide +kernel⟩
def spShuf (K : PySem.W.Frag) : Sp := fun vs H Q _ => ∃ (H0 : Hp) (β : BA) (l : Addr) (c : Int) (xs : List V), vs = [.ref β.b, .ref l] ∧ Bx H0 H β c ∧ c + xs.length ≤ 10000000 ∧ SqL K H0 l xs ∧ xs.length ≤ 1000 ∧
  ∀ (p : Addr) (ys : List V) (H0' H' : Hp), ys.Perm xs → H0' p = some (.lst ys) → Ext (MB β) H0 H H0' H' → Bx H0' H' β (c + xs.length) → Q (.ref p) H'
theorem seqIx {i : Int} {n : Nat} (h0 : 0 ≤ i) (h1 : i < n) : seqIndex? i n = some i.toNat := by
  have h : ixN n i = some i.toNat := by
    unfold ixN
    rw [if_pos h0, if_pos h1]
  exact (ixN_seq h).1
theorem perm_pop {α : Type} : ∀ {l : List α} {k : Nat} {y : α}, l[k]? = some y → (y :: l.eraseIdx k).Perm l
  | [], k, y, h => by simp at h
  | a :: l, 0, y, h => by
    have e : a = y := Option.some.inj h
    subst e
    exact List.Perm.refl _
  | a :: l, k + 1, y, h => by
    have ih := perm_pop (l := l) (k := k) (y := y) h
    exact (List.Perm.swap a y _).trans (ih.cons a)
theorem ok_shuf {f : Addr} {fd : FuncData} (F : Fun K "_law_shuffled" "_law_shuffled" s__law_shuffled f fd) (T : Bl mg) (h__law_take : Has P w K mg base CX0 2 "_law_take" ["_law_box_here", "_law_size"] spTake) :
    FnOk P w K mg base CX0 3 f fd ["_law_box_here", "_law_things"] (spShuf K) := by
  have sc := sc__law_shuffled
  refine F.ok sc (fun vs H Q E h => ?_) (fun cdv A outer s H vs Q E hr h => ?_)
  · obtain ⟨H0, β, l, c, xs, rfl, _⟩ := h
    rfl
  · obtain ⟨H0, β, l, c, xs, rfl, B, hc, hl, h2, q⟩ := h
    refine ⟨_, (pss_cons (ps_set (i := 2) sc.nd rfl (Or.inr rfl) (pe_callTy call_list_of (by rfl) T.b_list bb_list (pa_cons (pv 1) pa_nil)))
 (pss_one (ps_ret (pe_lcD (own := [("_law_k", 3)])   (by rfl) sc.nd (pi_range1 (by rfl) T.b_range (pa_cons (pe_callB call_len (by rfl) T.b_len bb_len (pa_cons (pv 2) pa_nil)) pa_nil)) (blkOk_by (by kernel_rfl)) (fun _ _ _ _ _ => (pg_name (i := 3) sc.nd rfl (Or.inl rfl))) (fun _ _ _ _ _ => pts_nil) (fun _ _ _ _ _ => (pe_bm PySem.F.plainAttrs_list PySem.F.slot_list_pop PySem.F.type_list_pop mt_popAt (pv 2) (pa_cons (pe_h h__law_take (hr.mono (by decide)) (by rfl) pass0 (pa_cons (pv 0) (pa_cons (pe_callB call_len (by rfl) T.b_len bb_len (pa_cons (pv 2) pa_nil)) pa_nil))) pa_nil))))))), ?_⟩
    have hl1 := SqL.up hl B.sub
    walk_at "rd"
    refine ⟨_, _, rfl, .inl hl1, fun L hL => ?_⟩
    walk_at "rd"
    rename_i D hD
    have nLD : L ≠ D := ne_none hD upd_same
    have hD0 : H D = none := by rw [upd_ne nLD.symm] at hD; exact hD
    have L0 : H0 L = none := B.sub.free hL
    have D0 : H0 D = none := B.sub.free hD0
    refine lc_range (lo := 0) (n := _) (fun i H' => ∃ (dn left : List V), dn.length = i ∧ (dn ++ left).Perm xs ∧ H' L = some (.lst left) ∧ H' D = some (.lst dn) ∧ Bx H0 H' β (c + i) ∧ Ext (MB β) H0 H H0 H') ?_ (fun i H' hi z => ?_) (fun H' z => ?_)
    · refine ⟨[], xs, rfl, List.Perm.refl _, by walk_at "hp", by walk_at "hp", ?_, ?_⟩
      · rw [show c + ((0 : Nat) : Int) = c by omega]
        exact (B.put L0 (B.nb hL) (B.ng hL)).put D0 (B.nb hD0) (B.ng hD0)
      · exact ((Ext.refl B.sub).put L0 hL).put D0 hD0
    · obtain ⟨dn, left, rfl, hp, hL', hD', B', e'⟩ := z
      have hlen := hp.length_eq
      rw [List.length_append] at hlen
      have nb := B.nb hL
      have ng := B.ng hL
      have nb2 := B.nb hD0
      have ng2 := B.ng hD0
      have i1 : dn.length < xs.length := by
        have := hi
        omega
      have s1 : Same H0 (upd (upd H0 L (.lst left)) D (.lst dn)) := (Same.new L0).trans (Same.new (by rw [upd_ne nLD.symm]; exact D0))
      have s2 : Same (upd (upd H0 L (.lst left)) D (.lst dn)) H' := fun a o z => by
        by_cases k : a = D
        · subst k; rw [upd_same] at z; rw [hD']; exact z
        · rw [upd_ne k] at z
          by_cases k2 : a = L
          · subst k2; rw [upd_same] at z; rw [hL']; exact z
          · rw [upd_ne k2] at z; exact B'.sub a o z
      have Bz := B'.more s1 s2 (by rw [upd_ne nb2.symm, upd_ne nb.symm]; exact B.b0) (by rw [upd_ne ng2.symm, upd_ne ng.symm]; exact B.g0)
      walk_at "rd"
      refine ⟨_, β, _, _, rfl, Bz, by omega, by omega, by omega, fun r H'' r0 r1 ex Bx' => ?_⟩
      have hL'' : H'' L = some (.lst left) := ex.sub _ _ (by rw [upd_ne nLD]; exact upd_same)
      have hD'' : H'' D = some (.lst dn) := ex.sub _ _ upd_same
      have B'' := Bx'.less B' s1
      have e'' := e'.trans (ex.less s1)
      have hk : r.toNat < left.length := by omega
      refine ⟨_, _, _, _, _, rfl, rfl, hL'', by omega, by omega, seqIx r0 r1, List.getElem?_eq_getElem hk, ?_⟩
      refine ⟨dn, by rw [upd_ne nLD.symm]; exact hD'', small_lt (by omega), dn ++ [left[r.toNat]], left.eraseIdx r.toNat, by simp, ?_, by rw [upd_ne nLD]; exact upd_same, upd_same, ?_, ?_⟩
      · rw [List.append_assoc]
        exact (List.Perm.append_left _ (perm_pop (List.getElem?_eq_getElem hk))).trans hp
      · rw [show c + ((dn.length + 1 : Nat) : Int) = c + dn.length + 1 by omega]
        exact (B''.put L0 nb ng).put D0 nb2 ng2
      · exact (e''.put L0 hL).put D0 hD0
    · obtain ⟨dn, left, hlen, hp, hL', hD', B', e'⟩ := z
      have h3 := hp.length_eq
      rw [List.length_append] at h3
      have hlen' : dn.length = xs.length := hlen
      have : left = [] := List.eq_nil_of_length_eq_zero (by omega)
      subst this
      rw [List.append_nil] at hp
      refine q D dn (upd H0 D (.lst dn)) H' hp upd_same (e'.seal hD0 hD' D0) ?_
      rw [← hlen', hlen]
      exact B'.seal hD' D0 (B.nb hD0) (B.ng hD0)
end
end U
namespace U
open PySem L2
/-! ### the data -/
def piece : PyData → Bool
  | .int _ => true
  | _ => false
def num (lo hi : Int) : PyData → Bool
  | .int i => decide (lo ≤ i) && decide (i ≤ hi)
  | _ => false
theorem piece_eq (d : PyData) : piece d = (isa "int" d && !isa "bool" d) := by cases d <;> kernel_rfl
theorem piece_int {d : PyData} (h : piece d = true) : ∃ i, d = .int i := by
  cases d <;> first | exact ⟨_, rfl⟩ | cases h
theorem num_int {lo hi i : Int} : num lo hi (.int i) = (decide (lo ≤ i) && decide (i ≤ hi)) := rfl
theorem num_not {lo hi : Int} {d : PyData} (h : piece d = false) : num lo hi d = false := by
  cases d <;> first | rfl | cases h
section
variable {P : Program} {w : World} {K : PySem.W.Frag} {mg : Str → Option Value} {base : Heap}
abbrev s_is_piece : Stmt := (top 19)
theorem sc_is_piece : FnScope ["thing"] ["thing"] (defScope s_is_piece) := ⟨rfl, rfl, rfl, by decide +kernel, rfl, by decide +kernel, by decide +kernel⟩
def spPiece (K : PySem.W.Frag) : Sp := fun vs H Q _ => ∃ (v : V) (d : PyData), vs = [v] ∧ Dat K H v d ∧ Q (.bl (piece d)) H
theorem ok_piece {f : Addr} {fd : FuncData} (F : Fun K "is_piece" "is_piece" s_is_piece f fd) (T : Bl mg) : FnOk P w K mg base CX0 1 f fd ["thing"] (spPiece K) := by
  have sc := sc_is_piece
  refine F.ok sc (fun vs H Q E h => ?_) (fun cdv A outer s H vs Q E hr h => ?_)
  · obtain ⟨v, d, rfl, _⟩ := h
    rfl
  · obtain ⟨v, d, rfl, hd, q⟩ := h
    refine ⟨_, (pss_one (ps_ret (pe_and (pe_callB call_isD (by rfl) T.b_isinstance bb_isinstance (pa_cons (pv 0) (pa_cons (pe_bltn (v := .ty "int") (by rfl) T.b_int bb_int rfl) pa_nil))) (pe_one (pe_not (pe_callB call_isD (by rfl) T.b_isinstance bb_isinstance (pa_cons (pv 0) (pa_cons (pe_bltn (v := .ty "bool") (by rfl) T.b_bool bb_bool rfl) pa_nil)))))))), ?_⟩
    rw [piece_eq] at q
    walk_at "rd"
    refine iteB (fun h1 => ?_) (fun h1 => ?_)
    · walk_at "rd"
      rw [h1] at q
      exact q
    · rw [h1] at q
      exact q
abbrev s_is_number : Stmt := (top 21)
theorem sc_is_number : FnScope ["thing", "low", "high"] ["thing", "low", "high"] (defScope s_is_number) := ⟨rfl, rfl, rfl, by decide +kernel, rfl, by decide +kernel, by decide +kernel⟩
def spNum (K : PySem.W.Frag) : Sp := fun vs H Q _ => ∃ (v : V) (d : PyData) (lo hi : Int), vs = [v, .int lo, .int hi] ∧ Dat K H v d ∧ Q (.bl (num lo hi d)) H
theorem ok_num {f : Addr} {fd : FuncData} (F : Fun K "is_number" "is_number" s_is_number f fd) (h_is_piece : Has P w K mg base CX0 1 "is_piece" ["thing"] (spPiece K)) : FnOk P w K mg base CX0 2 f fd ["thing", "low", "high"] (spNum K) := by
  have sc := sc_is_number
  refine F.ok sc (fun vs H Q E h => ?_) (fun cdv A outer s H vs Q E hr h => ?_)
  · obtain ⟨v, d, lo, hi, rfl, _⟩ := h
    rfl
  · obtain ⟨v, d, lo, hi, rfl, hd, q⟩ := h
    refine ⟨_, (pss_one (ps_ret (pe_and (pe_h h_is_piece (hr.mono (by decide)) (by rfl) pass0 (pa_cons (pv 0) pa_nil)) (pe_one (pe_chain op_le op_le (pv 1) (pv 0) (pv 2)))))), ?_⟩
    walk_at "rd"
    refine ⟨_, _, rfl, hd, _, rfl, iteB (fun h1 => ?_) (fun h1 => ?_)⟩
    · obtain ⟨i, rfl⟩ := piece_int h1
      cases hd with
      | of hd =>
        cases hd
        walk_at "rd"
        refine iteD (fun c => ?_) (fun c => ?_)
        · walk_at "rd"
          rw [num_int, decide_eq_true c, Bool.true_and] at q
          exact q
        · rw [num_int, decide_eq_false c, Bool.false_and] at q
          exact q
    · rw [num_not h1] at q
      exact q
abbrev s__law_is_int : Stmt := (top 37)
theorem sc__law_is_int : FnScope ["_law_thing", "_law_low", "_law_high"] ["_law_thing", "_law_low", "_law_high"] (defScope s__law_is_int) := ⟨rfl, rfl, rfl, by decide +kernel, rfl, by decide +kernel, by decide +kernel⟩
theorem ok_isint {f : Addr} {fd : FuncData} (F : Fun K "_law_is_int" "_law_is_int" s__law_is_int f fd) (T : Bl mg) : FnOk P w K mg base CX0 1 f fd ["_law_thing", "_law_low", "_law_high"] (spNum K) := by
  have sc := sc__law_is_int
  refine F.ok sc (fun vs H Q E h => ?_) (fun cdv A outer s H vs Q E hr h => ?_)
  · obtain ⟨v, d, lo, hi, rfl, _⟩ := h
    rfl
  · obtain ⟨v, d, lo, hi, rfl, hd, q⟩ := h
    refine ⟨_, (pss_one (ps_ret (pe_and (pe_callB call_isD (by rfl) T.b_isinstance bb_isinstance (pa_cons (pv 0) (pa_cons (pe_bltn (v := .ty "int") (by rfl) T.b_int bb_int rfl) pa_nil))) (pe_and (pe_not (pe_callB call_isD (by rfl) T.b_isinstance bb_isinstance (pa_cons (pv 0) (pa_cons (pe_bltn (v := .ty "bool") (by rfl) T.b_bool bb_bool rfl) pa_nil)))) (pe_one (pe_chain op_le op_le (pv 1) (pv 0) (pv 2))))))), ?_⟩
    have pe := piece_eq d
    walk_at "rd"
    refine iteB (fun h1 => ?_) (fun h1 => ?_)
    · walk_at "rd"
      refine iteNB (fun h2 => ?_) (fun h2 => ?_)
      · rw [h1, h2] at pe
        rw [num_not pe] at q
        exact q
      · rw [h1, h2] at pe
        obtain ⟨i, rfl⟩ := piece_int pe
        cases hd with
        | of hd =>
          cases hd
          walk_at "rd"
          refine iteD (fun c => ?_) (fun c => ?_)
          · walk_at "rd"
            rw [num_int, decide_eq_true c, Bool.true_and] at q
            exact q
          · rw [num_int, decide_eq_false c, Bool.false_and] at q
            exact q
    · rw [h1] at pe
      rw [num_not pe] at q
      exact q
end
end U
namespace U
open PySem L2
theorem bb_sum : bootBuiltins "sum" = some (.builtin "sum") := by decide +kernel
structure Blx (mg : Str → Option Value) : Prop extends Bl mg where
  b_sum : mg "sum" = none
/-- a row of a stand -/
def rowD (r : List Int) : PyData := .tuple (r.map .int)
/-- the watched pieces of a stand -/
def pcs (n : Int) (rss : List (List Int)) : List Int := (if 0 ≤ n then [n] else []) ++ rss.flatten
theorem dp_ints {K : PySem.W.Frag} {H : Hp} : ∀ {r : List Int} {xs : List V}, DpAll K H xs (r.map .int) → xs = r.map V.int
  | [], _, h => by cases h; rfl
  | n :: r, _, h => by
    cases h with
    | cons a b =>
      cases a
      rw [dp_ints b]
      rfl
theorem lists_up {H H' : Hp} (e : Same H H') : ∀ {ads : List Addr} {xss : List (List V)}, Lists H ads xss → Lists H' ads xss
  | [], [], _ => trivial
  | a :: as, x :: xs, h => ⟨e _ _ h.1, lists_up e h.2⟩
  | [], _ :: _, h => h.elim
  | _ :: _, [], h => h.elim
theorem lists_put {H : Hp} {D : Addr} {o : HO} : ∀ {ads : List Addr} {xss : List (List V)}, Lists H ads xss → (∀ a ∈ ads, a ≠ D) → Lists (upd H D o) ads xss
  | [], [], _, _ => trivial
  | a :: as, x :: xs, h, n => ⟨by rw [upd_ne (n a (List.mem_cons_self ..))]; exact h.1, lists_put h.2 fun b hb => n b (List.mem_cons_of_mem _ hb)⟩
  | [], _ :: _, h, _ => h.elim
  | _ :: _, [], h, _ => h.elim
theorem lists_more {H : Hp} {b : Addr} {y : List V} (hb : H b = some (.lst y)) : ∀ {ads : List Addr} {xss : List (List V)}, Lists H ads xss → Lists H (ads ++ [b]) (xss ++ [y])
  | [], [], _ => ⟨hb, trivial⟩
  | a :: as, x :: xs, h => ⟨h.1, lists_more hb h.2⟩
  | [], _ :: _, h => h.elim
  | _ :: _, [], h => h.elim
theorem flat_map {α β : Type} (f : α → β) : ∀ l : List (List α), (l.map (List.map f)).flatten = l.flatten.map f
  | [] => rfl
  | x :: r => by rw [List.map_cons, List.flatten_cons, List.flatten_cons, List.map_append, flat_map f r]
section
variable {P : Program} {w : World} {K : PySem.W.Frag} {mg : Str → Option Value} {base : Heap}
abbrev s_there : Stmt := (top 23)
theorem sc_there : FnScope ["stand", "piece", "row"] ["stand"] (defScope s_there) := ⟨rfl, rfl, rfl, by decide +kernel, rfl, by decide +kernel, by decide +kernel⟩
def spThere (K : PySem.W.Frag) : Sp := fun vs H Q _ => ∃ (v : V) (n : Int) (rss : List (List Int)) (e3 : PyData), vs = [v] ∧ Dp K H v (.tuple [.int n, .tuple (rss.map rowD), e3]) ∧ rss.length ≤ 1000 ∧ rss.flatten.length ≤ 1000 ∧
  ∀ (p : Addr) (H' : Hp), Same H H' → H' p = some (.lst ((pcs n rss).map V.int)) → Q (.ref p) H'
theorem ok_there {f : Addr} {fd : FuncData} (F : Fun K "there" "there" s_there f fd) (T : Blx mg) : FnOk P w K mg base CX0 1 f fd ["stand"] (spThere K) := by
  have sc := sc_there
  refine F.ok sc (fun vs H Q E h => ?_) (fun cdv A outer s H vs Q E hr h => ?_)
  · obtain ⟨v, n, rss, e3, rfl, _⟩ := h
    rfl
  · obtain ⟨v, n, rss, e3, rfl, hd, hl1, hl2, q⟩ := h
    refine ⟨_, (pss_one (ps_ret (pe_op op_cat (pe_lcD (own := [("piece", 1)])   (by rfl) sc.nd (pi_tup (pe_tup (pa_cons (pe_ix ix_D (pv 0) pe_int (fun _ _ => rfl)) pa_nil))) (blkOk_by (by kernel_rfl)) (fun _ _ _ _ _ => (pg_name (i := 1) sc.nd rfl (Or.inl rfl))) (fun _ _ _ _ _ => (pts_one (pt_cmpR op_ge (pv 1) pe_int (nomark _)))) (fun _ _ _ _ _ => (pv 1))) (pe_callB (cr_sumL (by rfl)) (by rfl) T.b_sum bb_sum (pa_cons (pe_lcD (own := [("row", 2)])   (by rfl) sc.nd (pi_tup (pe_ix ix_D (pv 0) pe_int (fun _ _ => rfl))) (blkOk_by (by kernel_rfl)) (fun _ _ _ _ _ => (pg_name (i := 2) sc.nd rfl (Or.inl rfl))) (fun _ _ _ _ _ => pts_nil) (fun _ _ _ _ _ => (pe_callTy call_list_of (by rfl) T.b_list bb_list (pa_cons (pv 2) pa_nil)))) (pa_cons (pe_lst pa_nil) pa_nil)))))), ?_⟩
    walk_at "rd"
    rename_i v0 hv0 T1 hT1
    cases hv0
    refine ⟨⟨_, SqT.of upd_same⟩, fun D hD => ?_⟩
    generalize eH1 : upd H T1 (.tup [V.int n]) = H1 at hD
    have s1 : Same H H1 := by rw [← eH1]; exact Same.new hT1
    have hT : H1 T1 = some (.tup [V.int n]) := by rw [← eH1]; exact upd_same
    let pre : List V := if 0 ≤ n then [V.int n] else []
    refine lc_it (walk_tup (xs := [V.int n])) (fun i H' => H' = upd H1 D (.lst (if i = 0 then [] else pre))) rfl (fun i H' _ e => ?_) (fun i x H' H'' hi e y => ?_) (fun H' e => ?_)
    · subst e
      exact SqT.of (by walk_at "hp")
    · subst e
      obtain ⟨rfl, y⟩ := y
      have i0 : i = 0 := by
        have : i < 1 := hi
        omega
      subst i0
      cases y
      walk_at "rd"
      refine iteD (fun c => ?_) (fun c => ?_)
      · walk_at "rd"
        refine ⟨[], upd_same, by decide, ?_⟩
        rw [upd_upd, if_neg (by omega), show pre = [V.int n] from if_pos c]
        rfl
      · rw [if_pos rfl, if_neg (by omega), show pre = [] from if_neg c]
    · subst e
      rw [if_neg (by simp)]
      have s2 : Same H (upd H1 D (.lst pre)) := s1.trans (Same.new hD)
      generalize eH2 : upd H1 D (.lst pre) = H2 at s2
      have hD2 : H2 D = some (.lst pre) := by rw [← eH2]; exact upd_same
      walk_at "rd"
      rename_i v1 hv1
      cases hv1 with
      | @tup a1 xs1 _ hS hA =>
        have hlx := dp_len hA
        rw [List.length_map] at hlx
        refine ⟨a1, rfl, ⟨_, hS⟩, fun D2 hD2' => lc_it (walk_tup (xs := xs1)) (fun i H' => Same H2 H' ∧ ∃ ads : List Addr, H' D2 = some (.lst (ads.map V.ref)) ∧ (∀ a ∈ ads, a ≠ D2) ∧ Lists H' ads ((rss.take i).map (List.map V.int))) ⟨Same.new hD2', [], upd_same, fun a ha => absurd ha (by simp), trivial⟩ (fun i H' _ z => SqT.up hS z.1) (fun i x H' H'' hi z y => ?_) (fun H' z => ?_)⟩
        · obtain ⟨sz, ads, hD', hne, hls⟩ := z
          obtain ⟨rfl, y⟩ := y
          obtain ⟨d, hd1, hd2⟩ := dp_get' hA y
          rw [List.getElem?_map] at hd1
          cases er : rss[i]? with
          | none => rw [er] at hd1; cases hd1
          | some r =>
            rw [er] at hd1
            cases hd1
            cases hd2 with
            | @tup a2 xs2 _ hS2 hA2 =>
              obtain rfl := dp_ints hA2
              walk_at "rd"
              refine ⟨_, _, rfl, .inr (SqT.up hS2 sz), fun l hl => ?_⟩
              have nlD : D2 ≠ l := ne_none hl hD'
              refine ⟨_, by walk_at "hp", small_lt (by rw [List.length_map, ← lists_len hls, List.length_map, List.length_take]; omega), ?_, ads ++ [l], ?_, ?_, ?_⟩
              · exact Same.upd0 (sz.trans (Same.new hl)) hD2'
              · rw [List.map_append]
                exact upd_same
              · intro a ha
                rcases List.mem_append.mp ha with k | k
                · exact hne a k
                · rw [List.mem_singleton.mp k]
                  exact nlD.symm
              · rw [take_more er, List.map_append]
                refine lists_more ?_ (lists_put (lists_up (Same.new hl) hls) hne)
                rw [upd_ne nlD.symm]
                exact upd_same
        · obtain ⟨sz, ads, hD', hne, hls⟩ := z
          rw [hlx, List.take_length] at hls
          walk_at "rd"
          rename_i b hb
          have hfl := flat_map V.int rss
          have hfn : (rss.map (List.map V.int)).flatten.length ≤ 1000 := by rw [hfl, List.length_map]; exact hl2
          have hpre : pre.length ≤ 1 := by
            show (if 0 ≤ n then [V.int n] else []).length ≤ 1
            split <;> simp
          have hDn : H' D = some (.lst pre) := sz _ _ hD2
          have hend : ∀ (p : Addr) (H3 : Hp), Same H' H3 → H3 p = some (.lst (pre ++ (rss.map (List.map V.int)).flatten)) → Q (.ref p) H3 := fun p H3 s3 e => by
            refine q p H3 (s2.trans (sz.trans s3)) ?_
            rw [e, hfl]
            show some (HO.lst ((if 0 ≤ n then [V.int n] else []) ++ rss.flatten.map V.int)) = some (HO.lst (((if 0 ≤ n then [n] else []) ++ rss.flatten).map V.int))
            rw [List.map_append]
            split <;> rfl
          refine ⟨D2, b, ads, _, [], rfl, SqL.of (by walk_at "hp"), upd_same, lists_up (Same.new hb) hls, small_le (by rw [List.length_nil]; omega), fun e0 => ?_, fun e0 p hp => ?_⟩
          · have er : rss = [] := by
              have := lists_len hls
              rw [e0, List.length_map, List.length_nil] at this
              exact List.eq_nil_of_length_eq_zero this
            refine ⟨D, b, pre, [], rfl, rfl, by walk_at "hp", upd_same, small_le (by rw [List.length_nil]; omega), fun p hp => ?_⟩
            refine hend p _ ((Same.new hb).trans (Same.new hp)) ?_
            rw [er]
            exact upd_same
          · refine ⟨D, p, pre, _, rfl, rfl, by walk_at "hp", upd_same, small_le ?_, fun p2 hp2 => ?_⟩
            · rw [List.nil_append]; omega
            · exact hend p2 _ (((Same.new hb).trans (Same.new hp)).trans (Same.new hp2)) (by rw [List.nil_append]; exact upd_same)
end
end U
namespace U
open PySem L2
/-- a book at b, of lanes ls and switches ss -/
def Bk (K : PySem.W.Frag) (C : Addr) (H : Hp) (b : Addr) (ls ss : List V) : Prop := ∃ (dx al as : Addr) (fs : List (Str × V)), H b = some (.ins C dx fs) ∧ fs.lookup ("own_lanes" : Str) = some (.ref al) ∧ fs.lookup ("own_switches" : Str) = some (.ref as) ∧ SqT K H al ls ∧ SqT K H as ss ∧
  fs.lookup ("lanes" : Str) = none ∧ fs.lookup ("switches" : Str) = none
theorem Bk.up {K : PySem.W.Frag} {C : Addr} {H H' : Hp} {b : Addr} {ls ss : List V} (h : Bk K C H b ls ss) (e : Same H H') : Bk K C H' b ls ss := by
  obtain ⟨dx, al, as, fs, h1, h2, h3, h4, h5, h6⟩ := h
  exact ⟨dx, al, as, fs, e _ _ h1, h2, h3, SqT.up h4 e, SqT.up h5 e, h6⟩
structure BkC (K : PySem.W.Frag) (C : Addr) : Prop where
  cl : Cls K C
  nL : NoAttr K C "own_lanes"
  nS : NoAttr K C "own_switches"
  nR : NoAttr K C "own_rules"
section
variable {P : Program} {w : World} {K : PySem.W.Frag} {mg : Str → Option Value} {base : Heap}
abbrev s_Book_lanes : Stmt := (inClass (top 28) 1)
theorem sc_Book_lanes : FnScope ["self"] ["self"] (defScope s_Book_lanes) := ⟨rfl, rfl, rfl, by decide +kernel, rfl, by decide +kernel, by decide +kernel⟩
abbrev s_Book_switches : Stmt := (inClass (top 28) 2)
theorem sc_Book_switches : FnScope ["self"] ["self"] (defScope s_Book_switches) := ⟨rfl, rfl, rfl, by decide +kernel, rfl, by decide +kernel, by decide +kernel⟩
def spLanes (K : PySem.W.Frag) (C : Addr) : Sp := fun vs H Q _ => ∃ (b : Addr) (ls ss : List V), vs = [.ref b] ∧ Bk K C H b ls ss ∧ ∀ (p : Addr) (H' : Hp), Same H H' → H' p = some (.lst ls) → Q (.ref p) H'
def spSwitches (K : PySem.W.Frag) (C : Addr) : Sp := fun vs H Q _ => ∃ (b : Addr) (ls ss : List V), vs = [.ref b] ∧ Bk K C H b ls ss ∧ ∀ (p : Addr) (H' : Hp), Same H H' → H' p = some (.lst ss) → Q (.ref p) H'
theorem ok_lanes {f C : Addr} {fd : FuncData} (F : Fun K "lanes" "Book.lanes" s_Book_lanes f fd) (T : Bl mg) (B : BkC K C) : FnOk P w K mg base CX0 1 f fd ["self"] (spLanes K C) := by
  have sc := sc_Book_lanes
  refine F.ok sc (fun vs H Q E h => ?_) (fun cdv A outer s H vs Q E hr h => ?_)
  · obtain ⟨b, ls, ss, rfl, _⟩ := h
    rfl
  · obtain ⟨b, ls, ss, rfl, ⟨dx, al, as, fs, h1, h2, h3, h4, h5, h6⟩, q⟩ := h
    refine ⟨_, (pss_one (ps_ret (pe_callTy call_list_of (by rfl) T.b_list bb_list (pa_cons (pe_fld (pv 0) rfl) pa_nil)))), ?_⟩
    refine ⟨_, rfl, b, C, dx, fs, _, rfl, h1, B.cl, B.nL, h2, al, ls, rfl, .inr h4, fun p hp => ?_⟩
    exact q p _ (Same.new hp) upd_same
theorem ok_switches {f C : Addr} {fd : FuncData} (F : Fun K "switches" "Book.switches" s_Book_switches f fd) (T : Bl mg) (B : BkC K C) : FnOk P w K mg base CX0 1 f fd ["self"] (spSwitches K C) := by
  have sc := sc_Book_switches
  refine F.ok sc (fun vs H Q E h => ?_) (fun cdv A outer s H vs Q E hr h => ?_)
  · obtain ⟨b, ls, ss, rfl, _⟩ := h
    rfl
  · obtain ⟨b, ls, ss, rfl, ⟨dx, al, as, fs, h1, h2, h3, h4, h5, h6⟩, q⟩ := h
    refine ⟨_, (pss_one (ps_ret (pe_callTy call_list_of (by rfl) T.b_list bb_list (pa_cons (pe_fld (pv 0) rfl) pa_nil)))), ?_⟩
    refine ⟨_, rfl, b, C, dx, fs, _, rfl, h1, B.cl, B.nS, h3, as, ss, rfl, .inr h5, fun p hp => ?_⟩
    exact q p _ (Same.new hp) upd_same
end
/-! ### what a stand is -/
def rowOk (many : Int) : PyData → Bool
  | .tuple ds => ds.all (num 0 (many - 1))
  | _ => false
def ofI : PyData → Int
  | .int i => i
  | _ => 0
def rowI : PyData → List Int
  | .tuple ds => ds.map ofI
  | _ => []
def fin3 (a : PyData) (rows : List PyData) : Bool := decide (((pcs (ofI a) (rows.map rowI)).length : Int) = unlike (pcs (ofI a) (rows.map rowI)))
def stand3 (many : Int) (nl ns : Nat) (a b c : PyData) : Bool := match b with
  | .tuple rows => (match c with
    | .tuple lights => num (-2) (many - 1) a && (decide (rows.length = nl) && (decide (lights.length = ns) && (lights.all (num 0 1) && (rows.all (rowOk many) && fin3 a rows))))
    | _ => false)
  | _ => false
def standL (many : Int) (nl ns : Nat) : List PyData → Bool
  | [] => false
  | a :: r => (match r with
    | [] => false
    | b :: r => (match r with
      | [] => false
      | c :: r => (match r with
        | [] => stand3 many nl ns a b c
        | _ :: _ => false)))
def isStand (many : Int) (nl ns : Nat) : PyData → Bool
  | .tuple ds => standL many nl ns ds
  | _ => false
theorem num_ofI {lo hi : Int} {d : PyData} (h : num lo hi d = true) : d = .int (ofI d) := by
  cases d <;> first | rfl | cases h
theorem nums_ofI {lo hi : Int} : ∀ {ds : List PyData}, ds.all (num lo hi) = true → ds = (ds.map ofI).map .int
  | [], _ => rfl
  | d :: ds, h => by
    rw [List.all_cons, Bool.and_eq_true] at h
    rw [List.map_cons, List.map_cons, ← nums_ofI h.2, ← num_ofI h.1]
theorem rows_rowI {many : Int} : ∀ {ds : List PyData}, ds.all (rowOk many) = true → ds = (ds.map rowI).map rowD
  | [], _ => rfl
  | d :: ds, h => by
    rw [List.all_cons, Bool.and_eq_true] at h
    rw [List.map_cons, List.map_cons, ← rows_rowI h.2]
    congr 1
    cases d with
    | tuple es => exact congrArg PyData.tuple (nums_ofI h.1)
    | _ => cases h.1
/-- few things in each list, to the third depth -/
def sm : Nat → PyData → Prop
  | 0, _ => True
  | n + 1, d => ∀ ds, parts d = some ds → ds.length ≤ 7 ∧ ∀ e ∈ ds, sm n e
theorem isa_tup {d : PyData} (h : isa "tuple" d = true) : ∃ ds, d = .tuple ds := by
  cases d <;> first | exact ⟨_, rfl⟩ | exact absurd (h.symm.trans (show isa "tuple" _ = false by kernel_rfl)) (by decide)
theorem isa_not {d : PyData} {many : Int} {nl ns : Nat} (h : isa "tuple" d = false) : isStand many nl ns d = false := by
  cases d with
  | tuple ds => exact absurd (h.symm.trans (show isa "tuple" _ = true by kernel_rfl)) (by decide)
  | _ => rfl
theorem st_len {many : Int} {nl ns : Nat} {ds : List PyData} (h : (ds.length : Int) ≠ 3) : isStand many nl ns (.tuple ds) = false := by
  match ds with
  | [] => rfl
  | [_] => rfl
  | [_, _] => rfl
  | [_, _, _] => exact absurd rfl h
  | _ :: _ :: _ :: _ :: _ => rfl
theorem three {α : Type} {ds : List α} (h : (ds.length : Int) = 3) : ∃ a b c, ds = [a, b, c] := by
  match ds, h with
  | [a, b, c], _ => exact ⟨a, b, c, rfl⟩
  | [], h => simp at h
  | [_], h => simp at h
  | [_, _], h => simp at h
  | _ :: _ :: _ :: _ :: _, h => simp at h; omega
theorem st_one {many : Int} {nl ns : Nat} {a b c : PyData} (h : num (-2) (many - 1) a = false) : isStand many nl ns (.tuple [a, b, c]) = false := by
  cases b <;> cases c <;> first | rfl | (show (num (-2) (many - 1) a && _) = false; rw [h, Bool.false_and])
theorem st_two {many : Int} {nl ns : Nat} {a b c : PyData} (h : isa "tuple" b = false) : isStand many nl ns (.tuple [a, b, c]) = false := by
  cases b with
  | tuple ds => exact absurd (h.symm.trans (show isa "tuple" _ = true by kernel_rfl)) (by decide)
  | _ => rfl
theorem st_three {many : Int} {nl ns : Nat} {a b c : PyData} (h : isa "tuple" c = false) : isStand many nl ns (.tuple [a, b, c]) = false := by
  cases c with
  | tuple ds => exact absurd (h.symm.trans (show isa "tuple" _ = true by kernel_rfl)) (by decide)
  | _ => cases b <;> rfl
theorem st_full {many : Int} {nl ns : Nat} {a : PyData} {rows lights : List PyData} : isStand many nl ns (.tuple [a, .tuple rows, .tuple lights]) = (num (-2) (many - 1) a && (decide (rows.length = nl) && (decide (lights.length = ns) && (lights.all (num 0 1) && (rows.all (rowOk many) && fin3 a rows))))) := rfl
theorem flat_le : ∀ {l : List (List Int)} {n : Nat}, (∀ x ∈ l, x.length ≤ n) → l.flatten.length ≤ l.length * n
  | [], _, _ => by simp
  | x :: r, n, h => by
    have h1 := h x (List.mem_cons_self ..)
    have h2 := flat_le (l := r) (n := n) fun y hy => h y (List.mem_cons_of_mem _ hy)
    rw [List.flatten_cons, List.length_append, List.length_cons, Nat.succ_mul]
    omega
theorem sm_rows {a c : PyData} {rows : List PyData} (h : sm 3 (.tuple [a, .tuple rows, c])) : rows.length ≤ 7 ∧ (rows.map rowI).flatten.length ≤ 49 := by
  have h1 := (h _ rfl).2 (.tuple rows) (by simp)
  obtain ⟨h2, h3⟩ := h1 _ rfl
  refine ⟨h2, ?_⟩
  have := flat_le (l := rows.map rowI) (n := 7) fun x hx => by
    obtain ⟨d, hd, rfl⟩ := List.mem_map.mp hx
    cases d with
    | tuple es =>
      have := (h3 _ hd _ rfl).1
      show (es.map ofI).length ≤ 7
      rw [List.length_map]
      exact this
    | _ => exact Nat.zero_le _
  rw [List.length_map] at this
  have := Nat.mul_le_mul_right 7 h2
  omega
end U
namespace U
open PySem L2
theorem all_id {α : Type} {p : α → Bool} : ∀ {l : List α}, (l.map p).all id = l.all p
  | [] => rfl
  | x :: l => by rw [List.map_cons, List.all_cons, List.all_cons, all_id]; rfl
theorem rowOk_not {many : Int} {d : PyData} (h : isa "tuple" d = false) : rowOk many d = false := by
  cases d with
  | tuple ds => exact absurd (h.symm.trans (show isa "tuple" _ = true by kernel_rfl)) (by decide)
  | _ => rfl
theorem dec_int (i j : Int) : decide (V.int i = V.int j) = decide (i = j) := by
  by_cases h : i = j
  · rw [h, decide_eq_true rfl, decide_eq_true rfl]
  · rw [decide_eq_false h, decide_eq_false fun e => h (V.int.inj e)]
section
variable {P : Program} {w : World} {K : PySem.W.Frag} {mg : Str → Option Value} {base : Heap}
abbrev s_is_stand : Stmt := (top 22)
theorem sc_is_stand : FnScope ["book", "many", "thing", "light", "row", "part", "pieces"] ["book", "many", "thing"] (defScope s_is_stand) := ⟨rfl, rfl, rfl, by decide +kernel, rfl, by decide +kernel, by decide +kernel⟩
def spStand (K : PySem.W.Frag) (C : Addr) : Sp := fun vs H Q _ => ∃ (b : Addr) (many : Int) (v : V) (d : PyData) (ls ss : List V), vs = [.ref b, .int many, v] ∧ Bk K C H b ls ss ∧ Dat K H v d ∧ sm 3 d ∧
  ∀ H', Same H H' → Q (.bl (isStand many ls.length ss.length d)) H'
theorem ok_stand {f C : Addr} {fd : FuncData} (F : Fun K "is_stand" "is_stand" s_is_stand f fd) (B : BkC K C) (T : Blx mg) (h_is_number : Has P w K mg base CX0 2 "is_number" ["thing", "low", "high"] (spNum K)) (h_there : Has P w K mg base CX0 1 "there" ["stand"] (spThere K))
    (m_lanes : HasM P w K mg base CX0 1 C "lanes" ["self"] (spLanes K C)) (m_switches : HasM P w K mg base CX0 1 C "switches" ["self"] (spSwitches K C)) : FnOk P w K mg base CX0 3 f fd ["book", "many", "thing"] (spStand K C) := by
  have sc := sc_is_stand
  refine F.ok sc (fun vs H Q E h => ?_) (fun cdv A outer s H vs Q E hr h => ?_)
  · obtain ⟨b, many, v, d, ls, ss, rfl, _⟩ := h
    rfl
  · obtain ⟨b, many, v, d, ls, ss, rfl, hb, hd, hsm, q⟩ := h
    refine ⟨_, (pss_cons (ps_if (PW.pt (pw_or (pt_not (pt_val (pe_callB call_isD (by rfl) T.b_isinstance bb_isinstance (pa_cons (pv 2) (pa_cons (pe_bltn (v := .ty "tuple") (by rfl) T.b_tuple bb_tuple rfl) pa_nil))))) (pw_or (pt_cmpR op_ne (pe_callB call_lenD' (by rfl) T.b_len bb_len (pa_cons (pv 2) pa_nil)) pe_int (nomark _)) (pw_or1 (pt_not (pt_val (pe_h h_is_number (hr.mono (by decide)) (by rfl) pass0 (pa_cons (pe_ix ix_D (pv 2) pe_int (fun _ _ => rfl)) (pa_cons (pe_un un_neg pe_int) (pa_cons (pe_op op_sub (pv 1) pe_int) pa_nil))))))))))
  (pss_one (ps_ret pe_bl))
  pss_nil)
 (pss_cons (ps_if (PW.pt (pw_or (pt_not (pt_val (pe_callB call_isD (by rfl) T.b_isinstance bb_isinstance (pa_cons (pe_ix ix_D (pv 2) pe_int (fun _ _ => rfl)) (pa_cons (pe_bltn (v := .ty "tuple") (by rfl) T.b_tuple bb_tuple rfl) pa_nil))))) (pw_or1 (pt_not (pt_val (pe_callB call_isD (by rfl) T.b_isinstance bb_isinstance (pa_cons (pe_ix ix_D (pv 2) pe_int (fun _ _ => rfl)) (pa_cons (pe_bltn (v := .ty "tuple") (by rfl) T.b_tuple bb_tuple rfl) pa_nil))))))))
  (pss_one (ps_ret pe_bl))
  pss_nil)
 (pss_cons (ps_if (PW.pt (pw_or (pt_cmpR op_ne (pe_callB call_lenD' (by rfl) T.b_len bb_len (pa_cons (pe_ix ix_D (pv 2) pe_int (fun _ _ => rfl)) pa_nil)) (pe_callB call_len (by rfl) T.b_len bb_len (pa_cons (pe_hm0 m_lanes B.cl (hr.mono (by decide)) pass0 (pv 0)) pa_nil)) (nomark _)) (pw_or1 (pt_cmpR op_ne (pe_callB call_lenD' (by rfl) T.b_len bb_len (pa_cons (pe_ix ix_D (pv 2) pe_int (fun _ _ => rfl)) pa_nil)) (pe_callB call_len (by rfl) T.b_len bb_len (pa_cons (pe_hm0 m_switches B.cl (hr.mono (by decide)) pass0 (pv 0)) pa_nil)) (nomark _)))))
  (pss_one (ps_ret pe_bl))
  pss_nil)
 (pss_cons (ps_if (pt_not (pt_val (pe_callB (cr_all (by rfl)) (by rfl) T.b_all bb_all (pa_cons (pe_lcD (own := [("light", 3)])   (by rfl) sc.nd (pi_tup (pe_ix ix_D (pv 2) pe_int (fun _ _ => rfl))) (blkOk_by (by kernel_rfl)) (fun _ _ _ _ _ => (pg_name (i := 3) sc.nd rfl (Or.inl rfl))) (fun _ _ _ _ _ => pts_nil) (fun _ _ _ _ _ => (pe_h h_is_number (hr.mono (by decide)) (by rfl) pass0 (pa_cons (pv 3) (pa_cons pe_int (pa_cons pe_int pa_nil)))))) pa_nil))))
  (pss_one (ps_ret pe_bl))
  pss_nil)
 (pss_cons (ps_if (pt_not (pt_val (pe_callB (cr_all (by rfl)) (by rfl) T.b_all bb_all (pa_cons (pe_lcD (own := [("row", 4)])   (by rfl) sc.nd (pi_tup (pe_ix ix_D (pv 2) pe_int (fun _ _ => rfl))) (blkOk_by (by kernel_rfl)) (fun _ _ _ _ _ => (pg_name (i := 4) sc.nd rfl (Or.inl rfl))) (fun _ _ _ _ _ => pts_nil) (fun _ _ _ _ _ => (pe_and (pe_callB call_isD (by rfl) T.b_isinstance bb_isinstance (pa_cons (pv 4) (pa_cons (pe_bltn (v := .ty "tuple") (by rfl) T.b_tuple bb_tuple rfl) pa_nil))) (pe_one (pe_callB (cr_all (by rfl)) (by rfl) T.b_all bb_all (pa_cons (pe_lcD (own := [("part", 5)])   (by rfl) sc.nd (pi_tup (pv 4)) (blkOk_by (by kernel_rfl)) (fun _ _ _ _ _ => (pg_name (i := 5) sc.nd rfl (Or.inl rfl))) (fun _ _ _ _ _ => pts_nil) (fun _ _ _ _ _ => (pe_h h_is_number (hr.mono (by decide)) (by rfl) pass0 (pa_cons (pv 5) (pa_cons pe_int (pa_cons (pe_op op_sub (pv 1) pe_int) pa_nil)))))) pa_nil)))))) pa_nil))))
  (pss_one (ps_ret pe_bl))
  pss_nil)
 (pss_cons (ps_set (i := 6) sc.nd rfl (Or.inl rfl) (pe_h h_there (hr.mono (by decide)) (by rfl) pass0 (pa_cons (pv 2) pa_nil)))
 (pss_one (ps_ret (pe_cmpR op_eq (pe_callB call_len (by rfl) T.b_len bb_len (pa_cons (pv 6) pa_nil)) (pe_lenSetA (by rfl) (by rfl) T.b_len (by rfl) T.b_set (pv 6)) (nomark _)))))))))), ?_⟩
    walk_at "kx"
    walk_at "rd"
    refine iteNB (fun h1 => ?_) (fun h1 => by
      rw [isa_not h1] at q
      exact q _ (Same.refl _))
    obtain ⟨ds, rfl⟩ := isa_tup h1
    cases hd with
    | of hd =>
    walk_at "rd"
    refine iteNI (fun h2 => ?_) (fun h2 => by
      rw [st_len h2] at q
      exact q _ (Same.refl _))
    obtain ⟨a, bb, cc, rfl⟩ := three h2
    walk_at "rd"
    rename_i va hva
    refine ⟨va, a, _, _, rfl, .of hva, _, rfl, ?_⟩
    refine iteNB (fun h3 => ?_) (fun h3 => by
      rw [st_one h3] at q
      exact q _ (Same.refl _))
    walk_at "rd"
    refine iteNB (fun h4 => ?_) (fun h4 => by
      rw [st_two h4] at q
      exact q _ (Same.refl _))
    obtain ⟨rows, rfl⟩ := isa_tup h4
    walk_at "rd"
    refine iteNB (fun h5 => ?_) (fun h5 => by
      rw [st_three h5] at q
      exact q _ (Same.refl _))
    obtain ⟨lights, rfl⟩ := isa_tup h5
    rw [st_full, h3, Bool.true_and] at q
    walk_at "rd"
    have hb0 := hb
    obtain ⟨dx, al, as, fs, e1, e2, e3, e4, e5, e6, e7⟩ := hb
    refine ⟨b, dx, fs, rfl, e1, e6, b, ls, ss, rfl, hb0, fun p1 H1 s1 hp1 => ?_⟩
    walk_at "rd"
    refine iteNI (fun h6 => ?_) (fun h6 => by
      rw [decide_eq_false (show ¬ rows.length = ls.length by omega), Bool.false_and] at q
      exact q _ s1)
    rw [decide_eq_true (show rows.length = ls.length by omega), Bool.true_and] at q
    have hd1 := Dp.up s1 _ _ hd
    walk_at "rd"
    refine ⟨b, dx, fs, rfl, s1 _ _ e1, e7, b, ls, ss, rfl, hb0.up s1, fun p2 H2 s2 hp2 => ?_⟩
    have s02 := s1.trans s2
    walk_at "rd"
    refine iteNI (fun h7 => ?_) (fun h7 => by
      rw [decide_eq_false (show ¬ lights.length = ss.length by omega), Bool.false_and] at q
      exact q _ s02)
    rw [decide_eq_true (show lights.length = ss.length by omega), Bool.true_and] at q
    have hd2 := Dp.up s2 _ _ hd1
    walk_at "rd"
    rename_i vl hvl
    cases hvl with
    | @tup al2 xl _ hSl hAl =>
    have hll := dp_len hAl
    have hlb : lights.length ≤ 7 := (((hsm _ rfl).2 (.tuple lights) (by simp)) _ rfl).1
    refine ⟨al2, rfl, ⟨_, hSl⟩, fun D hD => lc_f (walk_tup (xs := xl)) (lights.map fun d => V.bl (num 0 1 d)) (by rw [List.length_map]; exact hll.symm) (by omega) hD (fun H' z => SqT.up hSl z) (fun i x H' H'' R hi z y k => ?_) (fun H3 s3 hD3 => ?_)⟩
    · obtain ⟨rfl, y⟩ := y
      obtain ⟨e, he1, he2⟩ := dp_get' hAl y
      walk_at "rd"
      refine ⟨x, e, _, _, rfl, .of (Dp.up z _ _ he2), ?_⟩
      exact k _ _ (by rw [List.getElem?_map, he1]; rfl) (Same.refl _)
    · walk_at "rd"
      refine ⟨D, lights.map (num 0 1), rfl, SqL.of (by rw [hD3, List.map_map]; rfl), ?_⟩
      walk_at "rd"
      have s03 := s02.trans s3
      refine iteNB (fun h8 => ?_) (fun h8 => by
        rw [all_id] at h8
        rw [h8, Bool.false_and] at q
        exact q _ s03)
      rw [all_id] at h8
      rw [h8, Bool.true_and] at q
      have hd3 := Dp.up s3 _ _ hd2
      walk_at "rd"
      rename_i vr hvr
      cases hvr with
      | @tup ar xr _ hSr hAr =>
      have hlr := dp_len hAr
      have hrb := sm_rows hsm
      refine ⟨ar, rfl, ⟨_, hSr⟩, fun D2 hD2 => lc_f (walk_tup (xs := xr)) (rows.map fun d => V.bl (rowOk many d)) (by rw [List.length_map]; exact hlr.symm) (by omega) hD2 (fun H' z => SqT.up hSr z) (fun i x H' H'' R hi z y k => ?_) (fun H4 s4 hD4 => ?_)⟩
      · obtain ⟨rfl, y⟩ := y
        obtain ⟨e, he1, he2⟩ := dp_get' hAr y
        have hx := Dp.up z _ _ he2
        have ek : (rows.map fun d => V.bl (rowOk many d))[i]? = some (V.bl (rowOk many e)) := by rw [List.getElem?_map, he1]; rfl
        walk_at "rd"
        refine iteB (fun g1 => ?_) (fun g1 => ?_)
        · obtain ⟨es, rfl⟩ := isa_tup g1
          cases hx with
          | @tup ax xx _ hSx hAx =>
          have hlx := dp_len hAx
          have hxb : es.length ≤ 7 := ((((hsm _ rfl).2 (.tuple rows) (by simp)) _ rfl).2 _ (List.mem_of_getElem? he1) _ rfl).1
          walk_at "rd"
          rename_i D3 hD3'
          refine lc_f (walk_tup (xs := xx)) (es.map fun d => V.bl (num 0 (many - 1) d)) (by rw [List.length_map]; exact hlx.symm) (by omega) hD3' (fun H' z => SqT.up hSx z) (fun j x' Ha Hb R' hj z' y' k' => ?_) (fun H5 s5 hD5 => ?_)
          · obtain ⟨rfl, y'⟩ := y'
            obtain ⟨e', he1', he2'⟩ := dp_get' hAx y'
            walk_at "rd"
            refine ⟨x', e', _, _, rfl, .of (Dp.up z' _ _ he2'), ?_⟩
            exact k' _ _ (by rw [List.getElem?_map, he1']; rfl) (Same.refl _)
          · walk_at "rd"
            refine ⟨D3, es.map (num 0 (many - 1)), rfl, SqL.of (by rw [hD5, List.map_map]; rfl), ?_⟩
            rw [all_id]
            exact k _ _ ek s5
        · rw [rowOk_not g1] at ek
          exact k _ _ ek (Same.refl _)
      · walk_at "rd"
        refine ⟨D2, rows.map (rowOk many), rfl, SqL.of (by rw [hD4, List.map_map]; rfl), ?_⟩
        walk_at "rd"
        have s04 := s03.trans s4
        refine iteNB (fun h9 => ?_) (fun h9 => by
          rw [all_id] at h9
          rw [h9, Bool.false_and] at q
          exact q _ s04)
        rw [all_id] at h9
        rw [h9, Bool.true_and] at q
        have hd4 := Dp.up s4 _ _ hd3
        have ea := num_ofI h3
        have er := rows_rowI h9
        walk_at "rd"
        refine ⟨v, ofI a, rows.map rowI, .tuple lights, rfl, by rw [← ea, ← er]; exact hd4, by rw [List.length_map]; omega, by omega, fun p5 H5 s5 hp5 => ?_⟩
        have hpl : (pcs (ofI a) (rows.map rowI)).length ≤ 50 := by
          unfold pcs
          rw [List.length_append]
          have : (if 0 ≤ ofI a then [ofI a] else []).length ≤ 1 := by split <;> simp
          omega
        walk_at "rd"
        refine ⟨p5, _, rfl, SqL.of hp5, by omega, ?_⟩
        walk_at "rd"
        have ef : decide (V.int ((List.map V.int (pcs (ofI a) (rows.map rowI))).length : Int) = V.int (unlike (pcs (ofI a) (rows.map rowI)))) = fin3 a rows := by
          rw [List.length_map]
          unfold fin3
          exact dec_int _ _
        show Q (V.bl (decide (V.int ((List.map V.int (pcs (ofI a) (rows.map rowI))).length : Int) = V.int (unlike (pcs (ofI a) (rows.map rowI)))))) H5
        rw [ef]
        exact q _ (s04.trans s5)
end
end U
namespace U
open PySem L2
section
variable {P : Program} {w : World} {K : PySem.W.Frag} {mg : Str → Option Value} {base : Heap}
abbrev s__law_is_stand : Stmt := (top 38)
theorem sc__law_is_stand : FnScope ["_law_thing", "_law_many", "_law_size", "_law_lights", "_law_light", "_law_seen", "_law_row", "_law_piece"] ["_law_thing", "_law_many", "_law_size", "_law_lights"] (defScope s__law_is_stand) := ⟨rfl, rfl, rfl, by decide +kernel, rfl, by decide +kernel, by decide +kernel⟩
def spLStand (K : PySem.W.Frag) : Sp := fun vs H Q _ => ∃ (many : Int) (v : V) (d : PyData) (nl ns : Nat), vs = [v, .int many, .int nl, .int ns] ∧ Dat K H v d ∧ sm 3 d ∧
  ∀ H', Same H H' → Q (.bl (isStand many nl ns d)) H'
theorem pcs_more {n : Int} {rows : List PyData} {i : Nat} {e : PyData} (h : rows[i]? = some e) : pcs n ((rows.take (i + 1)).map rowI) = pcs n ((rows.take i).map rowI) ++ rowI e := by
  unfold pcs
  rw [take_more h, List.map_append, List.flatten_append, List.append_assoc]
  simp
theorem pcs_len {n : Int} {rss : List (List Int)} (h : rss.flatten.length ≤ 49) : (pcs n rss).length ≤ 50 := by
  unfold pcs
  rw [List.length_append]
  have : (if 0 ≤ n then [n] else []).length ≤ 1 := by split <;> simp
  omega
theorem flat_take {l : List (List Int)} (i : Nat) : (l.take i).flatten.length ≤ l.flatten.length := by
  conv => rhs; rw [← List.take_append_drop i l]
  rw [List.flatten_append, List.length_append]
  omega
theorem ok_lstand {f : Addr} {fd : FuncData} (F : Fun K "_law_is_stand" "_law_is_stand" s__law_is_stand f fd) (T : Blx mg) (h__law_is_int : Has P w K mg base CX0 1 "_law_is_int" ["_law_thing", "_law_low", "_law_high"] (spNum K)) : FnOk P w K mg base CX0 2 f fd ["_law_thing", "_law_many", "_law_size", "_law_lights"] (spLStand K) := by
  have sc := sc__law_is_stand
  refine F.ok sc (fun vs H Q E h => ?_) (fun cdv A outer s H vs Q E hr h => ?_)
  · obtain ⟨many, v, d, nl, ns, rfl, _⟩ := h
    rfl
  · obtain ⟨many, v, d, nl, ns, rfl, hd, hsm, q⟩ := h
    refine ⟨_, (pss_cons (ps_if (PW.pt (pw_or (pt_not (pt_val (pe_callB call_isD (by rfl) T.b_isinstance bb_isinstance (pa_cons (pv 0) (pa_cons (pe_bltn (v := .ty "tuple") (by rfl) T.b_tuple bb_tuple rfl) pa_nil))))) (pw_or (pt_cmpR op_ne (pe_callB call_lenD' (by rfl) T.b_len bb_len (pa_cons (pv 0) pa_nil)) pe_int (nomark _)) (pw_or1 (pt_not (pt_val (pe_h h__law_is_int (hr.mono (by decide)) (by rfl) pass0 (pa_cons (pe_ix ix_D (pv 0) pe_int (fun _ _ => rfl)) (pa_cons (pe_un un_neg pe_int) (pa_cons (pe_op op_sub (pv 1) pe_int) pa_nil))))))))))
  (pss_one (ps_ret pe_bl))
  pss_nil)
 (pss_cons (ps_if (PW.pt (pw_or (pt_not (pt_val (pe_callB call_isD (by rfl) T.b_isinstance bb_isinstance (pa_cons (pe_ix ix_D (pv 0) pe_int (fun _ _ => rfl)) (pa_cons (pe_bltn (v := .ty "tuple") (by rfl) T.b_tuple bb_tuple rfl) pa_nil))))) (pw_or (pt_cmpR op_ne (pe_callB call_lenD' (by rfl) T.b_len bb_len (pa_cons (pe_ix ix_D (pv 0) pe_int (fun _ _ => rfl)) pa_nil)) (pv 2) (nomark _)) (pw_or1 (pt_not (pt_val (pe_callB call_isD (by rfl) T.b_isinstance bb_isinstance (pa_cons (pe_ix ix_D (pv 0) pe_int (fun _ _ => rfl)) (pa_cons (pe_bltn (v := .ty "tuple") (by rfl) T.b_tuple bb_tuple rfl) pa_nil)))))))))
  (pss_one (ps_ret pe_bl))
  pss_nil)
 (pss_cons (ps_if (PW.pt (pw_or (pt_cmpR op_ne (pe_callB call_lenD' (by rfl) T.b_len bb_len (pa_cons (pe_ix ix_D (pv 0) pe_int (fun _ _ => rfl)) pa_nil)) (pv 3) (nomark _)) (pw_or1 (pt_not (pt_val (pe_callB (cr_all (by rfl)) (by rfl) T.b_all bb_all (pa_cons (pe_lcD (own := [("_law_light", 4)])   (by rfl) sc.nd (pi_tup (pe_ix ix_D (pv 0) pe_int (fun _ _ => rfl))) (blkOk_by (by kernel_rfl)) (fun _ _ _ _ _ => (pg_name (i := 4) sc.nd rfl (Or.inl rfl))) (fun _ _ _ _ _ => pts_nil) (fun _ _ _ _ _ => (pe_h h__law_is_int (hr.mono (by decide)) (by rfl) pass0 (pa_cons (pv 4) (pa_cons pe_int (pa_cons pe_int pa_nil)))))) pa_nil)))))))
  (pss_one (ps_ret pe_bl))
  pss_nil)
 (C8.pss_cut (ps_set (i := 5) sc.nd rfl (Or.inl rfl) (pe_ifExp (pt_cmpR op_ge (pe_ix ix_D (pv 0) pe_int (fun _ _ => rfl)) pe_int (nomark _)) (pe_lst (pa_cons (pe_ix ix_D (pv 0) pe_int (fun _ _ => rfl)) pa_nil)) (pe_lst pa_nil)))
 (pss_cons (ps_for PassesOwn.never rfl (pi_tup (pe_ix ix_D (pv 0) pe_int (fun _ _ => rfl))) (pg_name (i := 6) sc.nd rfl (Or.inl rfl))
  (pss_cons (ps_if (PW.pt (pw_or (pt_not (pt_val (pe_callB call_isD (by rfl) T.b_isinstance bb_isinstance (pa_cons (pv 6) (pa_cons (pe_bltn (v := .ty "tuple") (by rfl) T.b_tuple bb_tuple rfl) pa_nil))))) (pw_or1 (pt_not (pt_val (pe_callB (cr_all (by rfl)) (by rfl) T.b_all bb_all (pa_cons (pe_lcD (own := [("_law_piece", 7)])   (by rfl) sc.nd (pi_tup (pv 6)) (blkOk_by (by kernel_rfl)) (fun _ _ _ _ _ => (pg_name (i := 7) sc.nd rfl (Or.inl rfl))) (fun _ _ _ _ _ => pts_nil) (fun _ _ _ _ _ => (pe_h h__law_is_int (hr.mono (by decide)) (by rfl) pass0 (pa_cons (pv 7) (pa_cons pe_int (pa_cons (pe_op op_sub (pv 1) pe_int) pa_nil)))))) pa_nil)))))))
  (pss_one (ps_ret pe_bl))
  pss_nil)
 (pss_one (ps_set (i := 5) sc.nd rfl (Or.inl rfl) (pe_op op_cat (pv 5) (pe_callTy call_list_of (by rfl) T.b_list bb_list (pa_cons (pv 6) pa_nil)))))))
 (pss_one (ps_ret (pe_cmpR op_eq (pe_callB call_len (by rfl) T.b_len bb_len (pa_cons (pv 5) pa_nil)) (pe_lenSetA (by rfl) (by rfl) T.b_len (by rfl) T.b_set (pv 5)) (nomark _))))))))), ?_⟩
    walk_at "kx"
    walk_at "rd"
    refine iteNB (fun h1 => ?_) (fun h1 => by
      rw [isa_not h1] at q
      exact q _ (Same.refl _))
    obtain ⟨ds, rfl⟩ := isa_tup h1
    cases hd with
    | of hd =>
    walk_at "rd"
    refine iteNI (fun h2 => ?_) (fun h2 => by
      rw [st_len h2] at q
      exact q _ (Same.refl _))
    obtain ⟨a, bb, cc, rfl⟩ := three h2
    walk_at "rd"
    rename_i va hva
    refine ⟨va, a, _, _, rfl, .of hva, _, rfl, ?_⟩
    refine iteNB (fun h3 => ?_) (fun h3 => by
      rw [st_one h3] at q
      exact q _ (Same.refl _))
    walk_at "rd"
    refine iteNB (fun h4 => ?_) (fun h4 => by
      rw [st_two h4] at q
      exact q _ (Same.refl _))
    obtain ⟨rows, rfl⟩ := isa_tup h4
    walk_at "rd"
    refine iteNI (fun h6 => ?_) (fun h6 => by
      have e0 : isStand many nl ns (.tuple [a, .tuple rows, cc]) = false := by
        cases cc <;> first | rfl | (rw [st_full, decide_eq_false (show ¬ rows.length = nl by omega), Bool.false_and, Bool.and_false])
      rw [e0] at q
      exact q _ (Same.refl _))
    walk_at "rd"
    refine iteNB (fun h5 => ?_) (fun h5 => by
      rw [st_three h5] at q
      exact q _ (Same.refl _))
    obtain ⟨lights, rfl⟩ := isa_tup h5
    rw [st_full, h3, Bool.true_and, decide_eq_true (show rows.length = nl by omega), Bool.true_and] at q
    walk_at "rd"
    refine iteNI (fun h7 => ?_) (fun h7 => by
      rw [decide_eq_false (show ¬ lights.length = ns by omega), Bool.false_and] at q
      exact q _ (Same.refl _))
    rw [decide_eq_true (show lights.length = ns by omega), Bool.true_and] at q
    walk_at "rd"
    rename_i vl hvl
    cases hvl with
    | @tup al2 xl _ hSl hAl =>
    have hll := dp_len hAl
    have hlb : lights.length ≤ 7 := (((hsm _ rfl).2 (.tuple lights) (by simp)) _ rfl).1
    refine ⟨al2, rfl, ⟨_, hSl⟩, fun D hD => lc_f (walk_tup (xs := xl)) (lights.map fun d => V.bl (num 0 1 d)) (by rw [List.length_map]; exact hll.symm) (by omega) hD (fun H' z => SqT.up hSl z) (fun i x H' H'' R hi z y k => ?_) (fun H3 s3 hD3 => ?_)⟩
    · obtain ⟨rfl, y⟩ := y
      obtain ⟨e, he1, he2⟩ := dp_get' hAl y
      walk_at "rd"
      refine ⟨x, e, _, _, rfl, .of (Dp.up z _ _ he2), ?_⟩
      exact k _ _ (by rw [List.getElem?_map, he1]; rfl) (Same.refl _)
    · walk_at "rd"
      refine ⟨D, lights.map (num 0 1), rfl, SqL.of (by rw [hD3, List.map_map]; rfl), ?_⟩
      walk_at "rd"
      refine iteNB (fun h8 => ?_) (fun h8 => by
        rw [all_id] at h8
        rw [h8, Bool.false_and] at q
        exact q _ s3)
      rw [all_id] at h8
      rw [h8, Bool.true_and] at q
      have hd3 := Dp.up s3 _ _ hd
      have ea := num_ofI h3
      refine ⟨fun σ H' => ∃ p : Addr, σ = [some v, some (.int many), some (.int nl), some (.int ns), none, some (.ref p), none, none] ∧ Same H3 H' ∧ H' p = some (.lst ((pcs (ofI a) []).map V.int)), ?_, ?_⟩
      · walk_at "rd"
        rename_i v0 hv0
        rw [ea] at hv0
        cases hv0
        walk_at "rd"
        refine iteD (fun c => ?_) (fun c => ?_)
        · walk_at "rd"
          rename_i v1 hv1 p hp
          rw [ea] at hv1
          cases hv1
          refine ⟨Same.new hp, ?_⟩
          rw [upd_same]
          unfold pcs
          rw [if_pos c]
          rfl
        · walk_at "rd"
          rename_i p hp
          refine ⟨Same.new hp, ?_⟩
          rw [upd_same]
          unfold pcs
          rw [if_neg c]
          rfl
      · rintro σ H4 ⟨p, rfl, s4, hp4⟩
        have hd4 := Dp.up s4 _ _ hd3
        have s04 := s3.trans s4
        walk_at "rd"
        rename_i vr hvr
        cases hvr with
        | @tup ar xr _ hSr hAr =>
        have hlr := dp_len hAr
        have hrb := sm_rows hsm
        refine ⟨ar, rfl, ⟨_, hSr⟩, for_it (walk_tup (xs := xr)) (fun i σ H' => (rows.take i).all (rowOk many) = true ∧ Same H4 H' ∧ ∃ (p : Addr) (r : Option V), σ = [some v, some (.int many), some (.int nl), some (.int ns), none, some (.ref p), r, none] ∧ H' p = some (.lst ((pcs (ofI a) ((rows.take i).map rowI)).map V.int)))
          ⟨rfl, Same.refl _, p, none, rfl, hp4⟩ (fun i σ H' _ z => SqT.up hSr z.2.1) (fun i x σ H' H'' hi z y => ?_) (fun σ H' z => ?_)⟩
        · obtain ⟨hall, sz, p', r, rfl, hp'⟩ := z
          obtain ⟨rfl, y⟩ := y
          obtain ⟨e, he1, he2⟩ := dp_get' hAr y
          have hx := Dp.up sz _ _ he2
          have hmem : e ∈ rows := List.mem_of_getElem? he1
          have hno : rowOk many e = false → rows.all (rowOk many) = false := fun z => by
            cases g : rows.all (rowOk many) with
            | false => rfl
            | true =>
              rw [List.all_eq_true] at g
              rw [g e hmem] at z
              cases z
          walk_at "rd"
          refine iteNB (fun g1 => ?_) (fun g1 => by
            rw [hno (rowOk_not g1), Bool.false_and] at q
            exact q _ (s04.trans sz))
          obtain ⟨es, rfl⟩ := isa_tup g1
          cases hx with
          | @tup ax xx _ hSx hAx =>
          have hlx := dp_len hAx
          have hxb : es.length ≤ 7 := ((((hsm _ rfl).2 (.tuple rows) (by simp)) _ rfl).2 _ hmem _ rfl).1
          walk_at "rd"
          rename_i D3 hD3'
          refine lc_f (walk_tup (xs := xx)) (es.map fun d => V.bl (num 0 (many - 1) d)) (by rw [List.length_map]; exact hlx.symm) (by omega) hD3' (fun H' z => SqT.up hSx z) (fun j x' Ha Hb R' hj z' y' k' => ?_) (fun H5 s5 hD5 => ?_)
          · obtain ⟨rfl, y'⟩ := y'
            obtain ⟨e', he1', he2'⟩ := dp_get' hAx y'
            walk_at "rd"
            refine ⟨x', e', _, _, rfl, .of (Dp.up z' _ _ he2'), ?_⟩
            exact k' _ _ (by rw [List.getElem?_map, he1']; rfl) (Same.refl _)
          · walk_at "rd"
            refine ⟨D3, es.map (num 0 (many - 1)), rfl, SqL.of (by rw [hD5, List.map_map]; rfl), ?_⟩
            walk_at "rd"
            have s05 := s04.trans (sz.trans s5)
            refine iteNB (fun g2 => ?_) (fun g2 => by
              rw [all_id] at g2
              rw [hno g2, Bool.false_and] at q
              exact q _ s05)
            rw [all_id] at g2
            have hp5 := s5 _ _ hp'
            have exs := dp_ints (r := es.map ofI) (xs := xx) (by rw [← nums_ofI g2]; exact hAx)
            subst exs
            walk_at "rd"
            refine ⟨ax, _, rfl, .inr (SqT.up hSx s5), fun l hl => ?_⟩
            have hfl := flat_take (l := rows.map rowI) i
            have hpl := pcs_len (n := ofI a) (rss := (rows.take i).map rowI) (by rw [List.map_take]; omega)
            refine ⟨p', l, _, _, rfl, rfl, by walk_at "hp", upd_same, small_le (by rw [List.length_map, List.length_map, List.length_map]; omega), fun p6 hp6 => ?_⟩
            refine ⟨?_, sz.trans (s5.trans ((Same.new hl).trans (Same.new hp6))), p6, _, rfl, ?_⟩
            · rw [take_more he1, List.all_append, hall, Bool.true_and, List.all_cons, List.all_nil, Bool.and_true]
              exact g2
            · rw [upd_same, pcs_more he1, List.map_append]
              rfl
        · obtain ⟨hall, sz, p', r, rfl, hp'⟩ := z
          rw [hlr, List.take_length] at hall hp'
          rw [hall, Bool.true_and] at q
          have hpl := pcs_len (n := ofI a) (rss := rows.map rowI) (by omega)
          walk_at "rd"
          refine ⟨p', _, rfl, SqL.of hp', by omega, ?_⟩
          walk_at "rd"
          have ef : decide (V.int ((List.map V.int (pcs (ofI a) (rows.map rowI))).length : Int) = V.int (unlike (pcs (ofI a) (rows.map rowI)))) = fin3 a rows := by
            rw [List.length_map]
            unfold fin3
            exact dec_int _ _
          show Q (V.bl (decide (V.int ((List.map V.int (pcs (ofI a) (rows.map rowI))).length : Int) = V.int (unlike (pcs (ofI a) (rows.map rowI)))))) H'
          rw [ef]
          exact q _ (s04.trans sz)
end
end U
namespace U
open PySem L2
def letters : Str := "abcdefghijklmnopqrstuvwxyz"
def isWord (z : Str) : Bool := decide (1 ≤ (z.length : Int)) && (decide ((z.length : Int) ≤ 8) && z.cps.toList.all fun c => decide (c ∈ letters.cps.toList))
def wordD : PyData → Bool
  | .str z => isWord z
  | _ => false
theorem isa_str {d : PyData} (h : isa "str" d = true) : ∃ z, d = .str z := by
  cases d <;> first | exact ⟨_, rfl⟩ | exact absurd (h.symm.trans (show isa "str" _ = false by kernel_rfl)) (by decide)
theorem word_not {d : PyData} (h : isa "str" d = false) : wordD d = false := by
  cases d with
  | str ds => exact absurd (h.symm.trans (show isa "str" _ = true by kernel_rfl)) (by decide)
  | _ => rfl
section
variable {P : Program} {w : World} {K : PySem.W.Frag} {mg : Str → Option Value} {base : Heap}
abbrev s_is_word : Stmt := (top 11)
theorem sc_is_word : FnScope ["thing", "sign"] ["thing"] (defScope s_is_word) := ⟨rfl, rfl, rfl, by decide +kernel, rfl, by decide +kernel, by decide +kernel⟩
def spWord (K : PySem.W.Frag) : Sp := fun vs H Q _ => ∃ (v : V) (d : PyData), vs = [v] ∧ Dat K H v d ∧ (∀ z, d = .str z → z.length ≤ 1000) ∧ ∀ H', Same H H' → Q (.bl (wordD d)) H'
theorem ok_word {f : Addr} {fd : FuncData} (F : Fun K "is_word" "is_word" s_is_word f fd) (T : Bl mg) (hL : ∃ t, mg "LETTERS" = some (.str letters t)) : FnOk P w K mg base CX0 1 f fd ["thing"] (spWord K) := by
  have sc := sc_is_word
  obtain ⟨tL, gL⟩ := hL
  refine F.ok sc (fun vs H Q E h => ?_) (fun cdv A outer s H vs Q E hr h => ?_)
  · obtain ⟨v, d, rfl, _⟩ := h
    rfl
  · obtain ⟨v, d, rfl, hd, hz, q⟩ := h
    refine ⟨_, (pss_cons (ps_if (PW.pt (pw_or (pt_not (pt_val (pe_callB call_isD (by rfl) T.b_isinstance bb_isinstance (pa_cons (pv 0) (pa_cons (pe_bltn (v := .ty "str") (by rfl) T.b_str bb_str rfl) pa_nil))))) (pw_or1 (pt_not (pt_chain op_le op_le pe_int (pe_callB call_len_str (by rfl) T.b_len bb_len (pa_cons (pv 0) pa_nil)) pe_int)))))
  (pss_one (ps_ret pe_bl))
  pss_nil)
 (pss_one (ps_ret (pe_callB (cr_all (by rfl)) (by rfl) T.b_all bb_all (pa_cons (pe_lcD (own := [("sign", 1)])   (by rfl) sc.nd (pi_str (pv 0)) (blkOk_by (by kernel_rfl)) (fun _ _ _ _ _ => (pg_name (i := 1) sc.nd rfl (Or.inl rfl))) (fun _ _ _ _ _ => pts_nil) (fun _ _ _ _ _ => (pe_cmpR op_in_sign (pv 1) (pe_glob (v := .str letters) (by rfl) gL ⟨_, rfl⟩) (by rfl)))) pa_nil))))), ?_⟩
    walk_at "kx"
    walk_at "rd"
    refine iteNB (fun h1 => ?_) (fun h1 => by
      rw [word_not h1] at q
      exact q _ (Same.refl _))
    obtain ⟨z, rfl⟩ := isa_str h1
    have hzl := hz z rfl
    cases hd with
    | of hd =>
    cases hd
    have q' : ∀ H', Same H H' → Q (.bl (isWord z)) H' := q
    unfold isWord at q'
    walk_at "rd"
    refine ⟨small_le (by omega), ?_⟩
    walk_at "rd"
    refine iteD (fun c1 => ?_) (fun c1 => ?_)
    · rw [decide_eq_true c1, Bool.true_and] at q'
      walk_at "rd"
      refine iteND (fun c2 => ?_) (fun c2 => ?_)
      · rw [decide_eq_true c2, Bool.true_and] at q'
        walk_at "rd"
        have hsz : z.cps.size ≤ 1000 := hzl
        rename_i D hD
        refine lc_f (walk_str (z := z)) (z.cps.toList.map fun c => V.bl (decide (c ∈ letters.cps.toList))) (by rw [List.length_map, Array.length_toList]) (by omega) hD (fun _ _ => trivial) (fun i x H' H'' R hi sz y k => ?_) (fun H3 s3 hD3 => ?_)
        · obtain ⟨rfl, c, hc, rfl⟩ := y
          walk_at "rd"
          refine k _ _ ?_ (Same.refl _)
          rw [List.getElem?_map, Array.getElem?_toList, hc]
          rfl
        · walk_at "rd"
          refine ⟨D, z.cps.toList.map fun c => decide (c ∈ letters.cps.toList), rfl, SqL.of (by rw [hD3, List.map_map]; rfl), ?_⟩
          rw [all_id]
          exact q' _ s3
      · rw [decide_eq_false c2, Bool.false_and] at q'
        exact q' _ (Same.refl _)
    · rw [decide_eq_false c1, Bool.false_and] at q'
      walk_at "rd"
      exact q' _ (Same.refl _)
abbrev s_is_listed : Stmt := (top 12)
theorem sc_is_listed : FnScope ["thing"] ["thing"] (defScope s_is_listed) := ⟨rfl, rfl, rfl, by decide +kernel, rfl, by decide +kernel, by decide +kernel⟩
/-- a list or a tuple -/
def listed : PyData → Bool
  | .list _ => true
  | .tuple _ => true
  | _ => false
def spListed (K : PySem.W.Frag) : Sp := fun vs H Q _ => ∃ (v : V) (d : PyData), vs = [v] ∧ Dat K H v d ∧ ∀ H', Same H H' → Q (.bl (listed d)) H'
theorem listed_eq (d : PyData) : listed d = (["list", "tuple"] : List String).any fun c => isa c d := by cases d <;> kernel_rfl
theorem ok_listed {f : Addr} {fd : FuncData} (F : Fun K "is_listed" "is_listed" s_is_listed f fd) (T : Bl mg) : FnOk P w K mg base CX0 1 f fd ["thing"] (spListed K) := by
  have sc := sc_is_listed
  refine F.ok sc (fun vs H Q E h => ?_) (fun cdv A outer s H vs Q E hr h => ?_)
  · obtain ⟨v, d, rfl, _⟩ := h
    rfl
  · obtain ⟨v, d, rfl, hd, q⟩ := h
    refine ⟨_, (pss_one (ps_ret (pe_callB call_isTD (by rfl) T.b_isinstance bb_isinstance (pa_cons (pv 0) (pa_cons (pe_tup (pa_cons (pe_bltn (v := .ty "list") (by rfl) T.b_list bb_list rfl) (pa_cons (pe_bltn (v := .ty "tuple") (by rfl) T.b_tuple bb_tuple rfl) pa_nil))) pa_nil))))), ?_⟩
    walk_at "kx"
    walk_at "rd"
    rename_i p hp
    refine ⟨v, p, ["list", "tuple"], d, rfl, upd_same, rfl, by walk_at "dp", ?_⟩
    rw [← listed_eq]
    exact q _ (Same.new hp)
end
end U
namespace U
open PySem L2
theorem walk_zipT {K : PySem.W.Frag} {a b : Addr} {xs ys : List V} {n : Nat} (hn : n = min xs.length ys.length) : Walk (RZ.ItzT K a b) n (fun H => SqT K H a xs ∧ SqT K H b ys) (YPair (fun i => xs[i]?) (fun i => ys[i]?)) where
  goes := fun i H l s => ⟨xs, ys, xs[i]'(by omega), ys[i]'(by omega), s.1, s.2, List.getElem?_eq_getElem _, List.getElem?_eq_getElem _⟩
  stops := fun H s => ⟨xs, ys, s.1, s.2, by omega⟩
  yields := fun i H v H' _ s y => let ⟨T, x, z, e, n, u, gx, gy⟩ := y; ⟨T, x, z, e, n, u, gx xs s.1, gy ys s.2⟩
/-- the table of steps: where it stands, what stands behind «away» -/
structure Kd (K : PySem.W.Frag) (w : World) (mg : Str → Option Value) (aK aw : Addr) (es : Array DictEntry) (n : Nat) : Prop where
  g : mg "KINDS" = some (.ref aK)
  d : KDict K w aK es n
  away : PySem.W.nsIn K aK "away" = some (some (.ref aw))
  tup : ∀ H, SqT K H aw []
def awayD : PyData := .tuple [.str "away"]
theorem away_at {K : PySem.W.Frag} {H : Hp} {v : V} (h : Dp K H v awayD) : ∃ a, v = .ref a ∧ SqT K H a [.str "away"] := by
  cases h with
  | tup s t =>
    cases t with
    | cons h1 h2 =>
      cases h1
      cases h2
      exact ⟨_, rfl, s⟩
section
variable {P : Program} {w : World} {K : PySem.W.Frag} {mg : Str → Option Value} {base : Heap} {aK aw : Addr} {es : Array DictEntry} {n : Nat}
abbrev s_is_step : Stmt := (top 14)
theorem sc_is_step : FnScope ["thing", "lanes", "switches", "kinds", "kind", "part"] ["thing", "lanes", "switches"] (defScope s_is_step) := ⟨rfl, rfl, rfl, by decide +kernel, rfl, by decide +kernel, by decide +kernel⟩
def spStepA (K : PySem.W.Frag) : Sp := fun vs H Q _ => ∃ (v x y : V), vs = [v, x, y] ∧ Dp K H v awayD ∧ ∀ H', Same H H' → Q (.bl true) H'
theorem ok_stepA {f : Addr} {fd : FuncData} (F : Fun K "is_step" "is_step" s_is_step f fd) (T : Bl mg) (kd : Kd K w mg aK aw es n) (h_is_listed : Has P w K mg base CX0 1 "is_listed" ["thing"] (spListed K)) : FnOk P w K mg base CX0 2 f fd ["thing", "lanes", "switches"] (spStepA K) := by
  have sc := sc_is_step
  refine F.ok sc (fun vs H Q E h => ?_) (fun cdv A outer s H vs Q E hr h => ?_)
  · obtain ⟨v, x, y, rfl, _⟩ := h
    rfl
  · obtain ⟨v, x, y, rfl, hd, q⟩ := h
    obtain ⟨a, rfl, hT⟩ := away_at hd
    refine ⟨_, (pss_cons (ps_if (PW.pt (pw_or (pt_not (pt_val (pe_h h_is_listed (hr.mono (by decide)) (by rfl) pass0 (pa_cons (pv 0) pa_nil)))) (pw_or (pt_cmpR op_eq (pe_callB call_lenD' (by rfl) T.b_len bb_len (pa_cons (pv 0) pa_nil)) pe_int (nomark _)) (pw_or (pt_not (pt_val (pe_callB call_isD (by rfl) T.b_isinstance bb_isinstance (pa_cons (pe_ix ix_D (pv 0) pe_int (fun _ _ => rfl)) (pa_cons (pe_bltn (v := .ty "str") (by rfl) T.b_str bb_str rfl) pa_nil))))) (pw_or1 (pt_cmpR (op_notIn_kd kd.d) (pe_ix ix_D (pv 0) pe_int (fun _ _ => rfl)) (pe_glob (v := .ref aK) (by rfl) kd.g rfl) (by rfl)))))))
  (pss_one (ps_ret pe_bl))
  pss_nil)
 (pss_cons (ps_set (i := 3) sc.nd rfl (Or.inl rfl) (pe_ix ix_kdict (pe_glob (v := .ref aK) (by rfl) kd.g rfl) (pe_ix ix_D (pv 0) pe_int (fun _ _ => rfl)) (fun _ _ => rfl)))
 (pss_cons (ps_if (pt_cmpR op_ne (pe_callB call_lenD' (by rfl) T.b_len bb_len (pa_cons (pv 0) pa_nil)) (pe_op op_add (pe_callB call_len (by rfl) T.b_len bb_len (pa_cons (pv 3) pa_nil)) pe_int) (nomark _))
  (pss_one (ps_ret pe_bl))
  pss_nil)
 (pss_cons (ps_if (pt_not (pt_val (pe_callB (cr_all (by rfl)) (by rfl) T.b_all bb_all (pa_cons (pe_lcD (own := [("kind", 4), ("part", 5)])   (by rfl) sc.nd (RZ.pi_zipA (by rfl) T.b_zip (pa_cons (pv 3) (pa_cons (pe_slice sl_tupA (pv 0) (po_some pe_int) po_none) pa_nil))) (blkOk_by (by kernel_rfl)) (fun _ _ _ _ _ => (pg_tup rfl (pgs_cons (pg_name (i := 4) sc.nd rfl (Or.inl rfl)) (pgs_cons (pg_name (i := 5) sc.nd rfl (Or.inl rfl)) pgs_nil)))) (fun _ _ _ _ _ => pts_nil) (fun _ _ _ _ _ => pe_never)) pa_nil))))
  (pss_one (ps_ret pe_bl))
  pss_nil)
 (pss_one (ps_ret (pe_or (pe_cmpR op_ne (pe_ix ix_D (pv 0) pe_int (fun _ _ => rfl)) pe_str (nomark _)) (pe_one pe_never)))))))), ?_⟩
    walk_at "kx"
    walk_at "rd"
    refine ⟨.ref a, awayD, rfl, .of hd, fun H1 s1 => ?_⟩
    have hd1 := Dp.up s1 _ _ hd
    walk_at "rd"
    rename_i v0 hv0
    cases hv0
    refine ⟨_, _, rfl, rfl, kd.away, ?_⟩
    walk_at "rd"
    rename_i v1 hv1
    cases hv1
    refine ⟨aK, _, .ref aw, rfl, rfl, ⟨_, _, _, kd.d.at_, kd.d.lit, kd.away, rfl⟩, ?_⟩
    walk_at "rd"
    refine ⟨_, 0, rfl, .inr ⟨[], kd.tup _, rfl⟩, ?_⟩
    walk_at "rd"
    refine ⟨a, _, rfl, SqT.up hT s1, fun z => absurd z.1 (by decide), fun _ p hp => ?_⟩
    refine ⟨aw, p, [], [], rfl, .inr ⟨kd.tup _, SqT.of upd_same, fun D hD => ?_⟩⟩
    refine lc_f (walk_zipT (xs := []) (ys := []) (n := 0) rfl) [] rfl (Nat.zero_le _) hD (fun H' z => ⟨kd.tup _, SqT.up (SqT.of upd_same) z⟩) (fun i x H' H'' R hi => absurd hi (Nat.not_lt_zero _)) (fun H3 s3 hD3 => ?_)
    walk_at "rd"
    refine ⟨D, [], rfl, SqL.of hD3, ?_⟩
    have s13 := (Same.new (o := .tup []) hp).trans s3
    have hd3 := Dp.up s13 _ _ hd1
    walk_at "rd"
    rename_i v2 hv2
    cases hv2
    walk_at "rd"
    refine iteND (fun h => absurd (V.str.inj h) (by decide +kernel)) fun _ => ?_
    exact q _ (s1.trans s13)
abbrev s_lists_of : Stmt := (top 15)
theorem sc_lists_of : FnScope ["step", "kind", "part"] ["step"] (defScope s_lists_of) := ⟨rfl, rfl, rfl, by decide +kernel, rfl, by decide +kernel, by decide +kernel⟩
def spListsA (K : PySem.W.Frag) : Sp := fun vs H Q _ => ∃ (v : V), vs = [v] ∧ Dp K H v awayD ∧ ∀ (p : Addr) (H' : Hp), Same H H' → H' p = some (.lst []) → Q (.ref p) H'
theorem ok_listsA {f : Addr} {fd : FuncData} (F : Fun K "lists_of" "lists_of" s_lists_of f fd) (T : Bl mg) (kd : Kd K w mg aK aw es n) : FnOk P w K mg base CX0 1 f fd ["step"] (spListsA K) := by
  have sc := sc_lists_of
  refine F.ok sc (fun vs H Q E h => ?_) (fun cdv A outer s H vs Q E hr h => ?_)
  · obtain ⟨v, rfl, _⟩ := h
    rfl
  · obtain ⟨v, rfl, hd, q⟩ := h
    obtain ⟨a, rfl, hT⟩ := away_at hd
    refine ⟨_, (pss_one (ps_ret (pe_lcD (own := [("kind", 1), ("part", 2)])   (by rfl) sc.nd (RZ.pi_zipA (by rfl) T.b_zip (pa_cons (pe_ix ix_kdict (pe_glob (v := .ref aK) (by rfl) kd.g rfl) (pe_ix ix_D (pv 0) pe_int (fun _ _ => rfl)) (fun _ _ => rfl)) (pa_cons (pe_slice sl_tupA (pv 0) (po_some pe_int) po_none) pa_nil))) (blkOk_by (by kernel_rfl)) (fun _ _ _ _ _ => (pg_tup rfl (pgs_cons (pg_name (i := 1) sc.nd rfl (Or.inl rfl)) (pgs_cons (pg_name (i := 2) sc.nd rfl (Or.inl rfl)) pgs_nil)))) (fun _ _ _ _ _ => (pts_one (pt_cmpR op_eq (pv 1) pe_str (nomark _)))) (fun _ _ _ _ _ => (pv 2))))), ?_⟩
    walk_at "kx"
    walk_at "rd"
    rename_i v1 hv1
    cases hv1
    refine ⟨aK, _, .ref aw, rfl, rfl, ⟨_, _, _, kd.d.at_, kd.d.lit, kd.away, rfl⟩, ?_⟩
    walk_at "rd"
    refine ⟨a, _, rfl, hT, fun z => absurd z.1 (by decide), fun _ p hp => ?_⟩
    refine ⟨aw, p, [], [], rfl, .inr ⟨kd.tup _, SqT.of upd_same, fun D hD => ?_⟩⟩
    refine lc_it (walk_zipT (xs := []) (ys := []) (n := 0) rfl) (fun i H' => H' = upd (upd H p (.tup [])) D (.lst [])) rfl (fun i H' _ z => by rw [z]; exact ⟨kd.tup _, SqT.of (by walk_at "hp")⟩) (fun i x H' H'' hi => absurd hi (Nat.not_lt_zero _)) (fun H3 e => ?_)
    rw [e]
    exact q D _ ((Same.new hp).trans (Same.new hD)) upd_same
end
end U
namespace U
open PySem L2
/-- a rule of away steps alone -/
def RuleA (K : PySem.W.Frag) (H : Hp) (a : Addr) : Prop := ∃ xs : List V, SqL K H a xs ∧ xs.length ≤ 1000 ∧ ∀ x ∈ xs, Dp K H x awayD
theorem RuleA.up {K : PySem.W.Frag} {H H' : Hp} {a : Addr} (h : RuleA K H a) (e : Same H H') : RuleA K H' a := by
  obtain ⟨xs, h1, h2, h3⟩ := h
  exact ⟨xs, SqL.up h1 e, h2, fun x hx => Dp.up e _ _ (h3 x hx)⟩
section
variable {P : Program} {w : World} {K : PySem.W.Frag} {mg : Str → Option Value} {base : Heap} {aK aw : Addr} {es : Array DictEntry} {n : Nat}
abbrev s_first_wrong : Stmt := (top 16)
theorem sc_first_wrong : FnScope ["steps", "path", "lanes", "switches", "place", "step", "here", "number", "inner", "found"] ["steps", "path", "lanes", "switches"] (defScope s_first_wrong) := ⟨rfl, rfl, rfl, by decide +kernel, rfl, by decide +kernel, by decide +kernel⟩
def spWrongA (K : PySem.W.Frag) : Sp := fun vs H Q _ => ∃ (a p : Addr) (x y : V), vs = [.ref a, .ref p, x, y] ∧ RuleA K H a ∧ SqT K H p [] ∧ ∀ H', Same H H' → Q .non H'
theorem ok_wrongA {f : Addr} {fd : FuncData} (F : Fun K "first_wrong" "first_wrong" s_first_wrong f fd) (T : Bl mg) (h_is_step : Has P w K mg base CX0 2 "is_step" ["thing", "lanes", "switches"] (spStepA K)) (h_lists_of : Has P w K mg base CX0 1 "lists_of" ["step"] (spListsA K)) : FnOk P w K mg base CX0 3 f fd ["steps", "path", "lanes", "switches"] (spWrongA K) := by
  have sc := sc_first_wrong
  refine F.ok sc (fun vs H Q E h => ?_) (fun cdv A outer s H vs Q E hr h => ?_)
  · obtain ⟨a, p, x, y, rfl, _⟩ := h
    rfl
  · obtain ⟨a, p, x, y, rfl, ⟨xs, hS, hl, hx⟩, hp, q⟩ := h
    refine ⟨_, (pss_cons (ps_for PassesOwn.never rfl (pi_enum (by rfl) T.b_enumerate (pa_cons (pv 0) pa_nil)) (pg_tup rfl (pgs_cons (pg_name (i := 4) sc.nd rfl (Or.inl rfl)) (pgs_cons (pg_name (i := 5) sc.nd rfl (Or.inl rfl)) pgs_nil)))
  (pss_cons (ps_set (i := 6) sc.nd rfl (Or.inl rfl) (pe_op op_catA (pv 1) (pe_tup (pa_cons (pv 4) pa_nil))))
 (pss_cons (ps_if (pt_not (pt_val (pe_h h_is_step (hr.mono (by decide)) (by rfl) pass0 (pa_cons (pv 5) (pa_cons (pv 2) (pa_cons (pv 3) pa_nil))))))
  (pss_one (ps_ret (pv 6)))
  pss_nil)
 (pss_one (ps_for PassesOwn.never rfl (pi_enum (by rfl) T.b_enumerate (pa_cons (pe_h h_lists_of (hr.mono (by decide)) (by rfl) pass0 (pa_cons (pv 5) pa_nil)) pa_nil)) (pg_tup rfl (pgs_cons (pg_name (i := 7) sc.nd rfl (Or.inl rfl)) (pgs_cons (pg_name (i := 8) sc.nd rfl (Or.inl rfl)) pgs_nil))) pss_never)))))
 (pss_one (ps_ret pe_non))), ?_⟩
    walk_at "kx"
    walk_at "rd"
    refine ⟨_, _, rfl, hS, for_it (walk_enum (xs := xs)) (fun i σ H' => Same H H' ∧ ∃ o1 o2 o3 : Option V, σ = [some (.ref a), some (.ref p), some x, some y, o1, o2, o3, none, none, none]) ⟨Same.refl _, none, none, none, rfl⟩ (fun i σ H' _ z => SqL.up hS z.1) (fun i v σ H' H'' hi z yy => ?_) (fun σ H' z => ?_)⟩
    · obtain ⟨sz, o1, o2, o3, rfl⟩ := z
      obtain ⟨T, x1, y1, rfl, hT, rfl, e1, e2⟩ := yy
      cases e1
      have hy := hx y1 (List.mem_of_getElem? e2)
      have s1 := sz.trans (Same.new (o := .tup [V.int (i : Nat), y1]) hT)
      walk_at "rd"
      rename_i T2 hT2
      have s2 := s1.trans (Same.new (o := .tup [V.int (i : Nat)]) hT2)
      refine ⟨p, T2, [], _, rfl, rfl, SqT.up hp s2, SqT.of upd_same, Nat.le_of_ble_eq_true rfl, fun _ => ?_, fun z => absurd rfl z, fun z => absurd rfl z⟩
      walk_at "rd"
      refine ⟨_, _, _, rfl, Dp.up s2 _ _ hy, fun H3 s3 => ?_⟩
      walk_at "rd"
      refine ⟨Dp.up (s2.trans s3) _ _ hy, fun p4 H4 s4 hp4 => ?_⟩
      refine ⟨p4, [], rfl, SqL.of hp4, for_it (walk_enum (xs := [])) (fun i σ H' => H' = H4 ∧ ∃ o1 o2 o3 : Option V, σ = [some (.ref a), some (.ref p), some x, some y, o1, o2, o3, none, none, none]) ⟨rfl, _, _, _, rfl⟩ (fun i σ H' _ z => by rw [z.1]; exact SqL.of hp4) (fun i v σ H' H'' hi => absurd hi (Nat.not_lt_zero _)) (fun σ H' z => ?_)⟩
      obtain ⟨rfl, o1, o2, o3, rfl⟩ := z
      exact ⟨s2.trans (s3.trans s4), o1, o2, o3, rfl⟩
    · obtain ⟨sz, o1, o2, o3, rfl⟩ := z
      exact q _ sz
abbrev s_frozen : Stmt := (top 17)
theorem sc_frozen : FnScope ["steps", "step", "part"] ["steps"] (defScope s_frozen) := ⟨rfl, rfl, rfl, by decide +kernel, rfl, by decide +kernel, by decide +kernel⟩
def spFrozenA (K : PySem.W.Frag) : Sp := fun vs H Q _ => ∃ (a : Addr), vs = [.ref a] ∧ RuleA K H a ∧ ∀ (p : Addr) (H' : Hp), Same H H' → Q (.ref p) H'
theorem ok_frozenA {f : Addr} {fd : FuncData} (F : Fun K "frozen" "frozen" s_frozen f fd) (T : Bl mg) (h_is_listed : Has P w K mg base CX0 1 "is_listed" ["thing"] (spListed K)) : FnOk P w K mg base CX0 2 f fd ["steps"] (spFrozenA K) := by
  have sc := sc_frozen
  refine F.ok sc (fun vs H Q E h => ?_) (fun cdv A outer s H vs Q E hr h => ?_)
  · obtain ⟨a, rfl, _⟩ := h
    rfl
  · obtain ⟨a, rfl, ⟨xs, hS, hl, hx⟩, q⟩ := h
    refine ⟨_, (pss_one (ps_ret (pe_callTy call_tuple_of (by rfl) T.b_tuple bb_tuple (pa_cons (pe_lcD (own := [("step", 1)])   (by rfl) sc.nd (pi_list (pv 0)) (blkOk_by (by kernel_rfl)) (fun _ _ _ _ _ => (pg_name (i := 1) sc.nd rfl (Or.inl rfl))) (fun _ _ _ _ _ => pts_nil) (fun _ _ _ _ _ => (pe_callTy call_tuple_of (by rfl) T.b_tuple bb_tuple (pa_cons (pe_lcD (own := [("part", 2)])   (by rfl) sc.nd (pi_tup (pv 1)) (blkOk_by (by kernel_rfl)) (fun _ _ _ _ _ => (pg_name (i := 2) sc.nd rfl (Or.inl rfl))) (fun _ _ _ _ _ => pts_nil) (fun _ _ _ _ _ => (pe_ifExp (pt_val (pe_h h_is_listed (hr.mono (by decide)) (by rfl) pass0 (pa_cons (pv 2) pa_nil))) pe_never (pv 2)))) pa_nil)))) pa_nil)))), ?_⟩
    walk_at "kx"
    walk_at "rd"
    rename_i D hD
    refine lc_some (walk_list (xs := xs)) (fun _ _ _ => True) (by omega) hD (fun H' z => SqL.up hS z) (fun _ _ _ _ _ _ _ => trivial) (fun i x H' H'' R hi z y k => ?_) (fun H3 L s3 hD3 hL3 _ => ?_)
    · obtain ⟨rfl, y⟩ := y
      obtain ⟨t, rfl, hT⟩ := away_at (Dp.up z _ _ (hx x (List.mem_of_getElem? y)))
      walk_at "rd"
      refine ⟨⟨_, hT⟩, fun D2 hD2 => lc_some (walk_tup (xs := [.str "away"])) (fun _ _ _ => True) (by decide) hD2 (fun H' z => SqT.up hT z) (fun _ _ _ _ _ _ _ => trivial) (fun j x' Ha Hb R' hj z' y' k' => ?_) (fun H4 L s4 hD4 hL4 _ => ?_)⟩
      · obtain ⟨rfl, y'⟩ := y'
        have j0 : j = 0 := by
          have : j < 1 := hj
          omega
        subst j0
        cases y'
        walk_at "rd"
        refine ⟨_, _, rfl, .of (.str _), fun H5 s5 => ?_⟩
        walk_at "rd"
        exact k' _ _ s5 trivial
      · walk_at "rd"
        refine ⟨D2, L, rfl, .inl ⟨SqL.of hD4, fun l hl => ?_⟩⟩
        exact k _ _ (s4.trans (Same.new hl)) trivial
    · walk_at "rd"
      refine ⟨D, L, rfl, .inl ⟨SqL.of hD3, fun l hl => ?_⟩⟩
      exact q l _ (s3.trans (Same.new hl))
end
end U
namespace U
open PySem L2
def Sq (K : PySem.W.Frag) (H : Hp) (a : Addr) (xs : List V) : Prop := SqT K H a xs ∨ SqL K H a xs
theorem Sq.up {K : PySem.W.Frag} {H H' : Hp} {a : Addr} {xs : List V} (h : Sq K H a xs) (e : Same H H') : Sq K H' a xs := h.elim (fun z => .inl (SqT.up z e)) fun z => .inr (SqL.up z e)
theorem in_strs {z : Str} : ∀ {l : List Str}, inV (.str z) (l.map V.str) = decide (z ∈ l)
  | [] => rfl
  | x :: l => by
    have ih := in_strs (z := z) (l := l)
    unfold inV at ih ⊢
    rw [List.map_cons, List.any_cons, ih]
    show ((x == z) || decide (z ∈ l)) = _
    by_cases h : z = x
    · subst h
      simp
    · have : (x == z) = false := beq_eq_false_iff_ne.mpr fun e => h e.symm
      rw [this, Bool.false_or]
      simp [h]
theorem flat_strs : ∀ {l : List Str}, (l.map V.str).all flatV = true
  | [] => rfl
  | _ :: l => by rw [List.map_cons, List.all_cons, flat_strs]; rfl
theorem word_len {z : Str} (h : isWord z = true) : z.length ≤ 1000 := by
  unfold isWord at h
  rw [Bool.and_eq_true, Bool.and_eq_true] at h
  have := of_decide_eq_true h.2.1
  omega
def frees : List Str := ["put", "drop", "set"]
/-- names that a book may have -/
structure NamesOk (ls ss ks : List Str) : Prop where
  wd : ∀ z ∈ ls ++ ss, isWord z = true
  nd : (("now" : Str) :: (ls ++ ss)).Nodup
  few : (ls ++ ss).length ≤ 100
  kw : ∀ z ∈ ks, isWord z = true ∧ z ∉ frees
  k64 : ks.length < 64
theorem str_at {l : List Str} {i : Nat} {y : V} (h : (l.map V.str)[i]? = some y) : ∃ z, l[i]? = some z ∧ y = V.str z := by
  rw [List.getElem?_map] at h
  cases e : l[i]? with
  | none => rw [e] at h; cases h
  | some z => rw [e] at h; exact ⟨z, rfl, (Option.some.inj h).symm⟩
theorem val_of : ∀ {kvs : List (Key × V)} {ks : List Str} {z : Str}, kvs.map (·.1) = ks.map Sum.inr → z ∈ ks → ∃ v, valV kvs (Sum.inr z) = some v
  | [], [], z, _, h => by simp at h
  | [], _ :: _, _, e, _ => by simp at e
  | _ :: _, [], _, e, _ => by simp at e
  | (k, v) :: r, x :: xs, z, e, h => by
    rw [List.map_cons, List.map_cons, List.cons.injEq] at e
    have e1 : k = Sum.inr x := e.1
    subst e1
    by_cases q : x = z
    · subst q
      exact ⟨v, by unfold valV; simp⟩
    · obtain ⟨v', hv'⟩ := val_of (z := z) e.2 ((List.mem_cons.mp h).resolve_left fun e => q e.symm)
      refine ⟨v', ?_⟩
      unfold valV at hv' ⊢
      rw [List.find?_cons]
      have : decide ((Sum.inr x : Key) = Sum.inr z) = false := decide_eq_false fun e => q (Sum.inr.inj e)
      simp only [this]
      exact hv'
theorem sqT_off {K : PySem.W.Frag} {H : Hp} {a p C dx : Addr} {fs : List (Str × V)} {o : HO} {xs : List V} (h : SqT K H a xs) (hp : H p = some (.ins C dx fs)) : SqT K (upd H p o) a xs := by
  rcases h with (h | ⟨ob, h⟩) | h
  · exact .inl (.inl (by rw [upd_ne (ne_of h hp (by intro z; cases z))]; exact h))
  · exact .inl (.inr ⟨ob, by rw [upd_ne (ne_of h hp (by intro z; cases z))]; exact h⟩)
  · exact .inr h
theorem putF_len (f : Str) (v : V) : ∀ fs : List (Str × V), (putF f v fs).length ≤ fs.length + 1
  | [] => Nat.le_refl _
  | (g, x) :: r => by
    unfold putF
    split
    · simp
    · have := putF_len f v r
      simp only [List.length_cons]
      omega
theorem call_tupS {X : Cx} : CallR X (.type "tuple") (fun xs H Q => ∃ (p : Addr) (ys : List V), xs = [.ref p] ∧ Sq X.K H p ys ∧ ∀ (l : Addr) (H' : Hp), Same H H' → SqT X.K H' l ys → Q (.ref l) H') := by
  refine CallR.imp call_tuple_of fun xs H Q ⟨p, ys, e, h, q⟩ => ⟨p, ys, e, ?_⟩
  rcases h with h | h
  · exact .inr ⟨h, q p H (Same.refl _) h⟩
  · exact .inl ⟨h, fun l hl => q l _ (Same.new hl) (SqT.of upd_same)⟩
section
variable {P : Program} {w : World} {K : PySem.W.Frag} {mg : Str → Option Value} {base : Heap} {aF : Addr}
abbrev s_check_names : Stmt := (top 26)
theorem sc_check_names : FnScope ["lanes", "switches", "rules", "taken", "name", "word"] ["lanes", "switches", "rules"] (defScope s_check_names) := ⟨rfl, rfl, rfl, by decide +kernel, rfl, by decide +kernel, by decide +kernel⟩
def spChkA (K : PySem.W.Frag) : Sp := fun vs H Q _ => ∃ (al as ad : Addr) (ls ss ks : List Str) (kvs : List (Key × V)), vs = [.ref al, .ref as, .ref ad] ∧ Sq K H al (ls.map V.str) ∧ Sq K H as (ss.map V.str) ∧ H ad = some (.dK kvs) ∧ kvs.map (·.1) = ks.map Sum.inr ∧ NamesOk ls ss ks ∧
  ∀ H', Same H H' → Q .non H'
theorem ok_chkA {f : Addr} {fd : FuncData} (F : Fun K "check_names" "check_names" s_check_names f fd) (T : Bl mg) (fr : mg "FREE" = some (.ref aF) ∧ ∀ H, SqT K H aF (frees.map V.str)) (h_is_word : Has P w K mg base CX0 1 "is_word" ["thing"] (spWord K)) : FnOk P w K mg base CX0 2 f fd ["lanes", "switches", "rules"] (spChkA K) := by
  have sc := sc_check_names
  refine F.ok sc (fun vs H Q E h => ?_) (fun cdv A outer s H vs Q E hr h => ?_)
  · obtain ⟨al, as, ad, ls, ss, ks, kvs, rfl, _⟩ := h
    rfl
  · obtain ⟨al, as, ad, ls, ss, ks, kvs, rfl, hl, hs, had, hk, ok, q⟩ := h
    refine ⟨_, (pss_cons (ps_set (i := 3) sc.nd rfl (Or.inl rfl) (pe_lst (pa_cons pe_str pa_nil)))
 (pss_cons (ps_for PassesOwn.never rfl (pi_list (pe_lst (StX.pa_star (pv 0) (StX.pa_star (pv 1) pa_nil)))) (pg_name (i := 4) sc.nd rfl (Or.inl rfl))
  (pss_cons (ps_if (PW.pt (pw_or (pt_not (pt_val (pe_h h_is_word (hr.mono (by decide)) (by rfl) pass0 (pa_cons (pv 4) pa_nil)))) (pw_or1 (pt_cmpR op_in_seq (pv 4) (pv 3) (by rfl)))))
  (pss_one ps_never)
  pss_nil)
 (pss_one (ps_expr (pe_bm PySem.F.plainAttrs_list PySem.F.slot_list_append PySem.F.type_list_append mt_append (pv 3) (pa_cons (pv 4) pa_nil))))))
 (pss_one (ps_for PassesOwn.never rfl (pi_list (pe_callB (call_sortedD (by rfl)) (by rfl) T.b_sorted bb_sorted (pa_cons (pv 2) pa_nil))) (pg_name (i := 5) sc.nd rfl (Or.inl rfl))
  (pss_one (ps_if (PW.pt (pw_or (pt_not (pt_val (pe_h h_is_word (hr.mono (by decide)) (by rfl) pass0 (pa_cons (pv 5) pa_nil)))) (pw_or1 (pt_cmpR op_in_seq (pv 5) (pe_glob (v := .ref aF) (by rfl) fr.1 rfl) (by rfl)))))
  (pss_one ps_never)
  pss_nil)))))), ?_⟩
    walk_at "kx"
    walk_at "rd"
    rename_i tk htk
    have s1 := Same.new (o := .lst [V.str "now"]) htk
    refine ⟨al, _, rfl, hl.up s1, ?_⟩
    walk_at "rd"
    refine ⟨as, _, rfl, hs.up s1, ?_⟩
    refine ⟨?_, fun L hL => ?_⟩
    · have := ok.few
      rw [List.length_append] at this
      refine small_le ?_
      rw [List.append_nil, List.length_append, List.length_map, List.length_map]
      omega
    have s2 := s1.trans (Same.new (o := .lst (ls.map V.str ++ (ss.map V.str ++ []))) hL)
    have eL : ls.map V.str ++ (ss.map V.str ++ []) = (ls ++ ss).map V.str := by rw [List.append_nil, List.map_append]
    have ntL : tk ≠ L := ne_none hL upd_same
    have htk2 : H tk = none := htk
    have hL0 : H L = none := by
      rw [upd_ne ntL.symm] at hL
      exact hL
    walk_at "rd"
    refine ⟨⟨_, SqL.of upd_same⟩, for_it (walk_list (xs := (ls ++ ss).map V.str)) (fun i σ H' => Same H H' ∧ H' L = some (.lst ((ls ++ ss).map V.str)) ∧ H' tk = some (.lst ((("now" : Str) :: (ls ++ ss).take i).map V.str)) ∧ ∃ o : Option V, σ = [some (.ref al), some (.ref as), some (.ref ad), some (.ref tk), o, none])
      ⟨s2, by rw [upd_same, eL], by rw [upd_ne ntL, upd_same]; rfl, none, rfl⟩ (fun i σ H' _ z => SqL.of z.2.1) (fun i v σ H' H'' hi z y => ?_) (fun σ H' z => ?_)⟩
    · obtain ⟨sz, hL', htk', o, rfl⟩ := z
      obtain ⟨rfl, y⟩ := y
      obtain ⟨z, hz, rfl⟩ := str_at y
      have hzm : z ∈ ls ++ ss := List.mem_of_getElem? hz
      have hw := ok.wd z hzm
      walk_at "rd"
      refine ⟨_, _, rfl, .of (.str z), fun z' e => by cases e; exact word_len hw, fun H3 s3 => ?_⟩
      have ew : wordD (.str z) = true := hw
      rw [ew]
      walk_at "rd"
      have hn : z ∉ ("now" : Str) :: (ls ++ ss).take i := by
        have nd := ok.nd
        rw [List.nodup_cons] at nd
        intro hm
        rcases List.mem_cons.mp hm with e | e
        · exact nd.1 (e ▸ hzm)
        · obtain ⟨j, hj, ej⟩ := List.getElem_of_mem e
          rw [List.length_take] at hj
          rw [List.getElem_take] at ej
          have hi' : i < (ls ++ ss).length := (List.getElem?_eq_some_iff.mp hz).1
          have ez : (ls ++ ss)[i] = z := (List.getElem?_eq_some_iff.mp hz).2
          have := (List.getElem_inj nd.2).mp (ej.trans ez.symm)
          omega
      refine ⟨tk, _, rfl, .inl (SqL.of (s3 _ _ htk')), rfl, flat_strs, ?_⟩
      have ef : (if false = true then !inV (.str z) ((("now" : Str) :: (ls ++ ss).take i).map V.str) else inV (.str z) ((("now" : Str) :: (ls ++ ss).take i).map V.str)) = false := by
        rw [if_neg Bool.false_ne_true, in_strs]
        exact decide_eq_false hn
      rw [ef]
      have htk3 := s3 _ _ htk'
      walk_at "rd"
      refine ⟨tk, _, _, rfl, rfl, htk3, small_lt ?_, ?_⟩
      · have := ok.few
        rw [List.length_map, List.length_cons, List.length_take]
        omega
      · refine ⟨Same.upd0 (sz.trans s3) htk2, by rw [upd_ne ntL.symm]; exact s3 _ _ hL', ?_, _, rfl⟩
        rw [upd_same, take_more hz, ← List.cons_append, List.map_append]
        rfl
    · obtain ⟨sz, hL', htk', o, rfl⟩ := z
      walk_at "rd"
      refine ⟨ad, kvs, ks, rfl, .inl (sz _ _ had), hk, ok.k64, fun ys p hperm hsort hp => ?_⟩
      have s4 := sz.trans (Same.new (o := .lst (ys.map V.str)) hp)
      refine ⟨p, rfl, ⟨_, SqL.of upd_same⟩, for_it (walk_list (xs := ys.map V.str)) (fun i σ H'' => Same (upd H' p (.lst (ys.map V.str))) H'' ∧ ∃ o2 : Option V, σ = [some (.ref al), some (.ref as), some (.ref ad), some (.ref tk), o, o2])
        ⟨Same.refl _, none, rfl⟩ (fun i σ H'' _ z => SqL.up (SqL.of upd_same) z.1) (fun i v σ H2 H3 hi z y => ?_) (fun σ H2 z => ?_)⟩
      · obtain ⟨s5, o2, rfl⟩ := z
        obtain ⟨rfl, y⟩ := y
        obtain ⟨z, hz, rfl⟩ := str_at y
        obtain ⟨hw, hf⟩ := ok.kw z (hperm.mem_iff.mp (List.mem_of_getElem? hz))
        walk_at "rd"
        refine ⟨_, _, rfl, .of (.str z), fun z' e => by cases e; exact word_len hw, fun H3 s3 => ?_⟩
        have ew : wordD (.str z) = true := hw
        rw [ew]
        walk_at "rd"
        refine ⟨aF, _, rfl, .inr (fr.2 _), rfl, flat_strs, ?_⟩
        have ef : (if false = true then !inV (.str z) (frees.map V.str) else inV (.str z) (frees.map V.str)) = false := by
          rw [if_neg Bool.false_ne_true, in_strs]
          exact decide_eq_false hf
        rw [ef]
        walk_at "rd"
        exact ⟨s5.trans s3, _, rfl⟩
      · obtain ⟨s5, o2, rfl⟩ := z
        exact q _ (s4.trans s5)
abbrev s_Book___init__ : Stmt := (inClass (top 28) 0)
theorem sc_Book___init__ : FnScope ["self", "lanes", "switches", "rules", "word", "path"] ["self", "lanes", "switches", "rules"] (defScope s_Book___init__) := ⟨rfl, rfl, rfl, by decide +kernel, rfl, by decide +kernel, by decide +kernel⟩
/-- a new book: its names are well told, its rules are away steps alone -/
def spInitA (K : PySem.W.Frag) (C : Addr) : Sp := fun vs H Q _ => ∃ (H0 : Hp) (p dx al as ad : Addr) (ls ss ks : List Str) (kvs : List (Key × V)), vs = [.ref p, .ref al, .ref as, .ref ad] ∧ Same H0 H ∧ H0 p = none ∧ H p = some (.ins C dx []) ∧
  Sq K H0 al (ls.map V.str) ∧ Sq K H0 as (ss.map V.str) ∧ H0 ad = some (.dK kvs) ∧ kvs.map (·.1) = ks.map Sum.inr ∧ NamesOk ls ss ks ∧ (∀ k v, valV kvs k = some v → ∃ a, v = .ref a ∧ RuleA K H0 a) ∧
  ∀ H', Same H0 H' → Bk K C H' p (ls.map V.str) (ss.map V.str) → Q .non H'
theorem ok_initA {f C : Addr} {fd : FuncData} (F : Fun K "__init__" "Book.__init__" s_Book___init__ f fd) (T : Bl mg) (B : BkC K C) (h_check_names : Has P w K mg base CX0 2 "check_names" ["lanes", "switches", "rules"] (spChkA K))
    (h_first_wrong : Has P w K mg base CX0 3 "first_wrong" ["steps", "path", "lanes", "switches"] (spWrongA K)) (h_frozen : Has P w K mg base CX0 2 "frozen" ["steps"] (spFrozenA K)) : FnOk P w K mg base CX0 4 f fd ["self", "lanes", "switches", "rules"] (spInitA K C) := by
  have sc := sc_Book___init__
  refine F.ok sc (fun vs H Q E h => ?_) (fun cdv A outer s H vs Q E hr h => ?_)
  · obtain ⟨H0, p, dx, al, as, ad, ls, ss, ks, kvs, rfl, _⟩ := h
    rfl
  · obtain ⟨H0, p, dx, al, as, ad, ls, ss, ks, kvs, rfl, s0, p0, hp, hl, hs, had, hk, ok, hr0, q⟩ := h
    refine ⟨_, (pss_cons (ps_expr (pe_h h_check_names (hr.mono (by decide)) (by rfl) pass0 (pa_cons (pv 1) (pa_cons (pv 2) (pa_cons (pv 3) pa_nil)))))
 (pss_cons (ps_for PassesOwn.never rfl (pi_list (pe_callB (call_sortedD (by rfl)) (by rfl) T.b_sorted bb_sorted (pa_cons (pv 3) pa_nil))) (pg_name (i := 4) sc.nd rfl (Or.inl rfl))
  (pss_cons (ps_set (i := 5) sc.nd rfl (Or.inl rfl) (pe_h h_first_wrong (hr.mono (by decide)) (by rfl) pass0 (pa_cons (pe_dget (hu_of hr) (pv 3) (pv 4) (fun _ _ => rfl)) (pa_cons (pe_tup pa_nil) (pa_cons (pv 1) (pa_cons (pv 2) pa_nil))))))
 (pss_one (ps_if (pt_cmp (pc_notN (pv 5)))
  (pss_one ps_never)
  pss_nil))))
 (pss_cons (ps_fld (pv 0) (pe_callTy call_tupS (by rfl) T.b_tuple bb_tuple (pa_cons (pv 1) pa_nil)) rfl)
 (pss_cons (ps_fld (pv 0) (pe_callTy call_tupS (by rfl) T.b_tuple bb_tuple (pa_cons (pv 2) pa_nil)) rfl)
 (pss_one (ps_fld (pv 0) (pe_dcD (own := [("word", 4)]) (by rfl) sc.nd (pi_list (pe_callB (call_sortedD (by rfl)) (by rfl) T.b_sorted bb_sorted (pa_cons (pv 3) pa_nil))) (blkOk_by (by kernel_rfl)) (fun _ _ _ _ _ => (pg_name (i := 4) sc.nd rfl (Or.inl rfl))) (fun _ _ _ _ _ => pts_nil) (fun _ _ _ _ _ => (pv 4)) (fun _ _ _ _ _ => (pe_h h_frozen (hr.mono (by decide)) (by rfl) pass0 (pa_cons (pe_dget (hu_of hr) (pv 3) (pv 4) (fun _ _ => rfl)) pa_nil)))) rfl)))))), ?_⟩
    walk_at "kx"
    walk_at "rd"
    refine ⟨al, as, ad, ls, ss, ks, kvs, rfl, hl.up s0, hs.up s0, s0 _ _ had, hk, ok, fun H1 s1 => ?_⟩
    walk_at "rd"
    have had1 := s1 _ _ (s0 _ _ had)
    have hp1 := s1 _ _ hp
    refine ⟨ad, kvs, ks, rfl, .inl had1, hk, ok.k64, fun ys L hperm hsort hL => ?_⟩
    have s01 := s0.trans s1
    have s2 := Same.new (o := .lst (ys.map V.str)) hL
    refine ⟨L, rfl, ⟨_, SqL.of upd_same⟩, for_it (walk_list (xs := ys.map V.str)) (fun i σ H' => Same (upd H1 L (.lst (ys.map V.str))) H' ∧ ∃ o1 o2 : Option V, σ = [some (.ref p), some (.ref al), some (.ref as), some (.ref ad), o1, o2])
      ⟨Same.refl _, none, none, rfl⟩ (fun i σ H' _ z => SqL.up (SqL.of upd_same) z.1) (fun i v σ H2 H3 hi z y => ?_) (fun σ H2 z => ?_)⟩
    · obtain ⟨s5, o1, o2, rfl⟩ := z
      obtain ⟨rfl, y⟩ := y
      obtain ⟨z, hz, rfl⟩ := str_at y
      have s6 := s01.trans (s2.trans s5)
      obtain ⟨v, hv⟩ := val_of hk (hperm.mem_iff.mp (List.mem_of_getElem? hz))
      obtain ⟨a, rfl, hA⟩ := hr0 _ _ hv
      walk_at "rd"
      refine ⟨ad, .ref a, rfl, .inl ⟨kvs, Sum.inr z, .inl (s6 _ _ had), rfl, hv.symm⟩, ?_⟩
      walk_at "rd"
      rename_i T1 hT1
      have s7 := Same.new (o := .tup []) hT1
      refine ⟨a, T1, _, _, rfl, hA.up (s6.trans s7), SqT.of upd_same, fun H4 s4 => ?_⟩
      walk_at "rd"
      exact ⟨s5.trans (s7.trans s4), _, _, rfl⟩
    · obtain ⟨s5, o1, o2, rfl⟩ := z
      have s6 := s2.trans s5
      have s06 := s01.trans s6
      have hp2 := s6 _ _ hp1
      walk_at "rd"
      refine ⟨al, _, rfl, hl.up s06, fun l1 H3 s3 hl1 => ?_⟩
      walk_at "rd"
      refine ⟨p, C, dx, [], rfl, s3 _ _ hp2, B.cl, B.nL, by decide, ?_⟩
      have p3 : H3 p = some (.ins C dx []) := s3 _ _ hp2
      generalize eH4 : upd H3 p (.ins C dx (putF "own_lanes" (V.ref l1) [])) = H4
      have s04 : Same H0 H4 := by rw [← eH4]; exact Same.upd0 (s06.trans s3) p0
      have hl4 : SqT K H4 l1 (ls.map V.str) := by rw [← eH4]; exact sqT_off hl1 p3
      have hp4 : H4 p = some (.ins C dx (putF "own_lanes" (V.ref l1) [])) := by rw [← eH4]; exact upd_same
      walk_at "rd"
      refine ⟨as, _, rfl, hs.up s04, fun l2 H5 s5' hl2 => ?_⟩
      walk_at "rd"
      have p5 := s5' _ _ hp4
      refine ⟨p, C, dx, _, rfl, p5, B.cl, B.nS, Nat.lt_of_le_of_lt (putF_len _ _ _) (by decide), ?_⟩
      generalize eH6 : upd H5 p (.ins C dx (putF "own_switches" (V.ref l2) (putF "own_lanes" (V.ref l1) []))) = H6
      have s06' : Same H0 H6 := by rw [← eH6]; exact Same.upd0 (s04.trans s5') p0
      have hl6 : SqT K H6 l1 (ls.map V.str) := by rw [← eH6]; exact sqT_off (SqT.up hl4 s5') p5
      have hs6 : SqT K H6 l2 (ss.map V.str) := by rw [← eH6]; exact sqT_off hl2 p5
      have hp6 : H6 p = some (.ins C dx (putF "own_switches" (V.ref l2) (putF "own_lanes" (V.ref l1) []))) := by rw [← eH6]; exact upd_same
      walk_at "rd"
      refine ⟨ad, kvs, ks, rfl, .inl (s06' _ _ had), hk, ok.k64, fun ys2 L2 hperm2 _ hL2 => ?_⟩
      refine ⟨L2, rfl, ⟨_, SqL.of upd_same⟩, fun D hD => ?_⟩
      have nLD : L2 ≠ D := ne_none hD upd_same
      have hD6 : H6 D = none := by
        rw [upd_ne nLD.symm] at hD
        exact hD
      have s7 := Same.new (o := .lst (ys2.map V.str)) hL2
      have hys : ys2.length < 64 := by rw [hperm2.length_eq]; exact ok.k64
      refine dc_it (walk_list (xs := ys2.map V.str)) (fun i H' => Same (upd H6 L2 (.lst (ys2.map V.str))) H' ∧ ∃ kv : List (Key × V), H' D = some (.dK kv) ∧ kv.length ≤ i) ⟨Same.new hD, [], upd_same, Nat.le_refl _⟩ (fun i H' _ z => SqL.up (SqL.of upd_same) z.1) (fun i v H' H'' hi z y => ?_) (fun H' z => ?_)
      · obtain ⟨s8, kv, hkv, hkl⟩ := z
        obtain ⟨rfl, y⟩ := y
        obtain ⟨z, hz, rfl⟩ := str_at y
        rw [List.length_map] at hi
        have s9 := s06'.trans (s7.trans s8)
        obtain ⟨v, hv⟩ := val_of hk (hperm2.mem_iff.mp (List.mem_of_getElem? hz))
        obtain ⟨a, rfl, hA⟩ := hr0 _ _ hv
        walk_at "rd"
        refine ⟨ad, .ref a, rfl, .inl ⟨kvs, Sum.inr z, .inl (s9 _ _ had), rfl, hv.symm⟩, ?_⟩
        walk_at "rd"
        refine ⟨hA.up s9, fun p7 H7 s10 => ?_⟩
        refine ⟨kv, Sum.inr z, rfl, s10 _ _ hkv, small_lt (by omega), Same.upd0 (s8.trans s10) (by rw [upd_ne nLD.symm]; exact hD6), _, upd_same, ?_⟩
        have := putK_len kv (Sum.inr z) (V.ref p7)
        omega
      · obtain ⟨s8, kv, hkv, hkl⟩ := z
        have s9 := s7.trans s8
        have p8 := s9 _ _ hp6
        walk_at "rd"
        refine ⟨p, C, dx, _, rfl, p8, B.cl, B.nR, Nat.lt_of_le_of_lt (Nat.le_trans (putF_len _ _ _) (Nat.succ_le_succ (putF_len _ _ _))) (by decide), ?_⟩
        refine q _ (Same.upd0 (s06'.trans s9) p0) ⟨dx, l1, l2, _, upd_same, ?_, ?_, sqT_off (SqT.up hl6 s9) p8, sqT_off (SqT.up hs6 s9) p8, ?_, ?_⟩
        · rw [lookup_putF, if_neg (by decide +kernel), lookup_putF, if_neg (by decide +kernel), lookup_putF, if_pos rfl]
        · rw [lookup_putF, if_neg (by decide +kernel), lookup_putF, if_pos rfl]
        · rw [lookup_putF, if_neg (by decide +kernel), lookup_putF, if_neg (by decide +kernel), lookup_putF, if_neg (by decide +kernel)]
          rfl
        · rw [lookup_putF, if_neg (by decide +kernel), lookup_putF, if_neg (by decide +kernel), lookup_putF, if_neg (by decide +kernel)]
          rfl
end
end U
namespace U
open PySem L2
theorem Bx.lay {H0 H : Hp} {β : BA} {c : Int} {p : Addr} {o : HO} (x : Bx H0 H β c) (h : H p = none) : Bx (upd H0 p o) (upd H p o) β c :=
  x.over (Ext.lay (M := fun _ => False) x.sub h) (fun z => z) (fun z => z)
theorem Ext.lay' {M : Addr → Prop} {H0 H H1 H' : Hp} {p : Addr} {o : HO} (e : Ext M H0 H H1 H') (h : H' p = none) : Ext M H0 H (upd H1 p o) (upd H' p o) := e.trans (Ext.lay e.sub h)
/-- objects that are made and forgotten -/
theorem Bx.pass {H0 H H' : Hp} {β : BA} {c : Int} (x : Bx H0 H β c) (h : Same H H') : Bx H0 H' β c :=
  x.over (Ext.pass (M := fun _ => False) x.sub h) (fun z => z) (fun z => z)
theorem Ext.pass' {M : Addr → Prop} {H0 H H1 H' H'' : Hp} (e : Ext M H0 H H1 H') (h : Same H' H'') : Ext M H0 H H1 H'' := e.trans (Ext.pass e.sub h)
def unS : V → Str
  | .str z => z
  | _ => ""
theorem perm_strs {ys : List V} {l : List Str} (h : ys.Perm (l.map V.str)) : ∃ zs : List Str, zs.Perm l ∧ ys = zs.map V.str := by
  have h1 := h.map unS
  have e1 : (l.map V.str).map unS = l := by
    rw [List.map_map]
    exact List.map_id' _
  rw [e1] at h1
  refine ⟨ys.map unS, h1, ?_⟩
  rw [List.map_map]
  symm
  have : ∀ y ∈ ys, (V.str ∘ unS) y = y := fun y hy => by
    obtain ⟨z, _, rfl⟩ := List.mem_map.mp (h.mem_iff.mp hy)
    rfl
  rw [List.map_congr_left this, List.map_id']
def unI : V → Int
  | .int z => z
  | _ => 0
theorem perm_ints {ys : List V} {l : List Int} (h : ys.Perm (l.map V.int)) : ∃ zs : List Int, zs.Perm l ∧ ys = zs.map V.int := by
  have h1 := h.map unI
  have e1 : (l.map V.int).map unI = l := by
    rw [List.map_map]
    exact List.map_id' _
  rw [e1] at h1
  refine ⟨ys.map unI, h1, ?_⟩
  rw [List.map_map]
  symm
  have : ∀ y ∈ ys, (V.int ∘ unI) y = y := fun y hy => by
    obtain ⟨z, _, rfl⟩ := List.mem_map.mp (h.mem_iff.mp hy)
    rfl
  rw [List.map_congr_left this, List.map_id']
theorem cut_take {xs : List V} {k : Int} (h : 0 ≤ k) : cutV xs none (some k) = xs.take k.toNat := by
  unfold cutV HT.sIx
  simp only [List.drop_zero, Nat.sub_zero]
  rw [if_neg (by omega)]
  by_cases q : k.toNat ≤ xs.length
  · rw [Nat.min_eq_left (by omega)]
  · rw [Nat.min_eq_right (by omega), List.take_length, List.take_of_length_le (by omega)]
end U
namespace U
open PySem L2
def six : List Str := ["soon", "rest", "past", "a", "queue", "z"]
def tri : List Str := ["again", "mixed", "b"]
/-- lanes and switches as they are drawn -/
structure Drawn (ls ss : List Str) : Prop where
  wd : ∀ z ∈ ls ++ ss, isWord z = true
  nd : (("now" : Str) :: (ls ++ ss)).Nodup
  l1 : 1 ≤ ls.length
  l3 : ls.length ≤ 3
  s2 : ss.length ≤ 2
theorem drawn_of {zs us : List Str} (h1 : zs.Perm six) (h2 : us.Perm tri) {i j : Nat} (hi1 : 1 ≤ i) (hi3 : i ≤ 3) (hj : j ≤ 2) : Drawn (zs.take i) (us.take j) := by
  have hz : zs.length = 6 := h1.length_eq
  have hu : us.length = 3 := h2.length_eq
  have sub : ((zs.take i) ++ (us.take j)).Sublist (zs ++ us) := (List.take_sublist _ _).append (List.take_sublist _ _)
  have hp : (zs ++ us).Perm (six ++ tri) := h1.append h2
  refine ⟨fun z hz => ?_, ?_, by rw [List.length_take]; omega, by rw [List.length_take]; omega, by rw [List.length_take]; omega⟩
  · have hm : z ∈ six ++ tri := hp.mem_iff.mp (sub.subset hz)
    have all : ∀ z ∈ six ++ tri, isWord z = true := by decide +kernel
    exact all z hm
  · have hp' : (("now" : Str) :: (zs ++ us)).Perm (("now" : Str) :: (six ++ tri)) := hp.cons _
    have nd : (("now" : Str) :: (six ++ tri)).Nodup := by decide +kernel
    exact List.Nodup.sublist (sub.cons_cons _) (hp'.nodup_iff.mpr nd)
section
variable {P : Program} {w : World} {K : PySem.W.Frag} {mg : Str → Option Value} {base : Heap}
abbrev s__law_lanes : Stmt := (top 35)
theorem sc__law_lanes : FnScope ["_law_box_here", "_law_names", "_law_switches"] ["_law_box_here"] (defScope s__law_lanes) := ⟨rfl, rfl, rfl, by decide +kernel, rfl, by decide +kernel, by decide +kernel⟩
def spLawLanes : Sp := fun vs H Q _ => ∃ (H0 : Hp) (β : BA) (c : Int), vs = [.ref β.b] ∧ Bx H0 H β c ∧ c ≤ 9000000 ∧
  ∀ (p l s : Addr) (ls ss : List Str) (H0' H' : Hp) (c' : Int), Drawn ls ss → H0' p = some (.tup [.ref l, .ref s]) → H0' l = some (.lst (ls.map V.str)) → H0' s = some (.lst (ss.map V.str)) → Ext (MB β) H0 H H0' H' → Bx H0' H' β c' → c' ≤ c + 20 → Q (.ref p) H'
theorem ok_lawlanes {f : Addr} {fd : FuncData} (F : Fun K "_law_lanes" "_law_lanes" s__law_lanes f fd) (T : Bl mg) (h__law_take : Has P w K mg base CX0 2 "_law_take" ["_law_box_here", "_law_size"] spTake) (h__law_shuffled : Has P w K mg base CX0 3 "_law_shuffled" ["_law_box_here", "_law_things"] (spShuf K)) :
    FnOk P w K mg base CX0 4 f fd ["_law_box_here"] spLawLanes := by
  have sc := sc__law_lanes
  refine F.ok sc (fun vs H Q E h => ?_) (fun cdv A outer s H vs Q E hr h => ?_)
  · obtain ⟨H0, β, c, rfl, _⟩ := h
    rfl
  · obtain ⟨H0, β, c, rfl, B, hc, q⟩ := h
    refine ⟨_, (pss_cons (ps_set (i := 1) sc.nd rfl (Or.inl rfl) (pe_h h__law_shuffled (hr.mono (by decide)) (by rfl) pass0 (pa_cons (pv 0) (pa_cons (pe_lst (pa_cons pe_str (pa_cons pe_str (pa_cons pe_str (pa_cons pe_str (pa_cons pe_str (pa_cons pe_str pa_nil))))))) pa_nil))))
 (pss_cons (ps_set (i := 2) sc.nd rfl (Or.inl rfl) (pe_slice sl_list (pe_h h__law_shuffled (hr.mono (by decide)) (by rfl) pass0 (pa_cons (pv 0) (pa_cons (pe_lst (pa_cons pe_str (pa_cons pe_str (pa_cons pe_str pa_nil)))) pa_nil))) po_none (po_some (pe_h h__law_take (hr.mono (by decide)) (by rfl) pass0 (pa_cons (pv 0) (pa_cons pe_int pa_nil))))))
 (pss_one (ps_ret (pe_tup (pa_cons (pe_slice sl_list (pv 1) po_none (po_some (pe_op op_add pe_int (pe_h h__law_take (hr.mono (by decide)) (by rfl) pass0 (pa_cons (pv 0) (pa_cons pe_int pa_nil)))))) (pa_cons (pv 2) pa_nil))))))), ?_⟩
    walk_at "kx"
    have e0 : Ext (MB β) H0 H H0 H := Ext.refl B.sub
    walk_at "rd"
    rename_i p1 hp1
    have B1 := B.lay (o := .lst (six.map V.str)) hp1
    have e1 := e0.lay' (o := .lst (six.map V.str)) hp1
    refine ⟨_, β, p1, c, six.map V.str, rfl, B1, ?_, SqL.of upd_same, by decide, fun p2 ys H2 H2' hperm hp2 e2 B2 => ?_⟩
    · have : (six.map V.str).length = 6 := rfl
      omega
    have l6 : (six.map V.str).length = 6 := rfl
    rw [l6] at B2
    obtain ⟨zs, hzs, rfl⟩ := perm_strs hperm
    have e2' := e1.trans e2
    walk_at "rd"
    rename_i p3 hp3
    have B3 := B2.lay (o := .lst (tri.map V.str)) hp3
    have e3 := e2'.lay' (o := .lst (tri.map V.str)) hp3
    refine ⟨_, β, p3, _, tri.map V.str, rfl, B3, ?_, SqL.of upd_same, by decide, fun p4 us H4 H4' hperm4 hp4 e4 B4 => ?_⟩
    · have : (tri.map V.str).length = 3 := rfl
      omega
    have l3 : (tri.map V.str).length = 3 := rfl
    rw [l3] at B4
    obtain ⟨ws, hws, rfl⟩ := perm_strs hperm4
    have e4' := e3.trans e4
    walk_at "rd"
    refine ⟨_, β, _, 3, rfl, B4, by omega, by decide, by decide, fun r H5 r0 r1 e5 B5 => ?_⟩
    have e5' := e4'.trans e5
    have hp4' := B5.sub _ _ hp4
    walk_at "rd"
    refine ⟨p4, _, rfl, SqL.of hp4', fun p6 hp6 => ?_⟩
    rw [cut_take r0, ← List.map_take]
    have B6 := B5.lay (o := .lst ((ws.take r.toNat).map V.str)) hp6
    have e6 := e5'.lay' (o := .lst ((ws.take r.toNat).map V.str)) hp6
    walk_at "rd"
    refine ⟨_, β, _, 3, rfl, B6, by omega, by decide, by decide, fun r2 H7 r20 r21 e7 B7 => ?_⟩
    have e7' := e6.trans e7
    have n46 : p4 ≠ p6 := ne_none hp6 hp4'
    have hz7 : H7 p2 = some (.lst (zs.map V.str)) := e7.sub _ _ (((Same.new (o := .lst (tri.map V.str)) (B2.sub.free hp3)).trans (e4.same.trans (e5.same.trans (Same.new (o := .lst ((ws.take r.toNat).map V.str)) (B5.sub.free hp6))))) _ _ hp2)
    walk_at "rd"
    refine ⟨p2, _, rfl, SqL.of hz7, fun p8 hp8 => ?_⟩
    rw [cut_take (by omega), ← List.map_take]
    have B8 := B7.lay (o := .lst ((zs.take (1 + r2).toNat).map V.str)) hp8
    have e8 := e7'.lay' (o := .lst ((zs.take (1 + r2).toNat).map V.str)) hp8
    walk_at "rd"
    rename_i p9 hp9
    have B9 := B8.lay (o := .tup [V.ref p8, V.ref p6]) hp9
    have e9 := e8.lay' (o := .tup [V.ref p8, V.ref p6]) hp9
    have dr := drawn_of hzs hws (i := (1 + r2).toNat) (j := r.toNat) (by omega) (by omega) (by omega)
    have n89 : p8 ≠ p9 := ne_none (B8.sub.free hp9) upd_same
    have h6 : upd H4 p6 (.lst ((ws.take r.toNat).map V.str)) p6 = some (.lst ((ws.take r.toNat).map V.str)) := upd_same
    have n68 : p6 ≠ p8 := ne_none (B7.sub.free hp8) h6
    have n69 : p6 ≠ p9 := ne_none (B8.sub.free hp9) (by rw [upd_ne n68]; exact h6)
    exact q p9 p8 p6 _ _ _ _ _ dr upd_same (by rw [upd_ne n89]; exact upd_same) (by rw [upd_ne n69, upd_ne n68]; exact upd_same) e9 B9 (by omega)
end
end U
namespace U
open PySem L2
/-- all that is new stands still from now on -/
def frz (H Hz H' : Hp) : Hp := fun a => match H a with
  | none => H' a
  | some _ => Hz a
theorem frz_new {H Hz H' : Hp} {a : Addr} (h : H a = none) : frz H Hz H' a = H' a := by unfold frz; rw [h]
theorem frz_old {H Hz H' : Hp} {a : Addr} (h : H a ≠ none) : frz H Hz H' a = Hz a := by
  unfold frz
  cases e : H a with
  | none => exact absurd e h
  | some o => rfl
theorem frz_sub {M : Addr → Prop} {H0 H Hz H' : Hp} (e : Ext M H0 H Hz H') : Same Hz (frz H Hz H') := fun a o z => by
  by_cases h : H a = none
  · rw [frz_new h]; exact e.sub a o z
  · rw [frz_old h]; exact z
theorem frz_in {M : Addr → Prop} {H0 H Hz H' : Hp} (e : Ext M H0 H Hz H') : Same (frz H Hz H') H' := fun a o z => by
  by_cases h : H a = none
  · rw [frz_new h] at z; exact z
  · rw [frz_old h] at z; exact e.sub a o z
theorem Ext.frz {M : Addr → Prop} {H0 H Hz H' : Hp} (e : Ext M H0 H Hz H') : Ext M H0 H (U.frz H Hz H') H' :=
  ⟨e.same.trans (frz_sub e), fun a o z => by
    by_cases h : H a = none
    · exact .inr h
    · rw [frz_old h] at z; exact e.new a o z, e.keep, e.live, frz_in e⟩
theorem Bx.frz {M : Addr → Prop} {H0 H Hz H' : Hp} {β : BA} {c c0 : Int} (B : Bx Hz H' β c) (e : Ext M H0 H Hz H') (B0 : Bx H0 H β c0) : Bx (U.frz H Hz H') H' β c :=
  B.more (frz_sub e) (frz_in e) (by rw [frz_old B0.bs]; exact B.b0) (by rw [frz_old B0.gs]; exact B.g0)
theorem lists_get {H : Hp} : ∀ {ads : List Addr} {xss : List (List V)} {j : Nat} {a : Addr}, Lists H ads xss → ads[j]? = some a → ∃ x, xss[j]? = some x ∧ H a = some (.lst x)
  | [], _, _, _, _, e => by simp at e
  | b :: as, x :: xs, 0, a, h, e => by
    cases e
    exact ⟨x, rfl, h.1⟩
  | b :: as, x :: xs, j + 1, a, h, e => by
    obtain ⟨y, h1, h2⟩ := lists_get (j := j) h.2 (by simpa using e)
    exact ⟨y, by simpa using h1, h2⟩
  | _ :: _, [], _, _, h, _ => h.elim
theorem lists_set {H : Hp} {y : List V} : ∀ {ads : List Addr} {xss : List (List V)} {j : Nat} {a : Addr}, Lists H ads xss → ads.Nodup → ads[j]? = some a → Lists (upd H a (.lst y)) ads (xss.set j y)
  | [], _, _, _, _, _, e => by simp at e
  | b :: as, x :: xs, 0, a, h, nd, e => by
    cases e
    rw [List.nodup_cons] at nd
    exact ⟨upd_same, lists_put h.2 fun c hc z => nd.1 (z ▸ hc)⟩
  | b :: as, x :: xs, j + 1, a, h, nd, e => by
    rw [List.nodup_cons] at nd
    have e' : as[j]? = some a := by simpa using e
    refine ⟨?_, lists_set h.2 nd.2 e'⟩
    have hm : a ∈ as := List.mem_of_getElem? e'
    rw [upd_ne (show b ≠ a from fun z => nd.1 (by rw [z]; exact hm))]
    exact h.1
  | _ :: _, [], _, _, h, _, _ => h.elim
theorem lists_keep {H H' : Hp} : ∀ {ads : List Addr} {xss : List (List V)}, (∀ a ∈ ads, ∀ o, H a = some o → H' a = some o) → Lists H ads xss → Lists H' ads xss
  | [], [], _, _ => trivial
  | a :: as, x :: xs, k, h => ⟨k a (List.mem_cons_self ..) _ h.1, lists_keep (fun b hb => k b (List.mem_cons_of_mem _ hb)) h.2⟩
  | [], _ :: _, _, h => h.elim
  | _ :: _, [], _, h => h.elim
theorem lists_nils {H : Hp} : ∀ {ads : List Addr}, (∀ a ∈ ads, H a = some (.lst [])) → Lists H ads (ads.map fun _ => [])
  | [], _ => trivial
  | a :: as, h => ⟨h a (List.mem_cons_self ..), lists_nils fun b hb => h b (List.mem_cons_of_mem _ hb)⟩
/-- tuples xss at ts -/
def Tups (H : Hp) : List Addr → List (List V) → Prop
  | [], [] => True
  | a :: as, x :: xs => H a = some (.tup x) ∧ Tups H as xs
  | _, _ => False
theorem tups_keep {H H' : Hp} : ∀ {ads : List Addr} {xss : List (List V)}, (∀ a ∈ ads, ∀ o, H a = some o → H' a = some o) → Tups H ads xss → Tups H' ads xss
  | [], [], _, _ => trivial
  | a :: as, x :: xs, k, h => ⟨k a (List.mem_cons_self ..) _ h.1, tups_keep (fun b hb => k b (List.mem_cons_of_mem _ hb)) h.2⟩
  | [], _ :: _, _, h => h.elim
  | _ :: _, [], _, h => h.elim
theorem tups_more {H : Hp} {b : Addr} {y : List V} (hb : H b = some (.tup y)) : ∀ {ads : List Addr} {xss : List (List V)}, Tups H ads xss → Tups H (ads ++ [b]) (xss ++ [y])
  | [], [], _ => ⟨hb, trivial⟩
  | a :: as, x :: xs, h => ⟨h.1, tups_more hb h.2⟩
  | [], _ :: _, h => h.elim
  | _ :: _, [], h => h.elim
theorem tups_len {H : Hp} : ∀ {ads : List Addr} {xss : List (List V)}, Tups H ads xss → xss.length = ads.length
  | [], [], _ => rfl
  | a :: as, x :: xs, h => by rw [List.length_cons, List.length_cons, tups_len h.2]
  | [], _ :: _, h => h.elim
  | _ :: _, [], h => h.elim
theorem ints_dp {K : PySem.W.Frag} {H : Hp} : ∀ r : List Int, DpAll K H (r.map V.int) (r.map .int)
  | [] => .nil
  | n :: r => .cons (.int n) (ints_dp r)
theorem tups_dp {K : PySem.W.Frag} {H : Hp} : ∀ {ts : List Addr} {rss : List (List Int)}, Tups H ts (rss.map (List.map V.int)) → DpAll K H (ts.map V.ref) (rss.map rowD)
  | [], [], _ => .nil
  | t :: ts, r :: rss, h => .cons (.tup (SqT.of h.1) (ints_dp r)) (tups_dp h.2)
  | [], _ :: _, h => h.elim
  | _ :: _, [], h => h.elim
/-- a stand as data -/
def standD (n : Int) (rss : List (List Int)) (lts : List Int) : PyData := .tuple [.int n, .tuple (rss.map rowD), .tuple (lts.map .int)]
section
variable {P : Program} {w : World} {K : PySem.W.Frag} {mg : Str → Option Value} {base : Heap}
abbrev s__law_drawn_stand : Stmt := (top 36)
theorem sc__law_drawn_stand : FnScope ["_law_box_here", "_law_lanes_here", "_law_switches", "_law_many", "_law_now", "_law_rows", "_law_lane", "_law_piece", "_law_place", "_law_lights", "_law_switch", "_law_row"] ["_law_box_here", "_law_lanes_here", "_law_switches", "_law_many"] (defScope s__law_drawn_stand) := ⟨rfl, rfl, rfl, by decide +kernel, rfl, by decide +kernel, by decide +kernel⟩
def spDrawn (K : PySem.W.Frag) : Sp := fun vs H Q _ => ∃ (H0 : Hp) (β : BA) (c many : Int) (al as : Addr) (xs ys : List V), vs = [.ref β.b, .ref al, .ref as, .int many] ∧ Bx H0 H β c ∧ c ≤ 9000000 ∧ 0 ≤ many ∧ many ≤ 3 ∧ SqL K H0 al xs ∧ SqL K H0 as ys ∧ xs.length ≤ 3 ∧ ys.length ≤ 2 ∧
  ∀ (v : V) (n : Int) (rss : List (List Int)) (lts : List Int) (H0' H' : Hp) (c' : Int), rss.length = xs.length → lts.length = ys.length → (∀ r ∈ rss, r.length ≤ 3) → Dp K H0' v (standD n rss lts) → Ext (MB β) H0 H H0' H' → Bx H0' H' β c' → c' ≤ c + 20 → Q v H'
theorem ok_drawn {f : Addr} {fd : FuncData} (F : Fun K "_law_drawn_stand" "_law_drawn_stand" s__law_drawn_stand f fd) (T : Bl mg) (h__law_take : Has P w K mg base CX0 2 "_law_take" ["_law_box_here", "_law_size"] spTake) (h__law_shuffled : Has P w K mg base CX0 3 "_law_shuffled" ["_law_box_here", "_law_things"] (spShuf K)) :
    FnOk P w K mg base CX0 4 f fd ["_law_box_here", "_law_lanes_here", "_law_switches", "_law_many"] (spDrawn K) := by
  have sc := sc__law_drawn_stand
  refine F.ok sc (fun vs H Q E h => ?_) (fun cdv A outer s H vs Q E hr h => ?_)
  · obtain ⟨H0, β, c, many, al, as, xs, ys, rfl, _⟩ := h
    rfl
  · obtain ⟨H0, β, c, many, al, as, xs, ys, rfl, B, hc, hm0, hm3, hal, has, hx3, hy2, q⟩ := h
    refine ⟨_, (pss_cons (ps_par (by rfl) sc.nd (i := 4) (j := 5) rfl rfl (by decide) rfl rfl (pa_cons (pe_op op_add (pe_un un_neg pe_int) (pe_h h__law_take (hr.mono (by decide)) (by rfl) pass0 (pa_cons (pv 0) (pa_cons pe_int pa_nil)))) (pa_cons (pe_lcD (own := [("_law_lane", 6)])   (by rfl) sc.nd (pi_list (pv 1)) (blkOk_by (by kernel_rfl)) (fun _ _ _ _ _ => (pg_name (i := 6) sc.nd rfl (Or.inl rfl))) (fun _ _ _ _ _ => pts_nil) (fun _ _ _ _ _ => (pe_lst pa_nil))) pa_nil)) (by rfl))
 (pss_cons (ps_for PassesOwn.never rfl (pi_list (pe_h h__law_shuffled (hr.mono (by decide)) (by rfl) pass0 (pa_cons (pv 0) (pa_cons (pe_listRg (by rfl) (by rfl) T.b_list (prg_1 (by rfl) T.b_range (pv 3))) pa_nil)))) (pg_name (i := 7) sc.nd rfl (Or.inl rfl))
  (pss_cons (ps_set (i := 8) sc.nd rfl (Or.inl rfl) (pe_h h__law_take (hr.mono (by decide)) (by rfl) pass0 (pa_cons (pv 0) (pa_cons (pe_op op_add (pe_callB call_len (by rfl) T.b_len bb_len (pa_cons (pv 1) pa_nil)) pe_int) pa_nil))))
 (pss_one (ps_if (pt_cmpR op_lt (pv 8) (pe_callB call_len (by rfl) T.b_len bb_len (pa_cons (pv 1) pa_nil)) (nomark _))
  (pss_one (ps_expr (pe_bm PySem.F.plainAttrs_list PySem.F.slot_list_append PySem.F.type_list_append mt_append (pe_ix ix_list (pv 5) (pv 8) (fun _ _ => rfl)) (pa_cons (pv 7) pa_nil))))
  (pss_one (ps_if (PW.pt (pw_and (pt_cmpR op_eq (pv 8) (pe_callB call_len (by rfl) T.b_len bb_len (pa_cons (pv 1) pa_nil)) (nomark _)) (pw_and1 (pt_cmpR op_lt (pv 4) pe_int (nomark _)))))
  (pss_one (ps_set (i := 4) sc.nd rfl (Or.inl rfl) (pv 7)))
  pss_nil))))))
 (pss_cons (ps_setLcD (i := 9) (own := [("_law_switch", 10)])   (by rfl) sc.nd rfl rfl (sw_true rfl rfl rfl (by decide +kernel)) (pi_list (pv 2)) (blkOk_by (by kernel_rfl)) (fun _ _ _ _ _ => (pg_name (i := 10) sc.nd rfl (Or.inl rfl))) (fun _ _ _ _ _ => pts_nil) (fun _ _ _ _ _ => (pe_h h__law_take (hr.mono (by decide)) (by rfl) pass0 (pa_cons (pv 0) (pa_cons pe_int pa_nil)))))
 (pss_one (ps_ret (pe_tup (pa_cons (pv 4) (pa_cons (pe_callTy call_tuple_of (by rfl) T.b_tuple bb_tuple (pa_cons (pe_lcD (own := [("_law_row", 11)])   (by rfl) sc.nd (pi_list (pv 5)) (blkOk_by (by kernel_rfl)) (fun _ _ _ _ _ => (pg_name (i := 11) sc.nd rfl (Or.inl rfl))) (fun _ _ _ _ _ => pts_nil) (fun _ _ _ _ _ => (pe_callTy call_tuple_of (by rfl) T.b_tuple bb_tuple (pa_cons (pv 11) pa_nil)))) pa_nil)) (pa_cons (pe_callTy call_tuple_of (by rfl) T.b_tuple bb_tuple (pa_cons (pv 9) pa_nil)) pa_nil))))))))), ?_⟩
    walk_at "kx"
    walk_at "rd"
    refine ⟨_, β, c, 2, rfl, B, by omega, by decide, by decide, fun r H1 r0 r1 e1 B1 => ?_⟩
    walk_at "rd"
    refine ⟨⟨_, SqL.up hal B1.sub⟩, fun R hR => ?_⟩
    have hR0 : H R = none := e1.live R hR
    refine lc_it (walk_list (xs := xs)) (fun i H' => Same H1 H' ∧ ∃ ads : List Addr, H' R = some (.lst (ads.map V.ref)) ∧ ads.length = i ∧ ads.Nodup ∧ ∀ a ∈ ads, a ≠ R ∧ H1 a = none ∧ H' a = some (.lst [])) ⟨Same.new hR, [], upd_same, rfl, List.nodup_nil, fun a ha => absurd ha (by simp)⟩ (fun i H' _ z => SqL.up (SqL.up hal B1.sub) z.1) (fun i x H' H'' hi z y => ?_) (fun H2 z => ?_)
    · obtain ⟨sz, ads, hR', hlen, hnd, hads⟩ := z
      obtain ⟨rfl, y⟩ := y
      walk_at "rd"
      rename_i l hl
      have nRl : R ≠ l := ne_none hl hR'
      refine ⟨_, by walk_at "hp", small_lt (by rw [List.length_map]; omega), Same.upd0 (sz.trans (Same.new hl)) hR, ads ++ [l], ?_, by rw [List.length_append, hlen]; rfl, ?_, fun a ha => ?_⟩
      · rw [List.map_append]
        exact upd_same
      · rw [List.nodup_append]
        refine ⟨hnd, by simp, fun a ha b hb => ?_⟩
        rw [List.mem_singleton.mp hb]
        exact ne_none hl (hads a ha).2.2
      · rcases List.mem_append.mp ha with k | k
        · obtain ⟨k1, k2, k3⟩ := hads a k
          exact ⟨k1, k2, by rw [upd_ne k1, upd_ne (ne_none hl k3)]; exact k3⟩
        · rw [List.mem_singleton.mp k]
          exact ⟨nRl.symm, sz.free hl, by rw [upd_ne nRl.symm]; exact upd_same⟩
    · obtain ⟨s2, ads, hR2, hlen, hnd, hads⟩ := z
      have B2 := B1.pass s2
      have e2 := e1.pass' s2
      have nM : ∀ a, H1 a = none → ¬ MB β a := fun a h z => z.elim (B1.nb h) (B1.ng h)
      have hH : ∀ a, H1 a = none → H a = none := fun a h => e1.live a h
      walk_at "rd"
      have hlr : (rgV 0 many).length ≤ 3 := by rw [rgV_length]; omega
      rename_i Lr hLr
      have B3 := B2.lay (o := .lst (rgV 0 many)) hLr
      have e3 := e2.lay' (o := .lst (rgV 0 many)) hLr
      refine ⟨_, β, Lr, _, rgV 0 many, rfl, B3, by omega, SqL.of upd_same, by omega, fun Ls zs Hz H4 hperm hLs e4 B4 => ?_⟩
      have erg : rgV 0 many = ((List.range (many - 0).toNat).map fun i => (0 : Int) + (i : Nat)).map V.int := by unfold rgV; rw [List.map_map]; rfl
      rw [erg] at hperm
      obtain ⟨ns, hns, rfl⟩ := perm_ints hperm
      have hn3 : ns.length ≤ 3 := by
        rw [hns.length_eq, List.length_map, List.length_range]
        omega
      have e4' := e3.trans e4
      have alive : ∀ a, a = R ∨ a ∈ ads → H1 a = none ∧ H2 a ≠ none := fun a h => by
        rcases h with h | h
        · rw [h]; exact ⟨hR, by rw [hR2]; exact fun z => nomatch z⟩
        · obtain ⟨_, k2, k3⟩ := hads a h
          exact ⟨k2, by rw [k3]; exact fun z => nomatch z⟩
      have zoff : ∀ a, a = R ∨ a ∈ ads → Hz a = none := fun a h => by
        obtain ⟨k1, k2⟩ := alive a h
        have nL : a ≠ Lr := fun z => k2 (z ▸ hLr)
        refine e4.off ?_ ?_
        · rw [upd_ne nL]
          exact B.sub.free (hH a k1)
        · rw [upd_ne nL]
          exact k2
      have up4 : ∀ a o, a = R ∨ a ∈ ads → H2 a = some o → H4 a = some o := fun a o h z => by
        obtain ⟨k1, k2⟩ := alive a h
        have nL : a ≠ Lr := fun z => k2 (z ▸ hLr)
        exact e4.keep a o (nM a k1) (by rw [upd_ne nL]; exact z)
      have hR4 := up4 R _ (.inl rfl) hR2
      have hA4 : Lists H4 ads (ads.map fun _ => []) := lists_nils fun a ha => up4 a _ (.inr ha) (hads a ha).2.2
      have hA4' : Lists H4 ads ((ads.map fun _ => ([] : List Int)).map (List.map V.int)) := by
        rw [List.map_map]
        exact hA4
      refine ⟨Ls, rfl, ⟨_, SqL.of (B4.sub _ _ hLs)⟩, for_it (walk_list (xs := ns.map V.int)) (fun i σ H' => ∃ (now c' : Int) (rss : List (List Int)) (o1 o2 : Option V), Ext (MB β) H0 H Hz H' ∧ σ = [some (.ref β.b), some (.ref al), some (.ref as), some (.int many), some (.int now), some (.ref R), none, o1, o2, none, none, none] ∧
        Lists H' ads (rss.map (List.map V.int)) ∧ rss.length = ads.length ∧ (∀ r ∈ rss, r.length ≤ i) ∧ H' R = some (.lst (ads.map V.ref)) ∧ Bx Hz H' β c' ∧ c' ≤ c + 1 + 3 + i)
        ⟨-2 + r, _, ads.map fun _ => [], none, none, e4', rfl, hA4', by rw [List.length_map], fun r hr => ?_, hR4, B4, by omega⟩ (fun i σ H' _ z => ?_) (fun i x σ H' H'' hi z y => ?_) (fun σ H' z => ?_)⟩
      · obtain ⟨_, _, rfl⟩ := List.mem_map.mp hr
        exact Nat.zero_le _
      · obtain ⟨_, _, _, _, _, _, _, _, _, _, _, B', _⟩ := z
        exact SqL.of (B'.sub _ _ hLs)
      · obtain ⟨now, c', rss, o1, o2, e', rfl, hls, hrl, hri, hR', B', hc'⟩ := z
        obtain ⟨rfl, y⟩ := y
        obtain ⟨x, hx, rfl⟩ := int_at y
        rw [List.length_map] at hi
        have hal' := SqL.up hal (e'.same.trans B'.sub)
        walk_at "rd"
        refine ⟨_, β, _, _, rfl, B', by omega, by omega, by omega, fun pl H5 p0 p1 e5 B5 => ?_⟩
        have e5' := e'.trans e5
        have hR5 := e5.keep R _ (nM R hR) hR'
        have hls5 := lists_keep (H' := H5) (fun a ha o z => e5.keep a o (nM a (hads a ha).2.1) z) hls
        have hal5 := SqL.up hal (e5'.same.trans B5.sub)
        walk_at "rd"
        refine iteD (fun c1 => ?_) (fun c1 => ?_)
        · walk_at "rd"
          have hj : pl.toNat < ads.length := by omega
          have haj : ads[pl.toNat]? = some ads[pl.toNat] := List.getElem?_eq_getElem hj
          generalize ads[pl.toNat] = a at haj
          have ham : a ∈ ads := List.mem_of_getElem? haj
          obtain ⟨xr, hx1, hx2⟩ := lists_get hls5 haj
          rw [List.getElem?_map] at hx1
          cases erj : rss[pl.toNat]? with
          | none => rw [erj] at hx1; cases hx1
          | some rj =>
            rw [erj] at hx1
            cases hx1
            have hrj := hri rj (List.mem_of_getElem? erj)
            obtain ⟨naR, na1, _⟩ := hads a ham
            refine ⟨R, _, pl, .ref a, rfl, rfl, SqL.of hR5, at_of (j := pl.toNat) (by omega) (by rw [List.getElem?_map, haj]; rfl), ?_⟩
            walk_at "rd"
            refine ⟨a, _, _, rfl, rfl, hx2, small_lt (by rw [List.length_map]; omega), ?_⟩
            refine ⟨now, _, rss.set pl.toNat (rj ++ [x]), _, _, e5'.put (zoff a (.inr ham)) (hH a na1), rfl, ?_, by rw [List.length_set]; exact hrl, fun r hr => ?_, by rw [upd_ne naR.symm]; exact hR5, B5.put (zoff a (.inr ham)) (B1.nb na1) (B1.ng na1), by omega⟩
            · rw [List.map_set]
              have := lists_set (y := rj.map V.int ++ [V.int x]) hls5 hnd haj
              rw [List.map_append]
              exact this
            · rcases List.mem_or_eq_of_mem_set hr with k | k
              · have := hri r k
                omega
              · rw [k, List.length_append, List.length_singleton]
                omega
        · walk_at "rd"
          have keepIt : ∀ now' : Int, ∃ (now c' : Int) (rss : List (List Int)) (o1 o2 : Option V), Ext (MB β) H0 H Hz H5 ∧ [some (V.ref β.b), some (.ref al), some (.ref as), some (.int many), some (.int now'), some (.ref R), none, some (.int x), some (.int pl), none, none, none] = [some (.ref β.b), some (.ref al), some (.ref as), some (.int many), some (.int now), some (.ref R), none, o1, o2, none, none, none] ∧
              Lists H5 ads (rss.map (List.map V.int)) ∧ rss.length = ads.length ∧ (∀ r ∈ rss, r.length ≤ i + 1) ∧ H5 R = some (.lst (ads.map V.ref)) ∧ Bx Hz H5 β c' ∧ c' ≤ c + 1 + 3 + ((i + 1 : Nat) : Int) := fun now' =>
            ⟨now', _, rss, _, _, e5', rfl, hls5, hrl, fun r hr => Nat.le_succ_of_le (hri r hr), hR5, B5, by omega⟩
          refine iteI (fun c2 => ?_) (fun c2 => ?_)
          · walk_at "rd"
            refine iteD (fun c3 => ?_) (fun c3 => ?_)
            · walk_at "rd"
              exact keepIt x
            · exact keepIt now
          · exact keepIt now
      · obtain ⟨now, c', rss, o1, o2, e', rfl, hls, hrl, hri, hR', B', hc'⟩ := z
        rw [List.length_map] at hri hc'
        walk_at "rd"
        have has' := SqL.up has (e'.same.trans B'.sub)
        refine ⟨⟨_, has'⟩, fun D hD => ?_⟩
        have D0 : H D = none := e'.live D hD
        have zD : Hz D = none := B'.sub.free hD
        have nDM : ¬ MB β D := fun z => z.elim (B'.nb hD) (B'.ng hD)
        have nRD : R ≠ D := ne_none hD hR'
        have nAD : ∀ a ∈ ads, a ≠ D := fun a ha => by
          obtain ⟨j, hj, ej⟩ := List.getElem_of_mem ha
          obtain ⟨x, _, hx⟩ := lists_get hls (show ads[j]? = some a by rw [List.getElem?_eq_getElem hj, ej])
          exact ne_none hD hx
        refine lc_it (walk_list (xs := ys)) (fun i H'' => ∃ (lts : List Int) (c'' : Int), Ext (MB β) H0 H Hz H'' ∧ H'' D = some (.lst (lts.map V.int)) ∧ lts.length = i ∧ Lists H'' ads (rss.map (List.map V.int)) ∧ H'' R = some (.lst (ads.map V.ref)) ∧ Bx Hz H'' β c'' ∧ c'' ≤ c' + i)
          ⟨[], c', e'.put zD D0, upd_same, rfl, lists_put hls nAD, by rw [upd_ne nRD]; exact hR', B'.put zD (B'.nb hD) (B'.ng hD), by omega⟩ (fun i H'' _ z => ?_) (fun i x Ha Hb hi z y => ?_) (fun H6 z => ?_)
        · obtain ⟨_, _, e6, _, _, _, _, B6, _⟩ := z
          exact SqL.up has (e6.same.trans B6.sub)
        · obtain ⟨lts, c6, e6, hD6, hl6, hls6, hR6, B6, hc6⟩ := z
          obtain ⟨rfl, y⟩ := y
          walk_at "rd"
          refine ⟨_, β, c6, 2, rfl, B6, by omega, by decide, by decide, fun t H7 t0 t1 e7 B7 => ?_⟩
          refine ⟨_, e7.keep D _ nDM hD6, small_lt (by rw [List.length_map]; omega), lts ++ [t], c6 + 1, (e6.trans e7).put zD D0, ?_, by rw [List.length_append, hl6]; rfl, lists_put (lists_keep (fun a ha o z => e7.keep a o (nM a (hads a ha).2.1) z) hls6) nAD, by rw [upd_ne nRD]; exact e7.keep R _ (nM R hR) hR6, B7.put zD (B'.nb hD) (B'.ng hD), by omega⟩
          rw [List.map_append]
          exact upd_same
        · obtain ⟨lts, c6, e6, hD6, hl6, hls6, hR6, B6, hc6⟩ := z
          walk_at "rd"
          refine ⟨⟨_, SqL.of hR6⟩, fun D2 hD2 => ?_⟩
          refine lc_it (walk_list (xs := ads.map V.ref)) (fun i H'' => Same H6 H'' ∧ ∃ ts : List Addr, H'' D2 = some (.lst (ts.map V.ref)) ∧ ts.length = i ∧ (∀ t ∈ ts, t ≠ D2 ∧ H6 t = none) ∧ Tups H'' ts ((rss.take i).map (List.map V.int))) ⟨Same.new hD2, [], upd_same, rfl, fun t ht => absurd ht (by simp), trivial⟩ (fun i H'' _ z => SqL.of (z.1 _ _ hR6)) (fun i x Ha Hb hi z y => ?_) (fun H7 z => ?_)
          · obtain ⟨s7, ts, hD7, hlt, htn, htu⟩ := z
            obtain ⟨rfl, y⟩ := y
            rw [List.getElem?_map] at y
            cases ea : ads[i]? with
            | none => rw [ea] at y; cases y
            | some a =>
              rw [ea] at y
              cases y
              obtain ⟨xr, hx1, hx2⟩ := lists_get hls6 ea
              rw [List.getElem?_map] at hx1
              cases er : rss[i]? with
              | none => rw [er] at hx1; cases hx1
              | some rj =>
                rw [er] at hx1
                cases hx1
                walk_at "rd"
                refine ⟨a, _, rfl, .inl ⟨SqL.of (s7 _ _ hx2), fun l hl => ?_⟩⟩
                have nDl : D2 ≠ l := ne_none hl hD7
                rw [List.length_map] at hi
                refine ⟨_, by walk_at "hp", small_lt (by rw [List.length_map]; omega), Same.upd0 (s7.trans (Same.new hl)) hD2, ts ++ [l], ?_, by rw [List.length_append, hlt]; rfl, fun t ht => ?_, ?_⟩
                · rw [List.map_append]
                  exact upd_same
                · rcases List.mem_append.mp ht with k | k
                  · exact htn t k
                  · rw [List.mem_singleton.mp k]
                    exact ⟨nDl.symm, s7.free hl⟩
                · rw [take_more er, List.map_append]
                  refine tups_more (by rw [upd_ne nDl.symm]; exact upd_same) (tups_keep (fun t ht o z => ?_) htu)
                  rw [upd_ne (htn t ht).1, upd_ne (ne_none hl z)]
                  exact z
          · obtain ⟨s7, ts, hD7, hlt, htn, htu⟩ := z
            rw [List.length_map, ← hrl, List.take_length] at htu
            walk_at "rd"
            refine ⟨D2, _, rfl, .inl ⟨SqL.of hD7, fun t1 ht1 => ?_⟩⟩
            walk_at "rd"
            have hD8 : upd H7 t1 (.tup (ts.map V.ref)) D = some (.lst (lts.map V.int)) := (s7.trans (Same.new ht1)) _ _ hD6
            refine ⟨D, _, rfl, .inl ⟨SqL.of hD8, fun t2 ht2 => ?_⟩⟩
            walk_at "rd"
            rename_i p hp
            have s8 := s7.trans ((Same.new (o := .tup (ts.map V.ref)) ht1).trans ((Same.new (o := .tup (lts.map V.int)) ht2).trans (Same.new (o := .tup [V.int now, V.ref t1, V.ref t2]) hp)))
            have e8 := e6.pass' s8
            have B8 := B6.pass s8
            have n12 : t1 ≠ t2 := ne_none ht2 upd_same
            have n1p : t1 ≠ p := ne_none hp (by rw [upd_ne n12]; exact upd_same)
            have n2p : t2 ≠ p := ne_none hp upd_same
            have ft1 : H t1 = none := e6.live _ (s7.free ht1)
            have ft2 : H t2 = none := e6.live _ (s7.free ((Same.new (o := .tup (ts.map V.ref)) ht1).free ht2))
            have fp : H p = none := e6.live _ (s7.free ((Same.new (o := .tup (ts.map V.ref)) ht1).free ((Same.new (o := .tup (lts.map V.int)) ht2).free hp)))
            refine q (.ref p) now rss lts _ _ _ (by omega) (by omega) (fun r hr => Nat.le_trans (hri r hr) hn3) ?_ e8.frz (B8.frz e8 B) (by omega)
            refine .tup (SqT.of ((frz_new fp).trans upd_same)) (.cons (.int now) (.cons (.tup (SqT.of ((frz_new ft1).trans (by rw [upd_ne n1p, upd_ne n12]; exact upd_same))) (tups_dp (tups_keep (fun t ht o z => ?_) htu))) (.cons (.tup (SqT.of ((frz_new ft2).trans (by rw [upd_ne n2p]; exact upd_same))) (ints_dp lts)) .nil)))
            rw [frz_new (e6.live _ (htn t ht).2)]
            exact ((Same.new (o := .tup (ts.map V.ref)) ht1).trans ((Same.new (o := .tup (lts.map V.int)) ht2).trans (Same.new (o := .tup [V.int now, V.ref t1, V.ref t2]) hp))) _ _ z
end
end U
namespace U
open PySem L2
/-- new things alone -/
abbrev Gr (Hz H Hz' H' : Hp) : Prop := Ext (fun _ => False) Hz H Hz' H'
section
variable {X : Cx}
def rCatG (K : PySem.W.Frag) : R2 := fun x y H Q => ∃ (Hz : Hp) (a b : Addr) (xs ys : List V), x = .ref a ∧ y = .ref b ∧ Same Hz H ∧ SqT K Hz a xs ∧ SqT K Hz b ys ∧ xs.length + ys.length ≤ 1000000 ∧ ∀ (l : Addr) (Hz' H' : Hp), Gr Hz H Hz' H' → SqT K Hz' l (xs ++ ys) → Q (.ref l) H'
theorem op_catG : OpR X (binaryOp .Add) (rCatG X.K) := by
  refine OpR.imp op_catA fun x y H Q ⟨Hz, a, b, xs, ys, ex, ey, s, ha, hb, hl, q⟩ => ⟨a, b, xs, ys, ex, ey, SqT.up ha s, SqT.up hb s, small_le hl, fun e => ?_, fun e1 e2 => ?_, fun e1 e2 p hp => ?_⟩
  · subst e
    exact q b Hz H (Ext.refl s) hb
  · subst e2
    exact q a Hz H (Ext.refl s) (by rw [List.append_nil]; exact ha)
  · exact q p _ _ (Ext.lay s hp) (SqT.of upd_same)
theorem SlR.imp {r r' : V → Option Int → Option Int → Hp → VK → Prop} (h : SlR X r) (i : ∀ x lo hi H Q, r' x lo hi H Q → r x lo hi H Q) : SlR X r' :=
  fun pins s σ H x v vl vu lo hi sl Q I rx hs pl pu q => h pins s σ H x v vl vu lo hi sl Q I rx hs pl pu (i _ _ _ _ _ q)
theorem cut_all {xs : List V} {lo hi : Option Int} (h : HT.sIx xs.length 0 lo = 0 ∧ HT.sIx xs.length xs.length hi = xs.length) : cutV xs lo hi = xs := by
  unfold cutV
  rw [h.1, h.2, List.drop_zero, Nat.sub_zero, List.take_length]
def rSlG (K : PySem.W.Frag) : V → Option Int → Option Int → Hp → VK → Prop := fun x lo hi H Q => ∃ (Hz : Hp) (a : Addr) (xs : List V), x = .ref a ∧ Same Hz H ∧ SqT K Hz a xs ∧ ∀ (l : Addr) (Hz' H' : Hp), Gr Hz H Hz' H' → SqT K Hz' l (cutV xs lo hi) → Q (.ref l) H'
theorem sl_tupG : SlR X (rSlG X.K) := by
  refine SlR.imp sl_tupA fun x lo hi H Q ⟨Hz, a, xs, ex, s, ha, q⟩ => ⟨a, xs, ex, SqT.up ha s, fun e => ?_, fun e p hp => ?_⟩
  · exact q a Hz H (Ext.refl s) (by rw [cut_all e]; exact ha)
  · exact q p _ _ (Ext.lay s hp) (SqT.of upd_same)
end
theorem cut_drop {xs : List V} {k : Int} (h : 0 ≤ k) : cutV xs (some k) none = xs.drop k.toNat := by
  unfold cutV HT.sIx
  simp only
  rw [if_neg (by omega)]
  by_cases q : k.toNat ≤ xs.length
  · rw [Nat.min_eq_left q, List.take_of_length_le (by rw [List.length_drop]; omega)]
  · rw [Nat.min_eq_right (by omega), Nat.sub_self, List.take_zero, List.drop_of_length_le (by omega)]
theorem dpa_append {K : PySem.W.Frag} {H : Hp} : ∀ {xs ys : List V} {ds es : List PyData}, DpAll K H xs ds → DpAll K H ys es → DpAll K H (xs ++ ys) (ds ++ es)
  | _, _, _, _, .nil, h => h
  | _, _, _, _, .cons a b, h => .cons a (dpa_append b h)
theorem dpa_take {K : PySem.W.Frag} {H : Hp} : ∀ {xs : List V} {ds : List PyData} (n : Nat), DpAll K H xs ds → DpAll K H (xs.take n) (ds.take n)
  | _, _, 0, _ => .nil
  | _, _, _ + 1, .nil => .nil
  | _, _, n + 1, .cons a b => .cons a (dpa_take n b)
theorem dpa_drop {K : PySem.W.Frag} {H : Hp} : ∀ {xs : List V} {ds : List PyData} (n : Nat), DpAll K H xs ds → DpAll K H (xs.drop n) (ds.drop n)
  | _, _, 0, h => h
  | _, _, _ + 1, .nil => .nil
  | _, _, n + 1, .cons _ b => dpa_drop n b
theorem Gr.ext {M : Addr → Prop} {Hz H Hz' H' : Hp} (y : Gr Hz H Hz' H') : Ext M Hz H Hz' H' := y.mono fun _ z => z.elim
theorem Bx.gr {H0 H H0' H' : Hp} {β : BA} {c : Int} (x : Bx H0 H β c) (y : Gr H0 H H0' H') : Bx H0' H' β c := x.over y (fun z => z) fun z => z
theorem sm_tuple {n : Nat} {ds : List PyData} (h1 : ds.length ≤ 7) (h2 : ∀ d ∈ ds, sm n d) : sm (n + 1) (.tuple ds) := fun es e => by
  cases e
  exact ⟨h1, h2⟩
theorem sm_list {n : Nat} {ds : List PyData} (h1 : ds.length ≤ 7) (h2 : ∀ d ∈ ds, sm n d) : sm (n + 1) (.list ds) := fun es e => by
  cases e
  exact ⟨h1, h2⟩
theorem sm_flat {n : Nat} {d : PyData} (h : parts d = none) : sm n d := by
  cases n with
  | zero => trivial
  | succ n => intro es e; rw [h] at e; cases e
theorem sm_mono : ∀ {n : Nat} {d : PyData}, sm (n + 1) d → sm n d
  | 0, _, _ => trivial
  | n + 1, d, h => fun ds e => ⟨(h ds e).1, fun x hx => sm_mono ((h ds e).2 x hx)⟩
theorem sm_row {n : Nat} {r : List Int} (h : r.length ≤ 7) : sm n (rowD r) := by
  cases n with
  | zero => trivial
  | succ n =>
    refine sm_tuple (by rw [List.length_map]; exact h) fun d hd => ?_
    obtain ⟨i, _, rfl⟩ := List.mem_map.mp hd
    exact sm_flat rfl
theorem sm_ints {n : Nat} {r : List Int} (h : r.length ≤ 7) : sm n (.tuple (r.map .int)) := sm_row h
theorem sm_rowsD {n : Nat} {rss : List (List Int)} (h : rss.length ≤ 7) (hr : ∀ r ∈ rss, r.length ≤ 7) : sm (n + 1) (.tuple (rss.map rowD)) :=
  sm_tuple (by rw [List.length_map]; exact h) fun d hd => by
    obtain ⟨r, hr', rfl⟩ := List.mem_map.mp hd
    exact sm_row (hr r hr')
theorem sm_three {a b c : PyData} (ha : sm 2 a) (hb : sm 2 b) (hc : sm 2 c) : sm 3 (.tuple [a, b, c]) :=
  sm_tuple (by show 3 ≤ 7; decide) fun d hd => by
    simp only [List.mem_cons, List.not_mem_nil, or_false] at hd
    rcases hd with rfl | rfl | rfl <;> assumption
end U
namespace U
open PySem L2
theorem dpa_rep {K : PySem.W.Frag} {H : Hp} {v : V} {d : PyData} (h : Dp K H v d) : ∀ l : List Int, DpAll K H (l.map fun _ => v) (l.map fun _ => d)
  | [] => .nil
  | _ :: l => .cons h (dpa_rep h l)
section
variable {P : Program} {w : World} {K : PySem.W.Frag} {mg : Str → Option Value} {base : Heap}
abbrev s__law_bent : Stmt := (top 39)
theorem sc__law_bent : FnScope ["_law_box_here", "_law_stand", "_law_many", "_law_now", "_law_rows", "_law_lights", "_law_way", "_law_odd", "_law_at", "_law_light"] ["_law_box_here", "_law_stand", "_law_many"] (defScope s__law_bent) := ⟨rfl, rfl, rfl, by decide +kernel, rfl, by decide +kernel, by decide +kernel⟩
def spBent (K : PySem.W.Frag) : Sp := fun vs H Q _ => ∃ (H0 : Hp) (β : BA) (c many n : Int) (v : V) (rss : List (List Int)) (lts : List Int), vs = [.ref β.b, v, .int many] ∧ Bx H0 H β c ∧ c ≤ 9000000 ∧ 1 ≤ rss.length ∧ rss.length ≤ 3 ∧ lts.length ≤ 2 ∧ (∀ r ∈ rss, r.length ≤ 3) ∧ Dp K H0 v (standD n rss lts) ∧
  ∀ (v' : V) (d : PyData) (H0' H' : Hp) (c' : Int), Dp K H0' v' d → sm 3 d → Ext (MB β) H0 H H0' H' → Bx H0' H' β c' → c' ≤ c + 10 → Q v' H'
theorem ok_bent {f : Addr} {fd : FuncData} (F : Fun K "_law_bent" "_law_bent" s__law_bent f fd) (T : Bl mg) (h__law_take : Has P w K mg base CX0 2 "_law_take" ["_law_box_here", "_law_size"] spTake) (h__law_pick : Has P w K mg base CX0 3 "_law_pick" ["_law_box_here", "_law_things"] (spPick K)) :
    FnOk P w K mg base CX0 4 f fd ["_law_box_here", "_law_stand", "_law_many"] (spBent K) := by
  have sc := sc__law_bent
  refine F.ok sc (fun vs H Q E h => ?_) (fun cdv A outer s H vs Q E hr h => ?_)
  · obtain ⟨H0, β, c, many, n, v, rss, lts, rfl, _⟩ := h
    rfl
  · obtain ⟨H0, β, c, many, n, v, rss, lts, rfl, B, hc, hr1, hr3, hl2, hrr, hd, q⟩ := h
    refine ⟨_, (pss_cons (ps_asg (pv 1) (pg_tup rfl (pgs_cons (pg_name (i := 3) sc.nd rfl (Or.inl rfl)) (pgs_cons (pg_name (i := 4) sc.nd rfl (Or.inl rfl)) (pgs_cons (pg_name (i := 5) sc.nd rfl (Or.inl rfl)) pgs_nil)))))
 (pss_cons (ps_asg (pe_tup (pa_cons (pe_h h__law_take (hr.mono (by decide)) (by rfl) pass0 (pa_cons (pv 0) (pa_cons pe_int pa_nil))) (pa_cons (pe_h h__law_pick (hr.mono (by decide)) (by rfl) pass0 (pa_cons (pv 0) (pa_cons (pe_lst (pa_cons pe_non (pa_cons pe_bl (pa_cons pe_bl (pa_cons pe_str (pa_cons (pe_un un_neg pe_int) (pa_cons (pv 2) (pa_cons pe_int (pa_cons pe_int (pa_cons (pe_tup pa_nil) (pa_cons (pe_lst pa_nil) (pa_cons (pe_tup (pa_cons pe_int pa_nil)) (pa_cons (pe_un un_neg pe_int) pa_nil))))))))))))) pa_nil))) pa_nil))) (pg_tup rfl (pgs_cons (pg_name (i := 6) sc.nd rfl (Or.inl rfl)) (pgs_cons (pg_name (i := 7) sc.nd rfl (Or.inr rfl)) pgs_nil))))
 (pss_cons (ps_if (pt_cmpR op_eq (pv 6) pe_int (nomark _))
  (pss_one (ps_ret (pe_tup (pa_cons (pv 7) (pa_cons (pv 4) (pa_cons (pv 5) pa_nil))))))
  pss_nil)
 (pss_cons (ps_if (pt_cmpR op_eq (pv 6) pe_int (nomark _))
  (pss_one (ps_ret (pe_tup (pa_cons (pv 3) (pa_cons (pv 7) (pa_cons (pv 5) pa_nil))))))
  pss_nil)
 (pss_cons (ps_if (pt_cmpR op_eq (pv 6) pe_int (nomark _))
  (pss_one (ps_ret (pe_tup (pa_cons (pv 3) (pa_cons (pv 4) (pa_cons (pv 7) pa_nil))))))
  pss_nil)
 (pss_cons (ps_set (i := 8) sc.nd rfl (Or.inl rfl) (pe_h h__law_take (hr.mono (by decide)) (by rfl) pass0 (pa_cons (pv 0) (pa_cons (pe_callB call_len (by rfl) T.b_len bb_len (pa_cons (pv 4) pa_nil)) pa_nil))))
 (pss_cons (ps_if (pt_cmpR op_eq (pv 6) pe_int (nomark _))
  (pss_one (ps_ret (pe_tup (pa_cons (pv 3) (pa_cons (pe_op op_catG (pe_op op_catG (pe_slice sl_tupG (pv 4) po_none (po_some (pv 8))) (pe_tup (pa_cons (pe_op op_catG (pe_ix ix_tup (pv 4) (pv 8) (fun _ _ => rfl)) (pe_tup (pa_cons (pv 7) pa_nil))) pa_nil))) (pe_slice sl_tupG (pv 4) (po_some (pe_op op_add (pv 8) pe_int)) po_none)) (pa_cons (pv 5) pa_nil))))))
  pss_nil)
 (pss_cons (ps_if (pt_cmpR op_eq (pv 6) pe_int (nomark _))
  (pss_one (ps_ret (pe_tup (pa_cons (pv 3) (pa_cons (pe_op op_catG (pe_op op_catG (pe_slice sl_tupG (pv 4) po_none (po_some (pv 8))) (pe_tup (pa_cons (pv 7) pa_nil))) (pe_slice sl_tupG (pv 4) (po_some (pe_op op_add (pv 8) pe_int)) po_none)) (pa_cons (pv 5) pa_nil))))))
  pss_nil)
 (pss_cons (ps_if (pt_cmpR op_eq (pv 6) pe_int (nomark _))
  (pss_one (ps_ret (pe_tup (pa_cons (pv 3) (pa_cons (pv 4) (pa_cons (pe_op op_catG (pv 5) (pe_tup (pa_cons (pv 7) pa_nil))) pa_nil))))))
  pss_nil)
 (pss_cons (ps_if (pt_cmpR op_eq (pv 6) pe_int (nomark _))
  (pss_one (ps_ret (pe_tup (pa_cons (pv 3) (pa_cons (pv 4) (pa_cons (pe_callTy call_tuple_of (by rfl) T.b_tuple bb_tuple (pa_cons (pe_lcD (own := [("_law_light", 9)])   (by rfl) sc.nd (pi_tup (pv 5)) (blkOk_by (by kernel_rfl)) (fun _ _ _ _ _ => (pg_name (i := 9) sc.nd rfl (Or.inl rfl))) (fun _ _ _ _ _ => pts_nil) (fun _ _ _ _ _ => (pv 7))) pa_nil)) pa_nil))))))
  pss_nil)
 (pss_cons (ps_if (pt_cmpR op_eq (pv 6) pe_int (nomark _))
  (pss_one (ps_ret (pe_h h__law_pick (hr.mono (by decide)) (by rfl) pass0 (pa_cons (pv 0) (pa_cons (pe_lst (pa_cons (pe_callTy call_list_of (by rfl) T.b_list bb_list (pa_cons (pv 1) pa_nil)) (pa_cons (pe_tup (pa_cons (pv 3) (pa_cons (pe_callTy call_list_of (by rfl) T.b_list bb_list (pa_cons (pv 4) pa_nil)) (pa_cons (pv 5) pa_nil)))) (pa_cons (pe_tup (pa_cons (pv 3) (pa_cons (pv 4) (pa_cons (pe_callTy call_list_of (by rfl) T.b_list bb_list (pa_cons (pv 5) pa_nil)) pa_nil)))) (pa_cons (pe_tup (pa_cons (pv 3) (pa_cons (pv 4) pa_nil))) (pa_cons pe_non pa_nil)))))) pa_nil)))))
  pss_nil)
 (pss_cons (ps_if (pt_cmpR op_eq (pv 6) pe_int (nomark _))
  (pss_one (ps_ret (pe_tup (pa_cons (pv 3) (pa_cons (pe_op op_catG (pv 4) (pe_tup (pa_cons (pe_tup pa_nil) pa_nil))) (pa_cons (pv 5) pa_nil))))))
  pss_nil)
 (pss_one (ps_ret (pe_tup (pa_cons (pv 3) (pa_cons (pe_op op_catG (pe_op op_catG (pe_slice sl_tupG (pv 4) po_none (po_some (pv 8))) (pe_tup (pa_cons (pe_op op_catG (pe_ix ix_tup (pv 4) (pv 8) (fun _ _ => rfl)) (pe_ix ix_tup (pv 4) (pv 8) (fun _ _ => rfl))) pa_nil))) (pe_slice sl_tupG (pv 4) (po_some (pe_op op_add (pv 8) pe_int)) po_none)) (pa_cons (pv 5) pa_nil)))))))))))))))))), ?_⟩
    walk_at "kx"
    cases hd with
    | @tup av xs3 _ hS3 hA3 =>
    cases hA3 with
    | @cons v1 _ _ _ hn1 hA3 =>
    cases hn1
    cases hA3 with
    | @cons v2 _ _ _ hn2 hA3 =>
    cases hA3 with
    | @cons v3 _ _ _ hn3 hA3 =>
    cases hA3
    cases hn2 with
    | @tup ar xr _ hSr hAr =>
    cases hn3 with
    | @tup al xl _ hSl hAl =>
    have exl := dp_ints hAl
    subst exl
    have hlr := dp_len hAr
    rw [List.length_map] at hlr
    walk_at "rd"
    refine ⟨av, _, rfl, SqT.up hS3 B.sub, rfl, ?_⟩
    walk_at "rd"
    refine ⟨_, β, c, 10, rfl, B, by omega, by decide, by decide, fun way H1 w0 w1 e1 B1 => ?_⟩
    have fin : ∀ (x1 x2 x3 : V) (d1 d2 d3 : PyData) (Hz Hn : Hp) (c' : Int) (p : Addr), Dp K Hz x1 d1 → Dp K Hz x2 d2 → Dp K Hz x3 d3 → sm 2 d1 → sm 2 d2 → sm 2 d3 → Ext (MB β) H0 H Hz Hn → Bx Hz Hn β c' → c' ≤ c + 10 → Hn p = none → Q (.ref p) (upd Hn p (.tup [x1, x2, x3])) := fun x1 x2 x3 d1 d2 d3 Hz Hn c' p h1 h2 h3 m1 m2 m3 e B' hc' hp => by
      have up := Same.new (o := .tup [x1, x2, x3]) (B'.sub.free hp)
      exact q (.ref p) (.tuple [d1, d2, d3]) _ _ _ (.tup (SqT.of upd_same) (.cons (Dp.up up _ _ h1) (.cons (Dp.up up _ _ h2) (.cons (Dp.up up _ _ h3) .nil)))) (sm_three m1 m2 m3) (e.lay' hp) (B'.lay hp) hc'
    walk_at "rd"
    rename_i a1 h1 a2 h2 a3 h3 L hL
    have B2 := (((B1.lay (o := .tup []) h1).lay (o := .lst []) h2).lay (o := .tup [V.int 0]) h3).lay (o := .lst [.non, .bl true, .bl false, .str "0", .int (-3), .int many, .int 0, .int 1, .ref a1, .ref a2, .ref a3, .int (-1)]) hL
    have e2 := (((e1.lay' (o := .tup []) h1).lay' (o := .lst []) h2).lay' (o := .tup [V.int 0]) h3).lay' (o := .lst [.non, .bl true, .bl false, .str "0", .int (-3), .int many, .int 0, .int 1, .ref a1, .ref a2, .ref a3, .int (-1)]) hL
    refine ⟨_, β, L, _, [.non, .bl true, .bl false, .str "0", .int (-3), .int many, .int 0, .int 1, .ref a1, .ref a2, .ref a3, .int (-1)], rfl, B2, by omega, SqL.of upd_same, Nat.le_of_ble_eq_true rfl, Nat.le_of_ble_eq_true rfl, fun odd H3 hm e3 B3 => ?_⟩
    have hodd : ∃ d, Dp K (upd (upd (upd (upd H0 a1 (.tup [])) a2 (.lst [])) a3 (.tup [V.int 0])) L (.lst [.non, .bl true, .bl false, .str "0", .int (-3), .int many, .int 0, .int 1, .ref a1, .ref a2, .ref a3, .int (-1)])) odd d ∧ sm 2 d := by
      have n12 : a1 ≠ a2 := ne_none h2 upd_same
      have n13 : a1 ≠ a3 := ne_none h3 (by rw [upd_ne n12]; exact upd_same)
      have n23 : a2 ≠ a3 := ne_none h3 upd_same
      have n1L : a1 ≠ L := ne_none hL (by rw [upd_ne n13, upd_ne n12]; exact upd_same)
      have n2L : a2 ≠ L := ne_none hL (by rw [upd_ne n23]; exact upd_same)
      have n3L : a3 ≠ L := ne_none hL upd_same
      simp only [List.mem_cons, List.not_mem_nil, or_false] at hm
      rcases hm with rfl | rfl | rfl | rfl | rfl | rfl | rfl | rfl | rfl | rfl | rfl | rfl
      · exact ⟨_, .non, sm_flat rfl⟩
      · exact ⟨_, .bl _, sm_flat rfl⟩
      · exact ⟨_, .bl _, sm_flat rfl⟩
      · exact ⟨_, .str _, sm_flat rfl⟩
      · exact ⟨_, .int _, sm_flat rfl⟩
      · exact ⟨_, .int _, sm_flat rfl⟩
      · exact ⟨_, .int _, sm_flat rfl⟩
      · exact ⟨_, .int _, sm_flat rfl⟩
      · exact ⟨.tuple [], .tup (SqT.of (by rw [upd_ne n1L, upd_ne n13, upd_ne n12]; exact upd_same)) .nil, sm_tuple (Nat.zero_le _) fun d hd => absurd hd (by simp)⟩
      · exact ⟨.list [], .lst (SqL.of (by rw [upd_ne n2L, upd_ne n23]; exact upd_same)) .nil, sm_list (Nat.zero_le _) fun d hd => absurd hd (by simp)⟩
      · exact ⟨.tuple [.int 0], .tup (SqT.of (by rw [upd_ne n3L]; exact upd_same)) (.cons (.int 0) .nil), sm_tuple (by decide) fun d hd => by rw [List.mem_singleton.mp hd]; exact sm_flat rfl⟩
      · exact ⟨_, .int _, sm_flat rfl⟩
    have e3' := e2.trans e3
    generalize (upd (upd (upd (upd H0 a1 (.tup [])) a2 (.lst [])) a3 (.tup [V.int 0])) L (.lst [.non, .bl true, .bl false, .str "0", .int (-3), .int many, .int 0, .int 1, .ref a1, .ref a2, .ref a3, .int (-1)]) : Hp) = Hy at hodd e3' B3
    clear e3 e2 B2
    obtain ⟨dodd, hodd, smo⟩ := hodd
    walk_at "rd"
    rename_i T5 hT5
    have B5 := B3.lay (o := .tup [V.int way, odd]) hT5
    have e5 := e3'.lay' (o := .tup [V.int way, odd]) hT5
    have hodd5 := Dp.up (Same.new (o := .tup [V.int way, odd]) (B3.sub.free hT5)) _ _ hodd
    have s5 := e5.same
    have hSr5 := SqT.up hSr s5
    have hAr5 := DpAll.up s5 _ _ hAr
    have hSl5 := SqT.up hSl s5
    have hS35 := SqT.up hS3 s5
    generalize (upd Hy T5 (.tup [V.int way, odd]) : Hp) = Hz at hodd5 e5 B5 s5 hSr5 hAr5 hSl5 hS35
    generalize (upd H3 T5 (.tup [V.int way, odd]) : Hp) = Hn at e5 B5
    have smr : sm 2 (.tuple (rss.map rowD)) := sm_rowsD (by omega) fun r hr => Nat.le_trans (hrr r hr) (by decide)
    have sml : sm 2 (.tuple (lts.map .int)) := sm_ints (by omega)
    have dr : ∀ Hq, Same Hz Hq → Dp K Hq (.ref ar) (.tuple (rss.map rowD)) := fun Hq e => .tup (SqT.up hSr5 e) (DpAll.up e _ _ hAr5)
    have dl : ∀ Hq, Same Hz Hq → Dp K Hq (.ref al) (.tuple (lts.map .int)) := fun Hq e => .tup (SqT.up hSl5 e) (ints_dp lts)
    have r0 := Same.refl Hz
    refine iteI (fun _ => ?_) (fun _ => ?_)
    · walk_at "rd"
      rename_i p hp
      exact fin _ _ _ _ _ _ Hz Hn _ p hodd5 (dr _ r0) (dl _ r0) smo smr sml e5 B5 (by omega) hp
    walk_at "rd"
    refine iteI (fun _ => ?_) (fun _ => ?_)
    · walk_at "rd"
      rename_i p hp
      exact fin _ _ _ _ _ _ Hz Hn _ p (.int n) hodd5 (dl _ r0) (sm_flat rfl) smo sml e5 B5 (by omega) hp
    walk_at "rd"
    refine iteI (fun _ => ?_) (fun _ => ?_)
    · walk_at "rd"
      rename_i p hp
      exact fin _ _ _ _ _ _ Hz Hn _ p (.int n) (dr _ r0) hodd5 (sm_flat rfl) smr smo e5 B5 (by omega) hp
    walk_at "rd"
    refine ⟨_, _, rfl, .inr ⟨_, SqT.up hSr5 B5.sub, rfl⟩, ?_⟩
    refine ⟨Hz, β, _, _, rfl, B5, by omega, by omega, by omega, fun at_ H6 a0 a1 e6 B6 => ?_⟩
    have e6' := e5.trans e6
    clear e5 B5 e6
    obtain ⟨vrow, hvr, hvm⟩ := at_mem (xs := xr) a0 a1
    have hj : at_.toNat < xr.length := by omega
    have evr : xr[at_.toNat]? = some vrow := by
      have z := atI_nat (List.getElem?_eq_getElem hj)
      rw [show ((at_.toNat : Nat) : Int) = at_ by omega, hvr] at z
      rw [List.getElem?_eq_getElem hj]
      exact z.symm
    obtain ⟨drow, hd1, hd2⟩ := dp_get' hAr5 evr
    rw [List.getElem?_map] at hd1
    cases erj : rss[at_.toNat]? with
    | none => rw [erj] at hd1; cases hd1
    | some rj =>
    rw [erj] at hd1
    cases hd1
    have hrj := hrr rj (List.mem_of_getElem? erj)
    cases hd2 with
    | @tup arow xrow _ hSrow hArow =>
    have exr := dp_ints hArow
    subst exr
    walk_at "rd"
    -- rows with one of them otherwise
    have rowsd : ∀ (x : V) (d : PyData) (Hq : Hp), Same Hz Hq → Dp K Hq x d → DpAll K Hq (xr.take at_.toNat ++ [x] ++ xr.drop (at_ + 1).toNat) ((rss.map rowD).take at_.toNat ++ [d] ++ (rss.map rowD).drop (at_ + 1).toNat) := fun x d Hq e h =>
      dpa_append (dpa_append (dpa_take _ (DpAll.up e _ _ hAr5)) (.cons h .nil)) (dpa_drop _ (DpAll.up e _ _ hAr5))
    have rowsm : ∀ d : PyData, sm 1 d → sm 2 (.tuple ((rss.map rowD).take at_.toNat ++ [d] ++ (rss.map rowD).drop (at_ + 1).toNat)) := fun d hd => by
      refine sm_tuple ?_ fun x hx => ?_
      · rw [List.length_append, List.length_append, List.length_take, List.length_drop, List.length_singleton, List.length_map]
        omega
      · rcases List.mem_append.mp hx with hx | hx
        · rcases List.mem_append.mp hx with hx | hx
          · obtain ⟨r, hr', rfl⟩ := List.mem_map.mp (List.mem_of_mem_take hx)
            exact sm_row (Nat.le_trans (hrr r hr') (by decide))
          · rw [List.mem_singleton.mp hx]
            exact hd
        · obtain ⟨r, hr', rfl⟩ := List.mem_map.mp (List.mem_of_mem_drop hx)
          exact sm_row (Nat.le_trans (hrr r hr') (by decide))
    have l4 : (xr.take at_.toNat).length ≤ 3 := by rw [List.length_take]; omega
    have l5 : (xr.drop (at_ + 1).toNat).length ≤ 3 := by rw [List.length_drop]; omega
    refine iteI (fun _ => ?_) (fun _ => ?_)
    · walk_at "rd"
      refine ⟨Hz, ar, xr, rfl, B6.sub, hSr5, fun la Ha Hb ga sa => ?_⟩
      rw [cut_take a0] at sa
      have B7 := B6.gr ga
      have e7 := e6'.trans ga.ext
      walk_at "rd"
      refine ⟨ar, xr, at_, .ref arow, rfl, rfl, SqT.up hSr5 (ga.same.trans B7.sub), hvr, ?_⟩
      walk_at "rd"
      rename_i t1 ht1
      have B8 := B7.lay (o := .tup [odd]) ht1
      have e8 := e7.lay' (o := .tup [odd]) ht1
      have s8 := ga.same.trans (Same.new (o := .tup [odd]) (B7.sub.free ht1))
      refine ⟨_, arow, t1, _, _, rfl, rfl, B8.sub, SqT.up hSrow s8, SqT.of upd_same, by rw [List.length_map, List.length_singleton]; omega, fun lb Hc Hd gb sb => ?_⟩
      have B9 := B8.gr gb
      have e9 := e8.trans gb.ext
      have s9 := s8.trans gb.same
      have dx : Dp K Hc (.ref lb) (.tuple (rj.map .int ++ [dodd])) := .tup sb (dpa_append (ints_dp rj) (.cons (Dp.up s9 _ _ hodd5) .nil))
      have smx : sm 1 (.tuple (rj.map .int ++ [dodd])) := sm_tuple (by rw [List.length_append, List.length_map, List.length_singleton]; omega) fun _ _ => trivial
      walk_at "rd"
      rename_i t2 ht2
      have B10 := B9.lay (o := .tup [V.ref lb]) ht2
      have e10 := e9.lay' (o := .tup [V.ref lb]) ht2
      have n10 := Same.new (o := .tup [V.ref lb]) (B9.sub.free ht2)
      have s10 := s9.trans n10
      refine ⟨_, la, t2, _, _, rfl, rfl, B10.sub, SqT.up sa (((Same.new (o := .tup [odd]) (B7.sub.free ht1)).trans gb.same).trans n10), SqT.of upd_same, by rw [List.length_singleton]; omega, fun lc He Hf gc sc' => ?_⟩
      have B11 := B10.gr gc
      have e11 := e10.trans gc.ext
      walk_at "rd"
      refine ⟨He, ar, xr, rfl, B11.sub, SqT.up hSr5 (s10.trans gc.same), fun ld Hg Hh gd sd => ?_⟩
      rw [cut_drop (by omega)] at sd
      have B12 := B11.gr gd
      have e12 := e11.trans gd.ext
      refine ⟨Hg, lc, ld, _, _, rfl, rfl, B12.sub, SqT.up sc' gd.same, sd, by rw [List.length_append, List.length_singleton]; omega, fun le Hi Hj ge se => ?_⟩
      have B13 := B12.gr ge
      have e13 := e12.trans ge.ext
      have sx := n10.trans (gc.same.trans (gd.same.trans ge.same))
      walk_at "rd"
      rename_i p hp
      exact fin _ _ _ _ _ _ Hi Hj _ p (.int n) (.tup se (rowsd _ _ Hi (s9.trans sx) (Dp.up sx _ _ dx))) (dl _ (s9.trans sx)) (sm_flat rfl) (rowsm _ smx) sml e13 B13 (by omega) hp
    walk_at "rd"
    refine iteI (fun _ => ?_) (fun _ => ?_)
    · walk_at "rd"
      refine ⟨Hz, ar, xr, rfl, B6.sub, hSr5, fun la Ha Hb ga sa => ?_⟩
      rw [cut_take a0] at sa
      have B7 := B6.gr ga
      have e7 := e6'.trans ga.ext
      have B9 := B7
      have e9 := e7
      have s9 := ga.same
      have dx := Dp.up s9 _ _ hodd5
      have smx := sm_mono smo
      walk_at "rd"
      rename_i t2 ht2
      have B10 := B9.lay (o := .tup [odd]) ht2
      have e10 := e9.lay' (o := .tup [odd]) ht2
      have n10 := Same.new (o := .tup [odd]) (B9.sub.free ht2)
      have s10 := s9.trans n10
      refine ⟨_, la, t2, _, _, rfl, rfl, B10.sub, SqT.up sa ((Same.refl _).trans n10), SqT.of upd_same, by rw [List.length_singleton]; omega, fun lc He Hf gc sc' => ?_⟩
      have B11 := B10.gr gc
      have e11 := e10.trans gc.ext
      walk_at "rd"
      refine ⟨He, ar, xr, rfl, B11.sub, SqT.up hSr5 (s10.trans gc.same), fun ld Hg Hh gd sd => ?_⟩
      rw [cut_drop (by omega)] at sd
      have B12 := B11.gr gd
      have e12 := e11.trans gd.ext
      refine ⟨Hg, lc, ld, _, _, rfl, rfl, B12.sub, SqT.up sc' gd.same, sd, by rw [List.length_append, List.length_singleton]; omega, fun le Hi Hj ge se => ?_⟩
      have B13 := B12.gr ge
      have e13 := e12.trans ge.ext
      have sx := n10.trans (gc.same.trans (gd.same.trans ge.same))
      walk_at "rd"
      rename_i p hp
      exact fin _ _ _ _ _ _ Hi Hj _ p (.int n) (.tup se (rowsd _ _ Hi (s9.trans sx) (Dp.up sx _ _ dx))) (dl _ (s9.trans sx)) (sm_flat rfl) (rowsm _ smx) sml e13 B13 (by omega) hp
    walk_at "rd"
    refine iteI (fun _ => ?_) (fun _ => ?_)
    · walk_at "rd"
      rename_i t1 ht1
      have B8 := B6.lay (o := .tup [odd]) ht1
      have e8 := e6'.lay' (o := .tup [odd]) ht1
      have s8 := Same.new (o := .tup [odd]) (B6.sub.free ht1)
      refine ⟨_, al, t1, _, _, rfl, rfl, B8.sub, SqT.up hSl5 s8, SqT.of upd_same, by rw [List.length_map, List.length_singleton]; omega, fun lb Hc Hd gb sb => ?_⟩
      have B9 := B8.gr gb
      have e9 := e8.trans gb.ext
      have s9 := s8.trans gb.same
      walk_at "rd"
      rename_i p hp
      refine fin _ _ _ _ _ (.tuple (lts.map .int ++ [dodd])) Hc Hd _ p (.int n) (dr _ s9) (.tup sb (dpa_append (ints_dp lts) (.cons (Dp.up s9 _ _ hodd5) .nil))) (sm_flat rfl) smr (sm_tuple (by rw [List.length_append, List.length_map, List.length_singleton]; omega) fun x hx => ?_) e9 B9 (by omega) hp
      rcases List.mem_append.mp hx with hx | hx
      · obtain ⟨_, _, rfl⟩ := List.mem_map.mp hx
        exact sm_flat rfl
      · rw [List.mem_singleton.mp hx]
        exact sm_mono smo
    walk_at "rd"
    refine iteI (fun _ => ?_) (fun _ => ?_)
    · walk_at "rd"
      refine ⟨⟨_, SqT.up hSl5 B6.sub⟩, fun D hD => ?_⟩
      refine lc_f (walk_tup (xs := lts.map V.int)) (lts.map fun _ => odd) (by rw [List.length_map, List.length_map]) (by rw [List.length_map]; omega) hD (fun H' s => SqT.up hSl5 (B6.sub.trans s)) (fun i x Ha Hb R hi s y r => ?_) (fun H7 s7 hD7 => ?_)
      · obtain ⟨rfl, y⟩ := y
        rw [List.length_map] at hi
        have er : (lts.map fun _ => odd)[i]? = some odd := by rw [List.getElem?_map, List.getElem?_eq_getElem hi]; rfl
        walk_at "rd"
        exact r _ _ er (Same.refl _)
      · have B7 := B6.pass s7
        have e7 := e6'.pass' s7
        walk_at "rd"
        refine ⟨D, _, rfl, .inl ⟨SqL.of hD7, fun l hl => ?_⟩⟩
        have B8 := B7.lay (o := .tup (lts.map fun _ => odd)) hl
        have e8 := e7.lay' (o := .tup (lts.map fun _ => odd)) hl
        have s8 := Same.new (o := .tup (lts.map fun _ => odd)) (B7.sub.free hl)
        walk_at "rd"
        rename_i p hp
        refine fin _ _ _ _ _ (.tuple (lts.map fun _ => dodd)) _ _ _ p (.int n) (dr _ s8) (.tup (SqT.of upd_same) (dpa_rep (Dp.up s8 _ _ hodd5) lts)) (sm_flat rfl) smr (sm_tuple (by rw [List.length_map]; omega) fun x hx => ?_) e8 B8 (by omega) hp
        obtain ⟨_, _, rfl⟩ := List.mem_map.mp hx
        exact sm_mono smo
    walk_at "rd"
    refine iteI (fun _ => ?_) (fun _ => ?_)
    · walk_at "rd"
      refine ⟨av, _, rfl, .inr (SqT.up hS35 B6.sub), fun l1 hl1 => ?_⟩
      have B7 := B6.lay (o := .lst [V.int n, .ref ar, .ref al]) hl1
      have e7 := e6'.lay' (o := .lst [V.int n, .ref ar, .ref al]) hl1
      have s7 := Same.new (o := .lst [V.int n, .ref ar, .ref al]) (B6.sub.free hl1)
      walk_at "rd"
      refine ⟨ar, _, rfl, .inr (SqT.up hSr5 (s7.trans B7.sub)), fun l2 hl2 => ?_⟩
      have B8 := B7.lay (o := .lst xr) hl2
      have e8 := e7.lay' (o := .lst xr) hl2
      have s8 := s7.trans (Same.new (o := .lst xr) (B7.sub.free hl2))
      walk_at "rd"
      rename_i t1 ht1
      have B9 := B8.lay (o := .tup [V.int n, .ref l2, .ref al]) ht1
      have e9 := e8.lay' (o := .tup [V.int n, .ref l2, .ref al]) ht1
      have s9 := s8.trans (Same.new (o := .tup [V.int n, .ref l2, .ref al]) (B8.sub.free ht1))
      refine ⟨al, _, rfl, .inr (SqT.up hSl5 (s9.trans B9.sub)), fun l3 hl3 => ?_⟩
      have B10 := B9.lay (o := .lst (lts.map V.int)) hl3
      have e10 := e9.lay' (o := .lst (lts.map V.int)) hl3
      have s10 := s9.trans (Same.new (o := .lst (lts.map V.int)) (B9.sub.free hl3))
      walk_at "rd"
      rename_i t2 ht2 t3 ht3 L hL
      have B11 := B10.lay (o := .tup [V.int n, .ref ar, .ref l3]) ht2
      have e11 := e10.lay' (o := .tup [V.int n, .ref ar, .ref l3]) ht2
      have s11 := s10.trans (Same.new (o := .tup [V.int n, .ref ar, .ref l3]) (B10.sub.free ht2))
      have B12 := B11.lay (o := .tup [V.int n, .ref ar]) ht3
      have e12 := e11.lay' (o := .tup [V.int n, .ref ar]) ht3
      have s12 := s11.trans (Same.new (o := .tup [V.int n, .ref ar]) (B11.sub.free ht3))
      have B13 := B12.lay (o := .lst [.ref l1, .ref t1, .ref t2, .ref t3, .non]) hL
      have e13 := e12.lay' (o := .lst [.ref l1, .ref t1, .ref t2, .ref t3, .non]) hL
      have s13 := s12.trans (Same.new (o := .lst [.ref l1, .ref t1, .ref t2, .ref t3, .non]) (B12.sub.free hL))
      refine ⟨_, β, L, _, [.ref l1, .ref t1, .ref t2, .ref t3, .non], rfl, B13, by omega, SqL.of upd_same, Nat.le_of_ble_eq_true rfl, Nat.le_of_ble_eq_true rfl, fun got H14 hm e14 B14 => ?_⟩
      have e14' := e13.trans e14
      have g1 := (((((Same.new (o := .lst xr) (B7.sub.free hl2)).trans (Same.new (o := .tup [V.int n, .ref l2, .ref al]) (B8.sub.free ht1))).trans (Same.new (o := .lst (lts.map V.int)) (B9.sub.free hl3))).trans (Same.new (o := .tup [V.int n, .ref ar, .ref l3]) (B10.sub.free ht2))).trans (Same.new (o := .tup [V.int n, .ref ar]) (B11.sub.free ht3))).trans (Same.new (o := .lst [.ref l1, .ref t1, .ref t2, .ref t3, .non]) (B12.sub.free hL))
      have g2 := ((((Same.new (o := .tup [V.int n, .ref l2, .ref al]) (B8.sub.free ht1)).trans (Same.new (o := .lst (lts.map V.int)) (B9.sub.free hl3))).trans (Same.new (o := .tup [V.int n, .ref ar, .ref l3]) (B10.sub.free ht2))).trans (Same.new (o := .tup [V.int n, .ref ar]) (B11.sub.free ht3))).trans (Same.new (o := .lst [.ref l1, .ref t1, .ref t2, .ref t3, .non]) (B12.sub.free hL))
      have g3 := (((Same.new (o := .lst (lts.map V.int)) (B9.sub.free hl3)).trans (Same.new (o := .tup [V.int n, .ref ar, .ref l3]) (B10.sub.free ht2))).trans (Same.new (o := .tup [V.int n, .ref ar]) (B11.sub.free ht3))).trans (Same.new (o := .lst [.ref l1, .ref t1, .ref t2, .ref t3, .non]) (B12.sub.free hL))
      have g4 := ((Same.new (o := .tup [V.int n, .ref ar, .ref l3]) (B10.sub.free ht2)).trans (Same.new (o := .tup [V.int n, .ref ar]) (B11.sub.free ht3))).trans (Same.new (o := .lst [.ref l1, .ref t1, .ref t2, .ref t3, .non]) (B12.sub.free hL))
      have g5 := (Same.new (o := .tup [V.int n, .ref ar]) (B11.sub.free ht3)).trans (Same.new (o := .lst [.ref l1, .ref t1, .ref t2, .ref t3, .non]) (B12.sub.free hL))
      have g6 := Same.new (o := .lst [.ref l1, .ref t1, .ref t2, .ref t3, .non]) (B12.sub.free hL)
      simp only [List.mem_cons, List.not_mem_nil, or_false] at hm
      rcases hm with rfl | rfl | rfl | rfl | rfl
      · exact q _ (.list [.int n, .tuple (rss.map rowD), .tuple (lts.map .int)]) _ _ _ (.lst (SqL.of (g1 _ _ upd_same)) (.cons (.int n) (.cons (dr _ s13) (.cons (dl _ s13) .nil)))) (sm_list (by show 3 ≤ 7; decide) fun d hd => by
          simp only [List.mem_cons, List.not_mem_nil, or_false] at hd
          rcases hd with rfl | rfl | rfl
          · exact sm_flat rfl
          · assumption
          · assumption) e14' B14 (by omega)
      · exact q _ (.tuple [.int n, .list (rss.map rowD), .tuple (lts.map .int)]) _ _ _ (.tup (SqT.of (g3 _ _ upd_same)) (.cons (.int n) (.cons (.lst (SqL.of (g2 _ _ upd_same)) (DpAll.up s13 _ _ hAr5)) (.cons (dl _ s13) .nil)))) (sm_three (sm_flat rfl) (sm_list (by rw [List.length_map]; omega) fun d hd => by
          obtain ⟨r, hr', rfl⟩ := List.mem_map.mp hd
          exact sm_row (Nat.le_trans (hrr r hr') (by decide))) sml) e14' B14 (by omega)
      · exact q _ (.tuple [.int n, .tuple (rss.map rowD), .list (lts.map .int)]) _ _ _ (.tup (SqT.of (g5 _ _ upd_same)) (.cons (.int n) (.cons (dr _ s13) (.cons (.lst (SqL.of (g4 _ _ upd_same)) (ints_dp lts)) .nil)))) (sm_three (sm_flat rfl) smr (sm_list (by rw [List.length_map]; omega) fun d hd => by
          obtain ⟨i, _, rfl⟩ := List.mem_map.mp hd
          exact sm_flat rfl)) e14' B14 (by omega)
      · exact q _ (.tuple [.int n, .tuple (rss.map rowD)]) _ _ _ (.tup (SqT.of (g6 _ _ upd_same)) (.cons (.int n) (.cons (dr _ s13) .nil))) (sm_tuple (by show 2 ≤ 7; decide) fun d hd => by
          simp only [List.mem_cons, List.not_mem_nil, or_false] at hd
          rcases hd with rfl | rfl
          · exact sm_flat rfl
          · assumption) e14' B14 (by omega)
      · exact q _ .none _ _ _ .non (sm_flat rfl) e14' B14 (by omega)
    walk_at "rd"
    refine iteI (fun _ => ?_) (fun _ => ?_)
    · walk_at "rd"
      rename_i t1 ht1 t2 ht2
      have B8 := (B6.lay (o := .tup []) ht1).lay (o := .tup [V.ref t1]) ht2
      have e8 := (e6'.lay' (o := .tup []) ht1).lay' (o := .tup [V.ref t1]) ht2
      have n12 : t1 ≠ t2 := ne_none ht2 upd_same
      have s8 := (Same.new (o := .tup []) (B6.sub.free ht1)).trans (Same.new (o := .tup [V.ref t1]) ((B6.lay (o := .tup []) ht1).sub.free ht2))
      refine ⟨_, ar, t2, _, _, rfl, rfl, B8.sub, SqT.up hSr5 s8, SqT.of upd_same, by rw [List.length_singleton]; omega, fun lb Hc Hd gb sb => ?_⟩
      have B9 := B8.gr gb
      have e9 := e8.trans gb.ext
      have s9 := s8.trans gb.same
      walk_at "rd"
      rename_i p hp
      refine fin _ _ _ _ (.tuple (rss.map rowD ++ [.tuple []])) _ Hc Hd _ p (.int n) (.tup sb (dpa_append (DpAll.up s9 _ _ hAr5) (.cons (.tup (SqT.of (gb.same _ _ (by rw [upd_ne n12]; exact upd_same))) .nil) .nil))) (dl _ s9) (sm_flat rfl) (sm_tuple (by rw [List.length_append, List.length_map, List.length_singleton]; omega) fun x hx => ?_) sml e9 B9 (by omega) hp
      rcases List.mem_append.mp hx with hx | hx
      · obtain ⟨r, hr', rfl⟩ := List.mem_map.mp hx
        exact sm_row (Nat.le_trans (hrr r hr') (by decide))
      · rw [List.mem_singleton.mp hx]
        exact sm_tuple (Nat.zero_le _) fun _ h => absurd h (by simp)
    · walk_at "rd"
      refine ⟨Hz, ar, xr, rfl, B6.sub, hSr5, fun la Ha Hb ga sa => ?_⟩
      rw [cut_take a0] at sa
      have B7 := B6.gr ga
      have e7 := e6'.trans ga.ext
      walk_at "rd"
      refine ⟨ar, xr, at_, .ref arow, rfl, rfl, SqT.up hSr5 (ga.same.trans B7.sub), hvr, ?_⟩
      walk_at "rd"
      refine ⟨ar, xr, at_, .ref arow, rfl, rfl, SqT.up hSr5 (ga.same.trans B7.sub), hvr, ?_⟩
      have s8 := ga.same
      refine ⟨Ha, arow, arow, _, _, rfl, rfl, B7.sub, SqT.up hSrow s8, SqT.up hSrow s8, by rw [List.length_map]; omega, fun lb Hc Hd gb sb => ?_⟩
      have B9 := B7.gr gb
      have e9 := e7.trans gb.ext
      have s9 := s8.trans gb.same
      have dx : Dp K Hc (.ref lb) (.tuple (rj.map .int ++ rj.map .int)) := .tup sb (dpa_append (ints_dp rj) (ints_dp rj))
      have smx : sm 1 (.tuple (rj.map .int ++ rj.map .int)) := sm_tuple (by rw [List.length_append, List.length_map]; omega) fun _ _ => trivial
      walk_at "rd"
      rename_i t2 ht2
      have B10 := B9.lay (o := .tup [V.ref lb]) ht2
      have e10 := e9.lay' (o := .tup [V.ref lb]) ht2
      have n10 := Same.new (o := .tup [V.ref lb]) (B9.sub.free ht2)
      have s10 := s9.trans n10
      refine ⟨_, la, t2, _, _, rfl, rfl, B10.sub, SqT.up sa (gb.same.trans n10), SqT.of upd_same, by rw [List.length_singleton]; omega, fun lc He Hf gc sc' => ?_⟩
      have B11 := B10.gr gc
      have e11 := e10.trans gc.ext
      walk_at "rd"
      refine ⟨He, ar, xr, rfl, B11.sub, SqT.up hSr5 (s10.trans gc.same), fun ld Hg Hh gd sd => ?_⟩
      rw [cut_drop (by omega)] at sd
      have B12 := B11.gr gd
      have e12 := e11.trans gd.ext
      refine ⟨Hg, lc, ld, _, _, rfl, rfl, B12.sub, SqT.up sc' gd.same, sd, by rw [List.length_append, List.length_singleton]; omega, fun le Hi Hj ge se => ?_⟩
      have B13 := B12.gr ge
      have e13 := e12.trans ge.ext
      have sx := n10.trans (gc.same.trans (gd.same.trans ge.same))
      walk_at "rd"
      rename_i p hp
      exact fin _ _ _ _ _ _ Hi Hj _ p (.int n) (.tup se (rowsd _ _ Hi (s9.trans sx) (Dp.up sx _ _ dx))) (dl _ (s9.trans sx)) (sm_flat rfl) (rowsm _ smx) sml e13 B13 (by omega) hp
end
end U
namespace U
open PySem L2
/-- all but the box stands still -/
def stl (β : BA) (H : Hp) : Hp := fun a => if a = β.b ∨ a = β.g then none else H a
theorem stl_ne {β : BA} {H : Hp} {a : Addr} (h1 : a ≠ β.b) (h2 : a ≠ β.g) : stl β H a = H a := if_neg fun z => z.elim h1 h2
theorem stl_in {β : BA} {H : Hp} : Same (stl β H) H := fun a o z => by
  unfold stl at z
  by_cases h : a = β.b ∨ a = β.g
  · rw [if_pos h] at z; cases z
  · rw [if_neg h] at z; exact z
theorem stl_up {β : BA} {Hz H : Hp} {c : Int} (B : Bx Hz H β c) : Same Hz (stl β H) := fun a o z => by
  rw [stl_ne (fun e => by rw [e, B.b0] at z; cases z) (fun e => by rw [e, B.g0] at z; cases z)]
  exact B.sub a o z
theorem Bx.stl {β : BA} {Hz H : Hp} {c : Int} (B : Bx Hz H β c) : Bx (U.stl β H) H β c := B.more (stl_up B) stl_in (if_pos (.inl rfl)) (if_pos (.inr rfl))
theorem stl_obj {β : BA} {Hz H : Hp} {c : Int} {a : Addr} {o : HO} (B : Bx Hz H β c) (h : H a = some o) (hn : ∀ xs, o ≠ .lst xs) : U.stl β H a = some o := by
  obtain ⟨gs, n, ss, hb, hg, _⟩ := B.at_
  rw [stl_ne (fun e => hn _ (by rw [e, hb] at h; exact (Option.some.inj h).symm)) (fun e => hn _ (by rw [e, hg] at h; exact (Option.some.inj h).symm))]
  exact h
theorem stl_sqT {β : BA} {Hz H : Hp} {c : Int} {K : PySem.W.Frag} {a : Addr} {xs : List V} (B : Bx Hz H β c) (h : SqT K H a xs) : SqT K (U.stl β H) a xs := by
  rcases h with h | h
  · rcases h with h | ⟨o, h⟩
    · exact .inl (.inl (stl_obj B h fun _ e => nomatch e))
    · exact .inl (.inr ⟨o, stl_obj B h fun _ e => nomatch e⟩)
  · exact .inr h
theorem stl_bk {β : BA} {Hz H : Hp} {c : Int} {K : PySem.W.Frag} {C b : Addr} {ls ss : List V} (B : Bx Hz H β c) (h : Bk K C H b ls ss) : Bk K C (U.stl β H) b ls ss := by
  obtain ⟨dx, al, as, fs, h1, h2, h3, h4, h5, h6⟩ := h
  exact ⟨dx, al, as, fs, stl_obj B h1 (fun _ e => nomatch e), h2, h3, stl_sqT B h4, stl_sqT B h5, h6⟩
theorem one_val {k j : Key} {v u : V} (h : valV [(j, u)] k = some v) : v = u := by
  unfold valV at h
  rw [List.find?_cons] at h
  split at h
  · exact (Option.some.inj h).symm
  · cases h
/-- a book is made -/
theorem make_bk {K : PySem.W.Frag} {C al as ad ar x dx : Addr} {H : Hp} {Q : VK} {E : XK} {ls ss : List Str} {z : Str} (hx : H x = none) (hdx : H dx = none) (nx : dx ≠ x) (hl : SqL K H al (ls.map V.str)) (hs : SqL K H as (ss.map V.str)) (hd : H ad = some (.dK [(Sum.inr z, .ref ar)])) (ok : NamesOk ls ss [z]) (hr : RuleA K H ar)
    (q : ∀ H', Same H H' → Bk K C H' x (ls.map V.str) (ss.map V.str) → Q .non H') : spInitA K C [.ref x, .ref al, .ref as, .ref ad] (upd (upd H dx (.own x)) x (.ins C dx [])) Q E :=
  ⟨H, x, dx, al, as, ad, ls, ss, [z], _, rfl, (Same.new hdx).trans (Same.new (by rw [upd_ne nx.symm]; exact hx)), hx, upd_same, .inr hl, .inr hs, hd, rfl, ok, fun k v e => ⟨ar, one_val e, hr⟩, q⟩
section
variable {P : Program} {w : World} {K : PySem.W.Frag} {mg : Str → Option Value} {base : Heap}
abbrev s_law : Stmt := (top 40)
theorem sc_law : FnScope ["_law_script", "_law_box_here", "_law_turn", "_law_lanes_here", "_law_switches", "_law_book", "_law_many", "_law_stand", "_law_thing", "_law_found"] ["_law_script"] (defScope s_law) := ⟨rfl, rfl, rfl, by decide +kernel, rfl, by decide +kernel, by decide +kernel⟩
def spLaw (K : PySem.W.Frag) : Sp := fun vs H Q _ => ∃ (a : Addr) (ns : List Int), vs = [.ref a] ∧ SqL K H a (ns.map V.int) ∧ ns.length ≤ 63 ∧ ∀ H', Q (.bl true) H'
theorem ok_law {f C : Addr} {fd : FuncData} (F : Fun K "law" "law" s_law f fd) (T : Blx mg) (h__law_box : Has P w K mg base CX0 1 "_law_box" ["_law_script"] (spBox K)) (h__law_take : Has P w K mg base CX0 2 "_law_take" ["_law_box_here", "_law_size"] spTake)
    (h__law_lanes : Has P w K mg base CX0 4 "_law_lanes" ["_law_box_here"] spLawLanes) (c_Book : HasC P w K mg base CX0 4 "Book" C ["self", "lanes", "switches", "rules"] (spInitA K C)) (h__law_drawn_stand : Has P w K mg base CX0 4 "_law_drawn_stand" ["_law_box_here", "_law_lanes_here", "_law_switches", "_law_many"] (spDrawn K))
    (h__law_bent : Has P w K mg base CX0 4 "_law_bent" ["_law_box_here", "_law_stand", "_law_many"] (spBent K)) (h_is_stand : Has P w K mg base CX0 3 "is_stand" ["book", "many", "thing"] (spStand K C)) (h__law_is_stand : Has P w K mg base CX0 2 "_law_is_stand" ["_law_thing", "_law_many", "_law_size", "_law_lights"] (spLStand K)) :
    FnOk P w K mg base CX0 6 f fd ["_law_script"] (spLaw K) := by
  have sc := sc_law
  refine F.ok sc (fun vs H Q E h => ?_) (fun cdv A outer s H vs Q E hr h => ?_)
  · obtain ⟨a, ns, rfl, _⟩ := h
    rfl
  · obtain ⟨a, ns, rfl, hS, hl, q⟩ := h
    refine ⟨_, (pss_cons (ps_set (i := 1) sc.nd rfl (Or.inl rfl) (pe_h h__law_box (hr.mono (by decide)) (by rfl) pass0 (pa_cons (pv 0) pa_nil)))
 (pss_cons (ps_for PassesOwn.never rfl (pi_range1 (by rfl) T.b_range (pa_cons pe_int pa_nil)) (pg_name (i := 2) sc.nd rfl (Or.inl rfl))
  (pss_cons (ps_asg (pe_h h__law_lanes (hr.mono (by decide)) (by rfl) pass0 (pa_cons (pv 1) pa_nil)) (pg_tup rfl (pgs_cons (pg_name (i := 3) sc.nd rfl (Or.inl rfl)) (pgs_cons (pg_name (i := 4) sc.nd rfl (Or.inl rfl)) pgs_nil))))
 (pss_cons (ps_par (by rfl) sc.nd (i := 5) (j := 6) rfl rfl (by decide) rfl rfl (pa_cons (pe_hc c_Book (hr.mono (by decide)) (by rfl) pass0 (pa_cons (pv 3) (pa_cons (pv 4) (pa_cons (pe_disp (pps_cons pe_str (pe_lst (pa_cons (pe_tup (pa_cons pe_str pa_nil)) pa_nil)) pps_nil) (by rfl) (by rfl) (fun z => by cases z) (by decide)) pa_nil)))) (pa_cons (pe_op op_add pe_int (pe_h h__law_take (hr.mono (by decide)) (by rfl) pass0 (pa_cons (pv 1) (pa_cons pe_int pa_nil)))) pa_nil)) (by rfl))
 (pss_cons (ps_set (i := 7) sc.nd rfl (Or.inl rfl) (pe_h h__law_drawn_stand (hr.mono (by decide)) (by rfl) pass0 (pa_cons (pv 1) (pa_cons (pv 3) (pa_cons (pv 4) (pa_cons (pv 6) pa_nil))))))
 (pss_one (ps_for PassesOwn.never rfl (pi_tup (pe_tup (pa_cons (pv 7) (pa_cons (pe_h h__law_bent (hr.mono (by decide)) (by rfl) pass0 (pa_cons (pv 1) (pa_cons (pv 7) (pa_cons (pv 6) pa_nil)))) (pa_cons (pe_h h__law_bent (hr.mono (by decide)) (by rfl) pass0 (pa_cons (pv 1) (pa_cons (pv 7) (pa_cons (pv 6) pa_nil)))) pa_nil))))) (pg_name (i := 8) sc.nd rfl (Or.inl rfl))
  (pss_cons (ps_set (i := 9) sc.nd rfl (Or.inl rfl) (pe_h h_is_stand (hr.mono (by decide)) (by rfl) pass0 (pa_cons (pv 5) (pa_cons (pv 6) (pa_cons (pv 8) pa_nil)))))
 (pss_one (ps_if (PW.pt (pw_or (pt_not (pt_val (pe_callB call_isD (by rfl) T.b_isinstance bb_isinstance (pa_cons (pv 9) (pa_cons (pe_bltn (v := .ty "bool") (by rfl) T.b_bool bb_bool rfl) pa_nil))))) (pw_or1 (pt_cmpR op_ne (pv 9) (pe_h h__law_is_stand (hr.mono (by decide)) (by rfl) pass0 (pa_cons (pv 8) (pa_cons (pv 6) (pa_cons (pe_callB call_len (by rfl) T.b_len bb_len (pa_cons (pv 3) pa_nil)) (pa_cons (pe_callB call_len (by rfl) T.b_len bb_len (pa_cons (pv 4) pa_nil)) pa_nil))))) (nomark _)))))
  (pss_one (ps_ret pe_bl))
  pss_nil)))))))))
 (pss_one (ps_ret (pe_not (pe_callB (cr_any (by rfl)) (by rfl) T.b_any bb_any (pa_cons (pe_lcD (own := [("_law_thing", 8)])   (by rfl) sc.nd (pi_tup (pe_tup (pa_cons pe_non (pa_cons (pe_tup pa_nil) (pa_cons pe_int (pa_cons pe_str (pa_cons pe_dnewK (pa_cons (pe_lst pa_nil) (pa_cons (pe_tup (pa_cons (pe_tup pa_nil) pa_nil)) pa_nil))))))))) (blkOk_by (by kernel_rfl)) (fun _ _ _ _ _ => (pg_name (i := 8) sc.nd rfl (Or.inl rfl))) (fun _ _ _ _ _ => pts_nil) (fun _ _ _ _ _ => (pe_h h_is_stand (hr.mono (by decide)) (by rfl) pass0 (pa_cons (pe_hc c_Book (hr.mono (by decide)) (by rfl) pass0 (pa_cons (pe_lst (pa_cons pe_str pa_nil)) (pa_cons (pe_lst pa_nil) (pa_cons (pe_disp (pps_cons pe_str (pe_lst pa_nil) pps_nil) (by rfl) (by rfl) (fun z => by cases z) (by decide)) pa_nil)))) (pa_cons pe_int (pa_cons (pv 8) pa_nil)))))) pa_nil))))))), ?_⟩
    walk_at "kx"
    walk_at "rd"
    refine ⟨a, ns, rfl, hS, hl, fun β H0 H1 s1 B1 => ?_⟩
    walk_at "rd"
    refine for_it walk_range (fun i σ H' => ∃ (Hz : Hp) (c : Int) (o2 o3 o4 o5 o6 o7 o8 o9 : Option V), Bx Hz H' β c ∧ c ≤ 100 * i ∧ σ = [some (.ref a), some (.ref β.b), o2, o3, o4, o5, o6, o7, o8, o9])
      ⟨H0, 0, _, _, _, _, _, _, _, _, B1, by omega, rfl⟩ (fun _ _ _ _ _ => trivial) (fun i x σ H' H'' hi z y => ?_) (fun σ H' z => ?_)
    · obtain ⟨Hz, c, o2, o3, o4, o5, o6, o7, o8, o9, B2, hc2, rfl⟩ := z
      obtain ⟨rfl, rfl⟩ := y
      walk_at "rd"
      refine ⟨Hz, β, c, rfl, B2, by omega, fun p l s' ls ss Z3 H3 c3 dr hp hls hss e3 B3 hc3 => ?_⟩
      walk_at "rd"
      refine ⟨p, _, rfl, SqT.of (B3.sub _ _ hp), rfl, ?_⟩
      walk_at "rd"
      rename_i d1 hd1 t1 ht1 l1 hl1
      refine ⟨by walk_at "hp", [(Sum.inr "stop", .ref l1)], rfl, by show 1 ≤ 15; decide, ?_⟩
      have m1 := Same.new (o := .dK []) hd1
      have m2 := m1.trans (Same.new (o := .tup [V.str "away"]) ht1)
      have m3 := m2.trans (Same.new (o := .lst [V.ref t1]) hl1)
      have m4 := Same.upd0 (o := .dK [(Sum.inr "stop", .ref l1)]) m3 hd1
      walk_at "rd"
      refine fun x dx hx hdx nx => make_bk hx hdx nx (SqL.of (m4 _ _ (B3.sub _ _ hls))) (SqL.of (m4 _ _ (B3.sub _ _ hss))) upd_same ⟨dr.wd, dr.nd, ?_, ?_, by show 1 < 64; decide⟩ ⟨[V.ref t1], SqL.of ?_, by show 1 ≤ 1000; decide, fun x hx => ?_⟩ fun H4 s4 bk4 => ⟨rfl, ?_⟩
      · have := dr.l3
        have := dr.s2
        rw [List.length_append]
        omega
      · intro z hz
        rw [List.mem_singleton.mp hz]
        exact ⟨by decide +kernel, by decide +kernel⟩
      · walk_at "hp"
      · rw [List.mem_singleton.mp hx]
        refine .tup (SqT.of ?_) (.cons (.str _) .nil)
        walk_at "hp"
      have B4 := (B3.pass (m4.trans s4)).stl
      have bk := stl_bk (B3.pass (m4.trans s4)) bk4
      have z4 := stl_up (B3.pass (m4.trans s4))
      generalize stl β H4 = Z4 at B4 bk z4
      walk_at "rd"
      refine ⟨Z4, β, c3, 3, rfl, B4, by omega, by decide, by decide, fun r H5 r0 r1 e5 B5 => ?_⟩
      walk_at "rd"
      refine ⟨Z4, β, c3 + 1, 1 + r, l, s', _, _, rfl, B5, by omega, by omega, by omega, SqL.of (z4 _ _ hls), SqL.of (z4 _ _ hss), by rw [List.length_map]; exact dr.l3, by rw [List.length_map]; exact dr.s2, fun v n rss lts Z6 H6 c6 hr6 hl6 hrr hd6 e6 B6 hc6 => ?_⟩
      rw [List.length_map] at hr6 hl6
      have dl1 := dr.l1
      have dl3 := dr.l3
      have ds2 := dr.s2
      walk_at "rd"
      refine ⟨Z6, β, c6, 1 + r, n, v, rss, lts, rfl, B6, by omega, by omega, by omega, by omega, hrr, hd6, fun v7 d7 Z7 H7 c7 hd7 sm7 e7 B7 hc7 => ?_⟩
      walk_at "rd"
      refine ⟨Z7, β, c7, 1 + r, n, v, rss, lts, rfl, B7, by omega, by omega, by omega, by omega, hrr, Dp.up e7.same _ _ hd6, fun v8 d8 Z8 H8 c8 hd8 sm8 e8 B8 hc8 => ?_⟩
      walk_at "rd"
      rename_i T8 hT8
      have n8 := Same.new (o := .tup [v, v7, v8]) hT8
      have s58 : Same Z4 (upd H8 T8 (.tup [v, v7, v8])) := e6.same.trans (e7.same.trans (e8.same.trans (B8.sub.trans n8)))
      have things : ∀ y ∈ [v, v7, v8], ∃ d, Dp K (upd H8 T8 (.tup [v, v7, v8])) y d ∧ sm 3 d := fun y hy => by
        simp only [List.mem_cons, List.not_mem_nil, or_false] at hy
        rcases hy with rfl | rfl | rfl
        · exact ⟨_, Dp.up (e7.same.trans (e8.same.trans (B8.sub.trans n8))) _ _ hd6, sm_three (sm_flat rfl) (sm_rowsD (by omega) fun r hr => Nat.le_trans (hrr r hr) (by decide)) (sm_ints (by omega))⟩
        · exact ⟨_, Dp.up (e8.same.trans (B8.sub.trans n8)) _ _ hd7, sm7⟩
        · exact ⟨_, Dp.up (B8.sub.trans n8) _ _ hd8, sm8⟩
      refine ⟨⟨_, SqT.of upd_same⟩, for_it (walk_tup (xs := [v, v7, v8])) (fun j σ H' => Same (upd H8 T8 (.tup [v, v7, v8])) H' ∧ ∃ (o8 o9 : Option V), σ = [some (.ref a), some (.ref β.b), some (.int (0 + (i : Nat))), some (.ref l), some (.ref s'), some (.ref x), some (.int (1 + r)), some v, o8, o9])
        ⟨Same.refl _, _, _, rfl⟩ (fun j σ H' _ z => SqT.of (z.1 _ _ upd_same)) (fun j y σ H' H'' hj z u => ?_) (fun σ H' z => ?_)⟩
      · obtain ⟨s9, o8, o9, rfl⟩ := z
        obtain ⟨rfl, u⟩ := u
        obtain ⟨d, hd, hsm⟩ := things y (List.mem_of_getElem? u)
        walk_at "rd"
        refine ⟨x, 1 + r, y, d, _, _, rfl, bk.up (s58.trans s9), .of (Dp.up s9 _ _ hd), hsm, fun Ha sa => ?_⟩
        have sa' := s9.trans sa
        walk_at "rd"
        refine ⟨_, _, rfl, .inl ⟨_, SqL.of ((s58.trans sa') _ _ (z4 _ _ hls)), rfl⟩, ?_⟩
        walk_at "rd"
        refine ⟨_, _, rfl, .inl ⟨_, SqL.of ((s58.trans sa') _ _ (z4 _ _ hss)), rfl⟩, ?_⟩
        walk_at "rd"
        refine ⟨1 + r, y, d, _, _, rfl, .of (Dp.up sa' _ _ hd), hsm, fun Hb sb => ?_⟩
        walk_at "rd"
        exact iteND (fun _ => ⟨sa'.trans sb, _, _, rfl⟩) fun h => absurd rfl h
      · obtain ⟨s9, o8, o9, rfl⟩ := z
        exact ⟨Z8, c8, _, _, _, _, _, _, _, _, B8.pass (n8.trans s9), by omega, rfl⟩
    · obtain ⟨Hz, c, o2, o3, o4, o5, o6, o7, o8, o9, B2, hc2, rfl⟩ := z
      walk_at "rd"
      rename_i t1 ht1 d1 hd1 l1 hl1 t2 ht2 t3 ht3 T1 hT1
      have n1 : t1 ≠ d1 := ne_none hd1 upd_same
      have k1 := Same.new (o := .dK []) hd1
      have k2 := Same.new (o := .lst []) hl1
      have k3 := Same.new (o := .tup []) ht2
      have k4 := Same.new (o := .tup [V.ref t2]) ht3
      have k5 := Same.new (o := .tup [V.non, V.ref t1, V.int 5, V.str "ab", V.ref d1, V.ref l1, V.ref t3]) hT1
      have things : ∀ v ∈ [V.non, V.ref t1, V.int 5, V.str "ab", V.ref d1, V.ref l1, V.ref t3], ∃ d, Dat K _ v d ∧ sm 3 d ∧ isStand 2 1 0 d = false := fun v hv => by
        simp only [List.mem_cons, List.not_mem_nil, or_false] at hv
        rcases hv with rfl | rfl | rfl | rfl | rfl | rfl | rfl
        · exact ⟨_, .of .non, sm_flat rfl, rfl⟩
        · exact ⟨.tuple [], .of (.tup (SqT.of ((k1.trans (k2.trans (k3.trans (k4.trans k5)))) _ _ upd_same)) .nil), sm_tuple (Nat.zero_le _) fun _ h => absurd h (by simp), rfl⟩
        · exact ⟨_, .of (.int 5), sm_flat rfl, rfl⟩
        · exact ⟨_, .of (.str _), sm_flat rfl, rfl⟩
        · exact ⟨_, .dict ((k2.trans (k3.trans (k4.trans k5))) _ _ upd_same), sm_flat rfl, rfl⟩
        · exact ⟨.list [], .of (.lst (SqL.of ((k3.trans (k4.trans k5)) _ _ upd_same)) .nil), sm_list (Nat.zero_le _) fun _ h => absurd h (by simp), rfl⟩
        · exact ⟨.tuple [.tuple []], .of (.tup (SqT.of (k5 _ _ upd_same)) (.cons (.tup (SqT.of ((k4.trans k5) _ _ upd_same)) .nil) .nil)), sm_tuple (by show 1 ≤ 7; decide) fun d h => by
            rw [List.mem_singleton.mp h]
            exact sm_tuple (Nat.zero_le _) fun _ h => absurd h (by simp), rfl⟩
      refine ⟨⟨_, SqT.of upd_same⟩, fun D hD => ?_⟩
      refine lc_f (walk_tup (xs := [V.non, V.ref t1, V.int 5, V.str "ab", V.ref d1, V.ref l1, V.ref t3])) (List.replicate 7 (V.bl false)) rfl (by show 7 ≤ 1000000; decide) hD (fun H' s => SqT.of (s _ _ upd_same)) (fun i x Ha Hb R hi s y r => ?_) (fun H7 s7 hD7 => ?_)
      · obtain ⟨rfl, y⟩ := y
        obtain ⟨d, hd, hsm, hno⟩ := things x (List.mem_of_getElem? y)
        have er : (List.replicate 7 (V.bl false))[i]? = some (V.bl false) := List.getElem?_replicate_of_lt hi
        walk_at "rd"
        rename_i la hla lb hlb dd hdd lc hlc
        refine ⟨by walk_at "hp", [(Sum.inr "x", .ref lc)], rfl, by show 1 ≤ 15; decide, ?_⟩
        walk_at "rd"
        have m1 := Same.new (o := .lst [V.str "a"]) hla
        have m2 := m1.trans (Same.new (o := .lst []) hlb)
        have m3 := m2.trans (Same.new (o := .dK []) hdd)
        have m4 := m3.trans (Same.new (o := .lst []) hlc)
        have m5 := Same.upd0 (o := .dK [(Sum.inr "x", .ref lc)]) m4 (m2.free hdd)
        refine fun xb dx hx hdx nx => make_bk hx hdx nx (ls := ["a"]) (ss := []) (SqL.of ?_) (SqL.of ?_) upd_same ⟨by decide +kernel, by decide +kernel, by decide, by decide +kernel, by decide⟩ ⟨[], SqL.of ?_, by decide, fun x hx => absurd hx (by simp)⟩ fun H4 s4 bk4 => ⟨rfl, ?_⟩
        · walk_at "hp"
        · walk_at "hp"
        · walk_at "hp"
        walk_at "rd"
        refine ⟨xb, 2, x, d, _, _, rfl, bk4, hd.up (s.trans (m5.trans s4)), hsm, fun H5 s5 => ?_⟩
        rw [show isStand 2 (List.map V.str ["a"]).length (List.map V.str []).length d = false from hno]
        exact r _ _ er ((m5.trans s4).trans s5)
      · walk_at "rd"
        refine ⟨D, List.replicate 7 false, rfl, SqL.of hD7, ?_⟩
        refine ⟨_, rfl, ?_⟩
        exact q _
end
end U
namespace U
open PySem L2
/-- a def of the module -/
def DefF (K : PySem.W.Frag) (x : Str) (st : Stmt) : Prop := ∃ (f : Addr) (oc : Value) (od an : Option Addr) (sl : Array (Option Value)) (kV dc pm cd ct : Value), PySem.W.nsIn K mainGlobals x = some (some (.ref f)) ∧
  K.lookup f = some ⟨oc, od, .func (PySem.W.fnOf x x (defArgs st) (defBody st) (defScope st) .none kV dc pm an cd ct), sl⟩ ∧ PySem.W.codeIn K cd x = true ∧ PySem.W.keepIn K (.ref f) = true
/-- a def of a class -/
def MethF (K : PySem.W.Frag) (C : Addr) (m q : Str) (st : Stmt) : Prop := ∃ (f : Addr) (oc : Value) (od an : Option Addr) (sl : Array (Option Value)) (kV dc pm cd ct : Value), PySem.W.findIn K (.ref C) m = some (some (.ref f)) ∧
  K.lookup f = some ⟨oc, od, .func (PySem.W.fnOf m q (defArgs st) (defBody st) (defScope st) .none kV dc pm an cd ct), sl⟩ ∧ PySem.W.codeIn K cd q = true ∧ PySem.W.keepIn K (.ref f) = true ∧ PySem.W.isFn K (.ref f) = true
theorem DefF.of {K : PySem.W.Frag} {x : Str} {st : Stmt} {f : Addr} {oc : Value} {od an : Option Addr} {sl : Array (Option Value)} {kV dc pm cd ct : Value} (a : PySem.W.nsIn K mainGlobals x = some (some (.ref f)))
    (l : K.lookup f = some ⟨oc, od, .func (PySem.W.fnOf x x (defArgs st) (defBody st) (defScope st) .none kV dc pm an cd ct), sl⟩) (c : PySem.W.codeIn K cd x = true) (k : PySem.W.keepIn K (.ref f) = true) : DefF K x st := ⟨f, oc, od, an, sl, kV, dc, pm, cd, ct, a, l, c, k⟩
theorem MethF.of {K : PySem.W.Frag} {C : Addr} {m q : Str} {st : Stmt} {f : Addr} {oc : Value} {od an : Option Addr} {sl : Array (Option Value)} {kV dc pm cd ct : Value} (a : PySem.W.findIn K (.ref C) m = some (some (.ref f)))
    (l : K.lookup f = some ⟨oc, od, .func (PySem.W.fnOf m q (defArgs st) (defBody st) (defScope st) .none kV dc pm an cd ct), sl⟩) (c : PySem.W.codeIn K cd q = true) (k : PySem.W.keepIn K (.ref f) = true) (i : PySem.W.isFn K (.ref f) = true) : MethF K C m q st := ⟨f, oc, od, an, sl, kV, dc, pm, cd, ct, a, l, c, k, i⟩
section
variable {P : Program} {w : World} {K : PySem.W.Frag} {mg : Str → Option Value} {h base : Heap} {x m q : Str} {st : Stmt} {ps : List Str} {k : Nat} {sp : Sp} {C : Addr}
theorem DefF.has (D : DefF K x st) (X : K.In h) (G : h.Ns mainGlobals mg)
    (hb : ∀ (kV doc pm : Value) (an : Option Addr) (cdv ct : Value) (us : List Value), us.length = ps.length → bindArgs (PySem.W.fnOf x x (defArgs st) (defBody st) (defScope st) .none kV doc pm an cdv ct) ⟨us, []⟩ = pure (ps.zip us))
    (ok : ∀ (f : Addr) (fd : FuncData), Fun K x x st f fd → FnOk P w K mg base CX0 k f fd ps sp) : Has P w K mg base CX0 k x ps sp := by
  obtain ⟨f, oc, od, an, sl, kV, dc, pm, cd, ct, a, l, c, kp⟩ := D
  have F := fun_mk (st := st) l c kp
  exact ⟨f, _, ok f _ F, PySem.W.mg_of X G a, kp, F.binds hb⟩
theorem MethF.has (D : MethF K C m q st)
    (hb : ∀ (kV doc pm : Value) (an : Option Addr) (cdv ct : Value) (us : List Value), us.length = ps.length → bindArgs (PySem.W.fnOf m q (defArgs st) (defBody st) (defScope st) .none kV doc pm an cdv ct) ⟨us, []⟩ = pure (ps.zip us))
    (ok : ∀ (f : Addr) (fd : FuncData), Fun K m q st f fd → FnOk P w K mg base CX0 k f fd ps sp) : HasM P w K mg base CX0 k C m ps sp := by
  obtain ⟨f, oc, od, an, sl, kV, dc, pm, cd, ct, a, l, c, kp, i⟩ := D
  have F := fun_mk (st := st) l c kp
  exact ⟨f, _, ok f _ F, ⟨a, i, kp⟩, F.binds hb⟩
theorem MethF.mk (D : MethF K C "__init__" q st) (hm : mg x = some (.ref C)) (mk : PySem.W.makesIn K C = true) (kc : PySem.W.keepIn K (.ref C) = true)
    (hb : ∀ (kV doc pm : Value) (an : Option Addr) (cdv ct : Value) (us : List Value), us.length = ps.length → bindArgs (PySem.W.fnOf "__init__" q (defArgs st) (defBody st) (defScope st) .none kV doc pm an cdv ct) ⟨us, []⟩ = pure (ps.zip us))
    (ok : ∀ (f : Addr) (fd : FuncData), Fun K "__init__" q st f fd → FnOk P w K mg base CX0 k f fd ps sp) : HasC P w K mg base CX0 k x C ps sp := by
  obtain ⟨f, oc, od, an, sl, kV, dc, pm, cd, ct, a, l, c, kp, i⟩ := D
  have F := fun_mk (st := st) l c kp
  exact ⟨f, _, ok f _ F, ⟨mk, a, i, kc⟩, F.binds hb, hm⟩
end
theorem all_mk {l : PySem.W.OpenLaw} {w : World} {K : PySem.W.Frag} {h : Heap} {mg : Str → Option Value} {fa C aF aK aw : Addr} {tl t1 t2 t3 : Tok} {oF ow : Option Addr} {nF nK nw : Nat} {esK : Array DictEntry} {sF sw : Array (Option Value)} (X : K.In h) (G : h.Ns mainGlobals mg) (hfa : mg "law" = some (.ref fa))
    (d__law_mixed : DefF K "_law_mixed" s__law_mixed)
    (d__law_take : DefF K "_law_take" s__law_take)
    (d__law_pick : DefF K "_law_pick" s__law_pick)
    (d__law_shuffled : DefF K "_law_shuffled" s__law_shuffled)
    (d__law_box : DefF K "_law_box" s__law_box)
    (d_is_piece : DefF K "is_piece" s_is_piece)
    (d_is_number : DefF K "is_number" s_is_number)
    (d__law_is_int : DefF K "_law_is_int" s__law_is_int)
    (d_there : DefF K "there" s_there)
    (d_is_stand : DefF K "is_stand" s_is_stand)
    (d__law_is_stand : DefF K "_law_is_stand" s__law_is_stand)
    (d_is_word : DefF K "is_word" s_is_word)
    (d_is_listed : DefF K "is_listed" s_is_listed)
    (d_is_step : DefF K "is_step" s_is_step)
    (d_lists_of : DefF K "lists_of" s_lists_of)
    (d_first_wrong : DefF K "first_wrong" s_first_wrong)
    (d_frozen : DefF K "frozen" s_frozen)
    (d_check_names : DefF K "check_names" s_check_names)
    (d__law_lanes : DefF K "_law_lanes" s__law_lanes)
    (d__law_drawn_stand : DefF K "_law_drawn_stand" s__law_drawn_stand)
    (d__law_bent : DefF K "_law_bent" s__law_bent)
    (d_law : DefF K "law" s_law)
    (aC : PySem.W.nsIn K mainGlobals "Book" = some (some (.ref C)))
    (d_Book_lanes : MethF K C "lanes" "Book.lanes" s_Book_lanes)
    (d_Book_switches : MethF K C "switches" "Book.switches" s_Book_switches)
    (d_Book___init__ : MethF K C "__init__" "Book.__init__" s_Book___init__)
    (pg : PySem.W.plainGet K C Str.empty = true)
    (hd : PySem.W.hasDictIn K C = true)
    (po : PySem.W.plainOver K C = true)
    (sa : PySem.W.findIn K (.ref C) "__setattr__" = some (some (.builtin "object.__setattr__")))
    (mk : PySem.W.makesIn K C = true)
    (kc : PySem.W.keepIn K (.ref C) = true)
    (n_own_lanes : PySem.W.findIn K (.ref C) "own_lanes" = some none)
    (n_own_switches : PySem.W.findIn K (.ref C) "own_switches" = some none)
    (n_own_rules : PySem.W.findIn K (.ref C) "own_rules" = some none)
    (z_len : PySem.W.nsIn K mainGlobals "len" = some none)
    (z_max : PySem.W.nsIn K mainGlobals "max" = some none)
    (z_all : PySem.W.nsIn K mainGlobals "all" = some none)
    (z_any : PySem.W.nsIn K mainGlobals "any" = some none)
    (z_sorted : PySem.W.nsIn K mainGlobals "sorted" = some none)
    (z_isinstance : PySem.W.nsIn K mainGlobals "isinstance" = some none)
    (z_list : PySem.W.nsIn K mainGlobals "list" = some none)
    (z_tuple : PySem.W.nsIn K mainGlobals "tuple" = some none)
    (z_int : PySem.W.nsIn K mainGlobals "int" = some none)
    (z_bool : PySem.W.nsIn K mainGlobals "bool" = some none)
    (z_str : PySem.W.nsIn K mainGlobals "str" = some none)
    (z_dict : PySem.W.nsIn K mainGlobals "dict" = some none)
    (z_set : PySem.W.nsIn K mainGlobals "set" = some none)
    (z_range : PySem.W.nsIn K mainGlobals "range" = some none)
    (z_enumerate : PySem.W.nsIn K mainGlobals "enumerate" = some none)
    (z_zip : PySem.W.nsIn K mainGlobals "zip" = some none)
    (z_sum : PySem.W.nsIn K mainGlobals "sum" = some none)
    (aL : PySem.W.nsIn K mainGlobals "LETTERS" = some (some (.str "abcdefghijklmnopqrstuvwxyz" tl)))
    (gF : PySem.W.nsIn K mainGlobals "FREE" = some (some (.ref aF)))
    (lF : K.lookup aF = some ⟨.type "tuple", oF, .seq #[.str "put" t1, .str "drop" t2, .str "set" t3] nF, sF⟩)
    (gK : PySem.W.nsIn K mainGlobals "KINDS" = some (some (.ref aK)))
    (lK : K.lookup aK = some ⟨.type "dict", none, .dict esK nK, #[]⟩)
    (kK : PySem.W.KeysLit w.params esK.toList)
    (sK : (aK == sysModules) = false)
    (gw : PySem.W.nsIn K aK "away" = some (some (.ref aw)))
    (lw : K.lookup aw = some ⟨.type "tuple", ow, .seq #[] nw, sw⟩)
    : ∃ fd : FuncData, (∀ (s : Shared) (v : Value), BindsTo s fd ⟨[v], []⟩ [("_law_script", v)]) ∧ ∀ base : Heap, K.In base → base.Ns mainGlobals mg → FnOk l.prog w K mg base CX0 6 fa fd ["_law_script"] (spLaw K) := by
  obtain ⟨f4, oc4, od4, an4, sl4, kV4, dc4, pm4, cd4, ct4, a4, l4, c4, k4⟩ := d_law
  have e := hfa.symm.trans (PySem.W.mg_of X G a4)
  cases e
  have T : Bl mg := ⟨PySem.W.mg_none_of X G z_len, PySem.W.mg_none_of X G z_max, PySem.W.mg_none_of X G z_all, PySem.W.mg_none_of X G z_any, PySem.W.mg_none_of X G z_sorted, PySem.W.mg_none_of X G z_isinstance, PySem.W.mg_none_of X G z_list, PySem.W.mg_none_of X G z_tuple, PySem.W.mg_none_of X G z_int, PySem.W.mg_none_of X G z_bool, PySem.W.mg_none_of X G z_str, PySem.W.mg_none_of X G z_dict, PySem.W.mg_none_of X G z_set, PySem.W.mg_none_of X G z_range, PySem.W.mg_none_of X G z_enumerate, PySem.W.mg_none_of X G z_zip⟩
  have Tx : Blx mg := ⟨T, PySem.W.mg_none_of X G z_sum⟩
  have B : BkC K C := ⟨⟨pg, hd, po, sa⟩, n_own_lanes, n_own_switches, n_own_rules⟩
  have mL := PySem.W.mg_of X G aL
  have fr : mg "FREE" = some (.ref aF) ∧ ∀ H, SqT K H aF (frees.map V.str) := ⟨PySem.W.mg_of X G gF, fun H => .inr ⟨_, _, _, lF, rfl, rfl, by rw [sizeLine_eq]; show 3 ≤ _; decide, .cons ⟨_, rfl⟩ (.cons ⟨_, rfl⟩ (.cons ⟨_, rfl⟩ .nil))⟩⟩
  have kd : Kd K w mg aK aw esK nK := ⟨PySem.W.mg_of X G gK, ⟨lK, kK, sK⟩, gw, fun H => .inr ⟨_, _, _, lw, rfl, rfl, Nat.zero_le _, .nil⟩⟩
  refine ⟨PySem.W.fnOf "law" "law" (defArgs s_law) (defBody s_law) (defScope s_law) .none kV4 dc4 pm4 an4 cd4 ct4, fun s v => .of_eq rfl, fun base _ _ => ?_⟩
  have m_lanes : HasM l.prog w K mg base CX0 1 C "lanes" ["self"] (spLanes K C) := d_Book_lanes.has (fun _ _ _ _ _ _ us hl => match us, hl with | [_], _ => rfl) fun _ _ F => ok_lanes F T B
  have m_switches : HasM l.prog w K mg base CX0 1 C "switches" ["self"] (spSwitches K C) := d_Book_switches.has (fun _ _ _ _ _ _ us hl => match us, hl with | [_], _ => rfl) fun _ _ F => ok_switches F T B
  have h__law_mixed : Has l.prog w K mg base CX0 1 "_law_mixed" ["_law_cell", "_law_k"] spMixed := d__law_mixed.has X G (fun _ _ _ _ _ _ us hl => match us, hl with | [_, _], _ => rfl) fun _ _ F => ok_mixed F
  have h__law_take : Has l.prog w K mg base CX0 2 "_law_take" ["_law_box_here", "_law_size"] spTake := d__law_take.has X G (fun _ _ _ _ _ _ us hl => match us, hl with | [_, _], _ => rfl) fun _ _ F => ok_take F T h__law_mixed
  have h__law_pick : Has l.prog w K mg base CX0 3 "_law_pick" ["_law_box_here", "_law_things"] (spPick K) := d__law_pick.has X G (fun _ _ _ _ _ _ us hl => match us, hl with | [_, _], _ => rfl) fun _ _ F => ok_pick F T h__law_take
  have h__law_shuffled : Has l.prog w K mg base CX0 3 "_law_shuffled" ["_law_box_here", "_law_things"] (spShuf K) := d__law_shuffled.has X G (fun _ _ _ _ _ _ us hl => match us, hl with | [_, _], _ => rfl) fun _ _ F => ok_shuf F T h__law_take
  have h__law_box : Has l.prog w K mg base CX0 1 "_law_box" ["_law_script"] (spBox K) := d__law_box.has X G (fun _ _ _ _ _ _ us hl => match us, hl with | [_], _ => rfl) fun _ _ F => ok_box F
  have h_is_piece : Has l.prog w K mg base CX0 1 "is_piece" ["thing"] (spPiece K) := d_is_piece.has X G (fun _ _ _ _ _ _ us hl => match us, hl with | [_], _ => rfl) fun _ _ F => ok_piece F T
  have h_is_number : Has l.prog w K mg base CX0 2 "is_number" ["thing", "low", "high"] (spNum K) := d_is_number.has X G (fun _ _ _ _ _ _ us hl => match us, hl with | [_, _, _], _ => rfl) fun _ _ F => ok_num F h_is_piece
  have h__law_is_int : Has l.prog w K mg base CX0 1 "_law_is_int" ["_law_thing", "_law_low", "_law_high"] (spNum K) := d__law_is_int.has X G (fun _ _ _ _ _ _ us hl => match us, hl with | [_, _, _], _ => rfl) fun _ _ F => ok_isint F T
  have h_there : Has l.prog w K mg base CX0 1 "there" ["stand"] (spThere K) := d_there.has X G (fun _ _ _ _ _ _ us hl => match us, hl with | [_], _ => rfl) fun _ _ F => ok_there F Tx
  have h_is_stand : Has l.prog w K mg base CX0 3 "is_stand" ["book", "many", "thing"] (spStand K C) := d_is_stand.has X G (fun _ _ _ _ _ _ us hl => match us, hl with | [_, _, _], _ => rfl) fun _ _ F => ok_stand F B Tx h_is_number h_there m_lanes m_switches
  have h__law_is_stand : Has l.prog w K mg base CX0 2 "_law_is_stand" ["_law_thing", "_law_many", "_law_size", "_law_lights"] (spLStand K) := d__law_is_stand.has X G (fun _ _ _ _ _ _ us hl => match us, hl with | [_, _, _, _], _ => rfl) fun _ _ F => ok_lstand F Tx h__law_is_int
  have h_is_word : Has l.prog w K mg base CX0 1 "is_word" ["thing"] (spWord K) := d_is_word.has X G (fun _ _ _ _ _ _ us hl => match us, hl with | [_], _ => rfl) fun _ _ F => ok_word F T ⟨_, mL⟩
  have h_is_listed : Has l.prog w K mg base CX0 1 "is_listed" ["thing"] (spListed K) := d_is_listed.has X G (fun _ _ _ _ _ _ us hl => match us, hl with | [_], _ => rfl) fun _ _ F => ok_listed F T
  have h_is_step : Has l.prog w K mg base CX0 2 "is_step" ["thing", "lanes", "switches"] (spStepA K) := d_is_step.has X G (fun _ _ _ _ _ _ us hl => match us, hl with | [_, _, _], _ => rfl) fun _ _ F => ok_stepA F T kd h_is_listed
  have h_lists_of : Has l.prog w K mg base CX0 1 "lists_of" ["step"] (spListsA K) := d_lists_of.has X G (fun _ _ _ _ _ _ us hl => match us, hl with | [_], _ => rfl) fun _ _ F => ok_listsA F T kd
  have h_first_wrong : Has l.prog w K mg base CX0 3 "first_wrong" ["steps", "path", "lanes", "switches"] (spWrongA K) := d_first_wrong.has X G (fun _ _ _ _ _ _ us hl => match us, hl with | [_, _, _, _], _ => rfl) fun _ _ F => ok_wrongA F T h_is_step h_lists_of
  have h_frozen : Has l.prog w K mg base CX0 2 "frozen" ["steps"] (spFrozenA K) := d_frozen.has X G (fun _ _ _ _ _ _ us hl => match us, hl with | [_], _ => rfl) fun _ _ F => ok_frozenA F T h_is_listed
  have h_check_names : Has l.prog w K mg base CX0 2 "check_names" ["lanes", "switches", "rules"] (spChkA K) := d_check_names.has X G (fun _ _ _ _ _ _ us hl => match us, hl with | [_, _, _], _ => rfl) fun _ _ F => ok_chkA F T fr h_is_word
  have h__law_lanes : Has l.prog w K mg base CX0 4 "_law_lanes" ["_law_box_here"] spLawLanes := d__law_lanes.has X G (fun _ _ _ _ _ _ us hl => match us, hl with | [_], _ => rfl) fun _ _ F => ok_lawlanes F T h__law_take h__law_shuffled
  have h__law_drawn_stand : Has l.prog w K mg base CX0 4 "_law_drawn_stand" ["_law_box_here", "_law_lanes_here", "_law_switches", "_law_many"] (spDrawn K) := d__law_drawn_stand.has X G (fun _ _ _ _ _ _ us hl => match us, hl with | [_, _, _, _], _ => rfl) fun _ _ F => ok_drawn F T h__law_take h__law_shuffled
  have h__law_bent : Has l.prog w K mg base CX0 4 "_law_bent" ["_law_box_here", "_law_stand", "_law_many"] (spBent K) := d__law_bent.has X G (fun _ _ _ _ _ _ us hl => match us, hl with | [_, _, _], _ => rfl) fun _ _ F => ok_bent F T h__law_take h__law_pick
  have c_Book : HasC l.prog w K mg base CX0 4 "Book" C ["self", "lanes", "switches", "rules"] (spInitA K C) := d_Book___init__.mk (PySem.W.mg_of X G aC) mk kc (fun _ _ _ _ _ _ us hl => match us, hl with | [_, _, _, _], _ => rfl) fun _ _ F => ok_initA F T B h_check_names h_first_wrong h_frozen
  exact ok_law (fun_mk (st := s_law) l4 c4 k4) Tx h__law_box h__law_take h__law_lanes c_Book h__law_drawn_stand h__law_bent h_is_stand h__law_is_stand
theorem walk {l : PySem.W.OpenLaw} {q : Program} {loose : List Str} {XP : (Str → Option Value) → Heap → Prop} {YP : World → Heap → Prop} {d : DefRec} {K : Params → PySem.W.Frag} (hn : l.most = some 63) (hdf : d.params.defaults = [])
    (hY : ∀ (w : World) (h : Heap), YP w h → (K w.params).In h)
    (F : ∀ (w : World) (mg : Str → Option Value) (fa : Addr) (h : Heap), (K w.params).In h → h.Ns mainGlobals mg → mg d.name = some (.ref fa) →
      ∃ fd : FuncData, (∀ (s : Shared) (u : Value), BindsTo s fd ⟨[u], []⟩ [("_law_script", u)]) ∧ ∀ base : Heap, (K w.params).In base → base.Ns mainGlobals mg → FnOk l.prog w (K w.params) mg base CX0 6 fa fd ["_law_script"] (spLaw (K w.params))) :
    PySem.W.WalkO q loose XP YP l.row.toRowW d [] (fun f vs => PySem.call f vs) :=
  L2.walk_of (n := 63) (k := 6) (x := "_law_script") (CX := fun _ => CX0) (sp := fun w => spLaw (K w.params)) hn (by decide) hdf ⟨rfl, by decide, by decide⟩ hY F (fun _ _ a ns hl _ hS => ⟨a, ns, rfl, hS, hl, fun _ => rfl⟩) fun _ _ _ _ _ z => z
end U
local macro_rules | `(tactic| walk_at "df") => `(tactic| (refine' U.DefF.of ?a ?l ?c ?k; (case a => k_is); (case l => k_is); (case c => k_is); (case k => k_is)))
local macro_rules | `(tactic| walk_at "mf") => `(tactic| (refine' U.MethF.of ?a ?l ?c ?k ?i; (case a => k_is); (case l => k_is); (case c => k_is); (case k => k_is); (case i => k_is)))
open PySem PySem.W PyProof.Rows in
set_option maxRecDepth 100000 in
set_option maxHeartbeats 0 in
theorem PySem.Challenge.cw_upnext_k37_stands_recognized_holds : PySem.Challenge.rw_upnext_k37_stands_recognized.Holds := by
  w_on; o_law; k_head; (case hw => w_witness2)
  k_fill
  refine U.walk (l := PySem.Challenge.rw_upnext_k37_stands_recognized) rfl rfl (fun w h Y => PySem.W.kIn_of Y) ?F
  case F =>
    intro w mg fa h KX G hmg
    refine' U.all_mk KX G hmg ?d__law_mixed ?d__law_take ?d__law_pick ?d__law_shuffled ?d__law_box ?d_is_piece ?d_is_number ?d__law_is_int ?d_there ?d_is_stand ?d__law_is_stand ?d_is_word ?d_is_listed ?d_is_step ?d_lists_of ?d_first_wrong ?d_frozen ?d_check_names ?d__law_lanes ?d__law_drawn_stand ?d__law_bent ?d_law ?aC ?d_Book_lanes ?d_Book_switches ?d_Book___init__ ?pg ?hd ?po ?sa ?mk ?kc ?n_own_lanes ?n_own_switches ?n_own_rules ?z_len ?z_max ?z_all ?z_any ?z_sorted ?z_isinstance ?z_list ?z_tuple ?z_int ?z_bool ?z_str ?z_dict ?z_set ?z_range ?z_enumerate ?z_zip ?z_sum ?aL ?gF ?lF ?gK ?lK ?kK ?sK ?gw ?lw
    (case d__law_mixed => walk_at "df")
    (case d__law_take => walk_at "df")
    (case d__law_pick => walk_at "df")
    (case d__law_shuffled => walk_at "df")
    (case d__law_box => walk_at "df")
    (case d_is_piece => walk_at "df")
    (case d_is_number => walk_at "df")
    (case d__law_is_int => walk_at "df")
    (case d_there => walk_at "df")
    (case d_is_stand => walk_at "df")
    (case d__law_is_stand => walk_at "df")
    (case d_is_word => walk_at "df")
    (case d_is_listed => walk_at "df")
    (case d_is_step => walk_at "df")
    (case d_lists_of => walk_at "df")
    (case d_first_wrong => walk_at "df")
    (case d_frozen => walk_at "df")
    (case d_check_names => walk_at "df")
    (case d__law_lanes => walk_at "df")
    (case d__law_drawn_stand => walk_at "df")
    (case d__law_bent => walk_at "df")
    (case d_law => walk_at "df")
    (case aC => k_is)
    (case d_Book_lanes => walk_at "mf")
    (case d_Book_switches => walk_at "mf")
    (case d_Book___init__ => walk_at "mf")
    (case pg => k_is)
    (case hd => k_is)
    (case po => k_is)
    (case sa => k_is)
    (case mk => k_is)
    (case kc => k_is)
    (case n_own_lanes => k_is)
    (case n_own_switches => k_is)
    (case n_own_rules => k_is)
    (case z_len => k_is)
    (case z_max => k_is)
    (case z_all => k_is)
    (case z_any => k_is)
    (case z_sorted => k_is)
    (case z_isinstance => k_is)
    (case z_list => k_is)
    (case z_tuple => k_is)
    (case z_int => k_is)
    (case z_bool => k_is)
    (case z_str => k_is)
    (case z_dict => k_is)
    (case z_set => k_is)
    (case z_range => k_is)
    (case z_enumerate => k_is)
    (case z_zip => k_is)
    (case z_sum => k_is)
    (case aL => k_is)
    (case gF => k_is)
    (case lF => k_is)
    (case gK => k_is)
    (case lK => k_is)
    (case kK => k_keys)
    (case sK => decide)
    (case gw => k_is)
    (case lw => k_is)
