import PyProof.Rows.All
import Wide.All
import OpenK.AllK
import Wide.FinOn
import Lean
import PySem.Challenge.RW_tg0006_01
open PySem PySem.W PyProof.Rows
set_option Elab.async false
set_option maxRecDepth 100000
namespace Mine
noncomputable def keepAt : List Nat → List PySem.Stmt → Nat → List PySem.Stmt
  | _, [], _ => []
  | ks, x :: l, n => bif ks.contains n then x :: keepAt ks l (n + 1) else keepAt ks l (n + 1)
noncomputable def view : Program := { PySem.Challenge.pw_tg0006_01 with main := { PySem.Challenge.pw_tg0006_01.main with body := keepAt [1, 3, 4, 6, 7, 8, 9, 10, 11, 12, 13, 14, 15, 16, 17, 18, 20, 21, 22, 23, 25, 26, 27, 28, 30, 32, 33, 34, 35] PySem.Challenge.pw_tg0006_01.main.body 0 } }
theorem headH {d : DefRec} {kwd : List (Str × PySem.Expr)} (H : Hook) (hl : LeftO PySem.Challenge.rw_tg0006_01.row.prog view [] (fun s => xlAt view [] s && recOk (RowW.records (OpenRow.toRowW PySem.Challenge.rw_tg0006_01.row)) s) (Hook.obs H) (Hook.val H) 2392)
    (h1 : defOf view PySem.Challenge.rw_tg0006_01.row.name = some (d, kwd)) (h2 : PySem.Challenge.rw_tg0006_01.row.prog.theDef PySem.Challenge.rw_tg0006_01.row.name = some (d.params, d.body, d.scope)) (h3 : kwWritten? d.params.kwonlyargs d.params.kw_defaults = some kwd)
    (said : PySem.Challenge.rw_tg0006_01.row.wellSaid = true) (hw : PySem.Challenge.rw_tg0006_01.row.toRowW.promised) (hc : WalkO view [] (XL view []) (Hook.says H) PySem.Challenge.rw_tg0006_01.row.toRowW d kwd fun f vs => PySem.call f vs) : PySem.Challenge.rw_tg0006_01.row.Holds :=
  holds_open hl (Hook.of H) (Hook.keeps H) (fun s e => xl_of s (Bool.and_eq_true_iff.mp e).1) XL.keeps h1 h2 h3 (fun s e => recFacts_of (Bool.and_eq_true_iff.mp e).2) (by rfl) said (by decide +kernel) ⟨rfl, rfl, rfl, rfl, rfl, by decide +kernel⟩ hw hc
theorem boot_of (w : World) : (fencedOpening treeTable PySem.Challenge.pw_tg0006_01 w 2392).map (fun s => (s.heap, s.gens, s.drawn, s.toks)) = some (boot_heap w.params, Array.mk [], boot_drawn, boot_toks) :=
  boot_open (p := PySem.Challenge.pw_tg0006_01) (N := 2392) (by kernel_rfl) (by rfl) (by intro s; kernel_rfl) w
theorem left_boot {α : Type} {Xt : Shared → Bool} {Yf : Shared → α} {Ya : World → α}
    (top : ∀ (w : World) (os : OsState), (topFrom treeTable PySem.Challenge.pw_tg0006_01 w 2392 ⟨boot_heap w.params, Array.mk [], boot_drawn, boot_toks, os⟩).map (fun s => (PySem.W.Fast.tw4187177175401517315 view [] (PySem.W.Fast.tw5923862056798008813 PySem.Challenge.pw_tg0006_01.main.body) Xt true s, Yf s)) = some (openGood view [], Ya w)) :
    LeftO PySem.Challenge.rw_tg0006_01.row.prog view [] Xt Yf Ya 2392 := fun w => by
  change Option.map _ (openEnds treeTable PySem.Challenge.pw_tg0006_01 w 2392) = _
  rw [← PySem.W.Fast.te4187177175401517315, ← PySem.W.Fast.te5923862056798008813] at top
  obtain ⟨⟨h, gs, d, k, os⟩, e, e'⟩ := Option.map_eq_some_iff.mp (boot_of w)
  obtain ⟨rfl, rfl, rfl, rfl⟩ : h = boot_heap w.params ∧ gs = Array.mk [] ∧ d = boot_drawn ∧ k = boot_toks := by simpa using e'
  have t := top w os
  unfold openEnds
  rw [e, Option.bind_some]
  exact t
set_option maxHeartbeats 8000000 in
theorem said0 : PySem.Challenge.rw_tg0006_01.wellSaid = true := by
  unfold OpenLaw.wellSaid OpenRow.wellSaid OpenRow.partSaid looksOpen
  repeat' (with_reducible refine look_both ?_ ?_)
  all_goals decide +kernel
section
local macro_rules | `(tactic| o_law) => `(tactic| refine holds_law said0 fun said => ?_)
local macro_rules | `(tactic| o_head $H) => `(tactic| (refine headH $H ?hl (by rfl) (by rfl) (by rfl) (by assumption) ?hw ?hc; (case hl => refine left_boot ?_; intro w os; unfold topFrom; rw [PySem.W.Fast.te14082659384304107361, PySem.W.Fast.te14364793385576792824, PySem.W.Fast.te8920871248978507458]; kernel_rfl)))
set_option maxRecDepth 100000 in
set_option maxHeartbeats 8000000 in
open_top hd for PySem.Challenge.rw_tg0006_01
end
section
noncomputable abbrev PR : Program := PySem.Challenge.rw_tg0006_01.row.prog
noncomputable abbrev VW : Program := view
noncomputable abbrev LS : List Str := looseW view []
noncomputable abbrev KF (w : World) : Frag := hd.heap_1 w.params

/-- a list of ints at a in the ledger -/
noncomputable def Poly (news : List (Addr × Obj)) (a : Addr) (xs : List Int) : Prop := ∃ vs n, (a, listOf (List.toArray vs) n) ∈ news ∧ IntsAre vs xs

/-- what a call of the def at f gives: asked R of the arguments, told O of the answer; z frames deep -/
noncomputable def Ct (w : World) (mean : ExcName → Option Value) (mg mb : Str → Option Value) (f : Addr) (z : Nat) (R : List (Addr × Obj) → List Value → Prop) (O : List (Addr × Obj) → List (Addr × Obj) → Value → Prop) : Prop :=
  ∀ (dp un : Nat) (gd : Option (List Code)) (cn : Str) (cs : Scope) (a : Addr) (ccd : Value) (cl : List (Str × Addr)) (outer : List Env) (A₀ : Around) (base h₀ : Heap) (L : Addr) (m : Str → Option Value) (news : List (Addr × Obj)) (s : Shared) (vs : List Value)
    (Q E : Value → Shared → Prop),
    Below A₀ base outer h₀ → Fr h₀ L s.heap m → (KF w).In h₀ → News h₀ L s.heap news → Top VW LS mean mg mb h₀ → cs.kind = .function → R news vs → dp + z < recursionLimit → un + 8 * z < cLine →
    (∀ r news' h' tk', Fr h₀ L h' m → News h₀ L h' news' → O news news' r → Q r { s with heap := h', toks := tk' }) →
    wpAny (model PR w) (ktrTop dp un gd cn cs L a ccd cl outer) (call (.ref f) vs) Q E s

theorem Ct.use {w : World} {mean : ExcName → Option Value} {mg mb : Str → Option Value} {f : Addr} {z : Nat} {R : List (Addr × Obj) → List Value → Prop} {O : List (Addr × Obj) → List (Addr × Obj) → Value → Prop} {dp un : Nat} {gd : Option (List Code)} {cn : Str} {cs : Scope} {a : Addr} {ccd : Value} {cl : List (Str × Addr)} {outer : List Env} {A₀ : Around} {base h₀ : Heap} {L : Addr} {m : Str → Option Value} {news : List (Addr × Obj)} {s : Shared} {vs : List Value}
    {Q E : Value → Shared → Prop} (C : Ct w mean mg mb f z R O)
    (B : Below A₀ base outer h₀) (F : Fr h₀ L s.heap m) (X : (KF w).In h₀) (N : News h₀ L s.heap news) (T : Top VW LS mean mg mb h₀) (hk : cs.kind = .function) (r : R news vs) (hd : dp + z < recursionLimit) (hu : un + 8 * z < cLine)
    (ret : ∀ r news' h' tk', Fr h₀ L h' m → News h₀ L h' news' → O news news' r → Q r { s with heap := h', toks := tk' }) :
    wpAny (model PR w) (ktrTop dp un gd cn cs L a ccd cl outer) (call (.ref f) vs) Q E s :=
  C _ _ _ _ _ _ _ _ _ _ _ _ _ _ _ _ _ _ _ B F X N T hk r hd hu ret

/-- the ledger has only grown -/
noncomputable def Sub (news news' : List (Addr × Obj)) : Prop := ∀ q ∈ news, q ∈ news'
theorem Sub.rfl {n : List (Addr × Obj)} : Sub n n := fun _ h => h
theorem Sub.cons {n n' : List (Addr × Obj)} {p : Addr × Obj} (h : Sub n n') : Sub n (p :: n') := fun q hq => .tail _ (h q hq)
theorem Sub.trans {n n' n'' : List (Addr × Obj)} (h : Sub n n') (k : Sub n' n'') : Sub n n'' := fun q hq => k q (h q hq)
theorem Poly.sub {n n' : List (Addr × Obj)} {a : Addr} {xs : List Int} (h : Poly n a xs) (k : Sub n n') : Poly n' a xs := let ⟨vs, c, hm, hi⟩ := h; ⟨vs, c, k _ hm, hi⟩

/-- an answer that is an int -/
noncomputable def OInt (x : Int) (news news' : List (Addr × Obj)) (r : Value) : Prop := Sub news news' ∧ ∃ t, r = .int x t
/-- an answer that is a new list of ints -/
noncomputable def OPoly (xs : List Int) (news news' : List (Addr × Obj)) (r : Value) : Prop := Sub news news' ∧ ∃ pr, r = .ref pr ∧ Poly news' pr xs ∧ ∀ q ∈ news, q.1 ≠ pr

/-- two ints are asked -/
noncomputable def RII (x y : Int) (_ : List (Addr × Obj)) (vs : List Value) : Prop := ∃ t u, vs = [.int x t, .int y u]
theorem rii {n : List (Addr × Obj)} {x y : Int} {t u : Tok} : RII x y n [.int x t, .int y u] := ⟨t, u, Eq.refl _⟩
/-- one list of ints is asked -/
noncomputable def R1 (xs : List Int) (news : List (Addr × Obj)) (vs : List Value) : Prop := ∃ pa, vs = [.ref pa] ∧ Poly news pa xs
noncomputable def R2 (xs ys : List Int) (news : List (Addr × Obj)) (vs : List Value) : Prop := ∃ pa pb, vs = [.ref pa, .ref pb] ∧ Poly news pa xs ∧ Poly news pb ys
noncomputable def R1k (xs : List Int) (k : Int) (news : List (Addr × Obj)) (vs : List Value) : Prop := ∃ pa t, vs = [.ref pa, .int k t] ∧ Poly news pa xs

theorem allLt_ne {D : Addr} : ∀ {l : List (Addr × Obj)}, AllLt D l → ∀ p ∈ l, p.1 ≠ D
  | [], _, _, hp => nomatch hp
  | q :: r, h, p, hp => by
    rcases List.mem_cons.mp hp with rfl | hp
    · exact Nat.ne_of_lt h.1
    · exact allLt_ne h.2 p hp
theorem lt_ne {D : Addr} {l : List (Addr × Obj)} (h : ∀ p ∈ l, p.1 < D) : ∀ p ∈ l, p.1 ≠ D := fun p hp => Nat.ne_of_lt (h p hp)
theorem opoly {news news' : List (Addr × Obj)} {xs : List Int} {vs : List Value} {D : Addr} {n : Nat} (hs : Sub news news') (hm : (D, listOf (List.toArray vs) n) ∈ news') (hi : IntsAre vs xs) (ho : ∀ q ∈ news, q.1 ≠ D) : OPoly xs news news' (.ref D) :=
  ⟨hs, D, Eq.refl _, ⟨vs, n, hm, hi⟩, ho⟩
theorem off1_mem {D : Addr} : ∀ {l : List (Addr × Obj)}, LCg.Off1 D l → ∀ p ∈ l, p.1 ≠ D
  | [], _, _, hp => nomatch hp
  | q :: r, h, p, hp => by
    rcases List.mem_cons.mp hp with rfl | hp
    · exact h.1
    · exact off1_mem h.2 p hp

theorem news_sub {h₀ h : Heap} {L : Addr} {a b : List (Addr × Obj)} (N : News h₀ L h b) (k : Sub a b) : News h₀ L h a := fun p hp => N p (k p hp)
section
variable {w : World} {mean : ExcName → Option Value} {mg mb : Str → Option Value} {f : Addr} {z : Nat} {R : List (Addr × Obj) → List Value → Prop} {dp un : Nat} {gd : Option (List Code)} {cn : Str} {cs : Scope} {a : Addr} {ccd : Value} {cl : List (Str × Addr)} {outer : List Env} {A₀ : Around} {base h₀ : Heap} {L : Addr} {m : Str → Option Value} {news : List (Addr × Obj)} {s : Shared} {vs : List Value}
    {Q E : Value → Shared → Prop}
theorem Ct.useInt {x : Int} (C : Ct w mean mg mb f z R (OInt x))
    (B : Below A₀ base outer h₀) (F : Fr h₀ L s.heap m) (X : (KF w).In h₀) (N : News h₀ L s.heap news) (T : Top VW LS mean mg mb h₀) (hk : cs.kind = .function) (r : R news vs) (hd : dp + z < recursionLimit) (hu : un + 8 * z < cLine)
    (ret : ∀ t h' tk', Fr h₀ L h' m → News h₀ L h' news → Q (.int x t) { s with heap := h', toks := tk' }) :
    wpAny (model PR w) (ktrTop dp un gd cn cs L a ccd cl outer) (call (.ref f) vs) Q E s :=
  C.use B F X N T hk r hd hu fun r news' h' tk' F' N' ⟨hs, t, e⟩ => by subst e; exact ret t h' tk' F' (news_sub N' hs)
theorem Ct.usePoly {xs : List Int} (C : Ct w mean mg mb f z R (OPoly xs))
    (B : Below A₀ base outer h₀) (F : Fr h₀ L s.heap m) (X : (KF w).In h₀) (N : News h₀ L s.heap news) (T : Top VW LS mean mg mb h₀) (hk : cs.kind = .function) (r : R news vs) (hd : dp + z < recursionLimit) (hu : un + 8 * z < cLine)
    (ret : ∀ D us n h' tk', Fr h₀ L h' m → News h₀ L h' ((D, listOf (List.toArray us) n) :: news) → IntsAre us xs → us.length = xs.length → (∀ q ∈ news, q.1 ≠ D) → Q (.ref D) { s with heap := h', toks := tk' }) :
    wpAny (model PR w) (ktrTop dp un gd cn cs L a ccd cl outer) (call (.ref f) vs) Q E s :=
  C.use B F X N T hk r hd hu fun r news' h' tk' F' N' ⟨hs, D, e, ⟨us, n, hm, hi⟩, ho⟩ => by
    subst e
    refine ret D us n h' tk' F' (fun p hp => ?_) hi hi.length ho
    rcases List.mem_cons.mp hp with rfl | hp
    · exact N' _ hm
    · exact N' _ (hs _ hp)
end
theorem r1 {news : List (Addr × Obj)} {xs : List Int} {pa : Addr} {vs : List Value} {n : Nat} (hm : (pa, listOf (List.toArray vs) n) ∈ news) (hi : IntsAre vs xs) : R1 xs news [.ref pa] := ⟨pa, Eq.refl _, vs, n, hm, hi⟩
theorem r1k {news : List (Addr × Obj)} {xs : List Int} {pa : Addr} {vs : List Value} {n : Nat} {k : Int} {t : Tok} (hm : (pa, listOf (List.toArray vs) n) ∈ news) (hi : IntsAre vs xs) : R1k xs k news [.ref pa, .int k t] := ⟨pa, t, Eq.refl _, vs, n, hm, hi⟩
theorem r2 {news : List (Addr × Obj)} {xs ys : List Int} {pa pb : Addr} {vs us : List Value} {n c : Nat} (hm : (pa, listOf (List.toArray vs) n) ∈ news) (hi : IntsAre vs xs) (hm' : (pb, listOf (List.toArray us) c) ∈ news) (hi' : IntsAre us ys) : R2 xs ys news [.ref pa, .ref pb] :=
  ⟨pa, pb, Eq.refl _, ⟨vs, n, hm, hi⟩, ⟨us, c, hm', hi'⟩⟩
section
variable {w : World} {mean : ExcName → Option Value} {mg mb : Str → Option Value} {f : Addr} {z : Nat} {R : List (Addr × Obj) → List Value → Prop} {dp un : Nat} {gd : Option (List Code)} {cn : Str} {cs : Scope} {a : Addr} {ccd : Value} {cl : List (Str × Addr)} {outer : List Env} {A₀ : Around} {base h₀ : Heap} {L : Addr} {m : Str → Option Value} {news : List (Addr × Obj)} {s : Shared} {vs : List Value}
    {Q E : Value → Shared → Prop}
theorem Ct.useIntR {x : Int} (B : Below A₀ base outer h₀) (F : Fr h₀ L s.heap m) (X : (KF w).In h₀) (N : News h₀ L s.heap news) (T : Top VW LS mean mg mb h₀) (hk : cs.kind = .function) (r : R news vs) (C : Ct w mean mg mb f z R (OInt x)) (hd : dp + z < recursionLimit) (hu : un + 8 * z < cLine)
    (ret : ∀ t h' tk', Fr h₀ L h' m → News h₀ L h' news → Q (.int x t) { s with heap := h', toks := tk' }) :
    wpAny (model PR w) (ktrTop dp un gd cn cs L a ccd cl outer) (call (.ref f) vs) Q E s := C.useInt B F X N T hk r hd hu ret
theorem Ct.usePolyR {xs : List Int} (B : Below A₀ base outer h₀) (F : Fr h₀ L s.heap m) (X : (KF w).In h₀) (N : News h₀ L s.heap news) (T : Top VW LS mean mg mb h₀) (hk : cs.kind = .function) (r : R news vs) (C : Ct w mean mg mb f z R (OPoly xs)) (hd : dp + z < recursionLimit) (hu : un + 8 * z < cLine)
    (ret : ∀ D us n h' tk', Fr h₀ L h' m → News h₀ L h' ((D, listOf (List.toArray us) n) :: news) → IntsAre us xs → us.length = xs.length → (∀ q ∈ news, q.1 ≠ D) → Q (.ref D) { s with heap := h', toks := tk' }) :
    wpAny (model PR w) (ktrTop dp un gd cn cs L a ccd cl outer) (call (.ref f) vs) Q E s := C.usePoly B F X N T hk r hd hu ret
theorem Ct.useR {O : List (Addr × Obj) → List (Addr × Obj) → Value → Prop} (B : Below A₀ base outer h₀) (F : Fr h₀ L s.heap m) (X : (KF w).In h₀) (N : News h₀ L s.heap news) (T : Top VW LS mean mg mb h₀) (hk : cs.kind = .function) (r : R news vs) (C : Ct w mean mg mb f z R O) (hd : dp + z < recursionLimit) (hu : un + 8 * z < cLine)
    (ret : ∀ r news' h' tk', Fr h₀ L h' m → News h₀ L h' news' → O news news' r → Q r { s with heap := h', toks := tk' }) :
    wpAny (model PR w) (ktrTop dp un gd cn cs L a ccd cl outer) (call (.ref f) vs) Q E s := C.use B F X N T hk r hd hu ret
end

/-- one entry to the front; what else stands, stands behind it -/
theorem news_front {h₀ h : Heap} {L D : Addr} {o : Obj} {all : List (Addr × Obj)} (N : News h₀ L h all) (hm : (D, o) ∈ all) : News h₀ L h ((D, o) :: all.filter fun p => p.1 != D) := fun p hp => by
  rcases List.mem_cons.mp hp with rfl | hp
  · exact N _ hm
  · exact N _ (List.mem_filter.mp hp).1
theorem front_ne {D : Addr} {all : List (Addr × Obj)} : ∀ p ∈ all.filter (fun p => p.1 != D), p.1 ≠ D := fun p hp => by simpa using (List.mem_filter.mp hp).2
theorem front_mem {D : Addr} {all : List (Addr × Obj)} {p : Addr × Obj} (hp : p ∈ all) (hn : p.1 ≠ D) : p ∈ all.filter (fun p => p.1 != D) := List.mem_filter.mpr ⟨hp, by simpa using hn⟩
theorem front_sub {D : Addr} {all news : List (Addr × Obj)} (h : Sub news all) (hn : ∀ q ∈ news, q.1 ≠ D) : Sub news (all.filter (fun p => p.1 != D)) := fun q hq => front_mem (h q hq) (hn q hq)

noncomputable def RIII (x y z : Int) (_ : List (Addr × Obj)) (vs : List Value) : Prop := ∃ t u v, vs = [.int x t, .int y u, .int z v]
theorem riii {n : List (Addr × Obj)} {x y z : Int} {t u v : Tok} : RIII x y z n [.int x t, .int y u, .int z v] := ⟨t, u, v, Eq.refl _⟩

end
section
open PySem.W
/-- a row without the zeros at its end -/
noncomputable def trimP : List Int → List Int
  | [] => []
  | x :: r => match trimP r with
    | [] => if x = 0 then [] else [x]
    | y :: t => x :: y :: t
theorem trimP_zero : ∀ (ys : List Int), (∀ y ∈ ys, y = 0) → trimP ys = []
  | [], _ => rfl
  | y :: r, h => by
    have hr := trimP_zero r fun z hz => h z (.tail _ hz)
    simp only [trimP, hr, h y (.head _), if_true]
theorem trimP_snoc (x : Int) (ys : List Int) (hx : x ≠ 0) : ∀ (zs : List Int), (∀ y ∈ ys, y = 0) → trimP (zs ++ x :: ys) = zs ++ [x]
  | [], h => by simp only [List.nil_append, trimP, trimP_zero ys h, if_neg hx]
  | z :: r, h => by
    have hr := trimP_snoc x ys hx r h
    cases r with
    | nil => simp only [List.cons_append, List.nil_append] at hr ⊢; simp only [trimP] at hr ⊢; rw [hr]
    | cons a t => simp only [List.cons_append] at hr ⊢; rw [trimP, hr]
/-- what the loop of the trim has found -/
theorem trimP_take (xs : List Int) (n : Nat) (hn : n ≤ xs.length) (hz : ∀ i, n ≤ i → i < xs.length → xs.getD i 0 = 0) (hs : n = 0 ∨ xs.getD (n - 1) 0 ≠ 0) : trimP xs = xs.take n := by
  have hd : ∀ y ∈ xs.drop n, y = 0 := fun y hy => by
    obtain ⟨i, hi, rfl⟩ := List.getElem_of_mem hy
    rw [List.length_drop] at hi
    rw [List.getElem_drop]
    have := hz (n + i) (by omega) (by omega)
    rwa [List.getD_eq_getElem?_getD, List.getElem?_eq_getElem (by omega), Option.getD_some] at this
  rcases hs with rfl | hs
  · rw [List.take_zero]; exact trimP_zero xs (by simpa using hd)
  · cases n with
    | zero => rw [List.take_zero]; exact trimP_zero xs (by simpa using hd)
    | succ k =>
      simp only [Nat.add_sub_cancel] at hs
      have hk : k < xs.length := by omega
      rw [List.getD_eq_getElem?_getD, List.getElem?_eq_getElem hk, Option.getD_some] at hs
      have h1 : xs.take (k + 1) = xs.take k ++ [xs[k]] := by rw [List.take_add_one, List.getElem?_eq_getElem hk]; rfl
      have h2 : xs = xs.take k ++ xs[k] :: xs.drop (k + 1) := by rw [← List.drop_eq_getElem_cons hk, List.take_append_drop]
      rw [h1]
      conv => lhs; rw [h2]
      exact trimP_snoc _ _ hs _ hd
theorem trimP_of (xs : List Int) (k : Int) (h4 : (if 0 < k then if (xs.getD (k - 1).toNat 0 == 0) = true then true else false else false) = false) (h1 : k ≤ (xs.length : Int)) (h2 : min (xs.length : Int) 0 ≤ k)
    (h3 : ∀ j : Int, k < j → j ≤ (xs.length : Int) → (if 0 < j then if (xs.getD (j - 1).toNat 0 == 0) = true then true else false else false) = true) : trimP xs = xs.take k.toNat := by
  have hk : 0 ≤ k := by omega
  refine trimP_take xs k.toNat (by omega) (fun i hi hl => ?_) ?_
  · have := h3 ((i : Int) + 1) (by omega) (by omega)
    rw [if_pos (by omega)] at this
    have e : ((i : Int) + 1 - 1).toNat = i := by omega
    rw [e] at this
    by_cases hx : (xs.getD i 0 == 0) = true
    · exact by simpa using hx
    · rw [if_neg hx] at this; cases this
  · by_cases h0 : 0 < k
    · right
      rw [if_pos h0] at h4
      have e : k.toNat - 1 = (k - 1).toNat := by omega
      rw [e]
      intro hx
      rw [hx] at h4
      simp at h4
    · left; omega
noncomputable def addP (xs ys : List Int) : List Int := trimP ((rangeKs 0 (max xs.length ys.length)).map fun i => xs.getD i.toNat 0 + ys.getD i.toNat 0)
noncomputable def subP (xs ys : List Int) : List Int := addP xs (ys.map fun y => -y)
noncomputable def contentP (xs : List Int) : Int := xs.foldl (fun g x => (Int.gcd g x : Int)) 0
noncomputable def primP (xs : List Int) : List Int := if xs = [] then [] else xs.map fun x => Int.fdiv x (if xs.getLastD 0 > 0 then contentP xs else -contentP xs)
noncomputable def deriveP (xs : List Int) : List Int := ((rangeKs 0 xs.length).map fun i => xs.getD i.toNat 0 * i).drop 1

end
section
section
variable {prog : Program} {w : World} {A : Around} {E : Value → Shared → Prop} {s : Shared} {env : Env} {h₀ : Heap} {x : Str} {body : List Stmt} {Q : Flow → Shared → Prop}
/-- the end of a turn of a for -/
noncomputable def Turn (h₀ : Heap) (L : Addr) (J : (Str → Option Value) → List (Addr × Obj) → Prop) (I : Addr) (oI : Obj) (s : Shared) (Q : Flow → Shared → Prop) (f : Flow) (s₂ : Shared) : Prop :=
  match f with
  | .ret v => Q (.ret v) s₂
  | .brk => Q .next s₂
  | _ => ∃ h' tk m₂ all news₂, s₂ = { s with heap := h', toks := tk } ∧ Fr h₀ L h' m₂ ∧ News h₀ L h' all ∧ (I, oI) ∈ all ∧ Sub news₂ all ∧ (∀ p ∈ news₂, p.1 ≠ I) ∧ J m₂ news₂
theorem Turn.next {L : Addr} {J : (Str → Option Value) → List (Addr × Obj) → Prop} {I : Addr} {oI : Obj} {h' : Heap} {tk : Nat} {m₂ : Str → Option Value} {all : List (Addr × Obj)} (F : Fr h₀ L h' m₂) (N : News h₀ L h' all) (hI : (I, oI) ∈ all) (news₂ : List (Addr × Obj)) (hs : Sub news₂ all) (ho : ∀ p ∈ news₂, p.1 ≠ I) (hJ : J m₂ news₂) :
    Turn h₀ L J I oI s Q .next { s with heap := h', toks := tk } := ⟨h', tk, m₂, all, news₂, rfl, F, N, hI, hs, ho, hJ⟩

theorem turn_stepV {L I ax : Addr} {J : (Str → Option Value) → List (Addr × Obj) → Prop} {oI : Obj} {own news₁ : List (Addr × Obj)} {s₁ s₂ : Shared} {f : Flow} {fp : List Addr}
    (hown : ∀ p ∈ own, p.1 ∈ fp) (N₁ : News h₀ L s₁.heap (own ++ news₁)) (hI : (I, oI) ∈ own)
    (hfp : ∀ b ∈ fp, b = I ∨ ∀ m₂ news₂, J m₂ news₂ → ∀ o, s₁.heap.get? b = some o → (b, o) ∈ news₂)
    (h : Turn h₀ L J I oI s₁ Q f s₂) : LoopStepV h₀ L [I] own J s₁ (fun v s' => Q (.ret v) s') (fun s' => Q .next s') f s₂ := by
  have key : (∃ h' tk m₂ all news₂, s₂ = { s₁ with heap := h', toks := tk } ∧ Fr h₀ L h' m₂ ∧ News h₀ L h' all ∧ (I, oI) ∈ all ∧ Sub news₂ all ∧ (∀ p ∈ news₂, p.1 ≠ I) ∧ J m₂ news₂) → LoopStepU h₀ L [I] own J s₁ .next s₂ := by
    rintro ⟨h', tk, m₂, all, news₂, rfl, F, N, hI', hs, ho, hJ⟩
    refine LoopStepU.intro F (fun p hp => ?_) (fun p hp hm => ho p hp (List.mem_singleton.mp hm)) hJ
    rcases List.mem_append.mp hp with hp | hp
    · have g := (N₁ p (List.mem_append_left _ hp)).1
      rcases hfp p.1 (hown p hp) with e | k
      · have g' := (N₁ (I, oI) (List.mem_append_left _ hI)).1
        rw [e] at g
        have : p.2 = oI := Option.some.inj (g.symm.trans g')
        have e2 : p = (I, oI) := Prod.ext e this
        rw [e2]; exact N _ hI'
      · exact N _ (hs _ (k m₂ news₂ hJ p.2 g))
    · exact N _ (hs _ hp)
  cases f with
  | ret v => exact h
  | brk => exact h
  | next => exact LoopStepV.next (key h)
  | cont => exact LoopStepV.cont (key h)

theorem iter_list {L ax : Addr} {vs : List Value} {c : Nat} {m₀ : Str → Option Value} {news : List (Addr × Obj)} (J : Nat → (Str → Option Value) → List (Addr × Obj) → Prop)
    (hL : env.locals = L) (hh : A.handled = none) (F : Fr h₀ L s.heap m₀) (N : News h₀ L s.heap news) (hm : (ax, listOf (List.toArray vs) c) ∈ news) (hJ : J 0 m₀ news)
    (keep : ∀ i m₁ news₁, J i m₁ news₁ → (ax, listOf (List.toArray vs) c) ∈ news₁)
    (turn : ∀ i v I oI m₁ news₁ h tk, vs[i]? = some v → J i m₁ news₁ → (∀ p ∈ news₁, p.1 ≠ I) → Fr h₀ L h (fun y => if y = x then some v else m₁ y) → News h₀ L h ((I, oI) :: news₁) →
      wpAny (model prog w) A (execs body env) (Turn h₀ L (J (i + 1)) I oI { s with heap := h, toks := tk } Q) E { s with heap := h, toks := tk })
    (done : ∀ m₁ news₁ h tk, J vs.length m₁ news₁ → Fr h₀ L h m₁ → News h₀ L h news₁ → Q .next { s with heap := h, toks := tk }) :
    wpAny (model prog w) A (pyIter (.ref ax)) (fun it s₂ => LoopAtV prog w A h₀ env x body Q E it s₂) E s := by
  subst hL
  have hls : s.heap.IsList ax vs.toArray := News.isList N hm
  have hlt : ax < s.heap.objs.size := Heap.lt_size (N _ hm).1
  have hne : ax ≠ s.heap.objs.size := Nat.ne_of_lt hlt
  refine wpAny_pyIter_list hls ?_
  have W := Walks.list (prog := prog) (w := w) hh s.heap.objs.size ax hne vs.toArray
  have hlen : vs.toArray.size = vs.length := List.size_toArray
  rw [hlen] at W
  have up : ∀ b o, s.heap.get? b = some o → (s.heap.push { cls := .type "list_iterator", data := .fields #[.ref ax, .int 0 0] }).get? b = some o := fun b o e => Heap.get?_push_of_some _ e
  refine ⟨_, _, _, vs.length, _, _, m₀, news, J, rfl, W, ?_, ?_, ?_, ⟨⟨_, Heap.get?_push_size _ rfl, rfl, rfl⟩, hls.at fun o e => Heap.get?_push_of_some _ e⟩, F.push _, (fun p hp => ⟨Heap.get?_push_of_some _ (N p hp).1, (N p hp).2⟩), hJ, ?_, ?_⟩
  · intro hm'
    rcases List.mem_cons.mp hm' with e | hm'
    · exact absurd F.ns.lt (e ▸ Nat.lt_irrefl _)
    · exact (N _ hm).2.1 (List.mem_singleton.mp hm').symm
  · intro b hb
    rw [List.mem_singleton.mp hb]
    exact next_is_new F
  · intro p hp hI
    exact absurd (Heap.lt_size (N p hp).1) ((List.mem_singleton.mp hI) ▸ Nat.lt_irrefl _)
  · rintro i v m₁ news₁ s₁ own ⟨hh', tk', rfl⟩ hin hP hJ₁ hoff hown hlive hall st F₁ N₁
    obtain ⟨oI, hoI, _⟩ := st.1
    have hIown : (s.heap.objs.size, oI) ∈ own := hall _ (.head _) (next_is_new F) oI hoI
    have hv : vs[i]? = some v := by simpa using hP
    refine wpAny_mono (turn i v s.heap.objs.size oI m₁ news₁ hh' tk' hv hJ₁ (fun p hp e => hoff p hp (List.mem_singleton.mpr e)) F₁ (fun p hp => ?_)) (fun f s₂ t => ?_) fun _ _ e => e
    · rcases List.mem_cons.mp hp with rfl | hp
      · exact N₁ _ (List.mem_append_left _ hIown)
      · exact N₁ _ (List.mem_append_right _ hp)
    · refine turn_stepV (ax := ax) hown N₁ hIown (fun b hb => ?_) t
      rcases List.mem_cons.mp hb with e | hb
      · exact .inl e
      · refine .inr fun m₂ news₂ hJ₂ o ho => ?_
        have e : b = ax := List.mem_singleton.mp hb
        subst e
        have g := (N₁ _ (List.mem_append_right _ (keep i m₁ news₁ hJ₁))).1
        rw [ho] at g
        rw [Option.some.inj g]
        exact keep _ _ _ hJ₂
  · rintro h' tk m' news' F' N' _ hJ'
    exact done m' news' h' tk hJ' F' N'

theorem iter_range {L r : Addr} {a b : Int} {t₀ u₀ v₀ : Tok} {n : Nat} {m₀ : Str → Option Value} {news : List (Addr × Obj)} (J : Nat → (Str → Option Value) → List (Addr × Obj) → Prop)
    (hL : env.locals = L) (hh : A.handled = none) (F : Fr h₀ L s.heap m₀) (N : News h₀ L s.heap news) (hr : IsRange s.heap r a b 1 t₀ u₀ v₀) (hsm : Builtin.Range.small a b 1 = true) (hn : Builtin.Range.rangeSize a b 1 = ((n : Nat) : Int)) (hJ : J 0 m₀ news)
    (turn : ∀ (i : Nat) t I oI m₁ news₁ h tk, i < n → J i m₁ news₁ → (∀ p ∈ news₁, p.1 ≠ I) → Fr h₀ L h (fun y => if y = x then some (.int (a + (i : Int)) t) else m₁ y) → News h₀ L h ((I, oI) :: news₁) →
      wpAny (model prog w) A (execs body env) (Turn h₀ L (J (i + 1)) I oI { s with heap := h, toks := tk } Q) E { s with heap := h, toks := tk })
    (done : ∀ m₁ news₁ h tk, J n m₁ news₁ → Fr h₀ L h m₁ → News h₀ L h news₁ → Q .next { s with heap := h, toks := tk }) :
    wpAny (model prog w) A (pyIter (.ref r)) (fun it s₂ => LoopAtV prog w A h₀ env x body Q E it s₂) E s := by
  subst hL
  refine wpAny_pyIter_range hr hsm ?_
  have W := LCg.range_walks (prog := prog) (w := w) (A := A) (I := s.heap.objs.size) hh a n
  refine ⟨_, _, _, n, _, _, m₀, news, J, rfl, W, ?_, ?_, ?_, ?_, F.push _, (fun p hp => ⟨Heap.get?_push_of_some _ (N p hp).1, (N p hp).2⟩), hJ, ?_, ?_⟩
  · intro hm'
    exact absurd F.ns.lt ((List.mem_singleton.mp hm') ▸ Nat.lt_irrefl _)
  · intro b hb
    rw [List.mem_singleton.mp hb]
    exact next_is_new F
  · intro p hp hI
    exact absurd (Heap.lt_size (N p hp).1) ((List.mem_singleton.mp hI) ▸ Nat.lt_irrefl _)
  · show IsRangeIter _ _ _ _ _; rw [hn]; simpa using Heap.get?_push_size _ rfl
  · rintro i v m₁ news₁ s₁ own ⟨hh', tk', rfl⟩ hin hP hJ₁ hoff hown hlive hall st F₁ N₁
    obtain ⟨oI, hoI⟩ : ∃ o, hh'.get? s.heap.objs.size = some o := ⟨_, st⟩
    have hIown : (s.heap.objs.size, oI) ∈ own := hall _ (.head _) (next_is_new F) oI hoI
    obtain ⟨t, hv⟩ := hP
    rw [hv] at F₁
    refine wpAny_mono (turn i t s.heap.objs.size oI m₁ news₁ hh' tk' hin hJ₁ (fun p hp e => hoff p hp (List.mem_singleton.mpr e)) F₁ (fun p hp => ?_)) (fun f s₂ t => ?_) fun _ _ e => e
    · rcases List.mem_cons.mp hp with rfl | hp
      · exact N₁ _ (List.mem_append_left _ hIown)
      · exact N₁ _ (List.mem_append_right _ hp)
    · refine turn_stepV (ax := 0) hown N₁ hIown (fun b hb => ?_) t
      exact .inl (List.mem_singleton.mp hb)
  · rintro h' tk m' news' F' N' _ hJ'
    exact done m' news' h' tk hJ' F' N'

/-- the end of a turn over an enumerate; the ledger: one list that turns, and what stays -/
noncomputable def TurnD (h₀ : Heap) (L D : Addr) (R : List (Addr × Obj)) (J : (Str → Option Value) → Obj → Prop) (s : Shared) (f : Flow) (s₂ : Shared) : Prop :=
  f = .next ∧ ∃ h' tk m₂ o, s₂ = { s with heap := h', toks := tk } ∧ Fr h₀ L h' m₂ ∧ News h₀ L h' ((D, o) :: R) ∧ J m₂ o
theorem TurnD.next {L D : Addr} {R : List (Addr × Obj)} {J : (Str → Option Value) → Obj → Prop} {h' : Heap} {tk : Nat} {m₂ : Str → Option Value} {o : Obj} (F : Fr h₀ L h' m₂) (N : News h₀ L h' ((D, o) :: R)) (hJ : J m₂ o) :
    TurnD h₀ L D R J s .next { s with heap := h', toks := tk } := ⟨rfl, h', tk, m₂, o, rfl, F, N, hJ⟩

theorem iter_enum {xi xc : Str} {L ax D : Addr} {vs : List Value} {c : Nat} {o₀ : Obj} {m₀ : Str → Option Value} {news : List (Addr × Obj)} (J : Addr → Nat → (Str → Option Value) → Obj → Prop)
    (hL : env.locals = L) (hh : A.handled = none) (F : Fr h₀ L s.heap m₀) (N : News h₀ L s.heap ((D, o₀) :: news)) (hm : (ax, listOf (List.toArray vs) c) ∈ news) (hD : ∀ p ∈ news, p.1 ≠ D) (hJ : J D 0 m₀ o₀)
    (turn : ∀ (i : Nat) v t m₁ o R h tk, vs[i]? = some v → J D i m₁ o → (∀ p ∈ R, p.1 ≠ D) → Sub news R → Fr h₀ L h (fun y => if y = xc then some v else if y = xi then some (.int i t) else m₁ y) → News h₀ L h ((D, o) :: R) →
      wpAny (model prog w) A (execs body env) (TurnD h₀ L D R (J D (i + 1)) { s with heap := h, toks := tk }) E { s with heap := h, toks := tk })
    (done : ∀ m₁ o h tk, J D vs.length m₁ o → Fr h₀ L h m₁ → News h₀ L h ((D, o) :: news) → Q .next { s with heap := h, toks := tk }) :
    wpAny (model prog w) A (call (.type "enumerate") [.ref ax]) (fun xv s₁ => wpAny (model prog w) A (pyIter xv) (fun it s₂ => PairAt3 prog w A h₀ env xi xc body Q E it s₂) E s₁) E s := by
  subst hL
  have hls : s.heap.IsList ax vs.toArray := News.isList N (List.Mem.tail _ hm)
  have hLs : env.locals < s.heap.objs.size := F.ns.lt
  have hab : h₀.objs.size ≤ env.locals := F.above
  have hl2 : ax < s.heap.objs.size := Heap.lt_size (N _ (List.Mem.tail _ hm)).1
  have hDs : D < s.heap.objs.size := Heap.lt_size (N _ (List.Mem.head _)).1
  have hall : ∀ q ∈ (D, o₀) :: news, q.1 < s.heap.objs.size := fun q hq => Heap.lt_size (N q hq).1
  refine call_enumerate_list hls fun h' he hit hsz hk => ?_
  have F' : Fr h₀ env.locals h' m₀ := ⟨F.ns.keeps hk, fun b o e => hk b o (F.keep b o e), F.above⟩
  have N' : News h₀ env.locals h' ((D, o₀) :: news) := fun p hp => ⟨hk _ _ (N p hp).1, (N p hp).2⟩
  refine wpAny_pyIter_enum he ?_
  have hlen : vs.toArray.size = vs.length := List.size_toArray
  have Dr := Draws.list (prog := prog) (w := w) (A := A.in1) hh s.heap.objs.size ax (Nat.ne_of_lt hl2) vs.toArray
  have hef : s.heap.objs.size + 1 ∉ [s.heap.objs.size, ax] := fun hm' => by
    rcases List.mem_cons.mp hm' with e | hm'
    · exact Nat.succ_ne_self _ e
    · exact Nat.ne_of_gt (Nat.lt_succ_of_lt hl2) (List.mem_singleton.mp hm')
  let J' : Nat → (Str → Option Value) → List (Addr × Obj) → Prop := fun i m₁ news₁ => ∃ o, news₁ = (D, o) :: news ∧ J D i m₁ o
  refine ⟨s.heap.objs.size + 1, (s.heap.objs.size + 1) :: [s.heap.objs.size, ax], [s.heap.objs.size + 1, s.heap.objs.size], vs.length, _, _, _, (fun i v0 v1 => ∃ t, v0 = .int i t ∧ vs[i]? = some v1), m₀, (D, o₀) :: news, J', rfl, hlen ▸ WalksT.enumerateD Dr (s.heap.objs.size + 1) (Nat.succ_ne_self _) hef (List.mem_cons_self ..), ?_, ?_, ?_, ?_, ⟨⟨_, by simpa using he⟩, hit, hls.at fun o e => hk ax o e⟩, F', N', ⟨o₀, rfl, hJ⟩, ?_, ?_⟩
  · rintro i vals ⟨t, x, hPx, rfl⟩
    exact ⟨_, _, rfl, t, rfl, by simpa using hPx⟩
  · intro hm'
    rcases List.mem_cons.mp hm' with e | hm'
    · exact Nat.ne_of_lt (Nat.lt_succ_of_lt hLs) e
    · rcases List.mem_cons.mp hm' with e | hm'
      · exact Nat.ne_of_lt hLs e
      · exact (N _ (List.Mem.tail _ hm)).2.1 (List.mem_singleton.mp hm').symm
  · intro b hb
    rcases List.mem_cons.mp hb with rfl | hb
    · exact Heap.get?_none_of_le (Nat.le_trans hab (Nat.le_of_lt (Nat.lt_succ_of_lt hLs)))
    · rw [List.mem_singleton.mp hb]; exact Heap.get?_none_of_le (Nat.le_trans hab (Nat.le_of_lt hLs))
  · intro p hp hb
    have := hall p hp
    rcases List.mem_cons.mp hb with e1 | hb
    · exact Nat.ne_of_lt (Nat.lt_succ_of_lt this) e1
    · exact Nat.ne_of_lt this (List.mem_singleton.mp hb)
  · rintro i v0 v1 m₁ news₁ s₁ own ⟨hh₁, tk₁, rfl⟩ _ ⟨t, rfl, hPx⟩ ⟨o, rfl, hJ₁⟩ ha hsub F₁ N₁
    have hR : ∀ p ∈ own ++ news, p.1 ≠ D := fun p hp => by
      rcases List.mem_append.mp hp with hp | hp
      · intro e
        have := hsub p hp
        rw [e] at this
        rcases List.mem_cons.mp this with e1 | hb
        · exact Nat.ne_of_lt (Nat.lt_succ_of_lt hDs) e1
        · rcases List.mem_cons.mp hb with e1 | hb
          · exact Nat.ne_of_lt hDs e1
          · exact hD _ hm (List.mem_singleton.mp hb).symm
      · exact hD p hp
    refine wpAny_mono (turn i v1 t m₁ o (own ++ news) hh₁ tk₁ hPx hJ₁ hR (fun q hq => List.mem_append_right _ hq) F₁ (fun p hp => ?_)) (fun f s₂ tt => ?_) fun _ _ e => e
    · rcases List.mem_cons.mp hp with rfl | hp
      · exact N₁ _ (List.mem_append_right _ (List.Mem.head _))
      · rcases List.mem_append.mp hp with hp | hp
        · exact N₁ _ (List.mem_append_left _ hp)
        · exact N₁ _ (List.mem_append_right _ (List.Mem.tail _ hp))
    · obtain ⟨rfl, h₂, tk₂, m₂, o₂, rfl, F₂, N₂, hJ₂⟩ := tt
      refine ⟨rfl, h₂, tk₂, m₂, (D, o₂) :: news, rfl, F₂, fun p hp => ?_, rfl, o₂, rfl, hJ₂⟩
      rcases List.mem_append.mp hp with hp | hp
      · exact N₂ _ (List.Mem.tail _ (List.mem_append_left _ hp))
      · rcases List.mem_cons.mp hp with rfl | hp
        · exact N₂ _ (List.Mem.head _)
        · exact N₂ _ (List.Mem.tail _ (List.mem_append_right _ hp))
  · rintro h₂ tk₂ m' news' F₂ N₂ _ ⟨o, rfl, hJ₂⟩
    exact done m' o h₂ tk₂ hJ₂ F₂ N₂

noncomputable def WhileEnd (h₀ : Heap) (L : Addr) (s : Shared) (J : Nat → (Str → Option Value) → List (Addr × Obj) → Prop) (n : Nat) (Q : Flow → Shared → Prop) (f : Flow) (s₃ : Shared) : Prop :=
  match f with
  | .ret v => Q (.ret v) s₃
  | .brk => Q .next s₃
  | _ => WhileStep h₀ L s J n .next s₃
theorem While_ret {test : Expr} {pos : Pos} {L : Addr} {m : Str → Option Value} {news : List (Addr × Obj)} (J : Nat → (Str → Option Value) → List (Addr × Obj) → Prop) {n₀ : Nat}
    (F : Fr h₀ L s.heap m) (N : News h₀ L s.heap news) (hJ : J n₀ m news)
    (turn : ∀ n m₁ news₁ h₁ tk₁, Fr h₀ L h₁ m₁ → News h₀ L h₁ news₁ → J n m₁ news₁ →
      wpAny (model prog w) A (isTrue test env (eval test env)) (fun b s₂ =>
        if b = true then wpAny (model prog w) A (execs body env) (WhileEnd h₀ L s J n Q) E s₂ else Q .next s₂) E { s with heap := h₁, toks := tk₁ })
    (hE : PassesOwn (model prog w) A env E) :
    wpAny (model prog w) A (exec (.While test body [] pos) env) Q E s := by
  refine wpAny_While (codeAny_whileLoop (R := fun r s' => match r with | .ok f => Q f s' | .error e => cameBackBy (model prog w) A env E e s') (fun n s' => ∃ h₁ tk₁ m₁ news₁, s' = { s with heap := h₁, toks := tk₁ } ∧ Fr h₀ L h₁ m₁ ∧ News h₀ L h₁ news₁ ∧ J n m₁ news₁) ?_ n₀ ⟨s.heap, s.toks, m, news, rfl, F, N, hJ⟩)
  rintro n s' ⟨h₁, tk₁, m₁, news₁, rfl, F₁, N₁, J₁⟩
  refine wpAny_mono (turn n m₁ news₁ h₁ tk₁ F₁ N₁ J₁) (fun b s₂ h₂ => ?_) hE
  cases b with
  | false =>
    simp only [Bool.false_eq_true, if_false] at h₂ ⊢
    exact wpAny_execs_nil h₂
  | true =>
    simp only [if_true] at h₂ ⊢
    refine wpAny_mono h₂ (fun f s₃ h₃ => ?_) hE
    cases f with
    | ret v => exact h₃
    | brk => exact h₃
    | next =>
      obtain ⟨_, h', tk, m₂, news₂, n', rfl, F₂, N₂, hn, J₂⟩ := h₃
      exact ⟨n', hn, h', tk, m₂, news₂, rfl, F₂, N₂, J₂⟩
    | cont =>
      obtain ⟨_, h', tk, m₂, news₂, n', rfl, F₂, N₂, hn, J₂⟩ := h₃
      exact ⟨n', hn, h', tk, m₂, news₂, rfl, F₂, N₂, J₂⟩
end

end
section
open Builtin.Int (intBits)
noncomputable def scaleP (xs : List Int) (k : Int) : List Int := if k ≠ 0 then xs.map fun x => x * k else []
noncomputable def raiseP (xs : List Int) (k : Int) : List Int := if xs.length > 0 then List.replicate k.toNat 0 ++ xs else []
noncomputable abbrev leadP (xs : List Int) : Int := xs.getLastD 0

/-- every number of the row has M bits at most -/
noncomputable def Bd (M : Nat) (xs : List Int) : Prop := ∀ x ∈ xs, intBits x ≤ M
theorem Bd.mono {M N : Nat} {xs : List Int} (h : Bd M xs) (k : M ≤ N) : Bd N xs := fun x hx => Nat.le_trans (h x hx) k
theorem Bd.nil {M : Nat} : Bd M [] := fun _ h => nomatch h
theorem Bd.getD {M : Nat} {xs : List Int} (h : Bd M xs) (i : Nat) : intBits (xs.getD i 0) ≤ M := by
  rw [List.getD_eq_getElem?_getD]
  cases e : xs[i]? with
  | none => exact Nat.zero_le _
  | some v => exact h v (List.mem_of_getElem? e)
theorem Bd.lead {M : Nat} {xs : List Int} (h : Bd M xs) : intBits (leadP xs) ≤ M := by
  rw [leadP, List.getLastD_eq_getLast?]
  cases e : xs.getLast? with
  | none => exact Nat.zero_le _
  | some v => exact h v (List.mem_of_getLast? e)
theorem Bd.scale {M K : Nat} {xs : List Int} {k : Int} (h : Bd M xs) (hk : intBits k ≤ K) : Bd (M + K) (scaleP xs k) := by
  unfold scaleP
  split
  · intro x hx
    obtain ⟨y, hy, rfl⟩ := List.mem_map.mp hx
    exact intBits_mul_le (h y hy) hk
  · exact Bd.nil
theorem Bd.neg {M : Nat} {xs : List Int} (h : Bd M xs) : Bd M (xs.map fun x => -x) := fun x hx => by
  obtain ⟨y, hy, rfl⟩ := List.mem_map.mp hx
  exact intBits_neg_le (h y hy)
theorem Bd.raise {M : Nat} {xs : List Int} {k : Int} (h : Bd M xs) : Bd M (raiseP xs k) := by
  unfold raiseP
  split
  · intro x hx
    rcases List.mem_append.mp hx with hx | hx
    · rw [List.eq_of_mem_replicate hx]; exact Nat.zero_le _
    · exact h x hx
  · exact Bd.nil
theorem mem_trimP : ∀ {xs : List Int} {x : Int}, x ∈ trimP xs → x ∈ xs
  | [], _, h => h
  | y :: r, x, h => by
    rw [trimP] at h
    split at h
    · split at h
      · cases h
      · rw [List.mem_singleton.mp h]; exact .head _
    · rename_i a t e
      rcases List.mem_cons.mp h with rfl | h
      · exact .head _
      · exact .tail _ (mem_trimP (e ▸ h))
theorem Bd.trim {M : Nat} {xs : List Int} (h : Bd M xs) : Bd M (trimP xs) := fun x hx => h x (mem_trimP hx)
theorem Bd.add {M N : Nat} {xs ys : List Int} (h : Bd M xs) (k : Bd N ys) : Bd (max M N + 1) (addP xs ys) := by
  refine Bd.trim fun x hx => ?_
  obtain ⟨i, _, rfl⟩ := List.mem_map.mp hx
  exact intBits_add_le (h.getD _) (k.getD _)
theorem Bd.sub {M N : Nat} {xs ys : List Int} (h : Bd M xs) (k : Bd N ys) : Bd (max M N + 1) (subP xs ys) := Bd.add h k.neg
theorem Bd.fdiv {M : Nat} {xs : List Int} {k : Int} (h : Bd M xs) : Bd M (xs.map fun x => Int.fdiv x k) := fun x hx => by
  obtain ⟨y, hy, rfl⟩ := List.mem_map.mp hx
  exact intBits_fdiv_le (h y hy)
theorem Bd.cons {M : Nat} {x : Int} {xs : List Int} (hx : intBits x ≤ M) (h : Bd M xs) : Bd M (x :: xs) := fun y hy => by
  rcases List.mem_cons.mp hy with rfl | hy
  · exact hx
  · exact h y hy
theorem Bd.mulOk {M K : Nat} {xs : List Int} {k : Int} (h : Bd M xs) (hk : intBits k ≤ K) (hs : M + K ≤ 134217728) : ∀ x ∈ xs, IntMulOk x k := fun x hx => IntMulOk.of_le (h x hx) hk hs

-- lengths
theorem trimP_length_le : ∀ (zs : List Int) (k : Nat), (∀ i, k ≤ i → zs.getD i 0 = 0) → (trimP zs).length ≤ k
  | [], _, _ => Nat.zero_le _
  | x :: r, 0, h => by
    have hz : ∀ y ∈ x :: r, y = 0 := fun y hy => by
      obtain ⟨i, hi, rfl⟩ := List.getElem_of_mem hy
      have := h i (Nat.zero_le _)
      rwa [List.getD_eq_getElem?_getD, List.getElem?_eq_getElem hi, Option.getD_some] at this
    rw [trimP_zero _ hz]; exact Nat.le_refl _
  | x :: r, k + 1, h => by
    have ih := trimP_length_le r k fun i hi => by
      have := h (i + 1) (by omega)
      rwa [List.getD_cons_succ] at this
    rw [trimP]
    split
    · split <;> simp
    · rename_i a t e
      rw [e] at ih
      simp only [List.length_cons] at ih ⊢
      omega
theorem trimP_length (zs : List Int) : (trimP zs).length ≤ zs.length := trimP_length_le zs _ fun i hi => by
  rw [List.getD_eq_getElem?_getD, List.getElem?_eq_none hi]; rfl
theorem addP_length (xs ys : List Int) : (addP xs ys).length ≤ max xs.length ys.length := by
  refine Nat.le_trans (trimP_length _) ?_
  rw [List.length_map, rangeKs_length]; exact Nat.le_refl _
theorem subP_length (xs ys : List Int) : (subP xs ys).length ≤ max xs.length ys.length := by
  have := addP_length xs (ys.map fun y => -y)
  rwa [List.length_map] at this
theorem addP_length_le (xs ys : List Int) (k : Nat) (h : ∀ i, k ≤ i → xs.getD i 0 + ys.getD i 0 = 0) : (addP xs ys).length ≤ k := by
  refine trimP_length_le _ _ fun i hi => ?_
  rw [List.getD_eq_getElem?_getD, List.getElem?_map]
  cases e : (rangeKs 0 (max xs.length ys.length))[i]? with
  | none => rfl
  | some v =>
    have hi' : i < (rangeKs 0 (max xs.length ys.length)).length := (List.getElem?_eq_some_iff.mp e).1
    rw [rangeKs_length] at hi'
    have hv : v = (i : Int) := by
      have h2 := kll_at (a := 0) hi'
      rw [List.getD_eq_getElem?_getD, e, Option.getD_some] at h2
      omega
    rw [Option.map_some, Option.getD_some, hv]
    exact h i hi
theorem getD_map_neg (ys : List Int) (i : Nat) : (ys.map fun y => -y).getD i 0 = -(ys.getD i 0) := by
  rw [List.getD_eq_getElem?_getD, List.getD_eq_getElem?_getD, List.getElem?_map]
  cases ys[i]? with
  | none => rfl
  | some v => rfl
theorem getD_map_mul (ys : List Int) (k : Int) (i : Nat) : (ys.map fun y => y * k).getD i 0 = (ys.getD i 0) * k := by
  rw [List.getD_eq_getElem?_getD, List.getD_eq_getElem?_getD, List.getElem?_map]
  cases ys[i]? with
  | none => exact (Int.zero_mul k).symm
  | some v => rfl
theorem getD_scale (ys : List Int) (k : Int) (i : Nat) : (scaleP ys k).getD i 0 = (ys.getD i 0) * k := by
  unfold scaleP
  split
  · exact getD_map_mul ys k i
  · rename_i h
    have : k = 0 := by simpa using h
    rw [this, Int.mul_zero]; rfl
theorem getD_raise (ys : List Int) (p i : Nat) : (raiseP ys (p : Int)).getD i 0 = if i < p then 0 else ys.getD (i - p) 0 := by
  unfold raiseP
  split
  · rw [List.getD_eq_getElem?_getD, Int.toNat_natCast]
    by_cases h : i < p
    · rw [List.getElem?_append_left (by rw [List.length_replicate]; exact h), if_pos h, List.getElem?_replicate, if_pos h]; rfl
    · rw [List.getElem?_append_right (by rw [List.length_replicate]; omega), if_neg h, List.length_replicate, List.getD_eq_getElem?_getD]
  · rename_i h
    have : ys = [] := by cases ys with | nil => rfl | cons => exfalso; apply h; exact Nat.succ_pos _
    subst this
    split <;> rfl
theorem lead_getD (xs : List Int) : leadP xs = xs.getD (xs.length - 1) 0 := by
  rw [leadP, List.getLastD_eq_getLast?, List.getLast?_eq_getElem?, List.getD_eq_getElem?_getD]
theorem getD_big {xs : List Int} {i : Nat} (h : xs.length ≤ i) : xs.getD i 0 = 0 := by
  rw [List.getD_eq_getElem?_getD, List.getElem?_eq_none h]; rfl
/-- one step of the division by heads: the head is gone -/
theorem headStep_length {r b : List Int} (hb : b ≠ []) (hl : b.length ≤ r.length) :
    (subP (scaleP r (leadP b)) (raiseP (scaleP b (leadP r)) ((r.length - b.length : Nat) : Int))).length < r.length := by
  have hbl : 0 < b.length := List.length_pos_iff.mpr hb
  refine Nat.lt_of_le_of_lt (addP_length_le _ _ (r.length - 1) fun i hi => ?_) (by omega : r.length - 1 < r.length)
  rw [getD_map_neg, getD_scale, getD_raise, if_neg (by omega), getD_scale]
  by_cases h : i = r.length - 1
  · rw [h, lead_getD b, lead_getD r]
    have e : r.length - 1 - (r.length - b.length) = b.length - 1 := by omega
    rw [e, Int.mul_comm]; omega
  · rw [getD_big (by omega : r.length ≤ i), getD_big (by omega : b.length ≤ i - (r.length - b.length))]
    simp

/-- the loop of the pseudo division: the rest, and what is left of the count -/
noncomputable def premLoop (b : List Int) : Nat → List Int → List Int × Nat
  | 0, r => (r, 0)
  | n + 1, r => if b.length ≤ r.length then premLoop b n (subP (scaleP r (leadP b)) (raiseP (scaleP b (leadP r)) ((r.length - b.length : Nat) : Int))) else (r, n + 1)
noncomputable def premP (a b : List Int) : List Int :=
  let x := premLoop b (a.length + 1 - b.length) a
  scaleP x.1 (leadP b ^ x.2)

/-- a row of the product: left times ys onto the places from k -/
noncomputable def rowP (left : Int) : Nat → List Int → List Int → List Int
  | _, [], f => f
  | k, y :: ys, f => rowP left (k + 1) ys (f.set k (f.getD k 0 + left * y))
noncomputable def rowsP (ys : List Int) : Nat → List Int → List Int → List Int
  | _, [], f => f
  | k, x :: xs, f => rowsP ys (k + 1) xs (if x ≠ 0 then rowP x k ys f else f)
noncomputable def mulP (xs ys : List Int) : List Int := if xs.length = 0 ∨ ys.length = 0 then [] else rowsP ys 0 xs (List.replicate (xs.length + ys.length - 1) 0)
theorem rowP_length (left : Int) : ∀ (ys : List Int) (k : Nat) (f : List Int), (rowP left k ys f).length = f.length
  | [], _, _ => rfl
  | y :: ys, k, f => by rw [rowP, rowP_length left ys, List.length_set]
theorem rowsP_length (ys : List Int) : ∀ (xs : List Int) (k : Nat) (f : List Int), (rowsP ys k xs f).length = f.length
  | [], _, _ => rfl
  | x :: xs, k, f => by
    rw [rowsP, rowsP_length ys xs]
    split
    · exact rowP_length ..
    · rfl
theorem drop_get {α : Type} {xs : List α} {i : Nat} {a : α} (h : xs[i]? = some a) : xs.drop i = a :: xs.drop (i + 1) := by
  obtain ⟨hi, e⟩ := List.getElem?_eq_some_iff.mp h
  rw [List.drop_eq_getElem_cons hi, e]
theorem rowP_step {left : Int} {ys : List Int} {k j : Nat} {y : Int} {f : List Int} (h : ys[j]? = some y) : rowP left (k + j) (ys.drop j) f = rowP left (k + (j + 1)) (ys.drop (j + 1)) (f.set (k + j) (f.getD (k + j) 0 + left * y)) := by
  rw [drop_get h, rowP]; rfl
theorem rowsP_step {xs ys : List Int} {i : Nat} {x : Int} {f : List Int} (h : xs[i]? = some x) : rowsP ys i (xs.drop i) f = rowsP ys (i + 1) (xs.drop (i + 1)) (if x ≠ 0 then rowP x i ys f else f) := by
  rw [drop_get h, rowsP]

/-- the loop of the exact division -/
noncomputable def exactLoop (b : List Int) : Nat → List Int → List Int → Option (List Int)
  | 0, r, f => if b.length ≤ r.length then none else if r = [] then some (trimP f) else none
  | n + 1, r, f => if b.length ≤ r.length then
      (if (leadP r).fmod (leadP b) = 0 ∧ r.length - b.length < f.length then
        exactLoop b n (subP r (raiseP (scaleP b ((leadP r).fdiv (leadP b))) ((r.length - b.length : Nat) : Int))) (f.set (r.length - b.length) ((leadP r).fdiv (leadP b))) else none)
      else if r = [] then some (trimP f) else none
noncomputable def exactP (a b : List Int) : Option (List Int) := exactLoop b (a.length + 1 - b.length) a (List.replicate (a.length + 1 - b.length) 0)
theorem exactLoop_stop {b r f q : List Int} (h : ¬ b.length ≤ r.length) {n : Nat} (e : exactLoop b n r f = some q) : r = [] ∧ trimP f = q := by
  cases n with
  | zero =>
    rw [exactLoop, if_neg h] at e
    split at e
    · exact ⟨by assumption, Option.some.inj e⟩
    · cases e
  | succ n =>
    rw [exactLoop, if_neg h] at e
    split at e
    · exact ⟨by assumption, Option.some.inj e⟩
    · cases e
theorem exactLoop_go {b r f q : List Int} (h : b.length ≤ r.length) {n : Nat} (e : exactLoop b n r f = some q) : ∃ k, n = k + 1 ∧ (leadP r).fmod (leadP b) = 0 ∧ r.length - b.length < f.length ∧
    exactLoop b k (subP r (raiseP (scaleP b ((leadP r).fdiv (leadP b))) ((r.length - b.length : Nat) : Int))) (f.set (r.length - b.length) ((leadP r).fdiv (leadP b))) = some q := by
  cases n with
  | zero => rw [exactLoop, if_pos h] at e; cases e
  | succ n =>
    rw [exactLoop, if_pos h] at e
    split at e
    · rename_i c; exact ⟨n, rfl, c.1, c.2, e⟩
    · cases e

/-- 200 bits at most, as a look -/
noncomputable def smallI (x : Int) : Bool := Nat.blt x.natAbs (2 ^ 200)
theorem smallI_bits {x : Int} (h : smallI x = true) : intBits x ≤ 200 := intBits_le_iff.mpr (by simpa [smallI] using h)
theorem smallI_Bd {xs : List Int} (h : xs.all smallI = true) : Bd 200 xs := fun x hx => smallI_bits (List.all_eq_true.mp h x hx)
/-- one step of the chain: the next row and height, where all is in order -/
noncomputable def heightP (fr h : Int) (st : Nat) : Int := if st = 0 then h else Int.fdiv (fr ^ st) (h ^ (st - 1))
/-- the chain of subresultants: its last row -/
noncomputable def chainS : Nat → List Int → List Int → Int → Int → Option (List Int)
  | 0, _, _, _, _ => none
  | f + 1, a, b, fr, h =>
    if b.length ≤ 1 then some b else
    let r := premP a b
    if r = [] then some b else
    let d := fr * h ^ (a.length - b.length)
    let b' := r.map fun x => Int.fdiv x d
    let h' := heightP (leadP b) h (a.length - b.length)
    if d ≠ 0 ∧ h' ≠ 0 ∧ smallI h' = true ∧ b'.all smallI = true ∧ b'.length < b.length then chainS f b b' (leadP b) h' else none
noncomputable def subresP (a b : List Int) : Option (List Int) := if a.length < b.length then chainS 10 b a 1 1 else chainS 10 a b 1 1
theorem chainS_stop {f : Nat} {a b q : List Int} {fr h : Int} (hb : b.length ≤ 1) (e : chainS f a b fr h = some q) : b = q := by
  cases f with
  | zero => cases e
  | succ f => rw [chainS, if_pos hb] at e; exact Option.some.inj e
theorem chainS_nil {f : Nat} {a b q : List Int} {fr h : Int} (hb : ¬ b.length ≤ 1) (hr : premP a b = []) (e : chainS f a b fr h = some q) : b = q := by
  cases f with
  | zero => cases e
  | succ f => rw [chainS, if_neg hb] at e; simp only [hr, if_true] at e; exact Option.some.inj e
theorem chainS_go {f : Nat} {a b q : List Int} {fr h : Int} (hb : ¬ b.length ≤ 1) (hr : premP a b ≠ []) (e : chainS f a b fr h = some q) : ∃ k, f = k + 1 ∧
    fr * h ^ (a.length - b.length) ≠ 0 ∧ heightP (leadP b) h (a.length - b.length) ≠ 0 ∧ smallI (heightP (leadP b) h (a.length - b.length)) = true ∧
    ((premP a b).map fun x => Int.fdiv x (fr * h ^ (a.length - b.length))).all smallI = true ∧ ((premP a b).map fun x => Int.fdiv x (fr * h ^ (a.length - b.length))).length < b.length ∧
    chainS k b ((premP a b).map fun x => Int.fdiv x (fr * h ^ (a.length - b.length))) (leadP b) (heightP (leadP b) h (a.length - b.length)) = some q := by
  cases f with
  | zero => cases e
  | succ f =>
    rw [chainS, if_neg hb] at e
    simp only [if_neg hr] at e
    split at e
    · rename_i c
      exact ⟨f, rfl, c.1, c.2.1, c.2.2.1, c.2.2.2.1, c.2.2.2.2, e⟩
    · cases e


end
section
open Builtin.Int (intBits)

noncomputable def okPrim (a : List Int) : Bool := (contentP a != 0) && smallI (contentP a) && (primP a).all smallI && Nat.blt a.length 20
theorem okPrim_facts {a : List Int} (h : okPrim a = true) : contentP a ≠ 0 ∧ intBits (contentP a) ≤ 200 ∧ Bd 200 (primP a) ∧ a.length < 20 := by
  simp only [okPrim, Bool.and_eq_true, bne_iff_ne] at h
  obtain ⟨⟨⟨h1, h2⟩, h3⟩, h4⟩ := h
  exact ⟨h1, smallI_bits h2, smallI_Bd h3, by simpa using h4⟩
/-- the divisor of the two, where all is in order -/
noncomputable def zgcdP (a b : List Int) : Option (List Int) :=
  if okPrim a = true ∧ a ≠ [] then
    (if b = [] then some (scaleP (primP a) (contentP a))
    else if okPrim b = true ∧ smallI (Int.gcd (contentP a) (contentP b)) = true then
      match subresP (primP a) (primP b) with
      | none => none
      | some last => if last.length > 1 then (if okPrim last = true then some (scaleP (primP last) (Int.gcd (contentP a) (contentP b))) else none) else some [(Int.gcd (contentP a) (contentP b) : Int)]
    else none)
  else none
theorem primP_length (a : List Int) : (primP a).length = a.length := by
  unfold primP
  split
  · rename_i h; rw [h]
  · exact List.length_map ..
theorem zgcdP_nil {a q : List Int} (e : zgcdP a [] = some q) : okPrim a = true ∧ a ≠ [] ∧ scaleP (primP a) (contentP a) = q := by
  by_cases c : okPrim a = true ∧ a ≠ []
  · rw [zgcdP, if_pos c, if_pos rfl] at e
    exact ⟨c.1, c.2, Option.some.inj e⟩
  · rw [zgcdP, if_neg c] at e; cases e
theorem zgcdP_go {a b q : List Int} (hb : b ≠ []) (e : zgcdP a b = some q) : okPrim a = true ∧ a ≠ [] ∧ okPrim b = true ∧ smallI (Int.gcd (contentP a) (contentP b)) = true ∧ ∃ last, subresP (primP a) (primP b) = some last ∧
    ((last.length > 1 ∧ okPrim last = true ∧ scaleP (primP last) (Int.gcd (contentP a) (contentP b)) = q) ∨ (¬ last.length > 1 ∧ [(Int.gcd (contentP a) (contentP b) : Int)] = q)) := by
  by_cases c : okPrim a = true ∧ a ≠ []
  · rw [zgcdP, if_pos c, if_neg hb] at e
    by_cases d : okPrim b = true ∧ smallI (Int.gcd (contentP a) (contentP b)) = true
    · rw [if_pos d] at e
      refine ⟨c.1, c.2, d.1, d.2, ?_⟩
      cases hs : subresP (primP a) (primP b) with
      | none => rw [hs] at e; cases e
      | some last =>
        rw [hs] at e
        simp only at e
        refine ⟨last, rfl, ?_⟩
        by_cases hl : last.length > 1
        · rw [if_pos hl] at e
          by_cases ho : okPrim last = true
          · rw [if_pos ho] at e; exact .inl ⟨hl, ho, Option.some.inj e⟩
          · rw [if_neg ho] at e; cases e
        · rw [if_neg hl] at e; exact .inr ⟨hl, Option.some.inj e⟩
    · rw [if_neg d] at e; cases e
  · rw [zgcdP, if_neg c] at e; cases e

end
local macro_rules | `(tactic| is_list) => `(tactic| exact News.isList (by k_asm) (by k_mem))
local macro_rules | `(tactic| k_mem) => `(tactic| assumption)
-- the start of a def without cells, with cells
local macro_rules | `(tactic| walk_at "eval ListComp") => `(tactic| (k_here; (with_reducible show wpAny _ _ (eval (Expr.ListComp _ [Comprehension.mk (Expr.Name _ _) _ _ _] _ _) _) _ _ _); k_dflt (refine LCg.ListComp_U (F₀ := by k_asm) (by with_unfolding_all rfl) (by decide) (by rfl) (by decide) (by rfl) ?_)))
local macro_rules | `(tactic| walk_at "mine sub") => `(tactic| first | assumption | exact Sub.rfl | (refine Sub.cons ?_; walk_at "mine sub"))
-- steps up to a while or a for, which the text takes itself
local macro_rules | `(tactic| walk_at "eval Name") => `(tactic| (k_here; (with_reducible show wpAny _ _ (eval (Expr.Name _ _) (envOf _ _ _ _ _)) _ _ _); k_dflt (refine' ld ?k1 ?k2 ?_; (case k1 => k_asm); (case k2 => assumption); k_whole)))

local macro_rules | `(tactic| walk_at "loadName") => `(tactic| (k_here; (with_reducible show wpAny _ _ (loadName (envOf _ _ _ _ _) _) _ _ _); k_dflt (refine' ldn ?k1 ?k2 ?_; (case k1 => k_asm); (case k2 => assumption); k_whole)))
local macro_rules | `(tactic| k_all) => `(tactic| assumption)

section
section
set_option maxHeartbeats 8000000 in
theorem t_zneg (w : World) (mean : ExcName → Option Value) (mg mb : Str → Option Value) (xs : List Int) (hl : xs.length < 1000) : Ct w mean mg mb 79 1 (R1 xs) (OPoly (xs.map fun x => -x)) := by
  w_top off; unfold Ct PR VW LS KF; k_fill; intro dp un gd cn cs a ccd cl outer A₀ base h₀ L m news s vs Q E B F X N T hk hR hd hu hret
  obtain ⟨pa, rfl, pv, pn, hpm, hpi⟩ := hR
  have hpl := hpi.length
  (refine wpAny_call ?_; k_dflt ktr_enter)
  (repeat' (first | (k_unfold; (try dsimp only)) | (k_end; wrow_close) | (first | ((with_reducible show LCg.CompSrc ..); (k_here; k_dflt ((refine LCg.CompSrc.ledger (by rfl) (by k_asm) (by k_asm) (by k_mem) (by ((try simp only [List.size_toArray, sizeLine_eq]); omega)) ?_; intro g'z); (refine' kcf_list (fun x => -x) (by assumption) (fun k'z t'z I'z oI'z C'z oC'z D'z m'z ys'z h'z tk'z E'z hk'z hC'z hx'z F'z N'z off'z ne'z hMark'z => ?_) ?_); kcf_last))) | walk1) | (dsimp only; (first | ((with_reducible show LCg.CompSrc ..); (k_here; k_dflt ((refine LCg.CompSrc.ledger (by rfl) (by k_asm) (by k_asm) (by k_mem) (by ((try simp only [List.size_toArray, sizeLine_eq]); omega)) ?_; intro g'z); (refine' kcf_list (fun x => -x) (by assumption) (fun k'z t'z I'z oI'z C'z oC'z D'z m'z ys'z h'z tk'z E'z hk'z hC'z hx'z F'z N'z off'z ne'z hMark'z => ?_) ?_); kcf_last))) | walk1)) | (leave1; try dsimp only) | fail "no step"))
  exact hret _ _ _ _ (by k_asm) (by k_asm) (opoly (by walk_at "mine sub") (by k_mem) (by (first | assumption | exact IntsAre.nil | exact IntsAre.cons _ _ .nil)) (by (first | exact fun q hq => (by assumption : ∀ q ∈ _, q.1 ≠ _) q (by k_mem) | exact off1_mem (by assumption) | exact off1_mem (And.right (by assumption)) | exact allLt_ne (by assumption) | exact allLt_ne (And.right (by assumption)) | exact allLt_ne (And.right (And.right (by assumption))) | exact allLt_ne (And.right (And.right (And.right (by assumption)))) | exact allLt_ne (And.right (And.right (And.right (And.right (by assumption))))) | exact off1_mem (And.right (And.right (by assumption))) | exact off1_mem (And.right (And.right (And.right (by assumption)))) | exact lt_ne (by assumption))))
end
section
variable (k : Int)
set_option maxHeartbeats 8000000 in
theorem t_zscale (w : World) (mean : ExcName → Option Value) (mg mb : Str → Option Value) (xs : List Int) (hl : xs.length < 1000) (hm : ∀ x ∈ xs, IntMulOk x k) : Ct w mean mg mb 91 1 (R1k xs k) (OPoly (if k ≠ 0 then xs.map fun x => x * k else [])) := by
  w_top off; unfold Ct PR VW LS KF; k_fill; intro dp un gd cn cs a ccd cl outer A₀ base h₀ L m news s vs Q E B F X N T hk hR hd hu hret
  obtain ⟨pa, pt, rfl, pv, pn, hpm, hpi⟩ := hR
  have hpl := hpi.length
  (refine wpAny_call ?_; k_dflt (refine' code_defC ?k1 ?k2 ?k3 ?k4 ?k5 ?kA ?kF ?kK ?k6 ?k7 ?k8 ?k9 ?kB ?kD ?_ ?c2 ?c3 ?c4; (case kA => exact rfl); (case kF => exact rfl); (case kK => assumption); (case k1 => k_asm); (case k2 => k_asm); (case k3 => k_asm); (case k4 => k_asm); (case k5 => k_asm); (case k6 => k_is); (case k7 => k_is); (case k8 => ktr_room); (case k9 => exact BindsTo.of_eq rfl); (case kB => exact rfl); (case kD => decide +kernel); (case c2 => exact rfl); (case c3 => exact rfl); (case c4 => exact rfl); k_whole; intro g'z L'z h'z tk'z cells'z FG'z F'z N'z Y'z B'z X'z T'z l1; (try k_lt l1); k_cells Y'z; (try simp only [List.cons_append, List.nil_append] at N'z); (try dsimp only); (try k_fold)))
  (repeat' (first | (k_unfold; (try dsimp only)) | (k_end; wrow_close) | (first | ((with_reducible show wpAny _ _ (binaryOp Operator.Mult (Value.int _ _) (Value.int _ _)) _ _ _); (k_here; k_dflt (refine mul_int ?_ ((by assumption : ∀ x ∈ _, IntMulOk x k) _ (by assumption))))) | ((with_reducible show LCg.CompSrc ..); (k_here; k_dflt ((refine LCg.CompSrc.ledger (by rfl) (by k_asm) (by k_asm) (by k_mem) (by ((try simp only [List.size_toArray, sizeLine_eq]); omega)) ?_; intro g'z); (refine' kcf_list (fun x => x * k) (by assumption) (fun k'z t'z I'z oI'z C'z oC'z D'z m'z ys'z h'z tk'z E'z hk'z hC'z hx'z F'z N'z off'z ne'z hMark'z => ?_) ?_); kcf_last))) | walk1) | (dsimp only; (first | ((with_reducible show wpAny _ _ (binaryOp Operator.Mult (Value.int _ _) (Value.int _ _)) _ _ _); (k_here; k_dflt (refine mul_int ?_ ((by assumption : ∀ x ∈ _, IntMulOk x k) _ (by assumption))))) | ((with_reducible show LCg.CompSrc ..); (k_here; k_dflt ((refine LCg.CompSrc.ledger (by rfl) (by k_asm) (by k_asm) (by k_mem) (by ((try simp only [List.size_toArray, sizeLine_eq]); omega)) ?_; intro g'z); (refine' kcf_list (fun x => x * k) (by assumption) (fun k'z t'z I'z oI'z C'z oC'z D'z m'z ys'z h'z tk'z E'z hk'z hC'z hx'z F'z N'z off'z ne'z hMark'z => ?_) ?_); kcf_last))) | walk1)) | (leave1; try dsimp only) | fail "no step"))
  · rw [if_pos (by assumption)] at hret
    exact hret _ _ _ _ (by k_asm) (by k_asm) (opoly (by walk_at "mine sub") (by k_mem) (by (first | assumption | exact IntsAre.nil | exact IntsAre.cons _ _ .nil)) (by (first | exact fun q hq => (by assumption : ∀ q ∈ _, q.1 ≠ _) q (by k_mem) | exact off1_mem (by assumption) | exact off1_mem (And.right (by assumption)) | exact allLt_ne (by assumption) | exact allLt_ne (And.right (by assumption)) | exact allLt_ne (And.right (And.right (by assumption))) | exact allLt_ne (And.right (And.right (And.right (by assumption)))) | exact allLt_ne (And.right (And.right (And.right (And.right (by assumption))))) | exact off1_mem (And.right (And.right (by assumption))) | exact off1_mem (And.right (And.right (And.right (by assumption)))) | exact lt_ne (by assumption))))
  · rw [if_neg (by simpa using (by assumption : k = 0))] at hret
    exact hret _ _ _ _ (by k_asm) (by k_asm) (opoly (by walk_at "mine sub") (by k_mem) (by (first | assumption | exact IntsAre.nil | exact IntsAre.cons _ _ .nil)) (by (first | exact fun q hq => (by assumption : ∀ q ∈ _, q.1 ≠ _) q (by k_mem) | exact off1_mem (by assumption) | exact off1_mem (And.right (by assumption)) | exact allLt_ne (by assumption) | exact allLt_ne (And.right (by assumption)) | exact allLt_ne (And.right (And.right (by assumption))) | exact allLt_ne (And.right (And.right (And.right (by assumption)))) | exact allLt_ne (And.right (And.right (And.right (And.right (by assumption))))) | exact off1_mem (And.right (And.right (by assumption))) | exact off1_mem (And.right (And.right (And.right (by assumption)))) | exact lt_ne (by assumption))))
end
section
variable (k : Int)
set_option maxHeartbeats 8000000 in
theorem t_zdivided (w : World) (mean : ExcName → Option Value) (mg mb : Str → Option Value) (xs : List Int) (hl : xs.length < 1000) (hk0 : k ≠ 0) (hkb : k.natAbs.log2 < 9000) : Ct w mean mg mb 117 1 (R1k xs k) (OPoly (xs.map fun x => Int.fdiv x k)) := by
  w_top off; unfold Ct PR VW LS KF; k_fill; intro dp un gd cn cs a ccd cl outer A₀ base h₀ L m news s vs Q E B F X N T hk hR hd hu hret
  obtain ⟨pa, pt, rfl, pv, pn, hpm, hpi⟩ := hR
  have hpl := hpi.length
  (refine wpAny_call ?_; k_dflt (refine' code_defC ?k1 ?k2 ?k3 ?k4 ?k5 ?kA ?kF ?kK ?k6 ?k7 ?k8 ?k9 ?kB ?kD ?_ ?c2 ?c3 ?c4; (case kA => exact rfl); (case kF => exact rfl); (case kK => assumption); (case k1 => k_asm); (case k2 => k_asm); (case k3 => k_asm); (case k4 => k_asm); (case k5 => k_asm); (case k6 => k_is); (case k7 => k_is); (case k8 => ktr_room); (case k9 => exact BindsTo.of_eq rfl); (case kB => exact rfl); (case kD => decide +kernel); (case c2 => exact rfl); (case c3 => exact rfl); (case c4 => exact rfl); k_whole; intro g'z L'z h'z tk'z cells'z FG'z F'z N'z Y'z B'z X'z T'z l1; (try k_lt l1); k_cells Y'z; (try simp only [List.cons_append, List.nil_append] at N'z); (try dsimp only); (try k_fold)))
  (repeat' (first | (k_unfold; (try dsimp only)) | (k_end; wrow_close) | (first | ((with_reducible show wpAny _ _ (binaryOp Operator.FloorDiv (Value.int _ _) (Value.int _ _)) _ _ _); (k_here; k_dflt (refine floordiv_int (by assumption) ?_ (Or.inl (PyProof.noPylong_of_log2 (by assumption)))))) | ((with_reducible show LCg.CompSrc ..); (k_here; k_dflt ((refine LCg.CompSrc.ledger (by rfl) (by k_asm) (by k_asm) (by k_mem) (by ((try simp only [List.size_toArray, sizeLine_eq]); omega)) ?_; intro g'z); (refine' kcf_list (fun x => Int.fdiv x k) (by assumption) (fun k'z t'z I'z oI'z C'z oC'z D'z m'z ys'z h'z tk'z E'z hk'z hC'z hx'z F'z N'z off'z ne'z hMark'z => ?_) ?_); kcf_last))) | walk1) | (dsimp only; (first | ((with_reducible show wpAny _ _ (binaryOp Operator.FloorDiv (Value.int _ _) (Value.int _ _)) _ _ _); (k_here; k_dflt (refine floordiv_int (by assumption) ?_ (Or.inl (PyProof.noPylong_of_log2 (by assumption)))))) | ((with_reducible show LCg.CompSrc ..); (k_here; k_dflt ((refine LCg.CompSrc.ledger (by rfl) (by k_asm) (by k_asm) (by k_mem) (by ((try simp only [List.size_toArray, sizeLine_eq]); omega)) ?_; intro g'z); (refine' kcf_list (fun x => Int.fdiv x k) (by assumption) (fun k'z t'z I'z oI'z C'z oC'z D'z m'z ys'z h'z tk'z E'z hk'z hC'z hx'z F'z N'z off'z ne'z hMark'z => ?_) ?_); kcf_last))) | walk1)) | (leave1; try dsimp only) | fail "no step"))
  exact hret _ _ _ _ (by k_asm) (by k_asm) (opoly (by walk_at "mine sub") (by k_mem) (by (first | assumption | exact IntsAre.nil | exact IntsAre.cons _ _ .nil)) (by (first | exact fun q hq => (by assumption : ∀ q ∈ _, q.1 ≠ _) q (by k_mem) | exact off1_mem (by assumption) | exact off1_mem (And.right (by assumption)) | exact allLt_ne (by assumption) | exact allLt_ne (And.right (by assumption)) | exact allLt_ne (And.right (And.right (by assumption))) | exact allLt_ne (And.right (And.right (And.right (by assumption)))) | exact allLt_ne (And.right (And.right (And.right (And.right (by assumption))))) | exact off1_mem (And.right (And.right (by assumption))) | exact off1_mem (And.right (And.right (And.right (by assumption)))) | exact lt_ne (by assumption))))
end
set_option maxHeartbeats 8000000 in
theorem t_zdegree (w : World) (mean : ExcName → Option Value) (mg mb : Str → Option Value) (xs : List Int) (hl : xs.length < 1000) : Ct w mean mg mb 62 1 (R1 xs) (OInt ((xs.length : Int) - 1)) := by
  w_top off; unfold Ct PR VW LS KF; k_fill; intro dp un gd cn cs a ccd cl outer A₀ base h₀ L m news s vs Q E B F X N T hk hR hd hu hret
  obtain ⟨pa, rfl, pv, pn, hpm, hpi⟩ := hR
  have hpl := hpi.length
  (refine wpAny_call ?_; k_dflt ktr_enter)
  k_steps
  exact hret _ _ _ _ (by k_asm) (by k_asm) ⟨by walk_at "mine sub", _, rfl⟩
theorem getLastD_eq (xs : List Int) (h : 0 < (xs.length : Int)) : xs.getD (-1 + (xs.length : Int)).toNat 0 = xs.getLastD 0 := by
  have h1 : (-1 + (xs.length : Int)).toNat = xs.length - 1 := by omega
  rw [h1, List.getLastD_eq_getLast?, List.getLast?_eq_getElem?, List.getD_eq_getElem?_getD]
set_option maxHeartbeats 8000000 in
theorem t_zlead (w : World) (mean : ExcName → Option Value) (mg mb : Str → Option Value) (xs : List Int) (hl : xs.length < 1000) : Ct w mean mg mb 69 1 (R1 xs) (OInt (xs.getLastD 0)) := by
  w_top off; unfold Ct PR VW LS KF; k_fill; intro dp un gd cn cs a ccd cl outer A₀ base h₀ L m news s vs Q E B F X N T hk hR hd hu hret
  obtain ⟨pa, rfl, pv, pn, hpm, hpi⟩ := hR
  have hpl := hpi.length
  (refine wpAny_call ?_; k_dflt ktr_enter)
  k_steps
  · rw [getLastD_eq xs (by assumption)]; exact hret _ _ _ _ (by k_asm) (by k_asm) ⟨by walk_at "mine sub", _, rfl⟩
  · have hx : xs = [] := by cases xs with | nil => rfl | cons => exfalso; simp only [List.length_cons] at *; omega
    subst hx
    exact hret _ _ _ _ (by k_asm) (by k_asm) ⟨by walk_at "mine sub", _, rfl⟩
set_option maxHeartbeats 8000000 in
theorem t_zraise (w : World) (mean : ExcName → Option Value) (mg mb : Str → Option Value) (xs : List Int) (k : Int) (hl : xs.length < 1000) (h0 : 0 ≤ k) (h1 : k < 1000) : Ct w mean mg mb 98 1 (R1k xs k) (OPoly (if xs.length > 0 then List.replicate k.toNat 0 ++ xs else [])) := by
  w_top off; unfold Ct PR VW LS KF; k_fill; intro dp un gd cn cs a ccd cl outer A₀ base h₀ L m news s vs Q E B F X N T hk hR hd hu hret
  obtain ⟨pa, pt, rfl, pv, pn, hpm, hpi⟩ := hR
  have hpl := hpi.length
  (refine wpAny_call ?_; k_dflt ktr_enter)
  k_steps
  · rw [if_pos (by omega)] at hret
    have hfl : ∀ n : Nat, (List.replicate n [(0 : Int)]).flatten = List.replicate n 0 := fun n => by induction n with | zero => rfl | succ n ih => rw [List.replicate_succ, List.flatten_cons, ih]; rfl
    rw [hfl] at *
    exact hret _ _ _ _ (by k_asm) (by k_asm) (opoly (by walk_at "mine sub") (by k_mem) (by (first | assumption | exact IntsAre.nil | exact IntsAre.cons _ _ .nil)) (by (first | exact fun q hq => (by assumption : ∀ q ∈ _, q.1 ≠ _) q (by k_mem) | exact off1_mem (by assumption) | exact off1_mem (And.right (by assumption)) | exact allLt_ne (by assumption) | exact allLt_ne (And.right (by assumption)) | exact allLt_ne (And.right (And.right (by assumption))) | exact allLt_ne (And.right (And.right (And.right (by assumption)))) | exact allLt_ne (And.right (And.right (And.right (And.right (by assumption))))) | exact off1_mem (And.right (And.right (by assumption))) | exact off1_mem (And.right (And.right (And.right (by assumption)))) | exact lt_ne (by assumption))))
  · rw [if_neg (by omega)] at hret
    exact hret _ _ _ _ (by k_asm) (by k_asm) (opoly (by walk_at "mine sub") (by k_mem) (by (first | assumption | exact IntsAre.nil | exact IntsAre.cons _ _ .nil)) (by (first | exact fun q hq => (by assumption : ∀ q ∈ _, q.1 ≠ _) q (by k_mem) | exact off1_mem (by assumption) | exact off1_mem (And.right (by assumption)) | exact allLt_ne (by assumption) | exact allLt_ne (And.right (by assumption)) | exact allLt_ne (And.right (And.right (by assumption))) | exact allLt_ne (And.right (And.right (And.right (by assumption)))) | exact allLt_ne (And.right (And.right (And.right (And.right (by assumption))))) | exact off1_mem (And.right (And.right (by assumption))) | exact off1_mem (And.right (And.right (And.right (by assumption)))) | exact lt_ne (by assumption))))

end
section
set_option maxHeartbeats 8000000 in
theorem t_ztrim (w : World) (mean : ExcName → Option Value) (mg mb : Str → Option Value) (xs : List Int) (hl : xs.length < 1000) : Ct w mean mg mb 55 1 (R1 xs) (OPoly (trimP xs)) := by
  w_top off; unfold Ct PR VW LS KF; k_fill; intro dp un gd cn cs a ccd cl outer A₀ base h₀ L m news s vs Q E B F X N T hk hR hd hu hret
  obtain ⟨pa, rfl, pv, pn, hpm, hpi⟩ := hR
  have hpl := hpi.length
  (refine wpAny_call ?_; k_dflt ktr_enter)
  k_steps
  have e := trimP_of xs _ (by assumption) (by assumption) (by assumption) (by assumption)
  rw [e] at hret
  exact hret _ _ _ _ (by k_asm) (by k_asm) (opoly (by walk_at "mine sub") (by k_mem) (by (first | assumption | exact IntsAre.nil | exact IntsAre.cons _ _ .nil)) (by (first | exact fun q hq => (by assumption : ∀ q ∈ _, q.1 ≠ _) q (by k_mem) | exact off1_mem (by assumption) | exact off1_mem (And.right (by assumption)) | exact allLt_ne (by assumption) | exact allLt_ne (And.right (by assumption)) | exact allLt_ne (And.right (And.right (by assumption))) | exact allLt_ne (And.right (And.right (And.right (by assumption)))) | exact allLt_ne (And.right (And.right (And.right (And.right (by assumption))))) | exact off1_mem (And.right (And.right (by assumption))) | exact off1_mem (And.right (And.right (And.right (by assumption)))) | exact lt_ne (by assumption))))
theorem gcd_abs (x y : Int) : (if x < 0 then -x else x).gcd (if y < 0 then -y else y) = x.gcd y := by
  split <;> split <;> simp
theorem gcd_step (a b : Int) (ha : 0 ≤ a) (hb : 0 ≤ b) : Int.gcd b (a % b) = Int.gcd a b := by
  obtain ⟨n, rfl⟩ := Int.eq_ofNat_of_zero_le ha
  obtain ⟨m, rfl⟩ := Int.eq_ofNat_of_zero_le hb
  rw [← Int.natCast_emod]
  simp only [Int.gcd, Int.natAbs_natCast]
  rw [Nat.gcd_comm n m, Nat.gcd_rec m n, Nat.gcd_comm]
set_option maxHeartbeats 8000000 in
theorem t_gcd (w : World) (mean : ExcName → Option Value) (mg mb : Str → Option Value) (x y : Int) : Ct w mean mg mb 41 1 (RII x y) (OInt (Int.gcd x y)) := by
  w_top off; unfold Ct PR VW LS KF; k_fill; intro dp un gd cn cs a ccd cl outer A₀ base h₀ L m news s vs Q E B F X N T hk hR hd hu hret
  obtain ⟨t, u, rfl⟩ := hR
  (refine wpAny_call ?_; k_dflt ktr_enter)
  (repeat' ((fail_if_success (with_reducible show wpAny _ _ (exec (Stmt.While _ _ _ _) _) _ _ _)); (fail_if_success (with_reducible show wpAny _ _ (pyIter (Value.ref _)) (fun it s₂ => LoopAtV _ _ _ _ _ _ _ _ _ it s₂) _ _)); (fail_if_success (with_reducible show wpAny _ _ (exec (Stmt.For (Expr.Tuple _ _ _) _ _ _ _) _) _ _ _)); (fail_if_success (with_reducible show wpAny _ _ (call (Value.type "enumerate") _) _ _ _)); (first | (k_unfold; (try dsimp only)) | (k_end; wrow_close) | walk1 | (dsimp only; walk1) | (leave1; walk_say "STEP leave1"; try dsimp only) | fail "no step")))
  refine While_inv (fun n m₁ news₁ => ∃ a b ta tb, m₁ (Str.ofString "a") = some (.int a ta) ∧ m₁ (Str.ofString "b") = some (.int b tb) ∧ Int.gcd a b = Int.gcd x y ∧ 0 ≤ a ∧ 0 ≤ b ∧ n = b.toNat ∧ Sub news news₁) (by k_asm) (by k_asm) ⟨_, _, _, _, rfl, rfl, gcd_abs x y, ?_, ?_, rfl, by walk_at "mine sub"⟩ ?_ ?_
  · split <;> omega
  · split <;> omega
  · rintro n m₁ news₁ h₁ tk₁ F₁ N₁ ⟨a, b, ta, tb, ha, hb, hg, h0a, h0b, rfl, hsub⟩
    (repeat' ((fail_if_success (with_reducible show wpAny _ _ (exec (Stmt.While _ _ _ _) _) _ _ _)); (fail_if_success (with_reducible show wpAny _ _ (pyIter (Value.ref _)) (fun it s₂ => LoopAtV _ _ _ _ _ _ _ _ _ it s₂) _ _)); (fail_if_success (with_reducible show wpAny _ _ (exec (Stmt.For (Expr.Tuple _ _ _) _ _ _ _) _) _ _ _)); (fail_if_success (with_reducible show wpAny _ _ (call (Value.type "enumerate") _) _ _ _)); (first | (k_unfold; (try dsimp only)) | (k_end; wrow_close) | walk1 | (dsimp only; walk1) | (leave1; walk_say "STEP leave1"; try dsimp only) | fail "no step")))
    · have hm := Int.emod_nonneg a (by assumption : b ≠ 0)
      have hlt := Int.emod_lt_of_pos a (by omega : 0 < b)
      have e : a.fmod b = a % b := Int.fmod_eq_emod_of_nonneg a h0b
      refine WhileStep.intro (by k_asm) (by k_asm) ?_ ⟨_, _, _, _, rfl, rfl, ?_, h0b, ?_, rfl, by walk_at "mine sub"⟩
      · rw [e]; omega
      · rw [e, ← hg]; exact gcd_step a b h0a h0b
      · rw [e]; exact hm
    · have hb0 : b = 0 := by assumption
      subst hb0
      have e : a = (Int.gcd x y : Int) := by rw [← hg, Int.gcd_zero_right]; omega
      rw [e] 
      exact hret _ _ _ _ (by k_asm) (by k_asm) ⟨hsub, _, rfl⟩
  · with_unfolding_all passes_own

end
section
theorem getD_out {xs : List Int} {k : Int} (h : ¬ k < (xs.length : Int)) : xs.getD k.toNat 0 = 0 := by
  rw [List.getD_eq_getElem?_getD, List.getElem?_eq_none (by omega)]; rfl
theorem addP_is (xs ys : List Int) : addP xs ys = trimP ((rangeKs 0 ((if (ys.length : Int) > xs.length then (ys.length : Int) else xs.length) - 0).toNat).map fun i => xs.getD i.toNat 0 + ys.getD i.toNat 0) := by
  have e : ((if (ys.length : Int) > xs.length then (ys.length : Int) else xs.length) - 0).toNat = max xs.length ys.length := by split <;> omega
  rw [e]; rfl
section
variable (xs ys : List Int)
set_option maxHeartbeats 8000000 in
theorem t_zadd (w : World) (mean : ExcName → Option Value) (mg mb : Str → Option Value) (hl : xs.length < 500) (hl' : ys.length < 500) : Ct w mean mg mb 74 2 (R2 xs ys) (OPoly (addP xs ys)) := by
  w_top off; unfold Ct PR VW LS KF; k_fill; intro dp un gd cn cs a ccd cl outer A₀ base h₀ L m news s vs Q E B F X N T hk hR hd hu hret
  obtain ⟨pa, pb, rfl, ⟨pv, pn, hpm, hpi⟩, ⟨qv, qn, hqm, hqi⟩⟩ := hR
  have hpl := hpi.length
  have hql := hqi.length
  (refine wpAny_call ?_; k_dflt (refine' code_defC ?k1 ?k2 ?k3 ?k4 ?k5 ?kA ?kF ?kK ?k6 ?k7 ?k8 ?k9 ?kB ?kD ?_ ?c2 ?c3 ?c4; (case kA => exact rfl); (case kF => exact rfl); (case kK => assumption); (case k1 => k_asm); (case k2 => k_asm); (case k3 => k_asm); (case k4 => k_asm); (case k5 => k_asm); (case k6 => k_is); (case k7 => k_is); (case k8 => ktr_room); (case k9 => exact BindsTo.of_eq rfl); (case kB => exact rfl); (case kD => decide +kernel); (case c2 => exact rfl); (case c3 => exact rfl); (case c4 => exact rfl); k_whole; intro g'z L'z h'z tk'z cells'z FG'z F'z N'z Y'z B'z X'z T'z l1; (try k_lt l1); k_cells Y'z; (try simp only [List.cons_append, List.nil_append] at N'z); (try dsimp only); (try k_fold)))
  (repeat' (first | (k_unfold; (try dsimp only)) | (k_end; wrow_close) | (first | ((with_reducible show wpAny _ _ (call (Value.ref _) _) _ _ _); first | (k_here; (with_reducible show wpAny _ _ (call (Value.ref 55) _) _ _ _); k_dflt (refine Ct.usePolyR (R := R1 _) (by k_asm) (by k_asm) (by k_asm) (by k_asm) (by k_asm) (by first | exact rfl | assumption) (r1 (by k_mem) (by (first | assumption | exact IntsAre.nil | exact IntsAre.cons _ _ .nil))) (t_ztrim _ _ _ _ _ (by rw [List.length_map, rangeKs_length]; omega)) (by ktr_room) (by ktr_units) ?_; (intro D'z us'z n'z h'z tk'z F'z N'z I'z J'z K'z; (try dsimp only); (try k_fold))))) | ((with_reducible show KCfEl ..); (refine kcf_el ?e (by with_unfolding_all rfl) (by with_unfolding_all rfl); case e => first | rfl | simp (disch := omega) only [getD_out])) | ((with_reducible show LCg.CompSrc ..); (k_here; k_dflt (refine LCg.CompSrc.range (by rfl) (by k_asm) (by k_asm) (by assumption) (by exact small_one (by omega) (by omega) (by omega) (by omega)) (rangeSize_nat _ _) (by rw [sizeLine_eq]; omega) ?_; intro g'z; (refine' kcf_range (fun i => xs.getD i.toNat 0 + ys.getD i.toNat 0) (fun k'z t'z I'z oI'z C'z oC'z D'z m'z ys'z h'z tk'z E'z hlo'z hhi'z hC'z hx'z F'z N'z off'z ne'z hMark'z => ?_) ?_); (all_goals (try (simp only [LCg.Off3, and_true] at off'z))); kcf_last))) | walk1) | (dsimp only; (first | ((with_reducible show wpAny _ _ (call (Value.ref _) _) _ _ _); first | (k_here; (with_reducible show wpAny _ _ (call (Value.ref 55) _) _ _ _); k_dflt (refine Ct.usePolyR (R := R1 _) (by k_asm) (by k_asm) (by k_asm) (by k_asm) (by k_asm) (by first | exact rfl | assumption) (r1 (by k_mem) (by (first | assumption | exact IntsAre.nil | exact IntsAre.cons _ _ .nil))) (t_ztrim _ _ _ _ _ (by rw [List.length_map, rangeKs_length]; omega)) (by ktr_room) (by ktr_units) ?_; (intro D'z us'z n'z h'z tk'z F'z N'z I'z J'z K'z; (try dsimp only); (try k_fold))))) | ((with_reducible show KCfEl ..); (refine kcf_el ?e (by with_unfolding_all rfl) (by with_unfolding_all rfl); case e => first | rfl | simp (disch := omega) only [getD_out])) | ((with_reducible show LCg.CompSrc ..); (k_here; k_dflt (refine LCg.CompSrc.range (by rfl) (by k_asm) (by k_asm) (by assumption) (by exact small_one (by omega) (by omega) (by omega) (by omega)) (rangeSize_nat _ _) (by rw [sizeLine_eq]; omega) ?_; intro g'z; (refine' kcf_range (fun i => xs.getD i.toNat 0 + ys.getD i.toNat 0) (fun k'z t'z I'z oI'z C'z oC'z D'z m'z ys'z h'z tk'z E'z hlo'z hhi'z hC'z hx'z F'z N'z off'z ne'z hMark'z => ?_) ?_); (all_goals (try (simp only [LCg.Off3, and_true] at off'z))); kcf_last))) | walk1)) | (leave1; try dsimp only) | fail "no step"))
  rw [addP_is] at hret
  exact hret _ _ _ _ (by k_asm) (by k_asm) (opoly (by walk_at "mine sub") (by k_mem) (by (first | assumption | exact IntsAre.nil | exact IntsAre.cons _ _ .nil)) (by (first | exact fun q hq => (by assumption : ∀ q ∈ _, q.1 ≠ _) q (by k_mem) | exact off1_mem (by assumption) | exact off1_mem (And.right (by assumption)) | exact allLt_ne (by assumption) | exact allLt_ne (And.right (by assumption)) | exact allLt_ne (And.right (And.right (by assumption))) | exact allLt_ne (And.right (And.right (And.right (by assumption)))) | exact allLt_ne (And.right (And.right (And.right (And.right (by assumption))))) | exact off1_mem (And.right (And.right (by assumption))) | exact off1_mem (And.right (And.right (And.right (by assumption)))) | exact lt_ne (by assumption))))
end

end
section
set_option maxHeartbeats 8000000 in
theorem t_zsub (w : World) (mean : ExcName → Option Value) (mg mb : Str → Option Value) (xs ys : List Int) (hl : xs.length < 500) (hl' : ys.length < 500) : Ct w mean mg mb 86 3 (R2 xs ys) (OPoly (subP xs ys)) := by
  w_top off; unfold Ct PR VW LS KF; k_fill; intro dp un gd cn cs a ccd cl outer A₀ base h₀ L m news s vs Q E B F X N T hk hR hd hu hret
  obtain ⟨pa, pb, rfl, ⟨pv, pn, hpm, hpi⟩, ⟨qv, qn, hqm, hqi⟩⟩ := hR
  have hpl := hpi.length
  have hql := hqi.length
  (refine wpAny_call ?_; k_dflt ktr_enter)
  (repeat' (first | (k_unfold; (try dsimp only)) | (k_end; wrow_close) | (first | ((with_reducible show wpAny _ _ (call (Value.ref _) _) _ _ _); first | (k_here; (with_reducible show wpAny _ _ (call (Value.ref 74) _) _ _ _); k_dflt (refine Ct.usePolyR (R := R2 _ _) (by k_asm) (by k_asm) (by k_asm) (by k_asm) (by k_asm) (by first | exact rfl | assumption) (r2 (by k_mem) (by (first | assumption | exact IntsAre.nil | exact IntsAre.cons _ _ .nil)) (by k_mem) (by (first | assumption | exact IntsAre.nil | exact IntsAre.cons _ _ .nil))) (t_zadd _ _ _ _ _ _ (by omega) (by rw [List.length_map]; omega)) (by ktr_room) (by ktr_units) ?_; (intro D'z us'z n'z h'z tk'z F'z N'z I'z J'z K'z; (try dsimp only); (try k_fold)))) | (k_here; (with_reducible show wpAny _ _ (call (Value.ref 79) _) _ _ _); k_dflt (refine Ct.usePolyR (R := R1 _) (by k_asm) (by k_asm) (by k_asm) (by k_asm) (by k_asm) (by first | exact rfl | assumption) (r1 (by k_mem) (by (first | assumption | exact IntsAre.nil | exact IntsAre.cons _ _ .nil))) (t_zneg _ _ _ _ _ (by omega)) (by ktr_room) (by ktr_units) ?_; (intro D'z us'z n'z h'z tk'z F'z N'z I'z J'z K'z; (try dsimp only); (try k_fold))))) | walk1) | (dsimp only; (first | ((with_reducible show wpAny _ _ (call (Value.ref _) _) _ _ _); first | (k_here; (with_reducible show wpAny _ _ (call (Value.ref 74) _) _ _ _); k_dflt (refine Ct.usePolyR (R := R2 _ _) (by k_asm) (by k_asm) (by k_asm) (by k_asm) (by k_asm) (by first | exact rfl | assumption) (r2 (by k_mem) (by (first | assumption | exact IntsAre.nil | exact IntsAre.cons _ _ .nil)) (by k_mem) (by (first | assumption | exact IntsAre.nil | exact IntsAre.cons _ _ .nil))) (t_zadd _ _ _ _ _ _ (by omega) (by rw [List.length_map]; omega)) (by ktr_room) (by ktr_units) ?_; (intro D'z us'z n'z h'z tk'z F'z N'z I'z J'z K'z; (try dsimp only); (try k_fold)))) | (k_here; (with_reducible show wpAny _ _ (call (Value.ref 79) _) _ _ _); k_dflt (refine Ct.usePolyR (R := R1 _) (by k_asm) (by k_asm) (by k_asm) (by k_asm) (by k_asm) (by first | exact rfl | assumption) (r1 (by k_mem) (by (first | assumption | exact IntsAre.nil | exact IntsAre.cons _ _ .nil))) (t_zneg _ _ _ _ _ (by omega)) (by ktr_room) (by ktr_units) ?_; (intro D'z us'z n'z h'z tk'z F'z N'z I'z J'z K'z; (try dsimp only); (try k_fold))))) | walk1)) | (leave1; try dsimp only) | fail "no step"))
  exact hret _ _ _ _ (by k_asm) (by k_asm) (opoly (by walk_at "mine sub") (by k_mem) (by (first | assumption | exact IntsAre.nil | exact IntsAre.cons _ _ .nil)) (by (first | exact fun q hq => (by assumption : ∀ q ∈ _, q.1 ≠ _) q (by k_mem) | exact off1_mem (by assumption) | exact off1_mem (And.right (by assumption)) | exact allLt_ne (by assumption) | exact allLt_ne (And.right (by assumption)) | exact allLt_ne (And.right (And.right (by assumption))) | exact allLt_ne (And.right (And.right (And.right (by assumption)))) | exact allLt_ne (And.right (And.right (And.right (And.right (by assumption))))) | exact off1_mem (And.right (And.right (by assumption))) | exact off1_mem (And.right (And.right (And.right (by assumption)))) | exact lt_ne (by assumption))))
theorem contentP_take {xs : List Int} {i : Nat} {k : Int} (h : xs[i]? = some k) : contentP (xs.take (i + 1)) = (Int.gcd (contentP (xs.take i)) k : Int) := by
  rw [List.take_add_one, h, contentP, List.foldl_append]; rfl
set_option maxHeartbeats 8000000 in
theorem t_gcd_all (w : World) (mean : ExcName → Option Value) (mg mb : Str → Option Value) (xs : List Int) (hl : xs.length < 1000) : Ct w mean mg mb 48 2 (R1 xs) (OInt (contentP xs)) := by
  w_top off; unfold Ct PR VW LS KF; k_fill; intro dp un gd cn cs a ccd cl outer A₀ base h₀ L m news s vs Q E B F X N T hk hR hd hu hret
  obtain ⟨pa, rfl, pv, pn, hpm, hpi⟩ := hR
  have hpl := hpi.length
  (refine wpAny_call ?_; k_dflt ktr_enter)
  (repeat' ((fail_if_success (with_reducible show wpAny _ _ (exec (Stmt.While _ _ _ _) _) _ _ _)); (fail_if_success (with_reducible show wpAny _ _ (pyIter (Value.ref _)) (fun it s₂ => LoopAtV _ _ _ _ _ _ _ _ _ it s₂) _ _)); (fail_if_success (with_reducible show wpAny _ _ (exec (Stmt.For (Expr.Tuple _ _ _) _ _ _ _) _) _ _ _)); (fail_if_success (with_reducible show wpAny _ _ (call (Value.type "enumerate") _) _ _ _)); (first | (k_unfold; (try dsimp only)) | (k_end; wrow_close) | (first | ((with_reducible show wpAny _ _ (call (Value.ref _) _) _ _ _); first | (k_here; (with_reducible show wpAny _ _ (call (Value.ref 41) _) _ _ _); k_dflt (refine Ct.useIntR (R := RII _ _) (by k_asm) (by k_asm) (by k_asm) (by k_asm) (by k_asm) (by first | exact rfl | assumption) (rii) (t_gcd _ _ _ _ _ _) (by ktr_room) (by ktr_units) ?_; (intro t'z h'z tk'z F'z N'z; (try dsimp only); (try k_fold)))) | (k_here; (with_reducible show wpAny _ _ (call (Value.ref 74) _) _ _ _); k_dflt (refine Ct.usePolyR (R := R2 _ _) (by k_asm) (by k_asm) (by k_asm) (by k_asm) (by k_asm) (by first | exact rfl | assumption) (r2 (by k_mem) (by (first | assumption | exact IntsAre.nil | exact IntsAre.cons _ _ .nil)) (by k_mem) (by (first | assumption | exact IntsAre.nil | exact IntsAre.cons _ _ .nil))) (t_zadd _ _ _ _ _ _ (by omega) (by rw [List.length_map]; omega)) (by ktr_room) (by ktr_units) ?_; (intro D'z us'z n'z h'z tk'z F'z N'z I'z J'z K'z; (try dsimp only); (try k_fold)))) | (k_here; (with_reducible show wpAny _ _ (call (Value.ref 79) _) _ _ _); k_dflt (refine Ct.usePolyR (R := R1 _) (by k_asm) (by k_asm) (by k_asm) (by k_asm) (by k_asm) (by first | exact rfl | assumption) (r1 (by k_mem) (by (first | assumption | exact IntsAre.nil | exact IntsAre.cons _ _ .nil))) (t_zneg _ _ _ _ _ (by omega)) (by ktr_room) (by ktr_units) ?_; (intro D'z us'z n'z h'z tk'z F'z N'z I'z J'z K'z; (try dsimp only); (try k_fold))))) | walk1) | (dsimp only; (first | ((with_reducible show wpAny _ _ (call (Value.ref _) _) _ _ _); first | (k_here; (with_reducible show wpAny _ _ (call (Value.ref 41) _) _ _ _); k_dflt (refine Ct.useIntR (R := RII _ _) (by k_asm) (by k_asm) (by k_asm) (by k_asm) (by k_asm) (by first | exact rfl | assumption) (rii) (t_gcd _ _ _ _ _ _) (by ktr_room) (by ktr_units) ?_; (intro t'z h'z tk'z F'z N'z; (try dsimp only); (try k_fold)))) | (k_here; (with_reducible show wpAny _ _ (call (Value.ref 74) _) _ _ _); k_dflt (refine Ct.usePolyR (R := R2 _ _) (by k_asm) (by k_asm) (by k_asm) (by k_asm) (by k_asm) (by first | exact rfl | assumption) (r2 (by k_mem) (by (first | assumption | exact IntsAre.nil | exact IntsAre.cons _ _ .nil)) (by k_mem) (by (first | assumption | exact IntsAre.nil | exact IntsAre.cons _ _ .nil))) (t_zadd _ _ _ _ _ _ (by omega) (by rw [List.length_map]; omega)) (by ktr_room) (by ktr_units) ?_; (intro D'z us'z n'z h'z tk'z F'z N'z I'z J'z K'z; (try dsimp only); (try k_fold)))) | (k_here; (with_reducible show wpAny _ _ (call (Value.ref 79) _) _ _ _); k_dflt (refine Ct.usePolyR (R := R1 _) (by k_asm) (by k_asm) (by k_asm) (by k_asm) (by k_asm) (by first | exact rfl | assumption) (r1 (by k_mem) (by (first | assumption | exact IntsAre.nil | exact IntsAre.cons _ _ .nil))) (t_zneg _ _ _ _ _ (by omega)) (by ktr_room) (by ktr_units) ?_; (intro D'z us'z n'z h'z tk'z F'z N'z I'z J'z K'z; (try dsimp only); (try k_fold))))) | walk1)) | (leave1; walk_say "STEP leave1"; try dsimp only) | fail "no step")))
  refine iter_list (fun i m₁ news₁ => news₁ = news ∧ ∃ t, m₁ (Str.ofString "found") = some (.int (contentP (xs.take i)) t)) ?hL rfl (by k_asm) (by k_asm) hpm ⟨rfl, _, rfl⟩ (fun i m₁ news₁ h => h.1 ▸ hpm) ?_ ?_
  case hL => rfl
  · rintro i v I oI m₁ news₁ h tk hv ⟨e, t, hf⟩ hoff F₁ N₁
    subst e
    obtain ⟨k, tk', e, hk⟩ := IntsAre.at (by assumption : IntsAre pv xs) i v hv
    subst e
    (repeat' ((fail_if_success (with_reducible show wpAny _ _ (exec (Stmt.While _ _ _ _) _) _ _ _)); (fail_if_success (with_reducible show wpAny _ _ (pyIter (Value.ref _)) (fun it s₂ => LoopAtV _ _ _ _ _ _ _ _ _ it s₂) _ _)); (fail_if_success (with_reducible show wpAny _ _ (exec (Stmt.For (Expr.Tuple _ _ _) _ _ _ _) _) _ _ _)); (fail_if_success (with_reducible show wpAny _ _ (call (Value.type "enumerate") _) _ _ _)); (first | (k_unfold; (try dsimp only)) | (k_end; wrow_close) | (first | ((with_reducible show wpAny _ _ (call (Value.ref _) _) _ _ _); first | (k_here; (with_reducible show wpAny _ _ (call (Value.ref 41) _) _ _ _); k_dflt (refine Ct.useIntR (R := RII _ _) (by k_asm) (by k_asm) (by k_asm) (by k_asm) (by k_asm) (by first | exact rfl | assumption) (rii) (t_gcd _ _ _ _ _ _) (by ktr_room) (by ktr_units) ?_; (intro t'z h'z tk'z F'z N'z; (try dsimp only); (try k_fold)))) | (k_here; (with_reducible show wpAny _ _ (call (Value.ref 74) _) _ _ _); k_dflt (refine Ct.usePolyR (R := R2 _ _) (by k_asm) (by k_asm) (by k_asm) (by k_asm) (by k_asm) (by first | exact rfl | assumption) (r2 (by k_mem) (by (first | assumption | exact IntsAre.nil | exact IntsAre.cons _ _ .nil)) (by k_mem) (by (first | assumption | exact IntsAre.nil | exact IntsAre.cons _ _ .nil))) (t_zadd _ _ _ _ _ _ (by omega) (by rw [List.length_map]; omega)) (by ktr_room) (by ktr_units) ?_; (intro D'z us'z n'z h'z tk'z F'z N'z I'z J'z K'z; (try dsimp only); (try k_fold)))) | (k_here; (with_reducible show wpAny _ _ (call (Value.ref 79) _) _ _ _); k_dflt (refine Ct.usePolyR (R := R1 _) (by k_asm) (by k_asm) (by k_asm) (by k_asm) (by k_asm) (by first | exact rfl | assumption) (r1 (by k_mem) (by (first | assumption | exact IntsAre.nil | exact IntsAre.cons _ _ .nil))) (t_zneg _ _ _ _ _ (by omega)) (by ktr_room) (by ktr_units) ?_; (intro D'z us'z n'z h'z tk'z F'z N'z I'z J'z K'z; (try dsimp only); (try k_fold))))) | walk1) | (dsimp only; (first | ((with_reducible show wpAny _ _ (call (Value.ref _) _) _ _ _); first | (k_here; (with_reducible show wpAny _ _ (call (Value.ref 41) _) _ _ _); k_dflt (refine Ct.useIntR (R := RII _ _) (by k_asm) (by k_asm) (by k_asm) (by k_asm) (by k_asm) (by first | exact rfl | assumption) (rii) (t_gcd _ _ _ _ _ _) (by ktr_room) (by ktr_units) ?_; (intro t'z h'z tk'z F'z N'z; (try dsimp only); (try k_fold)))) | (k_here; (with_reducible show wpAny _ _ (call (Value.ref 74) _) _ _ _); k_dflt (refine Ct.usePolyR (R := R2 _ _) (by k_asm) (by k_asm) (by k_asm) (by k_asm) (by k_asm) (by first | exact rfl | assumption) (r2 (by k_mem) (by (first | assumption | exact IntsAre.nil | exact IntsAre.cons _ _ .nil)) (by k_mem) (by (first | assumption | exact IntsAre.nil | exact IntsAre.cons _ _ .nil))) (t_zadd _ _ _ _ _ _ (by omega) (by rw [List.length_map]; omega)) (by ktr_room) (by ktr_units) ?_; (intro D'z us'z n'z h'z tk'z F'z N'z I'z J'z K'z; (try dsimp only); (try k_fold)))) | (k_here; (with_reducible show wpAny _ _ (call (Value.ref 79) _) _ _ _); k_dflt (refine Ct.usePolyR (R := R1 _) (by k_asm) (by k_asm) (by k_asm) (by k_asm) (by k_asm) (by first | exact rfl | assumption) (r1 (by k_mem) (by (first | assumption | exact IntsAre.nil | exact IntsAre.cons _ _ .nil))) (t_zneg _ _ _ _ _ (by omega)) (by ktr_room) (by ktr_units) ?_; (intro D'z us'z n'z h'z tk'z F'z N'z I'z J'z K'z; (try dsimp only); (try k_fold))))) | walk1)) | (leave1; walk_say "STEP leave1"; try dsimp only) | fail "no step")))
    refine Turn.next (by k_asm) (by k_asm) (.head _) _ (fun q hq => .tail _ hq) hoff ?_
    exact ⟨rfl, _, by rw [contentP_take hk]; rfl⟩
  · rintro m₁ news₁ h tk ⟨e, t, hf⟩ F₁ N₁
    subst e
    rw [hpl, List.take_length] at hf
    (repeat' ((fail_if_success (with_reducible show wpAny _ _ (exec (Stmt.While _ _ _ _) _) _ _ _)); (fail_if_success (with_reducible show wpAny _ _ (pyIter (Value.ref _)) (fun it s₂ => LoopAtV _ _ _ _ _ _ _ _ _ it s₂) _ _)); (fail_if_success (with_reducible show wpAny _ _ (exec (Stmt.For (Expr.Tuple _ _ _) _ _ _ _) _) _ _ _)); (fail_if_success (with_reducible show wpAny _ _ (call (Value.type "enumerate") _) _ _ _)); (first | (k_unfold; (try dsimp only)) | (k_end; wrow_close) | (first | ((with_reducible show wpAny _ _ (call (Value.ref _) _) _ _ _); first | (k_here; (with_reducible show wpAny _ _ (call (Value.ref 41) _) _ _ _); k_dflt (refine Ct.useIntR (R := RII _ _) (by k_asm) (by k_asm) (by k_asm) (by k_asm) (by k_asm) (by first | exact rfl | assumption) (rii) (t_gcd _ _ _ _ _ _) (by ktr_room) (by ktr_units) ?_; (intro t'z h'z tk'z F'z N'z; (try dsimp only); (try k_fold)))) | (k_here; (with_reducible show wpAny _ _ (call (Value.ref 74) _) _ _ _); k_dflt (refine Ct.usePolyR (R := R2 _ _) (by k_asm) (by k_asm) (by k_asm) (by k_asm) (by k_asm) (by first | exact rfl | assumption) (r2 (by k_mem) (by (first | assumption | exact IntsAre.nil | exact IntsAre.cons _ _ .nil)) (by k_mem) (by (first | assumption | exact IntsAre.nil | exact IntsAre.cons _ _ .nil))) (t_zadd _ _ _ _ _ _ (by omega) (by rw [List.length_map]; omega)) (by ktr_room) (by ktr_units) ?_; (intro D'z us'z n'z h'z tk'z F'z N'z I'z J'z K'z; (try dsimp only); (try k_fold)))) | (k_here; (with_reducible show wpAny _ _ (call (Value.ref 79) _) _ _ _); k_dflt (refine Ct.usePolyR (R := R1 _) (by k_asm) (by k_asm) (by k_asm) (by k_asm) (by k_asm) (by first | exact rfl | assumption) (r1 (by k_mem) (by (first | assumption | exact IntsAre.nil | exact IntsAre.cons _ _ .nil))) (t_zneg _ _ _ _ _ (by omega)) (by ktr_room) (by ktr_units) ?_; (intro D'z us'z n'z h'z tk'z F'z N'z I'z J'z K'z; (try dsimp only); (try k_fold))))) | walk1) | (dsimp only; (first | ((with_reducible show wpAny _ _ (call (Value.ref _) _) _ _ _); first | (k_here; (with_reducible show wpAny _ _ (call (Value.ref 41) _) _ _ _); k_dflt (refine Ct.useIntR (R := RII _ _) (by k_asm) (by k_asm) (by k_asm) (by k_asm) (by k_asm) (by first | exact rfl | assumption) (rii) (t_gcd _ _ _ _ _ _) (by ktr_room) (by ktr_units) ?_; (intro t'z h'z tk'z F'z N'z; (try dsimp only); (try k_fold)))) | (k_here; (with_reducible show wpAny _ _ (call (Value.ref 74) _) _ _ _); k_dflt (refine Ct.usePolyR (R := R2 _ _) (by k_asm) (by k_asm) (by k_asm) (by k_asm) (by k_asm) (by first | exact rfl | assumption) (r2 (by k_mem) (by (first | assumption | exact IntsAre.nil | exact IntsAre.cons _ _ .nil)) (by k_mem) (by (first | assumption | exact IntsAre.nil | exact IntsAre.cons _ _ .nil))) (t_zadd _ _ _ _ _ _ (by omega) (by rw [List.length_map]; omega)) (by ktr_room) (by ktr_units) ?_; (intro D'z us'z n'z h'z tk'z F'z N'z I'z J'z K'z; (try dsimp only); (try k_fold)))) | (k_here; (with_reducible show wpAny _ _ (call (Value.ref 79) _) _ _ _); k_dflt (refine Ct.usePolyR (R := R1 _) (by k_asm) (by k_asm) (by k_asm) (by k_asm) (by k_asm) (by first | exact rfl | assumption) (r1 (by k_mem) (by (first | assumption | exact IntsAre.nil | exact IntsAre.cons _ _ .nil))) (t_zneg _ _ _ _ _ (by omega)) (by ktr_room) (by ktr_units) ?_; (intro D'z us'z n'z h'z tk'z F'z N'z I'z J'z K'z; (try dsimp only); (try k_fold))))) | walk1)) | (leave1; walk_say "STEP leave1"; try dsimp only) | fail "no step")))
    exact hret _ _ _ _ (by k_asm) (by k_asm) ⟨by walk_at "mine sub", _, rfl⟩
set_option maxHeartbeats 8000000 in
theorem t_zcontent (w : World) (mean : ExcName → Option Value) (mg mb : Str → Option Value) (xs : List Int) (hl : xs.length < 1000) : Ct w mean mg mb 112 3 (R1 xs) (OInt (contentP xs)) := by
  w_top off; unfold Ct PR VW LS KF; k_fill; intro dp un gd cn cs a ccd cl outer A₀ base h₀ L m news s vs Q E B F X N T hk hR hd hu hret
  obtain ⟨pa, rfl, pv, pn, hpm, hpi⟩ := hR
  have hpl := hpi.length
  (refine wpAny_call ?_; k_dflt ktr_enter)
  (repeat' (first | (k_unfold; (try dsimp only)) | (k_end; wrow_close) | (first | ((with_reducible show wpAny _ _ (call (Value.ref _) _) _ _ _); first | (k_here; (with_reducible show wpAny _ _ (call (Value.ref 48) _) _ _ _); k_dflt (refine Ct.useIntR (R := R1 _) (by k_asm) (by k_asm) (by k_asm) (by k_asm) (by k_asm) (by first | exact rfl | assumption) (r1 (by k_mem) (by (first | assumption | exact IntsAre.nil | exact IntsAre.cons _ _ .nil))) (t_gcd_all _ _ _ _ _ (by omega)) (by ktr_room) (by ktr_units) ?_; (intro t'z h'z tk'z F'z N'z; (try dsimp only); (try k_fold)))) | (k_here; (with_reducible show wpAny _ _ (call (Value.ref 41) _) _ _ _); k_dflt (refine Ct.useIntR (R := RII _ _) (by k_asm) (by k_asm) (by k_asm) (by k_asm) (by k_asm) (by first | exact rfl | assumption) (rii) (t_gcd _ _ _ _ _ _) (by ktr_room) (by ktr_units) ?_; (intro t'z h'z tk'z F'z N'z; (try dsimp only); (try k_fold)))) | (k_here; (with_reducible show wpAny _ _ (call (Value.ref 74) _) _ _ _); k_dflt (refine Ct.usePolyR (R := R2 _ _) (by k_asm) (by k_asm) (by k_asm) (by k_asm) (by k_asm) (by first | exact rfl | assumption) (r2 (by k_mem) (by (first | assumption | exact IntsAre.nil | exact IntsAre.cons _ _ .nil)) (by k_mem) (by (first | assumption | exact IntsAre.nil | exact IntsAre.cons _ _ .nil))) (t_zadd _ _ _ _ _ _ (by omega) (by rw [List.length_map]; omega)) (by ktr_room) (by ktr_units) ?_; (intro D'z us'z n'z h'z tk'z F'z N'z I'z J'z K'z; (try dsimp only); (try k_fold)))) | (k_here; (with_reducible show wpAny _ _ (call (Value.ref 79) _) _ _ _); k_dflt (refine Ct.usePolyR (R := R1 _) (by k_asm) (by k_asm) (by k_asm) (by k_asm) (by k_asm) (by first | exact rfl | assumption) (r1 (by k_mem) (by (first | assumption | exact IntsAre.nil | exact IntsAre.cons _ _ .nil))) (t_zneg _ _ _ _ _ (by omega)) (by ktr_room) (by ktr_units) ?_; (intro D'z us'z n'z h'z tk'z F'z N'z I'z J'z K'z; (try dsimp only); (try k_fold))))) | walk1) | (dsimp only; (first | ((with_reducible show wpAny _ _ (call (Value.ref _) _) _ _ _); first | (k_here; (with_reducible show wpAny _ _ (call (Value.ref 48) _) _ _ _); k_dflt (refine Ct.useIntR (R := R1 _) (by k_asm) (by k_asm) (by k_asm) (by k_asm) (by k_asm) (by first | exact rfl | assumption) (r1 (by k_mem) (by (first | assumption | exact IntsAre.nil | exact IntsAre.cons _ _ .nil))) (t_gcd_all _ _ _ _ _ (by omega)) (by ktr_room) (by ktr_units) ?_; (intro t'z h'z tk'z F'z N'z; (try dsimp only); (try k_fold)))) | (k_here; (with_reducible show wpAny _ _ (call (Value.ref 41) _) _ _ _); k_dflt (refine Ct.useIntR (R := RII _ _) (by k_asm) (by k_asm) (by k_asm) (by k_asm) (by k_asm) (by first | exact rfl | assumption) (rii) (t_gcd _ _ _ _ _ _) (by ktr_room) (by ktr_units) ?_; (intro t'z h'z tk'z F'z N'z; (try dsimp only); (try k_fold)))) | (k_here; (with_reducible show wpAny _ _ (call (Value.ref 74) _) _ _ _); k_dflt (refine Ct.usePolyR (R := R2 _ _) (by k_asm) (by k_asm) (by k_asm) (by k_asm) (by k_asm) (by first | exact rfl | assumption) (r2 (by k_mem) (by (first | assumption | exact IntsAre.nil | exact IntsAre.cons _ _ .nil)) (by k_mem) (by (first | assumption | exact IntsAre.nil | exact IntsAre.cons _ _ .nil))) (t_zadd _ _ _ _ _ _ (by omega) (by rw [List.length_map]; omega)) (by ktr_room) (by ktr_units) ?_; (intro D'z us'z n'z h'z tk'z F'z N'z I'z J'z K'z; (try dsimp only); (try k_fold)))) | (k_here; (with_reducible show wpAny _ _ (call (Value.ref 79) _) _ _ _); k_dflt (refine Ct.usePolyR (R := R1 _) (by k_asm) (by k_asm) (by k_asm) (by k_asm) (by k_asm) (by first | exact rfl | assumption) (r1 (by k_mem) (by (first | assumption | exact IntsAre.nil | exact IntsAre.cons _ _ .nil))) (t_zneg _ _ _ _ _ (by omega)) (by ktr_room) (by ktr_units) ?_; (intro D'z us'z n'z h'z tk'z F'z N'z I'z J'z K'z; (try dsimp only); (try k_fold))))) | walk1)) | (leave1; try dsimp only) | fail "no step"))
  exact hret _ _ _ _ (by k_asm) (by k_asm) ⟨by walk_at "mine sub", _, rfl⟩

end
section
set_option maxHeartbeats 8000000 in
theorem t_zprimitive (w : World) (mean : ExcName → Option Value) (mg mb : Str → Option Value) (xs : List Int) (hl : xs.length < 1000) (h0 : xs ≠ [] → contentP xs ≠ 0) (hb : (contentP xs).natAbs.log2 < 9000) : Ct w mean mg mb 124 4 (R1 xs) (OPoly (primP xs)) := by
  by_cases hx : xs = []
  · rw [primP, if_pos hx]
    w_top off; unfold Ct PR VW LS KF; k_fill; intro dp un gd cn cs a ccd cl outer A₀ base h₀ L m news s vs Q E B F X N T hk hR hd hu hret
    obtain ⟨pa, rfl, pv, pn, hpm, hpi⟩ := hR
    subst hx
    have hpl := hpi.length
    (refine wpAny_call ?_; k_dflt ktr_enter)
    (repeat' (first | (k_unfold; (try dsimp only)) | (k_end; wrow_close) | (first | ((with_reducible show wpAny _ _ (call (Value.ref _) _) _ _ _); first | (k_here; (with_reducible show wpAny _ _ (call (Value.ref 117) _) _ _ _); k_dflt (refine Ct.usePolyR (R := R1k _ _) (by k_asm) (by k_asm) (by k_asm) (by k_asm) (by k_asm) (by first | exact rfl | assumption) (r1k (by k_mem) (by (first | assumption | exact IntsAre.nil | exact IntsAre.cons _ _ .nil))) (t_zdivided _ _ _ _ _ _ (by omega) (by assumption) (by assumption)) (by ktr_room) (by ktr_units) ?_; (intro D'z us'z n'z h'z tk'z F'z N'z I'z J'z K'z; (try dsimp only); (try k_fold)))) | (k_here; (with_reducible show wpAny _ _ (call (Value.ref 112) _) _ _ _); k_dflt (refine Ct.useIntR (R := R1 _) (by k_asm) (by k_asm) (by k_asm) (by k_asm) (by k_asm) (by first | exact rfl | assumption) (r1 (by k_mem) (by (first | assumption | exact IntsAre.nil | exact IntsAre.cons _ _ .nil))) (t_zcontent _ _ _ _ _ (by omega)) (by ktr_room) (by ktr_units) ?_; (intro t'z h'z tk'z F'z N'z; (try dsimp only); (try k_fold))))) | walk1) | (dsimp only; (first | ((with_reducible show wpAny _ _ (call (Value.ref _) _) _ _ _); first | (k_here; (with_reducible show wpAny _ _ (call (Value.ref 117) _) _ _ _); k_dflt (refine Ct.usePolyR (R := R1k _ _) (by k_asm) (by k_asm) (by k_asm) (by k_asm) (by k_asm) (by first | exact rfl | assumption) (r1k (by k_mem) (by (first | assumption | exact IntsAre.nil | exact IntsAre.cons _ _ .nil))) (t_zdivided _ _ _ _ _ _ (by omega) (by assumption) (by assumption)) (by ktr_room) (by ktr_units) ?_; (intro D'z us'z n'z h'z tk'z F'z N'z I'z J'z K'z; (try dsimp only); (try k_fold)))) | (k_here; (with_reducible show wpAny _ _ (call (Value.ref 112) _) _ _ _); k_dflt (refine Ct.useIntR (R := R1 _) (by k_asm) (by k_asm) (by k_asm) (by k_asm) (by k_asm) (by first | exact rfl | assumption) (r1 (by k_mem) (by (first | assumption | exact IntsAre.nil | exact IntsAre.cons _ _ .nil))) (t_zcontent _ _ _ _ _ (by omega)) (by ktr_room) (by ktr_units) ?_; (intro t'z h'z tk'z F'z N'z; (try dsimp only); (try k_fold))))) | walk1)) | (leave1; try dsimp only) | fail "no step"))
    exact hret _ _ _ _ (by k_asm) (by k_asm) (opoly (by walk_at "mine sub") (by k_mem) (by (first | assumption | exact IntsAre.nil | exact IntsAre.cons _ _ .nil)) (by (first | exact fun q hq => (by assumption : ∀ q ∈ _, q.1 ≠ _) q (by k_mem) | exact off1_mem (by assumption) | exact off1_mem (And.right (by assumption)) | exact allLt_ne (by assumption) | exact allLt_ne (And.right (by assumption)) | exact allLt_ne (And.right (And.right (by assumption))) | exact allLt_ne (And.right (And.right (And.right (by assumption)))) | exact allLt_ne (And.right (And.right (And.right (And.right (by assumption))))) | exact off1_mem (And.right (And.right (by assumption))) | exact off1_mem (And.right (And.right (And.right (by assumption)))) | exact lt_ne (by assumption))))
  · rw [primP, if_neg hx]
    have hc := h0 hx
    have hcn : -contentP xs ≠ 0 := by omega
    have hbn : (-contentP xs).natAbs.log2 < 9000 := by rw [Int.natAbs_neg]; exact hb
    have hx0 : ¬ (xs.length : Int) = 0 := fun e => hx (by cases xs with | nil => rfl | cons => rw [List.length_cons] at e; omega)
    have hxp : (0 : Int) < xs.length := by omega
    w_top off; unfold Ct PR VW LS KF; k_fill; intro dp un gd cn cs a ccd cl outer A₀ base h₀ L m news s vs Q E B F X N T hk hR hd hu hret
    obtain ⟨pa, rfl, pv, pn, hpm, hpi⟩ := hR
    have hpl := hpi.length
    (refine wpAny_call ?_; k_dflt ktr_enter)
    (repeat' (first | (k_unfold; (try dsimp only)) | (k_end; wrow_close) | (first | ((with_reducible show wpAny _ _ (call (Value.ref _) _) _ _ _); first | (k_here; (with_reducible show wpAny _ _ (call (Value.ref 117) _) _ _ _); k_dflt (refine Ct.usePolyR (R := R1k _ _) (by k_asm) (by k_asm) (by k_asm) (by k_asm) (by k_asm) (by first | exact rfl | assumption) (r1k (by k_mem) (by (first | assumption | exact IntsAre.nil | exact IntsAre.cons _ _ .nil))) (t_zdivided _ _ _ _ _ _ (by omega) (by assumption) (by assumption)) (by ktr_room) (by ktr_units) ?_; (intro D'z us'z n'z h'z tk'z F'z N'z I'z J'z K'z; (try dsimp only); (try k_fold)))) | (k_here; (with_reducible show wpAny _ _ (call (Value.ref 112) _) _ _ _); k_dflt (refine Ct.useIntR (R := R1 _) (by k_asm) (by k_asm) (by k_asm) (by k_asm) (by k_asm) (by first | exact rfl | assumption) (r1 (by k_mem) (by (first | assumption | exact IntsAre.nil | exact IntsAre.cons _ _ .nil))) (t_zcontent _ _ _ _ _ (by omega)) (by ktr_room) (by ktr_units) ?_; (intro t'z h'z tk'z F'z N'z; (try dsimp only); (try k_fold))))) | walk1) | (dsimp only; (first | ((with_reducible show wpAny _ _ (call (Value.ref _) _) _ _ _); first | (k_here; (with_reducible show wpAny _ _ (call (Value.ref 117) _) _ _ _); k_dflt (refine Ct.usePolyR (R := R1k _ _) (by k_asm) (by k_asm) (by k_asm) (by k_asm) (by k_asm) (by first | exact rfl | assumption) (r1k (by k_mem) (by (first | assumption | exact IntsAre.nil | exact IntsAre.cons _ _ .nil))) (t_zdivided _ _ _ _ _ _ (by omega) (by assumption) (by assumption)) (by ktr_room) (by ktr_units) ?_; (intro D'z us'z n'z h'z tk'z F'z N'z I'z J'z K'z; (try dsimp only); (try k_fold)))) | (k_here; (with_reducible show wpAny _ _ (call (Value.ref 112) _) _ _ _); k_dflt (refine Ct.useIntR (R := R1 _) (by k_asm) (by k_asm) (by k_asm) (by k_asm) (by k_asm) (by first | exact rfl | assumption) (r1 (by k_mem) (by (first | assumption | exact IntsAre.nil | exact IntsAre.cons _ _ .nil))) (t_zcontent _ _ _ _ _ (by omega)) (by ktr_room) (by ktr_units) ?_; (intro t'z h'z tk'z F'z N'z; (try dsimp only); (try k_fold))))) | walk1)) | (leave1; try dsimp only) | fail "no step"))
    · exfalso; omega
    · rw [if_pos (by rw [← getLastD_eq xs hxp]; assumption)] at hret
      exact hret _ _ _ _ (by k_asm) (by k_asm) (opoly (by walk_at "mine sub") (by k_mem) (by (first | assumption | exact IntsAre.nil | exact IntsAre.cons _ _ .nil)) (by (first | exact fun q hq => (by assumption : ∀ q ∈ _, q.1 ≠ _) q (by k_mem) | exact off1_mem (by assumption) | exact off1_mem (And.right (by assumption)) | exact allLt_ne (by assumption) | exact allLt_ne (And.right (by assumption)) | exact allLt_ne (And.right (And.right (by assumption))) | exact allLt_ne (And.right (And.right (And.right (by assumption)))) | exact allLt_ne (And.right (And.right (And.right (And.right (by assumption))))) | exact off1_mem (And.right (And.right (by assumption))) | exact off1_mem (And.right (And.right (And.right (by assumption)))) | exact lt_ne (by assumption))))
    · rw [if_neg (by rw [← getLastD_eq xs hxp]; assumption)] at hret
      exact hret _ _ _ _ (by k_asm) (by k_asm) (opoly (by walk_at "mine sub") (by k_mem) (by (first | assumption | exact IntsAre.nil | exact IntsAre.cons _ _ .nil)) (by (first | exact fun q hq => (by assumption : ∀ q ∈ _, q.1 ≠ _) q (by k_mem) | exact off1_mem (by assumption) | exact off1_mem (And.right (by assumption)) | exact allLt_ne (by assumption) | exact allLt_ne (And.right (by assumption)) | exact allLt_ne (And.right (And.right (by assumption))) | exact allLt_ne (And.right (And.right (And.right (by assumption)))) | exact allLt_ne (And.right (And.right (And.right (And.right (by assumption))))) | exact off1_mem (And.right (And.right (by assumption))) | exact off1_mem (And.right (And.right (And.right (by assumption)))) | exact lt_ne (by assumption))))
set_option maxHeartbeats 8000000 in
theorem t_check_bottom (w : World) (mean : ExcName → Option Value) (mg mb : Str → Option Value) (xs : List Int) (hl : xs.length < 1000) (h0 : xs ≠ []) : Ct w mean mg mb 136 1 (R1 xs) (fun news news' r => Sub news news' ∧ r = .none) := by
  have hx0 : ¬ (xs.length : Int) = 0 := fun e => h0 (by cases xs with | nil => rfl | cons => rw [List.length_cons] at e; omega)
  have hxp : (0 : Int) < xs.length := by omega
  w_top off; unfold Ct PR VW LS KF; k_fill; intro dp un gd cn cs a ccd cl outer A₀ base h₀ L m news s vs Q E B F X N T hk hR hd hu hret
  obtain ⟨pa, rfl, pv, pn, hpm, hpi⟩ := hR
  have hpl := hpi.length
  (refine wpAny_call ?_; k_dflt ktr_enter)
  (repeat' (first | (k_unfold; (try dsimp only)) | (k_end; wrow_close) | (first | ((with_reducible show wpAny _ _ (call (Value.ref _) _) _ _ _); first | (k_here; (with_reducible show wpAny _ _ (call (Value.ref 117) _) _ _ _); k_dflt (refine Ct.usePolyR (R := R1k _ _) (by k_asm) (by k_asm) (by k_asm) (by k_asm) (by k_asm) (by first | exact rfl | assumption) (r1k (by k_mem) (by (first | assumption | exact IntsAre.nil | exact IntsAre.cons _ _ .nil))) (t_zdivided _ _ _ _ _ _ (by omega) (by assumption) (by assumption)) (by ktr_room) (by ktr_units) ?_; (intro D'z us'z n'z h'z tk'z F'z N'z I'z J'z K'z; (try dsimp only); (try k_fold)))) | (k_here; (with_reducible show wpAny _ _ (call (Value.ref 112) _) _ _ _); k_dflt (refine Ct.useIntR (R := R1 _) (by k_asm) (by k_asm) (by k_asm) (by k_asm) (by k_asm) (by first | exact rfl | assumption) (r1 (by k_mem) (by (first | assumption | exact IntsAre.nil | exact IntsAre.cons _ _ .nil))) (t_zcontent _ _ _ _ _ (by omega)) (by ktr_room) (by ktr_units) ?_; (intro t'z h'z tk'z F'z N'z; (try dsimp only); (try k_fold))))) | walk1) | (dsimp only; (first | ((with_reducible show wpAny _ _ (call (Value.ref _) _) _ _ _); first | (k_here; (with_reducible show wpAny _ _ (call (Value.ref 117) _) _ _ _); k_dflt (refine Ct.usePolyR (R := R1k _ _) (by k_asm) (by k_asm) (by k_asm) (by k_asm) (by k_asm) (by first | exact rfl | assumption) (r1k (by k_mem) (by (first | assumption | exact IntsAre.nil | exact IntsAre.cons _ _ .nil))) (t_zdivided _ _ _ _ _ _ (by omega) (by assumption) (by assumption)) (by ktr_room) (by ktr_units) ?_; (intro D'z us'z n'z h'z tk'z F'z N'z I'z J'z K'z; (try dsimp only); (try k_fold)))) | (k_here; (with_reducible show wpAny _ _ (call (Value.ref 112) _) _ _ _); k_dflt (refine Ct.useIntR (R := R1 _) (by k_asm) (by k_asm) (by k_asm) (by k_asm) (by k_asm) (by first | exact rfl | assumption) (r1 (by k_mem) (by (first | assumption | exact IntsAre.nil | exact IntsAre.cons _ _ .nil))) (t_zcontent _ _ _ _ _ (by omega)) (by ktr_room) (by ktr_units) ?_; (intro t'z h'z tk'z F'z N'z; (try dsimp only); (try k_fold))))) | walk1)) | (leave1; try dsimp only) | fail "no step"))
  · exfalso; omega
  · exact hret _ _ _ _ (by k_asm) (by k_asm) ⟨Sub.rfl, rfl⟩
theorem pow_ne {h : Int} (h0 : h ≠ 0) : ∀ n : Nat, h ^ n ≠ 0
  | 0 => by simp
  | n + 1 => by rw [Int.pow_succ]; exact Int.mul_ne_zero (pow_ne h0 n) h0
theorem pow_room {a n : Int} (hb : Builtin.Int.intBits a < 100000) (h0 : 0 ≤ n) (h1 : n < 100) : (Builtin.Int.intBits a : Int) * n ≤ 2 ^ 27 := by
  have h2 : (Builtin.Int.intBits a : Int) ≤ 100000 := by omega
  have h3 := Int.mul_le_mul h2 (by omega : n ≤ 100) h0 (by omega)
  omega
set_option maxHeartbeats 8000000 in
theorem t_next_height (w : World) (mean : ExcName → Option Value) (mg mb : Str → Option Value) (f h n : Int) (hn0 : 0 ≤ n) (hn : n < 100) (h0 : h ≠ 0) (hf : Builtin.Int.intBits f < 100000) (hh : Builtin.Int.intBits h < 100000) (hd' : (h ^ (n - 1).toNat).natAbs.log2 < 9000) :
    Ct w mean mg mb 164 1 (RIII f n h) (OInt (if n = 0 then h else Int.fdiv (f ^ n.toNat) (h ^ (n - 1).toNat))) := by
  have hz : h ^ (n - 1).toNat ≠ 0 := pow_ne h0 _
  w_top off; unfold Ct PR VW LS KF; k_fill; intro dp un gd cn cs a ccd cl outer A₀ base h₀ L m news s vs Q E B F X N T hk hR hd hu hret
  obtain ⟨t, u, v, rfl⟩ := hR
  (refine wpAny_call ?_; k_dflt ktr_enter)
  (repeat' (first | (k_unfold; (try dsimp only)) | (k_end; wrow_close) | (first | ((with_reducible show wpAny _ _ (call (Value.ref _) _) _ _ _); first | (k_here; (with_reducible show wpAny _ _ (call (Value.ref 117) _) _ _ _); k_dflt (refine Ct.usePolyR (R := R1k _ _) (by k_asm) (by k_asm) (by k_asm) (by k_asm) (by k_asm) (by first | exact rfl | assumption) (r1k (by k_mem) (by (first | assumption | exact IntsAre.nil | exact IntsAre.cons _ _ .nil))) (t_zdivided _ _ _ _ _ _ (by omega) (by assumption) (by assumption)) (by ktr_room) (by ktr_units) ?_; (intro D'z us'z n'z h'z tk'z F'z N'z I'z J'z K'z; (try dsimp only); (try k_fold)))) | (k_here; (with_reducible show wpAny _ _ (call (Value.ref 112) _) _ _ _); k_dflt (refine Ct.useIntR (R := R1 _) (by k_asm) (by k_asm) (by k_asm) (by k_asm) (by k_asm) (by first | exact rfl | assumption) (r1 (by k_mem) (by (first | assumption | exact IntsAre.nil | exact IntsAre.cons _ _ .nil))) (t_zcontent _ _ _ _ _ (by omega)) (by ktr_room) (by ktr_units) ?_; (intro t'z h'z tk'z F'z N'z; (try dsimp only); (try k_fold))))) | ((with_reducible show wpAny _ _ (binaryOp Operator.FloorDiv (Value.int _ _) (Value.int _ _)) _ _ _); (k_here; k_dflt (refine floordiv_int (by assumption) ?_ (Or.inl (PyProof.noPylong_of_log2 (by assumption)))))) | ((with_reducible show wpAny _ _ (binaryOp Operator.Pow (Value.int _ _) (Value.int _ _)) _ _ _); (k_here; k_dflt (refine pow_int (by omega) (pow_room (by assumption) (by omega) (by omega)) ?_))) | walk1) | (dsimp only; (first | ((with_reducible show wpAny _ _ (call (Value.ref _) _) _ _ _); first | (k_here; (with_reducible show wpAny _ _ (call (Value.ref 117) _) _ _ _); k_dflt (refine Ct.usePolyR (R := R1k _ _) (by k_asm) (by k_asm) (by k_asm) (by k_asm) (by k_asm) (by first | exact rfl | assumption) (r1k (by k_mem) (by (first | assumption | exact IntsAre.nil | exact IntsAre.cons _ _ .nil))) (t_zdivided _ _ _ _ _ _ (by omega) (by assumption) (by assumption)) (by ktr_room) (by ktr_units) ?_; (intro D'z us'z n'z h'z tk'z F'z N'z I'z J'z K'z; (try dsimp only); (try k_fold)))) | (k_here; (with_reducible show wpAny _ _ (call (Value.ref 112) _) _ _ _); k_dflt (refine Ct.useIntR (R := R1 _) (by k_asm) (by k_asm) (by k_asm) (by k_asm) (by k_asm) (by first | exact rfl | assumption) (r1 (by k_mem) (by (first | assumption | exact IntsAre.nil | exact IntsAre.cons _ _ .nil))) (t_zcontent _ _ _ _ _ (by omega)) (by ktr_room) (by ktr_units) ?_; (intro t'z h'z tk'z F'z N'z; (try dsimp only); (try k_fold))))) | ((with_reducible show wpAny _ _ (binaryOp Operator.FloorDiv (Value.int _ _) (Value.int _ _)) _ _ _); (k_here; k_dflt (refine floordiv_int (by assumption) ?_ (Or.inl (PyProof.noPylong_of_log2 (by assumption)))))) | ((with_reducible show wpAny _ _ (binaryOp Operator.Pow (Value.int _ _) (Value.int _ _)) _ _ _); (k_here; k_dflt (refine pow_int (by omega) (pow_room (by assumption) (by omega) (by omega)) ?_))) | walk1)) | (leave1; try dsimp only) | fail "no step"))
  · rw [if_pos (by omega)] at hret
    exact hret _ _ _ _ (by k_asm) (by k_asm) ⟨Sub.rfl, _, rfl⟩
  · rw [if_neg (by omega)] at hret
    exact hret _ _ _ _ (by k_asm) (by k_asm) ⟨Sub.rfl, _, rfl⟩

end
section
open Builtin.Int (intBits)
theorem t_zscaleP (w : World) (mean : ExcName → Option Value) (mg mb : Str → Option Value) (k : Int) (xs : List Int) (hl : xs.length < 1000) (hm : ∀ x ∈ xs, IntMulOk x k) : Ct w mean mg mb 91 1 (R1k xs k) (OPoly (scaleP xs k)) := t_zscale k w mean mg mb xs hl hm
theorem t_zraiseP (w : World) (mean : ExcName → Option Value) (mg mb : Str → Option Value) (xs : List Int) (k : Int) (hl : xs.length < 1000) (h0 : 0 ≤ k) (h1 : k < 1000) : Ct w mean mg mb 98 1 (R1k xs k) (OPoly (raiseP xs k)) := t_zraise w mean mg mb xs k hl h0 h1
theorem t_zleadP (w : World) (mean : ExcName → Option Value) (mg mb : Str → Option Value) (xs : List Int) (hl : xs.length < 1000) : Ct w mean mg mb 69 1 (R1 xs) (OInt (leadP xs)) := t_zlead w mean mg mb xs hl
theorem scaleP_length (xs : List Int) (k : Int) : (scaleP xs k).length ≤ xs.length := by unfold scaleP; split <;> simp
theorem raiseP_length (xs : List Int) (k : Int) : (raiseP xs k).length ≤ k.toNat + xs.length := by unfold raiseP; split <;> simp
/-- what pseudo hands back: a tuple whose second item is the rest -/
noncomputable def OPseudo (xs : List Int) (news news' : List (Addr × Obj)) (r : Value) : Prop := Sub news news' ∧ ∃ pt pf pr t n vs c, r = .ref pt ∧ (pt, ({ cls := .type "tuple", data := .seq #[.ref pf, .ref pr, .int n t] } : Obj)) ∈ news' ∧ (pr, listOf (List.toArray vs) c) ∈ news' ∧ IntsAre vs xs ∧ ∀ q ∈ news, q.1 ≠ pr
theorem premLoop_stop {b r : List Int} (h : ¬ b.length ≤ r.length) : ∀ n, premLoop b n r = (r, n)
  | 0 => rfl
  | n + 1 => by rw [premLoop, if_neg h]
theorem premLoop_go {b r : List Int} (h : b.length ≤ r.length) (h0 : b ≠ []) {n : Nat} (hn : 0 < n) :
    premLoop b n r = premLoop b (n - 1) (subP (scaleP r (leadP b)) (raiseP (scaleP b (r.getD (-1 + (r.length : Int)).toNat 0)) ((r.length : Int) - (b.length : Int)))) := by
  have hb := List.length_pos_iff.mpr h0
  obtain ⟨k, rfl⟩ : ∃ k, n = k + 1 := ⟨n - 1, by omega⟩
  have e : ((r.length - b.length : Nat) : Int) = (r.length : Int) - (b.length : Int) := by omega
  rw [premLoop, if_pos h, getLastD_eq r (by omega), e]; rfl
theorem headStep_length' {r b : List Int} (hb : b ≠ []) (hl : b.length ≤ r.length) :
    (subP (scaleP r (leadP b)) (raiseP (scaleP b (r.getD (-1 + (r.length : Int)).toNat 0)) ((r.length : Int) - (b.length : Int)))).length < r.length := by
  have h0 := List.length_pos_iff.mpr hb
  have e : ((r.length - b.length : Nat) : Int) = (r.length : Int) - (b.length : Int) := by omega
  rw [getLastD_eq r (by omega), ← e]; exact headStep_length hb hl
theorem some_int {x y : Int} {t : Tok} (h : x = y) : some (Value.int x t) = some (Value.int y t) := by rw [h]
/-- what stands at the loop's test -/
noncomputable def JPseudo (pb : Addr) (xs ys : List Int) (news : List (Addr × Obj)) (M : Nat) (n : Nat) (m₁ : Str → Option Value) (news₁ : List (Addr × Obj)) : Prop := ∃ rest found pr pf ta tf tm, m₁ (Str.ofString "rest") = some (.ref pr) ∧ m₁ (Str.ofString "found") = some (.ref pf) ∧ (∃ tl, m₁ (Str.ofString "left") = some (.int (n : Int) tl)) ∧ m₁ (Str.ofString "first") = some (.int (leadP ys) tf) ∧ m₁ (Str.ofString "b") = some (.ref pb) ∧ m₁ (Str.ofString "many") = some (.int ta tm)
      ∧ Poly news₁ pr rest ∧ Poly news₁ pf found ∧ Sub news news₁ ∧ (∀ q ∈ news, q.1 ≠ pr) ∧ premLoop ys n rest = premLoop ys (xs.length + 1 - ys.length) xs ∧ rest.length + 1 ≤ ys.length + n ∧ rest.length ≤ xs.length ∧ found.length ≤ 60 ∧ n ≤ xs.length + 1 - ys.length
      ∧ Bd (M + (xs.length + 1 - ys.length - n) * (M + 1)) rest ∧ Bd (M + (xs.length + 1 - ys.length - n) * (M + 1)) found
set_option maxHeartbeats 8000000 in
theorem t_pseudo (w : World) (mean : ExcName → Option Value) (mg mb : Str → Option Value) (xs ys : List Int) (hl : xs.length < 50) (hl' : ys.length < 50) (h0 : ys ≠ []) (M : Nat) (hM : M ≤ 90000) (hx : Bd M xs) (hy : Bd M ys) : Ct w mean mg mb 150 5 (R2 xs ys) (OPseudo (premP xs ys)) := by
  have hyl : 0 < ys.length := List.length_pos_iff.mpr h0
  w_top off; unfold Ct PR VW LS KF; k_fill; intro dp un gd cn cs a ccd cl outer A₀ base h₀ L m news s vs Q E B F X N T hk hR hd hu hret
  obtain ⟨pa, pb, rfl, ⟨pv, pn, hpm, hpi⟩, ⟨qv, qn, hqm, hqi⟩⟩ := hR
  have hpl := hpi.length
  have hql := hqi.length
  (refine wpAny_call ?_; k_dflt ktr_enter)
  (repeat' ((fail_if_success (with_reducible show wpAny _ _ (exec (Stmt.While _ _ _ _) _) _ _ _)); (fail_if_success (with_reducible show wpAny _ _ (pyIter (Value.ref _)) (fun it s₂ => LoopAtV _ _ _ _ _ _ _ _ _ it s₂) _ _)); (fail_if_success (with_reducible show wpAny _ _ (exec (Stmt.For (Expr.Tuple _ _ _) _ _ _ _) _) _ _ _)); (fail_if_success (with_reducible show wpAny _ _ (call (Value.type "enumerate") _) _ _ _)); (first | (k_unfold; (try dsimp only)) | (k_end; wrow_close) | (first | ((with_reducible show wpAny _ _ (call (Value.ref _) _) _ _ _); first | (k_here; (with_reducible show wpAny _ _ (call (Value.ref 98) _) _ _ _); k_dflt (refine Ct.usePolyR (R := R1k _ _) (by k_asm) (by k_asm) (by k_asm) (by k_asm) (by k_asm) (by first | exact rfl | assumption) (r1k (by k_mem) (by (first | assumption | exact IntsAre.nil | exact IntsAre.cons _ _ .nil))) (t_zraiseP _ _ _ _ _ _ (by (first | omega | ((simp only [List.length_cons, List.length_nil]); omega) | (refine Nat.lt_of_le_of_lt (scaleP_length _ _) ?_; omega) | (refine Nat.lt_of_le_of_lt (raiseP_length _ _) ?_; (try simp only [List.length_cons, List.length_nil]); omega) | (refine Nat.lt_of_le_of_lt (raiseP_length _ _) ?_; refine Nat.lt_of_le_of_lt (Nat.add_le_add_left (scaleP_length _ _) _) ?_; omega))) (by omega) (by omega)) (by ktr_room) (by ktr_units) ?_; (intro D'z us'z n'z h'z tk'z F'z N'z I'z J'z K'z; (try dsimp only); (try k_fold)))) | (k_here; (with_reducible show wpAny _ _ (call (Value.ref 91) _) _ _ _); k_dflt (refine Ct.usePolyR (R := R1k _ _) (by k_asm) (by k_asm) (by k_asm) (by k_asm) (by k_asm) (by first | exact rfl | assumption) (r1k (by k_mem) (by (first | assumption | exact IntsAre.nil | exact IntsAre.cons _ _ .nil))) (t_zscaleP _ _ _ _ _ _ (by (first | omega | ((simp only [List.length_cons, List.length_nil]); omega) | (refine Nat.lt_of_le_of_lt (scaleP_length _ _) ?_; omega) | (refine Nat.lt_of_le_of_lt (raiseP_length _ _) ?_; (try simp only [List.length_cons, List.length_nil]); omega) | (refine Nat.lt_of_le_of_lt (raiseP_length _ _) ?_; refine Nat.lt_of_le_of_lt (Nat.add_le_add_left (scaleP_length _ _) _) ?_; omega))) (by (first | exact Bd.mulOk (by assumption) (Bd.lead (by assumption)) (by omega) | exact Bd.mulOk (by assumption) (Bd.getD (by assumption) _) (by omega) | exact Bd.mulOk (by assumption) (by assumption) (by omega)))) (by ktr_room) (by ktr_units) ?_; (intro D'z us'z n'z h'z tk'z F'z N'z I'z J'z K'z; (try dsimp only); (try k_fold)))) | (k_here; (with_reducible show wpAny _ _ (call (Value.ref 86) _) _ _ _); k_dflt (refine Ct.usePolyR (R := R2 _ _) (by k_asm) (by k_asm) (by k_asm) (by k_asm) (by k_asm) (by first | exact rfl | assumption) (r2 (by k_mem) (by (first | assumption | exact IntsAre.nil | exact IntsAre.cons _ _ .nil)) (by k_mem) (by (first | assumption | exact IntsAre.nil | exact IntsAre.cons _ _ .nil))) (t_zsub _ _ _ _ _ _ (by (first | omega | ((simp only [List.length_cons, List.length_nil]); omega) | (refine Nat.lt_of_le_of_lt (scaleP_length _ _) ?_; omega) | (refine Nat.lt_of_le_of_lt (raiseP_length _ _) ?_; (try simp only [List.length_cons, List.length_nil]); omega) | (refine Nat.lt_of_le_of_lt (raiseP_length _ _) ?_; refine Nat.lt_of_le_of_lt (Nat.add_le_add_left (scaleP_length _ _) _) ?_; omega))) (by (first | omega | ((simp only [List.length_cons, List.length_nil]); omega) | (refine Nat.lt_of_le_of_lt (scaleP_length _ _) ?_; omega) | (refine Nat.lt_of_le_of_lt (raiseP_length _ _) ?_; (try simp only [List.length_cons, List.length_nil]); omega) | (refine Nat.lt_of_le_of_lt (raiseP_length _ _) ?_; refine Nat.lt_of_le_of_lt (Nat.add_le_add_left (scaleP_length _ _) _) ?_; omega)))) (by ktr_room) (by ktr_units) ?_; (intro D'z us'z n'z h'z tk'z F'z N'z I'z J'z K'z; (try dsimp only); (try k_fold)))) | (k_here; (with_reducible show wpAny _ _ (call (Value.ref 69) _) _ _ _); k_dflt (refine Ct.useIntR (R := R1 _) (by k_asm) (by k_asm) (by k_asm) (by k_asm) (by k_asm) (by first | exact rfl | assumption) (r1 (by k_mem) (by (first | assumption | exact IntsAre.nil | exact IntsAre.cons _ _ .nil))) (t_zleadP _ _ _ _ _ (by omega)) (by ktr_room) (by ktr_units) ?_; (intro t'z h'z tk'z F'z N'z; (try dsimp only); (try k_fold)))) | (k_here; (with_reducible show wpAny _ _ (call (Value.ref 136) _) _ _ _); k_dflt (refine Ct.useR (R := R1 _) (by k_asm) (by k_asm) (by k_asm) (by k_asm) (by k_asm) (by first | exact rfl | assumption) (r1 (by k_mem) (by (first | assumption | exact IntsAre.nil | exact IntsAre.cons _ _ .nil))) (t_check_bottom _ _ _ _ _ (by omega) (by assumption)) (by ktr_room) (by ktr_units) ?_; (intro r'z news'z h'z tk'z F'z N'z O'z; (first | (obtain ⟨hs'z, e'z⟩ := O'z; subst e'z; (have N'z := news_sub N'z hs'z); clear hs'z); (try dsimp only); (try k_fold)))))) | ((with_reducible show wpAny _ _ (binaryOp Operator.Pow (Value.int _ _) (Value.int _ _)) _ _ _); (k_here; k_dflt (refine pow_int (by omega) (pow_room (by assumption) (by omega) (by omega)) ?_))) | walk1) | (dsimp only; (first | ((with_reducible show wpAny _ _ (call (Value.ref _) _) _ _ _); first | (k_here; (with_reducible show wpAny _ _ (call (Value.ref 98) _) _ _ _); k_dflt (refine Ct.usePolyR (R := R1k _ _) (by k_asm) (by k_asm) (by k_asm) (by k_asm) (by k_asm) (by first | exact rfl | assumption) (r1k (by k_mem) (by (first | assumption | exact IntsAre.nil | exact IntsAre.cons _ _ .nil))) (t_zraiseP _ _ _ _ _ _ (by (first | omega | ((simp only [List.length_cons, List.length_nil]); omega) | (refine Nat.lt_of_le_of_lt (scaleP_length _ _) ?_; omega) | (refine Nat.lt_of_le_of_lt (raiseP_length _ _) ?_; (try simp only [List.length_cons, List.length_nil]); omega) | (refine Nat.lt_of_le_of_lt (raiseP_length _ _) ?_; refine Nat.lt_of_le_of_lt (Nat.add_le_add_left (scaleP_length _ _) _) ?_; omega))) (by omega) (by omega)) (by ktr_room) (by ktr_units) ?_; (intro D'z us'z n'z h'z tk'z F'z N'z I'z J'z K'z; (try dsimp only); (try k_fold)))) | (k_here; (with_reducible show wpAny _ _ (call (Value.ref 91) _) _ _ _); k_dflt (refine Ct.usePolyR (R := R1k _ _) (by k_asm) (by k_asm) (by k_asm) (by k_asm) (by k_asm) (by first | exact rfl | assumption) (r1k (by k_mem) (by (first | assumption | exact IntsAre.nil | exact IntsAre.cons _ _ .nil))) (t_zscaleP _ _ _ _ _ _ (by (first | omega | ((simp only [List.length_cons, List.length_nil]); omega) | (refine Nat.lt_of_le_of_lt (scaleP_length _ _) ?_; omega) | (refine Nat.lt_of_le_of_lt (raiseP_length _ _) ?_; (try simp only [List.length_cons, List.length_nil]); omega) | (refine Nat.lt_of_le_of_lt (raiseP_length _ _) ?_; refine Nat.lt_of_le_of_lt (Nat.add_le_add_left (scaleP_length _ _) _) ?_; omega))) (by (first | exact Bd.mulOk (by assumption) (Bd.lead (by assumption)) (by omega) | exact Bd.mulOk (by assumption) (Bd.getD (by assumption) _) (by omega) | exact Bd.mulOk (by assumption) (by assumption) (by omega)))) (by ktr_room) (by ktr_units) ?_; (intro D'z us'z n'z h'z tk'z F'z N'z I'z J'z K'z; (try dsimp only); (try k_fold)))) | (k_here; (with_reducible show wpAny _ _ (call (Value.ref 86) _) _ _ _); k_dflt (refine Ct.usePolyR (R := R2 _ _) (by k_asm) (by k_asm) (by k_asm) (by k_asm) (by k_asm) (by first | exact rfl | assumption) (r2 (by k_mem) (by (first | assumption | exact IntsAre.nil | exact IntsAre.cons _ _ .nil)) (by k_mem) (by (first | assumption | exact IntsAre.nil | exact IntsAre.cons _ _ .nil))) (t_zsub _ _ _ _ _ _ (by (first | omega | ((simp only [List.length_cons, List.length_nil]); omega) | (refine Nat.lt_of_le_of_lt (scaleP_length _ _) ?_; omega) | (refine Nat.lt_of_le_of_lt (raiseP_length _ _) ?_; (try simp only [List.length_cons, List.length_nil]); omega) | (refine Nat.lt_of_le_of_lt (raiseP_length _ _) ?_; refine Nat.lt_of_le_of_lt (Nat.add_le_add_left (scaleP_length _ _) _) ?_; omega))) (by (first | omega | ((simp only [List.length_cons, List.length_nil]); omega) | (refine Nat.lt_of_le_of_lt (scaleP_length _ _) ?_; omega) | (refine Nat.lt_of_le_of_lt (raiseP_length _ _) ?_; (try simp only [List.length_cons, List.length_nil]); omega) | (refine Nat.lt_of_le_of_lt (raiseP_length _ _) ?_; refine Nat.lt_of_le_of_lt (Nat.add_le_add_left (scaleP_length _ _) _) ?_; omega)))) (by ktr_room) (by ktr_units) ?_; (intro D'z us'z n'z h'z tk'z F'z N'z I'z J'z K'z; (try dsimp only); (try k_fold)))) | (k_here; (with_reducible show wpAny _ _ (call (Value.ref 69) _) _ _ _); k_dflt (refine Ct.useIntR (R := R1 _) (by k_asm) (by k_asm) (by k_asm) (by k_asm) (by k_asm) (by first | exact rfl | assumption) (r1 (by k_mem) (by (first | assumption | exact IntsAre.nil | exact IntsAre.cons _ _ .nil))) (t_zleadP _ _ _ _ _ (by omega)) (by ktr_room) (by ktr_units) ?_; (intro t'z h'z tk'z F'z N'z; (try dsimp only); (try k_fold)))) | (k_here; (with_reducible show wpAny _ _ (call (Value.ref 136) _) _ _ _); k_dflt (refine Ct.useR (R := R1 _) (by k_asm) (by k_asm) (by k_asm) (by k_asm) (by k_asm) (by first | exact rfl | assumption) (r1 (by k_mem) (by (first | assumption | exact IntsAre.nil | exact IntsAre.cons _ _ .nil))) (t_check_bottom _ _ _ _ _ (by omega) (by assumption)) (by ktr_room) (by ktr_units) ?_; (intro r'z news'z h'z tk'z F'z N'z O'z; (first | (obtain ⟨hs'z, e'z⟩ := O'z; subst e'z; (have N'z := news_sub N'z hs'z); clear hs'z); (try dsimp only); (try k_fold)))))) | ((with_reducible show wpAny _ _ (binaryOp Operator.Pow (Value.int _ _) (Value.int _ _)) _ _ _); (k_here; k_dflt (refine pow_int (by omega) (pow_room (by assumption) (by omega) (by omega)) ?_))) | walk1)) | (leave1; walk_say "STEP leave1"; try dsimp only) | fail "no step")))
  refine While_inv (JPseudo pb xs ys news M) (n₀ := xs.length + 1 - ys.length) (by k_asm) (by k_asm) ?_ ?_ ?_
  · delta JPseudo
    refine ⟨xs, [], _, _, _, _, _, rfl, rfl, ?e1, rfl, rfl, rfl, ⟨_, _, by k_mem, hpi⟩, ⟨_, _, by k_mem, IntsAre.nil⟩, by walk_at "mine sub", ?e2, rfl, by omega, Nat.le_refl _, Nat.zero_le _, Nat.le_refl _, ?e3, Bd.nil⟩
    case e1 => exact ⟨_, some_int (by split <;> omega)⟩
    case e2 => (first | exact fun q hq => (by assumption : ∀ q ∈ _, q.1 ≠ _) q (by k_mem) | exact off1_mem (by assumption) | exact off1_mem (And.right (by assumption)) | exact allLt_ne (by assumption) | exact allLt_ne (And.right (by assumption)) | exact allLt_ne (And.right (And.right (by assumption))) | exact allLt_ne (And.right (And.right (And.right (by assumption)))) | exact allLt_ne (And.right (And.right (And.right (And.right (by assumption))))) | exact off1_mem (And.right (And.right (by assumption))) | exact off1_mem (And.right (And.right (And.right (by assumption)))) | exact lt_ne (by assumption))
    case e3 => rw [Nat.sub_self, Nat.zero_mul, Nat.add_zero]; exact hx
  · rintro n m₁ news₁ h₁ tk₁ F₁ N₁ ⟨rest, found, pr, pf, ta, tf, tm, m1, m2, ⟨tl, m3⟩, m4, m5, m6, ⟨rv, rn, hrm, hri⟩, ⟨fv, fn, hfm, hfi⟩, hsub, hoff, hloop, hlen, hlx, hfl, hn, hbr, hbf⟩
    have hrl := hri.length
    have hfvl := hfi.length
    have hqm₁ := hsub _ hqm
    have hB : M + (xs.length + 1 - ys.length - n) * (M + 1) ≤ 5300000 := by
      have := Nat.mul_le_mul (by omega : xs.length + 1 - ys.length - n ≤ 51) (by omega : M + 1 ≤ 100001)
      omega
    generalize hBe : M + (xs.length + 1 - ys.length - n) * (M + 1) = Bn at hbr hbf hB
    have hlb : intBits (leadP ys) < 100000 := by have := Bd.lead hy; omega
    have hpw : intBits (leadP ys ^ ((n : Nat) : Int).toNat) ≤ 6000000 := by
      have h1 := intBits_pow_le (Bd.lead hy) ((n : Nat) : Int).toNat
      have h2 := Nat.mul_le_mul (by omega : M ≤ 90000) (by omega : ((n : Nat) : Int).toNat ≤ 51)
      omega
    (repeat' ((fail_if_success (with_reducible show wpAny _ _ (exec (Stmt.While _ _ _ _) _) _ _ _)); (fail_if_success (with_reducible show wpAny _ _ (pyIter (Value.ref _)) (fun it s₂ => LoopAtV _ _ _ _ _ _ _ _ _ it s₂) _ _)); (fail_if_success (with_reducible show wpAny _ _ (exec (Stmt.For (Expr.Tuple _ _ _) _ _ _ _) _) _ _ _)); (fail_if_success (with_reducible show wpAny _ _ (call (Value.type "enumerate") _) _ _ _)); (first | (k_unfold; (try dsimp only)) | (k_end; wrow_close) | (first | ((with_reducible show wpAny _ _ (call (Value.ref _) _) _ _ _); first | (k_here; (with_reducible show wpAny _ _ (call (Value.ref 98) _) _ _ _); k_dflt (refine Ct.usePolyR (R := R1k _ _) (by k_asm) (by k_asm) (by k_asm) (by k_asm) (by k_asm) (by first | exact rfl | assumption) (r1k (by k_mem) (by (first | assumption | exact IntsAre.nil | exact IntsAre.cons _ _ .nil))) (t_zraiseP _ _ _ _ _ _ (by (first | omega | ((simp only [List.length_cons, List.length_nil]); omega) | (refine Nat.lt_of_le_of_lt (scaleP_length _ _) ?_; omega) | (refine Nat.lt_of_le_of_lt (raiseP_length _ _) ?_; (try simp only [List.length_cons, List.length_nil]); omega) | (refine Nat.lt_of_le_of_lt (raiseP_length _ _) ?_; refine Nat.lt_of_le_of_lt (Nat.add_le_add_left (scaleP_length _ _) _) ?_; omega))) (by omega) (by omega)) (by ktr_room) (by ktr_units) ?_; (intro D'z us'z n'z h'z tk'z F'z N'z I'z J'z K'z; (try dsimp only); (try k_fold)))) | (k_here; (with_reducible show wpAny _ _ (call (Value.ref 91) _) _ _ _); k_dflt (refine Ct.usePolyR (R := R1k _ _) (by k_asm) (by k_asm) (by k_asm) (by k_asm) (by k_asm) (by first | exact rfl | assumption) (r1k (by k_mem) (by (first | assumption | exact IntsAre.nil | exact IntsAre.cons _ _ .nil))) (t_zscaleP _ _ _ _ _ _ (by (first | omega | ((simp only [List.length_cons, List.length_nil]); omega) | (refine Nat.lt_of_le_of_lt (scaleP_length _ _) ?_; omega) | (refine Nat.lt_of_le_of_lt (raiseP_length _ _) ?_; (try simp only [List.length_cons, List.length_nil]); omega) | (refine Nat.lt_of_le_of_lt (raiseP_length _ _) ?_; refine Nat.lt_of_le_of_lt (Nat.add_le_add_left (scaleP_length _ _) _) ?_; omega))) (by (first | exact Bd.mulOk (by assumption) (Bd.lead (by assumption)) (by omega) | exact Bd.mulOk (by assumption) (Bd.getD (by assumption) _) (by omega) | exact Bd.mulOk (by assumption) (by assumption) (by omega)))) (by ktr_room) (by ktr_units) ?_; (intro D'z us'z n'z h'z tk'z F'z N'z I'z J'z K'z; (try dsimp only); (try k_fold)))) | (k_here; (with_reducible show wpAny _ _ (call (Value.ref 86) _) _ _ _); k_dflt (refine Ct.usePolyR (R := R2 _ _) (by k_asm) (by k_asm) (by k_asm) (by k_asm) (by k_asm) (by first | exact rfl | assumption) (r2 (by k_mem) (by (first | assumption | exact IntsAre.nil | exact IntsAre.cons _ _ .nil)) (by k_mem) (by (first | assumption | exact IntsAre.nil | exact IntsAre.cons _ _ .nil))) (t_zsub _ _ _ _ _ _ (by (first | omega | ((simp only [List.length_cons, List.length_nil]); omega) | (refine Nat.lt_of_le_of_lt (scaleP_length _ _) ?_; omega) | (refine Nat.lt_of_le_of_lt (raiseP_length _ _) ?_; (try simp only [List.length_cons, List.length_nil]); omega) | (refine Nat.lt_of_le_of_lt (raiseP_length _ _) ?_; refine Nat.lt_of_le_of_lt (Nat.add_le_add_left (scaleP_length _ _) _) ?_; omega))) (by (first | omega | ((simp only [List.length_cons, List.length_nil]); omega) | (refine Nat.lt_of_le_of_lt (scaleP_length _ _) ?_; omega) | (refine Nat.lt_of_le_of_lt (raiseP_length _ _) ?_; (try simp only [List.length_cons, List.length_nil]); omega) | (refine Nat.lt_of_le_of_lt (raiseP_length _ _) ?_; refine Nat.lt_of_le_of_lt (Nat.add_le_add_left (scaleP_length _ _) _) ?_; omega)))) (by ktr_room) (by ktr_units) ?_; (intro D'z us'z n'z h'z tk'z F'z N'z I'z J'z K'z; (try dsimp only); (try k_fold)))) | (k_here; (with_reducible show wpAny _ _ (call (Value.ref 69) _) _ _ _); k_dflt (refine Ct.useIntR (R := R1 _) (by k_asm) (by k_asm) (by k_asm) (by k_asm) (by k_asm) (by first | exact rfl | assumption) (r1 (by k_mem) (by (first | assumption | exact IntsAre.nil | exact IntsAre.cons _ _ .nil))) (t_zleadP _ _ _ _ _ (by omega)) (by ktr_room) (by ktr_units) ?_; (intro t'z h'z tk'z F'z N'z; (try dsimp only); (try k_fold)))) | (k_here; (with_reducible show wpAny _ _ (call (Value.ref 136) _) _ _ _); k_dflt (refine Ct.useR (R := R1 _) (by k_asm) (by k_asm) (by k_asm) (by k_asm) (by k_asm) (by first | exact rfl | assumption) (r1 (by k_mem) (by (first | assumption | exact IntsAre.nil | exact IntsAre.cons _ _ .nil))) (t_check_bottom _ _ _ _ _ (by omega) (by assumption)) (by ktr_room) (by ktr_units) ?_; (intro r'z news'z h'z tk'z F'z N'z O'z; (first | (obtain ⟨hs'z, e'z⟩ := O'z; subst e'z; (have N'z := news_sub N'z hs'z); clear hs'z); (try dsimp only); (try k_fold)))))) | ((with_reducible show wpAny _ _ (binaryOp Operator.Pow (Value.int _ _) (Value.int _ _)) _ _ _); (k_here; k_dflt (refine pow_int (by omega) (pow_room (by assumption) (by omega) (by omega)) ?_))) | walk1) | (dsimp only; (first | ((with_reducible show wpAny _ _ (call (Value.ref _) _) _ _ _); first | (k_here; (with_reducible show wpAny _ _ (call (Value.ref 98) _) _ _ _); k_dflt (refine Ct.usePolyR (R := R1k _ _) (by k_asm) (by k_asm) (by k_asm) (by k_asm) (by k_asm) (by first | exact rfl | assumption) (r1k (by k_mem) (by (first | assumption | exact IntsAre.nil | exact IntsAre.cons _ _ .nil))) (t_zraiseP _ _ _ _ _ _ (by (first | omega | ((simp only [List.length_cons, List.length_nil]); omega) | (refine Nat.lt_of_le_of_lt (scaleP_length _ _) ?_; omega) | (refine Nat.lt_of_le_of_lt (raiseP_length _ _) ?_; (try simp only [List.length_cons, List.length_nil]); omega) | (refine Nat.lt_of_le_of_lt (raiseP_length _ _) ?_; refine Nat.lt_of_le_of_lt (Nat.add_le_add_left (scaleP_length _ _) _) ?_; omega))) (by omega) (by omega)) (by ktr_room) (by ktr_units) ?_; (intro D'z us'z n'z h'z tk'z F'z N'z I'z J'z K'z; (try dsimp only); (try k_fold)))) | (k_here; (with_reducible show wpAny _ _ (call (Value.ref 91) _) _ _ _); k_dflt (refine Ct.usePolyR (R := R1k _ _) (by k_asm) (by k_asm) (by k_asm) (by k_asm) (by k_asm) (by first | exact rfl | assumption) (r1k (by k_mem) (by (first | assumption | exact IntsAre.nil | exact IntsAre.cons _ _ .nil))) (t_zscaleP _ _ _ _ _ _ (by (first | omega | ((simp only [List.length_cons, List.length_nil]); omega) | (refine Nat.lt_of_le_of_lt (scaleP_length _ _) ?_; omega) | (refine Nat.lt_of_le_of_lt (raiseP_length _ _) ?_; (try simp only [List.length_cons, List.length_nil]); omega) | (refine Nat.lt_of_le_of_lt (raiseP_length _ _) ?_; refine Nat.lt_of_le_of_lt (Nat.add_le_add_left (scaleP_length _ _) _) ?_; omega))) (by (first | exact Bd.mulOk (by assumption) (Bd.lead (by assumption)) (by omega) | exact Bd.mulOk (by assumption) (Bd.getD (by assumption) _) (by omega) | exact Bd.mulOk (by assumption) (by assumption) (by omega)))) (by ktr_room) (by ktr_units) ?_; (intro D'z us'z n'z h'z tk'z F'z N'z I'z J'z K'z; (try dsimp only); (try k_fold)))) | (k_here; (with_reducible show wpAny _ _ (call (Value.ref 86) _) _ _ _); k_dflt (refine Ct.usePolyR (R := R2 _ _) (by k_asm) (by k_asm) (by k_asm) (by k_asm) (by k_asm) (by first | exact rfl | assumption) (r2 (by k_mem) (by (first | assumption | exact IntsAre.nil | exact IntsAre.cons _ _ .nil)) (by k_mem) (by (first | assumption | exact IntsAre.nil | exact IntsAre.cons _ _ .nil))) (t_zsub _ _ _ _ _ _ (by (first | omega | ((simp only [List.length_cons, List.length_nil]); omega) | (refine Nat.lt_of_le_of_lt (scaleP_length _ _) ?_; omega) | (refine Nat.lt_of_le_of_lt (raiseP_length _ _) ?_; (try simp only [List.length_cons, List.length_nil]); omega) | (refine Nat.lt_of_le_of_lt (raiseP_length _ _) ?_; refine Nat.lt_of_le_of_lt (Nat.add_le_add_left (scaleP_length _ _) _) ?_; omega))) (by (first | omega | ((simp only [List.length_cons, List.length_nil]); omega) | (refine Nat.lt_of_le_of_lt (scaleP_length _ _) ?_; omega) | (refine Nat.lt_of_le_of_lt (raiseP_length _ _) ?_; (try simp only [List.length_cons, List.length_nil]); omega) | (refine Nat.lt_of_le_of_lt (raiseP_length _ _) ?_; refine Nat.lt_of_le_of_lt (Nat.add_le_add_left (scaleP_length _ _) _) ?_; omega)))) (by ktr_room) (by ktr_units) ?_; (intro D'z us'z n'z h'z tk'z F'z N'z I'z J'z K'z; (try dsimp only); (try k_fold)))) | (k_here; (with_reducible show wpAny _ _ (call (Value.ref 69) _) _ _ _); k_dflt (refine Ct.useIntR (R := R1 _) (by k_asm) (by k_asm) (by k_asm) (by k_asm) (by k_asm) (by first | exact rfl | assumption) (r1 (by k_mem) (by (first | assumption | exact IntsAre.nil | exact IntsAre.cons _ _ .nil))) (t_zleadP _ _ _ _ _ (by omega)) (by ktr_room) (by ktr_units) ?_; (intro t'z h'z tk'z F'z N'z; (try dsimp only); (try k_fold)))) | (k_here; (with_reducible show wpAny _ _ (call (Value.ref 136) _) _ _ _); k_dflt (refine Ct.useR (R := R1 _) (by k_asm) (by k_asm) (by k_asm) (by k_asm) (by k_asm) (by first | exact rfl | assumption) (r1 (by k_mem) (by (first | assumption | exact IntsAre.nil | exact IntsAre.cons _ _ .nil))) (t_check_bottom _ _ _ _ _ (by omega) (by assumption)) (by ktr_room) (by ktr_units) ?_; (intro r'z news'z h'z tk'z F'z N'z O'z; (first | (obtain ⟨hs'z, e'z⟩ := O'z; subst e'z; (have N'z := news_sub N'z hs'z); clear hs'z); (try dsimp only); (try k_fold)))))) | ((with_reducible show wpAny _ _ (binaryOp Operator.Pow (Value.int _ _) (Value.int _ _)) _ _ _); (k_here; k_dflt (refine pow_int (by omega) (pow_room (by assumption) (by omega) (by omega)) ?_))) | walk1)) | (leave1; walk_say "STEP leave1"; try dsimp only) | fail "no step")))
    · have hle : ys.length ≤ rest.length := by omega
      have hn0 : 0 < n := by omega
      have hsl := headStep_length' h0 hle
      refine WhileStep.intro (n' := n - 1) (by k_asm) (by k_asm) (by omega) ?_
      delta JPseudo
      refine ⟨_, _, _, _, ta, tf, tm, rfl, rfl, ⟨_, some_int (by omega)⟩, by exact m4, by exact m5, by exact m6, ⟨_, _, by k_mem, by assumption⟩, ⟨_, _, by k_mem, by assumption⟩, by walk_at "mine sub", ?off, ?e2, by omega, by omega, ?e5, by omega, ?e6, ?e7⟩
      case off =>
        intro q hq
        have hq' := hsub q hq
        exact (by assumption : ∀ q ∈ _, q.1 ≠ _) q (by k_mem)
      case e2 => rw [← premLoop_go hle h0 hn0]; exact hloop
      case e5 =>
        refine Nat.le_trans (subP_length _ _) (Nat.max_le.mpr ⟨Nat.le_trans (scaleP_length _ _) hfl, Nat.le_trans (raiseP_length _ _) ?_⟩)
        simp only [List.length_cons, List.length_nil]
        omega
      case e6 =>
        refine Bd.mono (Bd.sub (Bd.scale hbr (Bd.lead hy)) (Bd.raise (Bd.scale hy (Bd.getD hbr _)))) ?_
        rw [(by omega : xs.length + 1 - ys.length - (n - 1) = (xs.length + 1 - ys.length - n) + 1), Nat.succ_mul]
        omega
      case e7 =>
        refine Bd.mono (Bd.sub (Bd.scale hbf (Bd.lead hy)) (Bd.raise (Bd.cons (intBits_neg_le (Bd.getD hbr _)) Bd.nil))) ?_
        rw [(by omega : xs.length + 1 - ys.length - (n - 1) = (xs.length + 1 - ys.length - n) + 1), Nat.succ_mul]
        omega
    · have hnl : ¬ ys.length ≤ rest.length := by omega
      have e : premP xs ys = scaleP rest (leadP ys ^ ((n : Nat) : Int).toNat) := by
        rw [premP, ← hloop, premLoop_stop hnl, Int.toNat_natCast]
      rw [e] at hret
      refine hret _ _ _ _ (by k_asm) (by k_asm) ⟨by walk_at "mine sub", _, _, _, _, _, _, _, rfl, by k_mem, by k_mem, by assumption, fun q hq => ?_⟩
      have hq' := hsub q hq
      exact (by assumption : ∀ q ∈ _, q.1 ≠ _) q (by k_mem)
  · with_unfolding_all passes_own

end
section
open Builtin.Int (intBits)
set_option maxHeartbeats 8000000 in
theorem t_zmul (w : World) (mean : ExcName → Option Value) (mg mb : Str → Option Value) (xs ys : List Int) (hl : xs.length < 100) (hl' : ys.length < 100) (M : Nat) (hM : M ≤ 90000) (hx : Bd M xs) (hy : Bd M ys) : Ct w mean mg mb 105 1 (R2 xs ys) (OPoly (mulP xs ys)) := by
  w_top off; unfold Ct PR VW LS KF; k_fill; intro dp un gd cn cs a ccd cl outer A₀ base h₀ L m news s vs Q E B F X N T hk hR hd hu hret
  obtain ⟨pa, pb, rfl, ⟨pv, pn, hpm, hpi⟩, ⟨qv, qn, hqm, hqi⟩⟩ := hR
  have hpl := hpi.length
  have hql := hqi.length
  (refine wpAny_call ?_; k_dflt ktr_enter)
  (repeat' ((fail_if_success (with_reducible show wpAny _ _ (exec (Stmt.While _ _ _ _) _) _ _ _)); (fail_if_success (with_reducible show wpAny _ _ (pyIter (Value.ref _)) (fun it s₂ => LoopAtV _ _ _ _ _ _ _ _ _ it s₂) _ _)); (fail_if_success (with_reducible show wpAny _ _ (exec (Stmt.For (Expr.Tuple _ _ _) _ _ _ _) _) _ _ _)); (fail_if_success (with_reducible show wpAny _ _ (call (Value.type "enumerate") _) _ _ _)); (first | (k_unfold; (try dsimp only)) | (k_end; wrow_close) | (first | ((with_reducible show wpAny _ _ (binaryOp Operator.Mult (Value.int _ _) (Value.int _ _)) _ _ _); (k_here; k_dflt (refine mul_int ?_ (by assumption)))) | walk1) | (dsimp only; (first | ((with_reducible show wpAny _ _ (binaryOp Operator.Mult (Value.int _ _) (Value.int _ _)) _ _ _); (k_here; k_dflt (refine mul_int ?_ (by assumption)))) | walk1)) | (leave1; walk_say "STEP leave1"; try dsimp only) | fail "no step")))
  · rw [mulP, if_pos (.inl (by omega))] at hret
    exact hret _ _ _ _ (by k_asm) (by k_asm) (opoly (by walk_at "mine sub") (by k_mem) (by (first | assumption | exact IntsAre.nil | exact IntsAre.cons _ _ .nil)) (by (first | exact fun q hq => (by assumption : ∀ q ∈ _, q.1 ≠ _) q (by k_mem) | exact off1_mem (by assumption) | exact off1_mem (And.right (by assumption)) | exact allLt_ne (by assumption) | exact allLt_ne (And.right (by assumption)) | exact allLt_ne (And.right (And.right (by assumption))) | exact allLt_ne (And.right (And.right (And.right (by assumption)))) | exact allLt_ne (And.right (And.right (And.right (And.right (by assumption))))) | exact off1_mem (And.right (And.right (by assumption))) | exact off1_mem (And.right (And.right (And.right (by assumption)))) | exact lt_ne (by assumption))))
  · rw [mulP, if_pos (.inr (by omega))] at hret
    exact hret _ _ _ _ (by k_asm) (by k_asm) (opoly (by walk_at "mine sub") (by k_mem) (by (first | assumption | exact IntsAre.nil | exact IntsAre.cons _ _ .nil)) (by (first | exact fun q hq => (by assumption : ∀ q ∈ _, q.1 ≠ _) q (by k_mem) | exact off1_mem (by assumption) | exact off1_mem (And.right (by assumption)) | exact allLt_ne (by assumption) | exact allLt_ne (And.right (by assumption)) | exact allLt_ne (And.right (And.right (by assumption))) | exact allLt_ne (And.right (And.right (And.right (by assumption)))) | exact allLt_ne (And.right (And.right (And.right (And.right (by assumption))))) | exact off1_mem (And.right (And.right (by assumption))) | exact off1_mem (And.right (And.right (And.right (by assumption)))) | exact lt_ne (by assumption))))
  · rw [mulP, if_neg (by omega)] at hret
    have hfl : ∀ n : Nat, (List.replicate n [(0 : Int)]).flatten = List.replicate n 0 := fun n => by induction n with | zero => rfl | succ n ih => rw [List.replicate_succ, List.flatten_cons, ih]; rfl
    have hsz : ((xs.length : Int) + (ys.length : Int) - 1).toNat = xs.length + ys.length - 1 := by omega
    rw [hfl] at *
    refine For_pair3F (by k_asm) rfl rfl rfl rfl ?_ (fun _ => rfl) ?hE
    case hE => with_unfolding_all passes_own
    (repeat' ((fail_if_success (with_reducible show wpAny _ _ (exec (Stmt.While _ _ _ _) _) _ _ _)); (fail_if_success (with_reducible show wpAny _ _ (pyIter (Value.ref _)) (fun it s₂ => LoopAtV _ _ _ _ _ _ _ _ _ it s₂) _ _)); (fail_if_success (with_reducible show wpAny _ _ (exec (Stmt.For (Expr.Tuple _ _ _) _ _ _ _) _) _ _ _)); (fail_if_success (with_reducible show wpAny _ _ (call (Value.type "enumerate") _) _ _ _)); (first | (k_unfold; (try dsimp only)) | (k_end; wrow_close) | (first | ((with_reducible show wpAny _ _ (binaryOp Operator.Mult (Value.int _ _) (Value.int _ _)) _ _ _); (k_here; k_dflt (refine mul_int ?_ (by assumption)))) | walk1) | (dsimp only; (first | ((with_reducible show wpAny _ _ (binaryOp Operator.Mult (Value.int _ _) (Value.int _ _)) _ _ _); (k_here; k_dflt (refine mul_int ?_ (by assumption)))) | walk1)) | (leave1; walk_say "STEP leave1"; try dsimp only) | fail "no step")))
    refine iter_enum (fun D i m₁ o => ∃ fv c f, o = listOf (List.toArray fv) c ∧ IntsAre fv f ∧ f.length = xs.length + ys.length - 1 ∧ rowsP ys i (xs.drop i) f = rowsP ys 0 xs (List.replicate (xs.length + ys.length - 1) 0) ∧ m₁ (Str.ofString "found") = some (.ref D) ∧ m₁ (Str.ofString "b") = some (.ref pb)) ?hL rfl (by k_asm) (by k_asm) (by k_mem) ?hD ?hJ ?_ ?_
    case hL => rfl
    case hD =>
      have h9 := (by assumption : _ < _ ∧ AllLt _ _)
      exact List.forall_mem_cons.mpr ⟨Nat.ne_of_lt h9.1, allLt_ne h9.2⟩
    case hJ => exact ⟨_, _, _, rfl, (by rw [← hsz]; assumption), List.length_replicate, rfl, rfl, rfl⟩
    · rintro i v t m₁ o R h tk hv ⟨fv, c, f, rfl, hfi, hflen, hrow, hfd, hb⟩ hR hsub F₁ N₁
      obtain ⟨x, tx, e, hxi⟩ := IntsAre.at (by assumption : IntsAre pv xs) i v hv
      subst e
      have hil : i < xs.length := (List.getElem?_eq_some_iff.mp hxi).1
      (repeat' ((fail_if_success (with_reducible show wpAny _ _ (exec (Stmt.While _ _ _ _) _) _ _ _)); (fail_if_success (with_reducible show wpAny _ _ (pyIter (Value.ref _)) (fun it s₂ => LoopAtV _ _ _ _ _ _ _ _ _ it s₂) _ _)); (fail_if_success (with_reducible show wpAny _ _ (exec (Stmt.For (Expr.Tuple _ _ _) _ _ _ _) _) _ _ _)); (fail_if_success (with_reducible show wpAny _ _ (call (Value.type "enumerate") _) _ _ _)); (first | (k_unfold; (try dsimp only)) | (k_end; wrow_close) | (first | ((with_reducible show wpAny _ _ (binaryOp Operator.Mult (Value.int _ _) (Value.int _ _)) _ _ _); (k_here; k_dflt (refine mul_int ?_ (by assumption)))) | walk1) | (dsimp only; (first | ((with_reducible show wpAny _ _ (binaryOp Operator.Mult (Value.int _ _) (Value.int _ _)) _ _ _); (k_here; k_dflt (refine mul_int ?_ (by assumption)))) | walk1)) | (leave1; walk_say "STEP leave1"; try dsimp only) | fail "no step")))
      · have hqm₁ := hsub _ (List.Mem.tail _ hqm)
        refine For_pair3F (by k_asm) rfl rfl rfl rfl ?_ (fun _ => rfl) ?hE
        case hE => with_unfolding_all passes_own
        (repeat' ((fail_if_success (with_reducible show wpAny _ _ (exec (Stmt.While _ _ _ _) _) _ _ _)); (fail_if_success (with_reducible show wpAny _ _ (pyIter (Value.ref _)) (fun it s₂ => LoopAtV _ _ _ _ _ _ _ _ _ it s₂) _ _)); (fail_if_success (with_reducible show wpAny _ _ (exec (Stmt.For (Expr.Tuple _ _ _) _ _ _ _) _) _ _ _)); (fail_if_success (with_reducible show wpAny _ _ (call (Value.type "enumerate") _) _ _ _)); (first | (k_unfold; (try dsimp only)) | (k_end; wrow_close) | (first | ((with_reducible show wpAny _ _ (binaryOp Operator.Mult (Value.int _ _) (Value.int _ _)) _ _ _); (k_here; k_dflt (refine mul_int ?_ (by assumption)))) | walk1) | (dsimp only; (first | ((with_reducible show wpAny _ _ (binaryOp Operator.Mult (Value.int _ _) (Value.int _ _)) _ _ _); (k_here; k_dflt (refine mul_int ?_ (by assumption)))) | walk1)) | (leave1; walk_say "STEP leave1"; try dsimp only) | fail "no step")))
        refine iter_enum (fun D j m₂ o => ∃ fv c f', o = listOf (List.toArray fv) c ∧ IntsAre fv f' ∧ f'.length = xs.length + ys.length - 1 ∧ rowP x (i + j) (ys.drop j) f' = rowP x i ys f ∧ m₂ (Str.ofString "found") = some (.ref D) ∧ m₂ (Str.ofString "b") = some (.ref pb) ∧ m₂ (Str.ofString "one") = some (.int (i : Int) t) ∧ m₂ (Str.ofString "left") = some (.int x tx)) ?hL rfl (by k_asm) (by k_asm) hqm₁ hR ?hJ ?_ ?_
        case hL => rfl
        case hJ => exact ⟨_, _, f, rfl, hfi, hflen, rfl, by exact hfd, by exact hb, rfl, rfl⟩
        · rintro j v₂ t₂ m₂ o₂ R₂ h₂ tk₂ hv₂ ⟨fv₂, c₂, f₂, rfl, hfi₂, hflen₂, hrow₂, hfd₂, hb₂, hone, hleft⟩ hR₂ hsub₂ F₂ N₂
          obtain ⟨y, ty, e, hyj⟩ := IntsAre.at (by assumption : IntsAre qv ys) j v₂ hv₂
          subst e
          have hjl : j < ys.length := (List.getElem?_eq_some_iff.mp hyj).1
          have hmok : IntMulOk x y := IntMulOk.of_le (hx x (List.mem_of_getElem? hxi)) (hy y (List.mem_of_getElem? hyj)) (by omega)
          (repeat' ((fail_if_success (with_reducible show wpAny _ _ (exec (Stmt.While _ _ _ _) _) _ _ _)); (fail_if_success (with_reducible show wpAny _ _ (pyIter (Value.ref _)) (fun it s₂ => LoopAtV _ _ _ _ _ _ _ _ _ it s₂) _ _)); (fail_if_success (with_reducible show wpAny _ _ (exec (Stmt.For (Expr.Tuple _ _ _) _ _ _ _) _) _ _ _)); (fail_if_success (with_reducible show wpAny _ _ (call (Value.type "enumerate") _) _ _ _)); (first | (k_unfold; (try dsimp only)) | (k_end; wrow_close) | (first | ((with_reducible show wpAny _ _ (binaryOp Operator.Mult (Value.int _ _) (Value.int _ _)) _ _ _); (k_here; k_dflt (refine mul_int ?_ (by assumption)))) | walk1) | (dsimp only; (first | ((with_reducible show wpAny _ _ (binaryOp Operator.Mult (Value.int _ _) (Value.int _ _)) _ _ _); (k_here; k_dflt (refine mul_int ?_ (by assumption)))) | walk1)) | (leave1; walk_say "STEP leave1"; try dsimp only) | fail "no step")))
          refine TurnD.next (by k_asm) (by k_asm) ⟨_, _, _, rfl, by assumption, ?_, ?_, by exact hfd₂, by exact hb₂, by exact hone, by exact hleft⟩
          · rw [List.length_set]; exact hflen₂
          · rw [← hrow₂, rowP_step hyj, (by omega : ((i : Int) + (j : Int)).toNat = i + j)]
        · rintro m₂ o₂ h₂ tk₂ ⟨fv₂, c₂, f₂, rfl, hfi₂, hflen₂, hrow₂, hfd₂, hb₂, hone, hleft⟩ F₂ N₂
          rw [hql, List.drop_length, rowP] at hrow₂
          subst hrow₂
          (repeat' ((fail_if_success (with_reducible show wpAny _ _ (exec (Stmt.While _ _ _ _) _) _ _ _)); (fail_if_success (with_reducible show wpAny _ _ (pyIter (Value.ref _)) (fun it s₂ => LoopAtV _ _ _ _ _ _ _ _ _ it s₂) _ _)); (fail_if_success (with_reducible show wpAny _ _ (exec (Stmt.For (Expr.Tuple _ _ _) _ _ _ _) _) _ _ _)); (fail_if_success (with_reducible show wpAny _ _ (call (Value.type "enumerate") _) _ _ _)); (first | (k_unfold; (try dsimp only)) | (k_end; wrow_close) | (first | ((with_reducible show wpAny _ _ (binaryOp Operator.Mult (Value.int _ _) (Value.int _ _)) _ _ _); (k_here; k_dflt (refine mul_int ?_ (by assumption)))) | walk1) | (dsimp only; (first | ((with_reducible show wpAny _ _ (binaryOp Operator.Mult (Value.int _ _) (Value.int _ _)) _ _ _); (k_here; k_dflt (refine mul_int ?_ (by assumption)))) | walk1)) | (leave1; walk_say "STEP leave1"; try dsimp only) | fail "no step")))
          refine TurnD.next (by k_asm) (by k_asm) ⟨_, _, _, rfl, hfi₂, hflen₂, ?_, by exact hfd₂, by exact hb₂⟩
          rw [← hrow, rowsP_step hxi, if_pos (by assumption)]
      · refine TurnD.next (by k_asm) (by k_asm) ⟨_, _, f, rfl, hfi, hflen, ?_, by exact hfd, by exact hb⟩
        rw [← hrow, rowsP_step hxi, if_neg (by omega)]
    · rintro m₁ o h tk ⟨fv, c, f, rfl, hfi, hflen, hrow, hfd, hb⟩ F₁ N₁
      rw [hpl, List.drop_length, rowsP] at hrow
      rw [← hrow] at hret
      (repeat' ((fail_if_success (with_reducible show wpAny _ _ (exec (Stmt.While _ _ _ _) _) _ _ _)); (fail_if_success (with_reducible show wpAny _ _ (pyIter (Value.ref _)) (fun it s₂ => LoopAtV _ _ _ _ _ _ _ _ _ it s₂) _ _)); (fail_if_success (with_reducible show wpAny _ _ (exec (Stmt.For (Expr.Tuple _ _ _) _ _ _ _) _) _ _ _)); (fail_if_success (with_reducible show wpAny _ _ (call (Value.type "enumerate") _) _ _ _)); (first | (k_unfold; (try dsimp only)) | (k_end; wrow_close) | (first | ((with_reducible show wpAny _ _ (binaryOp Operator.Mult (Value.int _ _) (Value.int _ _)) _ _ _); (k_here; k_dflt (refine mul_int ?_ (by assumption)))) | walk1) | (dsimp only; (first | ((with_reducible show wpAny _ _ (binaryOp Operator.Mult (Value.int _ _) (Value.int _ _)) _ _ _); (k_here; k_dflt (refine mul_int ?_ (by assumption)))) | walk1)) | (leave1; walk_say "STEP leave1"; try dsimp only) | fail "no step")))
      exact hret _ _ _ _ (by k_asm) (by k_asm) (opoly (by walk_at "mine sub") (by k_mem) (by (first | assumption | exact IntsAre.nil | exact IntsAre.cons _ _ .nil)) (by (first | exact fun q hq => (by assumption : ∀ q ∈ _, q.1 ≠ _) q (by k_mem) | exact off1_mem (by assumption) | exact off1_mem (And.right (by assumption)) | exact allLt_ne (by assumption) | exact allLt_ne (And.right (by assumption)) | exact allLt_ne (And.right (And.right (by assumption))) | exact allLt_ne (And.right (And.right (And.right (by assumption)))) | exact allLt_ne (And.right (And.right (And.right (And.right (by assumption))))) | exact off1_mem (And.right (And.right (by assumption))) | exact off1_mem (And.right (And.right (And.right (by assumption)))) | exact lt_ne (by assumption))))

end
section
open Builtin.Int (intBits)
theorem log2_of_bits {x : Int} {m : Nat} (h : intBits x ≤ m) (hm : 0 < m) : x.natAbs.log2 < m := by
  have h1 := intBits_le_iff.mp h
  by_cases h0 : x.natAbs = 0
  · rw [h0]; simpa using hm
  · exact (Nat.log2_lt h0).mpr h1
theorem leadP_eq (xs : List Int) (h : 0 < (xs.length : Int)) : leadP xs = xs.getD (-1 + (xs.length : Int)).toNat 0 := (getLastD_eq xs h).symm
/-- what stands at the loop's test -/
noncomputable def JExact (pb : Addr) (xs ys q : List Int) (news : List (Addr × Obj)) (M : Nat) (n : Nat) (m₁ : Str → Option Value) (news₁ : List (Addr × Obj)) : Prop := ∃ rest found pr pf, m₁ (Str.ofString "rest") = some (.ref pr) ∧ m₁ (Str.ofString "found") = some (.ref pf) ∧ m₁ (Str.ofString "b") = some (.ref pb)
      ∧ Poly news₁ pr rest ∧ Poly news₁ pf found ∧ Sub news news₁ ∧ (∀ q ∈ news, q.1 ≠ pf) ∧ pf ≠ pr ∧ exactLoop ys n rest found = some q ∧ rest.length ≤ xs.length ∧ found.length = xs.length + 1 - ys.length ∧ n ≤ xs.length + 1 - ys.length
      ∧ Bd (M + (xs.length + 1 - ys.length - n) * (M + 1)) rest
set_option maxHeartbeats 8000000 in
theorem t_zexact (w : World) (mean : ExcName → Option Value) (mg mb : Str → Option Value) (xs ys q : List Int) (hl : xs.length < 50) (hl' : ys.length < 50) (h0 : ys ≠ []) (hl0 : leadP ys ≠ 0) (M : Nat) (hM : M ≤ 8000) (hx : Bd M xs) (hy : Bd M ys) (hq : exactP xs ys = some q) : Ct w mean mg mb 143 4 (R2 xs ys) (OPoly q) := by
  have hyl : 0 < ys.length := List.length_pos_iff.mpr h0
  have hyl' : (0 : Int) < ys.length := by omega
  have hlg : (ys.getD (-1 + (ys.length : Int)).toNat 0).natAbs.log2 < 9000 := by rw [getLastD_eq ys hyl']; exact Nat.lt_of_lt_of_le (log2_of_bits (Nat.le_trans (Bd.lead hy) hM) (by omega)) (by omega)
  have hlz : ys.getD (-1 + (ys.length : Int)).toNat 0 ≠ 0 := by rw [getLastD_eq ys hyl']; exact hl0
  w_top off; unfold Ct PR VW LS KF; k_fill; intro dp un gd cn cs a ccd cl outer A₀ base h₀ L m news s vs Q E B F X N T hk hR hd hu hret
  obtain ⟨pa, pb, rfl, ⟨pv, pn, hpm, hpi⟩, ⟨qv, qn, hqm, hqi⟩⟩ := hR
  have hpl := hpi.length
  have hql := hqi.length
  (refine wpAny_call ?_; k_dflt ktr_enter)
  (repeat' ((fail_if_success (with_reducible show wpAny _ _ (exec (Stmt.While _ _ _ _) _) _ _ _)); (fail_if_success (with_reducible show wpAny _ _ (pyIter (Value.ref _)) (fun it s₂ => LoopAtV _ _ _ _ _ _ _ _ _ it s₂) _ _)); (fail_if_success (with_reducible show wpAny _ _ (exec (Stmt.For (Expr.Tuple _ _ _) _ _ _ _) _) _ _ _)); (fail_if_success (with_reducible show wpAny _ _ (call (Value.type "enumerate") _) _ _ _)); (first | (k_unfold; (try dsimp only)) | (k_end; wrow_close) | (first | ((with_reducible show wpAny _ _ (call (Value.ref _) _) _ _ _); first | (k_here; (with_reducible show wpAny _ _ (call (Value.ref 98) _) _ _ _); k_dflt (refine Ct.usePolyR (R := R1k _ _) (by k_asm) (by k_asm) (by k_asm) (by k_asm) (by k_asm) (by first | exact rfl | assumption) (r1k (by k_mem) (by (first | assumption | exact IntsAre.nil | exact IntsAre.cons _ _ .nil))) (t_zraiseP _ _ _ _ _ _ (by (first | omega | ((simp only [List.length_cons, List.length_nil]); omega) | (refine Nat.lt_of_le_of_lt (scaleP_length _ _) ?_; omega) | (refine Nat.lt_of_le_of_lt (raiseP_length _ _) ?_; (try simp only [List.length_cons, List.length_nil]); omega) | (refine Nat.lt_of_le_of_lt (raiseP_length _ _) ?_; refine Nat.lt_of_le_of_lt (Nat.add_le_add_left (scaleP_length _ _) _) ?_; omega))) (by omega) (by omega)) (by ktr_room) (by ktr_units) ?_; (intro D'z us'z n'z h'z tk'z F'z N'z I'z J'z K'z; (try dsimp only); (try k_fold)))) | (k_here; (with_reducible show wpAny _ _ (call (Value.ref 91) _) _ _ _); k_dflt (refine Ct.usePolyR (R := R1k _ _) (by k_asm) (by k_asm) (by k_asm) (by k_asm) (by k_asm) (by first | exact rfl | assumption) (r1k (by k_mem) (by (first | assumption | exact IntsAre.nil | exact IntsAre.cons _ _ .nil))) (t_zscaleP _ _ _ _ _ _ (by (first | omega | ((simp only [List.length_cons, List.length_nil]); omega) | (refine Nat.lt_of_le_of_lt (scaleP_length _ _) ?_; omega) | (refine Nat.lt_of_le_of_lt (raiseP_length _ _) ?_; (try simp only [List.length_cons, List.length_nil]); omega) | (refine Nat.lt_of_le_of_lt (raiseP_length _ _) ?_; refine Nat.lt_of_le_of_lt (Nat.add_le_add_left (scaleP_length _ _) _) ?_; omega))) (by (first | exact Bd.mulOk (by assumption) (Bd.lead (by assumption)) (by omega) | exact Bd.mulOk (by assumption) (Bd.getD (by assumption) _) (by omega) | exact Bd.mulOk (by assumption) (by assumption) (by omega)))) (by ktr_room) (by ktr_units) ?_; (intro D'z us'z n'z h'z tk'z F'z N'z I'z J'z K'z; (try dsimp only); (try k_fold)))) | (k_here; (with_reducible show wpAny _ _ (call (Value.ref 86) _) _ _ _); k_dflt (refine Ct.usePolyR (R := R2 _ _) (by k_asm) (by k_asm) (by k_asm) (by k_asm) (by k_asm) (by first | exact rfl | assumption) (r2 (by k_mem) (by (first | assumption | exact IntsAre.nil | exact IntsAre.cons _ _ .nil)) (by k_mem) (by (first | assumption | exact IntsAre.nil | exact IntsAre.cons _ _ .nil))) (t_zsub _ _ _ _ _ _ (by (first | omega | ((simp only [List.length_cons, List.length_nil]); omega) | (refine Nat.lt_of_le_of_lt (scaleP_length _ _) ?_; omega) | (refine Nat.lt_of_le_of_lt (raiseP_length _ _) ?_; (try simp only [List.length_cons, List.length_nil]); omega) | (refine Nat.lt_of_le_of_lt (raiseP_length _ _) ?_; refine Nat.lt_of_le_of_lt (Nat.add_le_add_left (scaleP_length _ _) _) ?_; omega))) (by (first | omega | ((simp only [List.length_cons, List.length_nil]); omega) | (refine Nat.lt_of_le_of_lt (scaleP_length _ _) ?_; omega) | (refine Nat.lt_of_le_of_lt (raiseP_length _ _) ?_; (try simp only [List.length_cons, List.length_nil]); omega) | (refine Nat.lt_of_le_of_lt (raiseP_length _ _) ?_; refine Nat.lt_of_le_of_lt (Nat.add_le_add_left (scaleP_length _ _) _) ?_; omega)))) (by ktr_room) (by ktr_units) ?_; (intro D'z us'z n'z h'z tk'z F'z N'z I'z J'z K'z; (try dsimp only); (try k_fold)))) | (k_here; (with_reducible show wpAny _ _ (call (Value.ref 55) _) _ _ _); k_dflt (refine Ct.usePolyR (R := R1 _) (by k_asm) (by k_asm) (by k_asm) (by k_asm) (by k_asm) (by first | exact rfl | assumption) (r1 (by k_mem) (by (first | assumption | exact IntsAre.nil | exact IntsAre.cons _ _ .nil))) (t_ztrim _ _ _ _ _ (by (first | omega | ((simp only [List.length_cons, List.length_nil]); omega) | (refine Nat.lt_of_le_of_lt (scaleP_length _ _) ?_; omega) | (refine Nat.lt_of_le_of_lt (raiseP_length _ _) ?_; (try simp only [List.length_cons, List.length_nil]); omega) | (refine Nat.lt_of_le_of_lt (raiseP_length _ _) ?_; refine Nat.lt_of_le_of_lt (Nat.add_le_add_left (scaleP_length _ _) _) ?_; omega)))) (by ktr_room) (by ktr_units) ?_; (intro D'z us'z n'z h'z tk'z F'z N'z I'z J'z K'z; (try dsimp only); (try k_fold)))) | (k_here; (with_reducible show wpAny _ _ (call (Value.ref 136) _) _ _ _); k_dflt (refine Ct.useR (R := R1 _) (by k_asm) (by k_asm) (by k_asm) (by k_asm) (by k_asm) (by first | exact rfl | assumption) (r1 (by k_mem) (by (first | assumption | exact IntsAre.nil | exact IntsAre.cons _ _ .nil))) (t_check_bottom _ _ _ _ _ (by omega) (by assumption)) (by ktr_room) (by ktr_units) ?_; (intro r'z news'z h'z tk'z F'z N'z O'z; (first | (obtain ⟨hs'z, e'z⟩ := O'z; subst e'z; (have N'z := news_sub N'z hs'z); clear hs'z); (try dsimp only); (try k_fold)))))) | ((with_reducible show wpAny _ _ (binaryOp Operator.Mod (Value.int _ _) (Value.int _ _)) _ _ _); (k_here; k_dflt (refine mod_int' (by assumption) ?_))) | ((with_reducible show wpAny _ _ (binaryOp Operator.FloorDiv (Value.int _ _) (Value.int _ _)) _ _ _); (k_here; k_dflt (refine floordiv_int (by assumption) ?_ (Or.inl (PyProof.noPylong_of_log2 (by assumption)))))) | walk1) | (dsimp only; (first | ((with_reducible show wpAny _ _ (call (Value.ref _) _) _ _ _); first | (k_here; (with_reducible show wpAny _ _ (call (Value.ref 98) _) _ _ _); k_dflt (refine Ct.usePolyR (R := R1k _ _) (by k_asm) (by k_asm) (by k_asm) (by k_asm) (by k_asm) (by first | exact rfl | assumption) (r1k (by k_mem) (by (first | assumption | exact IntsAre.nil | exact IntsAre.cons _ _ .nil))) (t_zraiseP _ _ _ _ _ _ (by (first | omega | ((simp only [List.length_cons, List.length_nil]); omega) | (refine Nat.lt_of_le_of_lt (scaleP_length _ _) ?_; omega) | (refine Nat.lt_of_le_of_lt (raiseP_length _ _) ?_; (try simp only [List.length_cons, List.length_nil]); omega) | (refine Nat.lt_of_le_of_lt (raiseP_length _ _) ?_; refine Nat.lt_of_le_of_lt (Nat.add_le_add_left (scaleP_length _ _) _) ?_; omega))) (by omega) (by omega)) (by ktr_room) (by ktr_units) ?_; (intro D'z us'z n'z h'z tk'z F'z N'z I'z J'z K'z; (try dsimp only); (try k_fold)))) | (k_here; (with_reducible show wpAny _ _ (call (Value.ref 91) _) _ _ _); k_dflt (refine Ct.usePolyR (R := R1k _ _) (by k_asm) (by k_asm) (by k_asm) (by k_asm) (by k_asm) (by first | exact rfl | assumption) (r1k (by k_mem) (by (first | assumption | exact IntsAre.nil | exact IntsAre.cons _ _ .nil))) (t_zscaleP _ _ _ _ _ _ (by (first | omega | ((simp only [List.length_cons, List.length_nil]); omega) | (refine Nat.lt_of_le_of_lt (scaleP_length _ _) ?_; omega) | (refine Nat.lt_of_le_of_lt (raiseP_length _ _) ?_; (try simp only [List.length_cons, List.length_nil]); omega) | (refine Nat.lt_of_le_of_lt (raiseP_length _ _) ?_; refine Nat.lt_of_le_of_lt (Nat.add_le_add_left (scaleP_length _ _) _) ?_; omega))) (by (first | exact Bd.mulOk (by assumption) (Bd.lead (by assumption)) (by omega) | exact Bd.mulOk (by assumption) (Bd.getD (by assumption) _) (by omega) | exact Bd.mulOk (by assumption) (by assumption) (by omega)))) (by ktr_room) (by ktr_units) ?_; (intro D'z us'z n'z h'z tk'z F'z N'z I'z J'z K'z; (try dsimp only); (try k_fold)))) | (k_here; (with_reducible show wpAny _ _ (call (Value.ref 86) _) _ _ _); k_dflt (refine Ct.usePolyR (R := R2 _ _) (by k_asm) (by k_asm) (by k_asm) (by k_asm) (by k_asm) (by first | exact rfl | assumption) (r2 (by k_mem) (by (first | assumption | exact IntsAre.nil | exact IntsAre.cons _ _ .nil)) (by k_mem) (by (first | assumption | exact IntsAre.nil | exact IntsAre.cons _ _ .nil))) (t_zsub _ _ _ _ _ _ (by (first | omega | ((simp only [List.length_cons, List.length_nil]); omega) | (refine Nat.lt_of_le_of_lt (scaleP_length _ _) ?_; omega) | (refine Nat.lt_of_le_of_lt (raiseP_length _ _) ?_; (try simp only [List.length_cons, List.length_nil]); omega) | (refine Nat.lt_of_le_of_lt (raiseP_length _ _) ?_; refine Nat.lt_of_le_of_lt (Nat.add_le_add_left (scaleP_length _ _) _) ?_; omega))) (by (first | omega | ((simp only [List.length_cons, List.length_nil]); omega) | (refine Nat.lt_of_le_of_lt (scaleP_length _ _) ?_; omega) | (refine Nat.lt_of_le_of_lt (raiseP_length _ _) ?_; (try simp only [List.length_cons, List.length_nil]); omega) | (refine Nat.lt_of_le_of_lt (raiseP_length _ _) ?_; refine Nat.lt_of_le_of_lt (Nat.add_le_add_left (scaleP_length _ _) _) ?_; omega)))) (by ktr_room) (by ktr_units) ?_; (intro D'z us'z n'z h'z tk'z F'z N'z I'z J'z K'z; (try dsimp only); (try k_fold)))) | (k_here; (with_reducible show wpAny _ _ (call (Value.ref 55) _) _ _ _); k_dflt (refine Ct.usePolyR (R := R1 _) (by k_asm) (by k_asm) (by k_asm) (by k_asm) (by k_asm) (by first | exact rfl | assumption) (r1 (by k_mem) (by (first | assumption | exact IntsAre.nil | exact IntsAre.cons _ _ .nil))) (t_ztrim _ _ _ _ _ (by (first | omega | ((simp only [List.length_cons, List.length_nil]); omega) | (refine Nat.lt_of_le_of_lt (scaleP_length _ _) ?_; omega) | (refine Nat.lt_of_le_of_lt (raiseP_length _ _) ?_; (try simp only [List.length_cons, List.length_nil]); omega) | (refine Nat.lt_of_le_of_lt (raiseP_length _ _) ?_; refine Nat.lt_of_le_of_lt (Nat.add_le_add_left (scaleP_length _ _) _) ?_; omega)))) (by ktr_room) (by ktr_units) ?_; (intro D'z us'z n'z h'z tk'z F'z N'z I'z J'z K'z; (try dsimp only); (try k_fold)))) | (k_here; (with_reducible show wpAny _ _ (call (Value.ref 136) _) _ _ _); k_dflt (refine Ct.useR (R := R1 _) (by k_asm) (by k_asm) (by k_asm) (by k_asm) (by k_asm) (by first | exact rfl | assumption) (r1 (by k_mem) (by (first | assumption | exact IntsAre.nil | exact IntsAre.cons _ _ .nil))) (t_check_bottom _ _ _ _ _ (by omega) (by assumption)) (by ktr_room) (by ktr_units) ?_; (intro r'z news'z h'z tk'z F'z N'z O'z; (first | (obtain ⟨hs'z, e'z⟩ := O'z; subst e'z; (have N'z := news_sub N'z hs'z); clear hs'z); (try dsimp only); (try k_fold)))))) | ((with_reducible show wpAny _ _ (binaryOp Operator.Mod (Value.int _ _) (Value.int _ _)) _ _ _); (k_here; k_dflt (refine mod_int' (by assumption) ?_))) | ((with_reducible show wpAny _ _ (binaryOp Operator.FloorDiv (Value.int _ _) (Value.int _ _)) _ _ _); (k_here; k_dflt (refine floordiv_int (by assumption) ?_ (Or.inl (PyProof.noPylong_of_log2 (by assumption)))))) | walk1)) | (leave1; walk_say "STEP leave1"; try dsimp only) | fail "no step")))
  have hfl : ∀ n : Nat, (List.replicate n [(0 : Int)]).flatten = List.replicate n 0 := fun n => by induction n with | zero => rfl | succ n ih => rw [List.replicate_succ, List.flatten_cons, ih]; rfl
  have hsz : (if (xs.length : Int) - (ys.length : Int) + 1 > 0 then (xs.length : Int) - (ys.length : Int) + 1 else 0).toNat = xs.length + 1 - ys.length := by split <;> omega
  refine While_inv (JExact pb xs ys q news M) (n₀ := xs.length + 1 - ys.length) (by k_asm) (by k_asm) ?_ ?_ ?_
  · delta JExact
    refine ⟨xs, _, _, _, rfl, rfl, rfl, ⟨_, _, by k_mem, hpi⟩, ⟨_, _, by k_mem, (by rw [← hsz, ← hfl]; assumption)⟩, by walk_at "mine sub", by (first | exact fun q hq => (by assumption : ∀ q ∈ _, q.1 ≠ _) q (by k_mem) | exact off1_mem (by assumption) | exact off1_mem (And.right (by assumption)) | exact allLt_ne (by assumption) | exact allLt_ne (And.right (by assumption)) | exact allLt_ne (And.right (And.right (by assumption))) | exact allLt_ne (And.right (And.right (And.right (by assumption)))) | exact allLt_ne (And.right (And.right (And.right (And.right (by assumption))))) | exact off1_mem (And.right (And.right (by assumption))) | exact off1_mem (And.right (And.right (And.right (by assumption)))) | exact lt_ne (by assumption)), ?ne, hq, Nat.le_refl _, List.length_replicate, Nat.le_refl _, ?e3⟩
    case ne =>
      have h9 := (by assumption : _ < _ ∧ _ < _ ∧ AllLt _ news)
      exact Nat.ne_of_gt h9.2.1
    case e3 => rw [Nat.sub_self, Nat.zero_mul, Nat.add_zero]; exact hx
  · rintro n m₁ news₁ h₁ tk₁ F₁ N₁' ⟨rest, found, pr, pf, m1, m2, m5, ⟨rv, rn, hrm', hri⟩, ⟨fv, fn, hfm, hfi⟩, hsub', hoff, hne, hloop, hlx, hfln, hn, hbr⟩
    have N₁ := news_front N₁' hfm
    have hRne := front_ne (D := pf) (all := news₁)
    have hrm := front_mem hrm' (fun e => hne e.symm)
    have hsub := front_sub hsub' hoff
    have hqm₁ := hsub _ hqm
    generalize (news₁.filter fun p => p.1 != pf) = R at N₁ hRne hrm hsub hqm₁
    clear N₁' hrm' hsub' hfm
    have hrl := hri.length
    have hfvl := hfi.length
    have hB : M + (xs.length + 1 - ys.length - n) * (M + 1) ≤ 500000 := by
      have := Nat.mul_le_mul (by omega : xs.length + 1 - ys.length - n ≤ 51) (by omega : M + 1 ≤ 8001)
      omega
    generalize hBe : M + (xs.length + 1 - ys.length - n) * (M + 1) = Bn at hbr hB
    have hbn : ∀ z, intBits ((rest.getD (-1 + (rest.length : Int)).toNat 0).fdiv z) ≤ Bn := fun z => intBits_fdiv_le (Bd.getD hbr _)
    have hbn' := hbn (ys.getD (-1 + (ys.length : Int)).toNat 0)
    (repeat' ((fail_if_success (with_reducible show wpAny _ _ (exec (Stmt.While _ _ _ _) _) _ _ _)); (fail_if_success (with_reducible show wpAny _ _ (pyIter (Value.ref _)) (fun it s₂ => LoopAtV _ _ _ _ _ _ _ _ _ it s₂) _ _)); (fail_if_success (with_reducible show wpAny _ _ (exec (Stmt.For (Expr.Tuple _ _ _) _ _ _ _) _) _ _ _)); (fail_if_success (with_reducible show wpAny _ _ (call (Value.type "enumerate") _) _ _ _)); (first | (k_unfold; (try dsimp only)) | (k_end; wrow_close) | (first | ((with_reducible show wpAny _ _ (call (Value.ref _) _) _ _ _); first | (k_here; (with_reducible show wpAny _ _ (call (Value.ref 98) _) _ _ _); k_dflt (refine Ct.usePolyR (R := R1k _ _) (by k_asm) (by k_asm) (by k_asm) (by k_asm) (by k_asm) (by first | exact rfl | assumption) (r1k (by k_mem) (by (first | assumption | exact IntsAre.nil | exact IntsAre.cons _ _ .nil))) (t_zraiseP _ _ _ _ _ _ (by (first | omega | ((simp only [List.length_cons, List.length_nil]); omega) | (refine Nat.lt_of_le_of_lt (scaleP_length _ _) ?_; omega) | (refine Nat.lt_of_le_of_lt (raiseP_length _ _) ?_; (try simp only [List.length_cons, List.length_nil]); omega) | (refine Nat.lt_of_le_of_lt (raiseP_length _ _) ?_; refine Nat.lt_of_le_of_lt (Nat.add_le_add_left (scaleP_length _ _) _) ?_; omega))) (by omega) (by omega)) (by ktr_room) (by ktr_units) ?_; (intro D'z us'z n'z h'z tk'z F'z N'z I'z J'z K'z; (try dsimp only); (try k_fold)))) | (k_here; (with_reducible show wpAny _ _ (call (Value.ref 91) _) _ _ _); k_dflt (refine Ct.usePolyR (R := R1k _ _) (by k_asm) (by k_asm) (by k_asm) (by k_asm) (by k_asm) (by first | exact rfl | assumption) (r1k (by k_mem) (by (first | assumption | exact IntsAre.nil | exact IntsAre.cons _ _ .nil))) (t_zscaleP _ _ _ _ _ _ (by (first | omega | ((simp only [List.length_cons, List.length_nil]); omega) | (refine Nat.lt_of_le_of_lt (scaleP_length _ _) ?_; omega) | (refine Nat.lt_of_le_of_lt (raiseP_length _ _) ?_; (try simp only [List.length_cons, List.length_nil]); omega) | (refine Nat.lt_of_le_of_lt (raiseP_length _ _) ?_; refine Nat.lt_of_le_of_lt (Nat.add_le_add_left (scaleP_length _ _) _) ?_; omega))) (by (first | exact Bd.mulOk (by assumption) (Bd.lead (by assumption)) (by omega) | exact Bd.mulOk (by assumption) (Bd.getD (by assumption) _) (by omega) | exact Bd.mulOk (by assumption) (by assumption) (by omega)))) (by ktr_room) (by ktr_units) ?_; (intro D'z us'z n'z h'z tk'z F'z N'z I'z J'z K'z; (try dsimp only); (try k_fold)))) | (k_here; (with_reducible show wpAny _ _ (call (Value.ref 86) _) _ _ _); k_dflt (refine Ct.usePolyR (R := R2 _ _) (by k_asm) (by k_asm) (by k_asm) (by k_asm) (by k_asm) (by first | exact rfl | assumption) (r2 (by k_mem) (by (first | assumption | exact IntsAre.nil | exact IntsAre.cons _ _ .nil)) (by k_mem) (by (first | assumption | exact IntsAre.nil | exact IntsAre.cons _ _ .nil))) (t_zsub _ _ _ _ _ _ (by (first | omega | ((simp only [List.length_cons, List.length_nil]); omega) | (refine Nat.lt_of_le_of_lt (scaleP_length _ _) ?_; omega) | (refine Nat.lt_of_le_of_lt (raiseP_length _ _) ?_; (try simp only [List.length_cons, List.length_nil]); omega) | (refine Nat.lt_of_le_of_lt (raiseP_length _ _) ?_; refine Nat.lt_of_le_of_lt (Nat.add_le_add_left (scaleP_length _ _) _) ?_; omega))) (by (first | omega | ((simp only [List.length_cons, List.length_nil]); omega) | (refine Nat.lt_of_le_of_lt (scaleP_length _ _) ?_; omega) | (refine Nat.lt_of_le_of_lt (raiseP_length _ _) ?_; (try simp only [List.length_cons, List.length_nil]); omega) | (refine Nat.lt_of_le_of_lt (raiseP_length _ _) ?_; refine Nat.lt_of_le_of_lt (Nat.add_le_add_left (scaleP_length _ _) _) ?_; omega)))) (by ktr_room) (by ktr_units) ?_; (intro D'z us'z n'z h'z tk'z F'z N'z I'z J'z K'z; (try dsimp only); (try k_fold)))) | (k_here; (with_reducible show wpAny _ _ (call (Value.ref 55) _) _ _ _); k_dflt (refine Ct.usePolyR (R := R1 _) (by k_asm) (by k_asm) (by k_asm) (by k_asm) (by k_asm) (by first | exact rfl | assumption) (r1 (by k_mem) (by (first | assumption | exact IntsAre.nil | exact IntsAre.cons _ _ .nil))) (t_ztrim _ _ _ _ _ (by (first | omega | ((simp only [List.length_cons, List.length_nil]); omega) | (refine Nat.lt_of_le_of_lt (scaleP_length _ _) ?_; omega) | (refine Nat.lt_of_le_of_lt (raiseP_length _ _) ?_; (try simp only [List.length_cons, List.length_nil]); omega) | (refine Nat.lt_of_le_of_lt (raiseP_length _ _) ?_; refine Nat.lt_of_le_of_lt (Nat.add_le_add_left (scaleP_length _ _) _) ?_; omega)))) (by ktr_room) (by ktr_units) ?_; (intro D'z us'z n'z h'z tk'z F'z N'z I'z J'z K'z; (try dsimp only); (try k_fold)))) | (k_here; (with_reducible show wpAny _ _ (call (Value.ref 136) _) _ _ _); k_dflt (refine Ct.useR (R := R1 _) (by k_asm) (by k_asm) (by k_asm) (by k_asm) (by k_asm) (by first | exact rfl | assumption) (r1 (by k_mem) (by (first | assumption | exact IntsAre.nil | exact IntsAre.cons _ _ .nil))) (t_check_bottom _ _ _ _ _ (by omega) (by assumption)) (by ktr_room) (by ktr_units) ?_; (intro r'z news'z h'z tk'z F'z N'z O'z; (first | (obtain ⟨hs'z, e'z⟩ := O'z; subst e'z; (have N'z := news_sub N'z hs'z); clear hs'z); (try dsimp only); (try k_fold)))))) | ((with_reducible show wpAny _ _ (binaryOp Operator.Mod (Value.int _ _) (Value.int _ _)) _ _ _); (k_here; k_dflt (refine mod_int' (by assumption) ?_))) | ((with_reducible show wpAny _ _ (binaryOp Operator.FloorDiv (Value.int _ _) (Value.int _ _)) _ _ _); (k_here; k_dflt (refine floordiv_int (by assumption) ?_ (Or.inl (PyProof.noPylong_of_log2 (by assumption)))))) | walk1) | (dsimp only; (first | ((with_reducible show wpAny _ _ (call (Value.ref _) _) _ _ _); first | (k_here; (with_reducible show wpAny _ _ (call (Value.ref 98) _) _ _ _); k_dflt (refine Ct.usePolyR (R := R1k _ _) (by k_asm) (by k_asm) (by k_asm) (by k_asm) (by k_asm) (by first | exact rfl | assumption) (r1k (by k_mem) (by (first | assumption | exact IntsAre.nil | exact IntsAre.cons _ _ .nil))) (t_zraiseP _ _ _ _ _ _ (by (first | omega | ((simp only [List.length_cons, List.length_nil]); omega) | (refine Nat.lt_of_le_of_lt (scaleP_length _ _) ?_; omega) | (refine Nat.lt_of_le_of_lt (raiseP_length _ _) ?_; (try simp only [List.length_cons, List.length_nil]); omega) | (refine Nat.lt_of_le_of_lt (raiseP_length _ _) ?_; refine Nat.lt_of_le_of_lt (Nat.add_le_add_left (scaleP_length _ _) _) ?_; omega))) (by omega) (by omega)) (by ktr_room) (by ktr_units) ?_; (intro D'z us'z n'z h'z tk'z F'z N'z I'z J'z K'z; (try dsimp only); (try k_fold)))) | (k_here; (with_reducible show wpAny _ _ (call (Value.ref 91) _) _ _ _); k_dflt (refine Ct.usePolyR (R := R1k _ _) (by k_asm) (by k_asm) (by k_asm) (by k_asm) (by k_asm) (by first | exact rfl | assumption) (r1k (by k_mem) (by (first | assumption | exact IntsAre.nil | exact IntsAre.cons _ _ .nil))) (t_zscaleP _ _ _ _ _ _ (by (first | omega | ((simp only [List.length_cons, List.length_nil]); omega) | (refine Nat.lt_of_le_of_lt (scaleP_length _ _) ?_; omega) | (refine Nat.lt_of_le_of_lt (raiseP_length _ _) ?_; (try simp only [List.length_cons, List.length_nil]); omega) | (refine Nat.lt_of_le_of_lt (raiseP_length _ _) ?_; refine Nat.lt_of_le_of_lt (Nat.add_le_add_left (scaleP_length _ _) _) ?_; omega))) (by (first | exact Bd.mulOk (by assumption) (Bd.lead (by assumption)) (by omega) | exact Bd.mulOk (by assumption) (Bd.getD (by assumption) _) (by omega) | exact Bd.mulOk (by assumption) (by assumption) (by omega)))) (by ktr_room) (by ktr_units) ?_; (intro D'z us'z n'z h'z tk'z F'z N'z I'z J'z K'z; (try dsimp only); (try k_fold)))) | (k_here; (with_reducible show wpAny _ _ (call (Value.ref 86) _) _ _ _); k_dflt (refine Ct.usePolyR (R := R2 _ _) (by k_asm) (by k_asm) (by k_asm) (by k_asm) (by k_asm) (by first | exact rfl | assumption) (r2 (by k_mem) (by (first | assumption | exact IntsAre.nil | exact IntsAre.cons _ _ .nil)) (by k_mem) (by (first | assumption | exact IntsAre.nil | exact IntsAre.cons _ _ .nil))) (t_zsub _ _ _ _ _ _ (by (first | omega | ((simp only [List.length_cons, List.length_nil]); omega) | (refine Nat.lt_of_le_of_lt (scaleP_length _ _) ?_; omega) | (refine Nat.lt_of_le_of_lt (raiseP_length _ _) ?_; (try simp only [List.length_cons, List.length_nil]); omega) | (refine Nat.lt_of_le_of_lt (raiseP_length _ _) ?_; refine Nat.lt_of_le_of_lt (Nat.add_le_add_left (scaleP_length _ _) _) ?_; omega))) (by (first | omega | ((simp only [List.length_cons, List.length_nil]); omega) | (refine Nat.lt_of_le_of_lt (scaleP_length _ _) ?_; omega) | (refine Nat.lt_of_le_of_lt (raiseP_length _ _) ?_; (try simp only [List.length_cons, List.length_nil]); omega) | (refine Nat.lt_of_le_of_lt (raiseP_length _ _) ?_; refine Nat.lt_of_le_of_lt (Nat.add_le_add_left (scaleP_length _ _) _) ?_; omega)))) (by ktr_room) (by ktr_units) ?_; (intro D'z us'z n'z h'z tk'z F'z N'z I'z J'z K'z; (try dsimp only); (try k_fold)))) | (k_here; (with_reducible show wpAny _ _ (call (Value.ref 55) _) _ _ _); k_dflt (refine Ct.usePolyR (R := R1 _) (by k_asm) (by k_asm) (by k_asm) (by k_asm) (by k_asm) (by first | exact rfl | assumption) (r1 (by k_mem) (by (first | assumption | exact IntsAre.nil | exact IntsAre.cons _ _ .nil))) (t_ztrim _ _ _ _ _ (by (first | omega | ((simp only [List.length_cons, List.length_nil]); omega) | (refine Nat.lt_of_le_of_lt (scaleP_length _ _) ?_; omega) | (refine Nat.lt_of_le_of_lt (raiseP_length _ _) ?_; (try simp only [List.length_cons, List.length_nil]); omega) | (refine Nat.lt_of_le_of_lt (raiseP_length _ _) ?_; refine Nat.lt_of_le_of_lt (Nat.add_le_add_left (scaleP_length _ _) _) ?_; omega)))) (by ktr_room) (by ktr_units) ?_; (intro D'z us'z n'z h'z tk'z F'z N'z I'z J'z K'z; (try dsimp only); (try k_fold)))) | (k_here; (with_reducible show wpAny _ _ (call (Value.ref 136) _) _ _ _); k_dflt (refine Ct.useR (R := R1 _) (by k_asm) (by k_asm) (by k_asm) (by k_asm) (by k_asm) (by first | exact rfl | assumption) (r1 (by k_mem) (by (first | assumption | exact IntsAre.nil | exact IntsAre.cons _ _ .nil))) (t_check_bottom _ _ _ _ _ (by omega) (by assumption)) (by ktr_room) (by ktr_units) ?_; (intro r'z news'z h'z tk'z F'z N'z O'z; (first | (obtain ⟨hs'z, e'z⟩ := O'z; subst e'z; (have N'z := news_sub N'z hs'z); clear hs'z); (try dsimp only); (try k_fold)))))) | ((with_reducible show wpAny _ _ (binaryOp Operator.Mod (Value.int _ _) (Value.int _ _)) _ _ _); (k_here; k_dflt (refine mod_int' (by assumption) ?_))) | ((with_reducible show wpAny _ _ (binaryOp Operator.FloorDiv (Value.int _ _) (Value.int _ _)) _ _ _); (k_here; k_dflt (refine floordiv_int (by assumption) ?_ (Or.inl (PyProof.noPylong_of_log2 (by assumption)))))) | walk1)) | (leave1; walk_say "STEP leave1"; try dsimp only) | fail "no step")))
    · exfalso
      have hle : ys.length ≤ rest.length := by omega
      obtain ⟨k, rfl, hmod, _, _⟩ := exactLoop_go hle hloop
      rw [leadP_eq rest (by omega), leadP_eq ys hyl'] at hmod
      exact absurd hmod (by assumption)
    · have hle : ys.length ≤ rest.length := by omega
      obtain ⟨k, rfl, _, _, hgo⟩ := exactLoop_go hle hloop
      rw [leadP_eq rest (by omega), leadP_eq ys hyl', (by omega : ((rest.length - ys.length : Nat) : Int) = (rest.length : Int) - (ys.length : Int))] at hgo
      have e2 : ((rest.length : Int) - (ys.length : Int)).toNat = rest.length - ys.length := by omega
      refine WhileStep.intro (n' := k) (by k_asm) (by k_asm) (by omega) ?_
      delta JExact
      refine ⟨_, _, _, _, rfl, by exact m2, by exact m5, ⟨_, _, by k_mem, by assumption⟩, ⟨_, _, by k_mem, by assumption⟩, by walk_at "mine sub", hoff, ?ne, (by rw [e2]; exact hgo), ?len, ?fl, by omega, ?bd⟩
      case ne => exact (by assumption : ∀ q ∈ _, q.1 ≠ _) (pf, _) (by k_mem)
      case len =>
        refine Nat.le_trans (subP_length _ _) (Nat.max_le.mpr ⟨hlx, Nat.le_trans (raiseP_length _ _) (Nat.le_trans (Nat.add_le_add_left (scaleP_length _ _) _) ?_)⟩)
        omega
      case fl => rw [List.length_set]; exact hfln
      case bd =>
        refine Bd.mono (Bd.sub hbr (Bd.raise (Bd.scale hy hbn'))) ?_
        rw [(by omega : xs.length + 1 - ys.length - k = (xs.length + 1 - ys.length - (k + 1)) + 1), Nat.succ_mul]
        omega
    · obtain ⟨hr, hqe⟩ := exactLoop_stop (by omega) hloop
      rw [← hqe] at hret
      refine hret _ _ _ _ (by k_asm) (by k_asm) (opoly (by walk_at "mine sub") (by k_mem) (by assumption) (fun q hq => ?_))
      have hq' := hsub q hq
      exact (by assumption : ∀ q ∈ _, q.1 ≠ _) q (by k_mem)
    · exfalso
      obtain ⟨hr, hqe⟩ := exactLoop_stop (by omega) hloop
      subst hr
      simp only [List.length_nil] at *
      omega
  · with_unfolding_all passes_own

end
section
open Builtin.Int (intBits)
set_option maxHeartbeats 8000000 in
theorem t_zpseudo_rest (w : World) (mean : ExcName → Option Value) (mg mb : Str → Option Value) (xs ys : List Int) (hl : xs.length < 50) (hl' : ys.length < 50) (h0 : ys ≠ []) (M : Nat) (hM : M ≤ 90000) (hx : Bd M xs) (hy : Bd M ys) : Ct w mean mg mb 157 6 (R2 xs ys) (OPoly (premP xs ys)) := by
  w_top off; unfold Ct PR VW LS KF; k_fill; intro dp un gd cn cs a ccd cl outer A₀ base h₀ L m news s vs Q E B F X N T hk hR hd hu hret
  obtain ⟨pa, pb, rfl, ⟨pv, pn, hpm, hpi⟩, ⟨qv, qn, hqm, hqi⟩⟩ := hR
  have hpl := hpi.length
  have hql := hqi.length
  (refine wpAny_call ?_; k_dflt ktr_enter)
  (repeat' ((fail_if_success (with_reducible show wpAny _ _ (exec (Stmt.While _ _ _ _) _) _ _ _)); (fail_if_success (with_reducible show wpAny _ _ (pyIter (Value.ref _)) (fun it s₂ => LoopAtV _ _ _ _ _ _ _ _ _ it s₂) _ _)); (fail_if_success (with_reducible show wpAny _ _ (exec (Stmt.For (Expr.Tuple _ _ _) _ _ _ _) _) _ _ _)); (fail_if_success (with_reducible show wpAny _ _ (call (Value.type "enumerate") _) _ _ _)); (first | (k_unfold; (try dsimp only)) | (k_end; wrow_close) | (first | ((with_reducible show wpAny _ _ (call (Value.ref _) _) _ _ _); first | (k_here; (with_reducible show wpAny _ _ (call (Value.ref 150) _) _ _ _); k_dflt (refine Ct.useR (R := R2 _ _) (by k_asm) (by k_asm) (by k_asm) (by k_asm) (by k_asm) (by first | exact rfl | assumption) (r2 (by k_mem) (by (first | assumption | exact IntsAre.nil | exact IntsAre.cons _ _ .nil)) (by k_mem) (by (first | assumption | exact IntsAre.nil | exact IntsAre.cons _ _ .nil))) (t_pseudo _ _ _ _ _ _ (by omega) (by omega) (by assumption) _ (by assumption) (by assumption) (by assumption)) (by ktr_room) (by ktr_units) ?_; (intro r'z news'z h'z tk'z F'z N'z O'z; obtain ⟨hs'z, pt'z, pf'z, pr'z, t'z, n'z, vs'z, c'z, e'z, ht'z, hp'z, hi'z, ho'z⟩ := O'z; subst e'z; (try dsimp only); (try k_fold))))) | walk1) | (dsimp only; (first | ((with_reducible show wpAny _ _ (call (Value.ref _) _) _ _ _); first | (k_here; (with_reducible show wpAny _ _ (call (Value.ref 150) _) _ _ _); k_dflt (refine Ct.useR (R := R2 _ _) (by k_asm) (by k_asm) (by k_asm) (by k_asm) (by k_asm) (by first | exact rfl | assumption) (r2 (by k_mem) (by (first | assumption | exact IntsAre.nil | exact IntsAre.cons _ _ .nil)) (by k_mem) (by (first | assumption | exact IntsAre.nil | exact IntsAre.cons _ _ .nil))) (t_pseudo _ _ _ _ _ _ (by omega) (by omega) (by assumption) _ (by assumption) (by assumption) (by assumption)) (by ktr_room) (by ktr_units) ?_; (intro r'z news'z h'z tk'z F'z N'z O'z; obtain ⟨hs'z, pt'z, pf'z, pr'z, t'z, n'z, vs'z, c'z, e'z, ht'z, hp'z, hi'z, ho'z⟩ := O'z; subst e'z; (try dsimp only); (try k_fold))))) | walk1)) | (leave1; walk_say "STEP leave1"; try dsimp only) | fail "no step")))
  exact hret _ _ _ _ (by k_asm) (by k_asm) (opoly (by assumption) (by assumption) (by assumption) (by assumption))

end
section
open PyProof.Rows.LCg
section
variable {prog : Program} {w : World} {A : Around} {E : Value → Shared → Prop} {s : Shared} {h₀ : Heap} {L : Addr} {m : Str → Option Value} {env : Env}
/-- a turn of a comprehension over an enumerate of ints: the element is reckoned, the heap stays -/
noncomputable def EnTurn (prog : Program) (w : World) (A : Around) (h₀ : Heap) (L : Addr) (m : Str → Option Value) (env : Env) (elt : Expr) (a b : Str) (scope : Scope) (cl : List (Str × Addr)) (s : Shared) (vs : List Value) (g : Nat → Int → Int) : Prop :=
  ∀ (i : Nat) k tk t C oC m₂ h tkn (E' : Value → Shared → Prop), vs[i]? = some (.int k tk) → NsObj oC m₂ → m₂ a = some (.int i t) → m₂ b = some (.int k tk) → Fr h₀ L h m → News h₀ L h [(C, oC)] →
    wpAny (model prog w) A (eval elt (compEnvC scope cl C env)) (fun y s₅ => ∃ tk' t', y = .int (g i k) t' ∧ s₅ = { s with heap := h, toks := tk' }) E' { s with heap := h, toks := tkn }
noncomputable def enumG (g : Nat → Int → Int) (xs : List Int) : List Int := (List.range xs.length).map fun i => g i (xs.getD i 0)

theorem en_block {elt iter : Expr} {a b : Str} {pa pb tp : Pos} {kk : Nat} {scope : Scope} {cl : List (Str × Addr)} {pos : Pos} {s₂ : Shared} {e it ax : Addr} {vs : List Value} {xs : List Int} {c : Nat} {news : List (Addr × Obj)} {RR : Value → Addr → Result → Shared → Prop} (g : Nat → Int → Int)
    (hh : A.handled = none) (hi : IntsAre vs xs) (hsz : vs.length ≤ sizeLine) (hei : e ≠ it) (he : IsEnum s₂.heap e it 0 .none) (hit : s₂.heap.IsListIter it ax 0) (hm : (ax, listOf (List.toArray vs) c) ∈ news)
    (hcell : ∀ y ∈ scope.names, y.2 ≠ .cell) (hkind : scope.kind = .function) (hxa : scope.names.lookup a = some .local) (hxb : scope.names.lookup b = some .local) (hab : ¬ a = b)
    (F : Fr h₀ L s₂.heap m) (N : News h₀ L s₂.heap news) (hIL : L ≠ e ∧ L ≠ it) (hI₀ : h₀.get? e = none ∧ h₀.get? it = none) (off : ∀ p ∈ news, p.1 ≠ e ∧ p.1 ≠ it)
    (R : EnTurn prog w A h₀ L m env elt a b scope cl s₂ vs g)
    (hRR : ∀ D C h tk m' ys, Fr h₀ L h m → News h₀ L h ((D, lst ys) :: news) → (∀ p ∈ news, p.1 ≠ D) → h.Ns C m' → h₀.get? C = none → h₀.get? D = none → C ≠ L → D ≠ L → C ≠ D → (∀ p ∈ news, p.1 ≠ C) → IntsAre ys (enumG g xs) → RR (.ref D) C (.ok .next) { s₂ with heap := h, toks := tk }) :
    wpAny (model prog w) A (newList []) (fun acc s₃ => wpAny (model prog w) A (newFunctionEnv scope env.globals cl [] env.qual none .none (some env)) (fun cenv s₄ =>
      codeAny (model prog w) A (.compStart (.ListComp elt [⟨.Tuple [.Name a pa, .Name b pb] kk tp, iter, [], 0⟩] scope pos) 0 (.ref e) acc { cenv with scope := relabel scope env }) (RR acc cenv.locals) s₄) E s₃) E s₂ := by
  refine wpAny_newObj_type (wpAny_newFunctionEnv hcell (by intro y hy; simp at hy) (fun h₁ hns₁ hsb₁ => ?_) hkind)
  dsimp only at hns₁ hsb₁ ⊢
  generalize hH2 : s₂.heap.push { cls := .type "list", dict := none, data := .seq ([] : List Value).toArray } = H2 at hns₁ hsb₁ ⊢
  have hC : H2.objs.size = s₂.heap.objs.size + 1 := by rw [← hH2, Heap.size_push]
  have hDC : s₂.heap.objs.size ≠ H2.objs.size := by rw [hC]; exact Nat.ne_of_lt (Nat.lt_succ_self _)
  have below : ∀ b, b < s₂.heap.objs.size → b ≠ H2.objs.size ∧ b ≠ s₂.heap.objs.size := fun b hb => ⟨by rw [hC]; exact Nat.ne_of_lt (Nat.lt_succ_of_lt hb), Nat.ne_of_lt hb⟩
  have helt : e < s₂.heap.objs.size := Heap.lt_size he
  have hilt : it < s₂.heap.objs.size := by obtain ⟨_, x, _⟩ := hit; exact Heap.lt_size x
  have hals : s₂.heap.IsList ax vs.toArray := News.isList N hm
  have halt : ax < s₂.heap.objs.size := Heap.lt_size (N _ hm).1
  have old : ∀ b o, s₂.heap.get? b = some o → h₁.get? b = some o := fun b o x => hsb₁.extBut b o (below b (Heap.lt_size x)).1 (Heap.get?_push_of_some _ (hH2 ▸ Heap.get?_push_of_some _ x))
  have hacc : h₁.get? s₂.heap.objs.size = some (lst []) := hsb₁.extBut _ _ hDC (Heap.get?_push_of_some _ (hH2 ▸ Heap.get?_push_size _ rfl))
  have fresh : ∀ a, s₂.heap.objs.size ≤ a → s₂.heap.get? a = none := fun a ha => by
    cases x : s₂.heap.get? a with
    | none => rfl
    | some o' => exact absurd (Heap.lt_size x) (Nat.not_lt.mpr ha)
  have fresh₀ : ∀ a, s₂.heap.objs.size ≤ a → h₀.get? a = none := fun a ha => by
    cases x : h₀.get? a with
    | none => rfl
    | some o' => have := F.keep a o' x; rw [fresh a ha] at this; cases this
  have hD₀ : h₀.get? s₂.heap.objs.size = none := fresh₀ _ (Nat.le_refl _)
  have hC₀ : h₀.get? H2.objs.size = none := fresh₀ _ (by rw [hC]; exact Nat.le_succ _)
  have hLlt : L < s₂.heap.objs.size := F.ns.lt
  have hDL : s₂.heap.objs.size ≠ L := Ne.symm (below L hLlt).2
  have hCL : H2.objs.size ≠ L := Ne.symm (below L hLlt).1
  have hlen : vs.toArray.size = vs.length := List.size_toArray
  have hxl : vs.length = xs.length := hi.length
  have Dr := Draws.list (prog := prog) (w := w) (A := A.in1) hh it ax (off _ hm).2 vs.toArray
  have hef : e ∉ [it, ax] := fun hm' => by
    rcases List.mem_cons.mp hm' with x | hm'
    · exact hei x
    · exact (off _ hm).1 (List.mem_singleton.mp hm').symm
  have W := WalksT.enumerateD Dr e hei hef (List.mem_cons_self ..)
  rw [hlen] at W
  have offC : ∀ p ∈ news, p.1 ≠ H2.objs.size := fun p hp => (below _ (Heap.lt_size (N p hp).1)).1
  have offD : ∀ p ∈ news, p.1 ≠ s₂.heap.objs.size := fun p hp => (below _ (Heap.lt_size (N p hp).1)).2
  have hCe : e ≠ H2.objs.size := (below e helt).1
  have hDe : e ≠ s₂.heap.objs.size := (below e helt).2
  have hCi : it ≠ H2.objs.size := (below it hilt).1
  have hDi : it ≠ s₂.heap.objs.size := (below it hilt).2
  have hCa : ax ≠ H2.objs.size := (below ax halt).1
  have hDa : ax ≠ s₂.heap.objs.size := (below ax halt).2
  have loop : ∀ s₃ : Shared, s₃ = { s₂ with heap := h₁, toks := s₂.toks + ([] : List (Str × Value)).length } →
      codeAny (model prog w) A (.compLoop (.ListComp elt [⟨.Tuple [.Name a pa, .Name b pb] kk tp, iter, [], 0⟩] scope pos) 0 (.ref e) (.ref s₂.heap.objs.size) (compEnvC scope cl H2.objs.size env))
        (RR (.ref s₂.heap.objs.size) H2.objs.size) s₃ := by
    rintro s₃ rfl
    refine kcp_loop
      (fun k s' => ∃ h' tk i ys m', s' = { s₂ with heap := h', toks := tk } ∧ i ≤ vs.length ∧ k = vs.length + 1 - i ∧ ys.length = i ∧ ((∃ old, IsEnum h' e it i old) ∧ h'.IsListIter it ax i ∧ h'.IsList ax vs.toArray) ∧ Fr h₀ L h' m ∧ h'.Ns H2.objs.size m' ∧
        News h₀ L h' ((s₂.heap.objs.size, lst ys) :: news) ∧ IntsAre ys ((List.range i).map fun j => g j (xs.getD j 0))) ?_ (vs.length + 1)
      ⟨h₁, _, 0, [], _, rfl, Nat.zero_le _, rfl, rfl, ⟨⟨_, old _ _ he⟩, hit.at fun o x => old _ o x, hals.at fun o x => old _ o x⟩, F.keeps old, hns₁, fun p hp => ?_, IntsAre.nil⟩
    · rintro k s' ⟨h', tk, i, ys, m', rfl, hile, rfl, hyl, hst, F', hn', N', hys⟩
      by_cases hlt : i < vs.length
      · refine W.item i _ _ _ hlt hst fun T vals h₂ tk₂ hPt hTs hTup hMd hk₂ => ?_
        refine W.go _ _ _ i T _ _ _ hMd fun h₃ hst₃ hk₃ => ?_
        obtain ⟨t, x, hx, rfl⟩ := hPt
        have hTup₃ : h₃.IsTuple T #[.int i t, x] := by
          obtain ⟨oT, hoT, rT⟩ := hTup
          exact ⟨oT, hk₃ T oT (W.apart _ _ _ hMd) hoT, rT⟩
        have up₃ : ∀ c o, c ≠ e → c ≠ it → h'.get? c = some o → h₃.get? c = some o := fun c o h1 h2 y => hk₃ c o (by simp [h1, h2]) (hk₂ c o (by simp [h1, h2]) y)
        refine kcp_assign (env := compEnvC scope cl H2.objs.size env) hh hTup₃ (lookup_relabel_local hxa) (lookup_relabel_local hxb) (by simp [compEnvC, relabel, hkind]) (hn'.at' fun o y => up₃ _ o (Ne.symm hCe) (Ne.symm hCi) y) fun h₄ tk₄ hn₄ hs₄ => ?_
        have up : ∀ c o, c ≠ e → c ≠ it → c ≠ H2.objs.size → h'.get? c = some o → h₄.get? c = some o := fun c o h1 h2 h3 y => hs₄ c o h3 (up₃ c o h1 h2 y)
        have hst₄ : (∃ old, IsEnum h₄ e it ((i + 1 : Nat) : Int) old) ∧ h₄.IsListIter it ax (i + 1) ∧ h₄.IsList ax vs.toArray := by
          obtain ⟨⟨o', q1⟩, q2, q3⟩ := hst₃
          exact ⟨⟨o', hs₄ e _ hCe q1⟩, q2.at fun o y => hs₄ it o hCi y, q3.at fun o y => hs₄ ax o hCa y⟩
        obtain ⟨oC, heC, hoC⟩ := ns_obj hn₄
        have F₄ : Fr h₀ L h₄ m := ⟨F'.ns.at' fun o y => up _ o hIL.1 hIL.2 (Ne.symm hCL) y, fun c o y => up c o (fun q => by rw [q, hI₀.1] at y; cases y) (fun q => by rw [q, hI₀.2] at y; cases y) (fun q => by rw [q, hC₀] at y; cases y) (F'.keep c o y), F'.above⟩
        have N₄ : News h₀ L h₄ ((s₂.heap.objs.size, lst ys) :: news) := fun q hq => by
          have z := N' q hq
          refine ⟨up _ _ ?_ ?_ ?_ z.1, z.2⟩
          · rcases List.mem_cons.mp hq with rfl | hq
            · exact Ne.symm hDe
            · exact (off q hq).1
          · rcases List.mem_cons.mp hq with rfl | hq
            · exact Ne.symm hDi
            · exact (off q hq).2
          · rcases List.mem_cons.mp hq with rfl | hq
            · exact hDC
            · exact offC q hq
        have hx' : vs[i]? = some x := by simpa using hx
        obtain ⟨kx, tx, rfl, hkx⟩ := IntsAre.at hi i x hx'
        refine wpAny_mono (R i kx tx t H2.objs.size oC _ h₄ _ _ hx' hoC (by simp [hab]) (by simp) F₄ (fun q hq => by rw [List.mem_singleton.mp hq]; exact ⟨heC, hCL, hC₀⟩)) (fun y s₅ h₅ => ?_) fun _ _ e => e
        obtain ⟨tk₅, t₅, rfl, rfl⟩ := h₅
        have zD := (N₄ (s₂.heap.objs.size, lst ys) List.mem_cons_self).1
        refine append_at (hsz := by show ys.toArray.size ≤ sizeLine; rw [List.size_toArray, hyl]; exact Nat.le_trans hile hsz) zD fun h₆ hs₆ hD₆ => ?_
        refine ⟨vs.length + 1 - (i + 1), by omega, h₆, tk₅, i + 1, ys ++ [.int (g i kx) t₅], _, rfl, hlt, rfl, by rw [List.length_append, List.length_singleton, hyl], ?_, F₄.change hs₆ hDL hD₀, hn₄.sameBut hs₆ (Ne.symm hDC), fun q hq => ?_, ?_⟩
        · obtain ⟨⟨o', q1⟩, q2, q3⟩ := hst₄
          exact ⟨⟨o', hs₆.extBut e _ hDe q1⟩, q2.at fun o y => hs₆.extBut it o hDi y, q3.at fun o y => hs₆.extBut ax o hDa y⟩
        · rcases List.mem_cons.mp hq with rfl | hq
          · exact ⟨hD₆.trans (congrArg some (lst_snoc ys _)), hDL, hD₀⟩
          · exact ⟨hs₆.extBut _ _ (offD q hq) (N₄ q (List.mem_cons_of_mem _ hq)).1, (N₄ q (List.mem_cons_of_mem _ hq)).2⟩
        · rw [List.range_succ, List.map_append]
          have : xs.getD i 0 = kx := by rw [List.getD_eq_getElem?_getD, hkx]; rfl
          rw [List.map_cons, List.map_nil, this]
          exact IntsAre.append hys (.cons (g i kx) t₅ .nil)
      · have hin : i = vs.length := Nat.le_antisymm hile (Nat.not_lt.mp hlt)
        subst hin
        refine W.done _ _ _ hst fun h₂ tk₂ hk₂ => ?_
        have up₂ : ∀ c o, c ≠ e → c ≠ it → h'.get? c = some o → h₂.get? c = some o := fun c o h1 h2 y => hk₂ c o (by simp [h1, h2]) y
        refine hRR _ _ h₂ tk₂ _ ys ⟨F'.ns.at' fun o y => up₂ _ o hIL.1 hIL.2 y, fun c o y => up₂ c o (fun q => by rw [q, hI₀.1] at y; cases y) (fun q => by rw [q, hI₀.2] at y; cases y) (F'.keep c o y), F'.above⟩
          (fun q hq => ?_) offD (hn'.at' fun o y => up₂ _ o (Ne.symm hCe) (Ne.symm hCi) y) hC₀ hD₀ hCL hDL (Ne.symm hDC) offC (by rw [enumG, ← hxl]; exact hys)
        have z := N' q hq
        refine ⟨up₂ _ _ ?_ ?_ z.1, z.2⟩
        · rcases List.mem_cons.mp hq with rfl | hq
          · exact Ne.symm hDe
          · exact (off q hq).1
        · rcases List.mem_cons.mp hq with rfl | hq
          · exact Ne.symm hDi
          · exact (off q hq).2
    · rcases List.mem_cons.mp hp with rfl | hp
      · exact ⟨hacc, hDL, hD₀⟩
      · exact ⟨old _ _ (N p hp).1, (N p hp).2⟩
  exact codeAny_compStart_list (loop _ rfl) (wpAny_pyIter_enum (old _ _ he) (loop _ rfl))

/-- what is asked of an enumerate that a comprehension takes -/
noncomputable def EnSrc (prog : Program) (w : World) (A : Around) (h₀ : Heap) (L : Addr) (m : Str → Option Value) (env : Env) (elt : Expr) (a b : Str) (scope : Scope) (cl : List (Str × Addr)) (g : Nat → Int → Int) (Q : Value → Shared → Prop) (xv : Value) (s₁ : Shared) : Prop :=
  ∃ e it ax vs xs c news, xv = .ref e ∧ e ≠ it ∧ IntsAre vs xs ∧ vs.length ≤ sizeLine ∧ IsEnum s₁.heap e it 0 .none ∧ s₁.heap.IsListIter it ax 0 ∧ (ax, listOf (List.toArray vs) c) ∈ news ∧ Fr h₀ L s₁.heap m ∧ News h₀ L s₁.heap news ∧ (L ≠ e ∧ L ≠ it) ∧ (h₀.get? e = none ∧ h₀.get? it = none) ∧ (∀ p ∈ news, p.1 ≠ e ∧ p.1 ≠ it)
    ∧ EnTurn prog w A h₀ L m env elt a b scope cl s₁ vs g
    ∧ ∀ D ys h tk, Fr h₀ L h m → News h₀ L h ((D, lst ys) :: news) → (∀ p ∈ news, p.1 ≠ D) → IntsAre ys (enumG g xs) → Q (.ref D) { s₁ with heap := h, toks := tk }

theorem ListComp_en {elt iter : Expr} {a b : Str} {pa pb tp : Pos} {kk : Nat} {scope : Scope} {cl : List (Str × Addr)} {pos : Pos} {Q : Value → Shared → Prop} (g : Nat → Int → Int) (_F₀ : Fr h₀ L s.heap m) (hh : A.handled = none)
    (hclos : closureFor scope env = pure cl) (hcell : ∀ y ∈ scope.names, y.2 ≠ .cell) (hkind : scope.kind = .function)
    (hnames : ∀ y ∈ scope.names, y.2 = .local → scope.names.lookup y.1 = some .local) (hxa : scope.names.lookup a = some .local) (hxb : scope.names.lookup b = some .local) (hab : ¬ a = b)
    (h : wpAny (model prog w) A (eval iter env) (EnSrc prog w A h₀ L m env elt a b scope cl g Q) E s)
    (hs : ∀ x, foldedSetIterable iter env x = pure x) :
    wpAny (model prog w) A (eval (.ListComp elt [⟨.Tuple [.Name a pa, .Name b pb] kk tp, iter, [], 0⟩] scope pos) env) Q E s := by
  rw [eval_ListComp]
  refine wpAny_comprehension_free (use := none) rfl hs hclos hkind hnames (wpAny_mono h (fun xv s₁ h₁ => ?_) fun _ _ e => e)
  obtain ⟨e, it, ax, vs, xs, c, news, rfl, hei, hi, hsz, he, hit, hm, F, N, hIL, hI₀, off, R, fin⟩ := h₁
  refine wpAny_pyIter_enum he ?_
  refine en_block g hh hi hsz hei he hit hm hcell hkind hxa hxb hab F N hIL hI₀ off R ?_
  intro D C h tk m' ys F' N' o1 hn hC₀ hD₀ hCL hDL hCD offC hys
  refine ⟨m', hn, fun h'' hs'' => fin D ys h'' tk (F'.change hs'' hCL hC₀) (fun p hp => ?_) o1 hys⟩
  refine ⟨hs''.extBut _ _ ?_ (N' p hp).1, (N' p hp).2⟩
  rcases List.mem_cons.mp hp with rfl | hp
  · exact Ne.symm hCD
  · exact offC p hp

theorem en_call {elt : Expr} {a b : Str} {scope : Scope} {cl : List (Str × Addr)} {g : Nat → Int → Int} {Q : Value → Shared → Prop} {ax : Addr} {vs : List Value} {xs : List Int} {c : Nat} {news : List (Addr × Obj)}
    (F : Fr h₀ L s.heap m) (N : News h₀ L s.heap news) (hm : (ax, listOf (List.toArray vs) c) ∈ news) (hi : IntsAre vs xs) (hsz : vs.length ≤ sizeLine)
    (R : ∀ h', EnTurn prog w A h₀ L m env elt a b scope cl { s with heap := h' } vs g)
    (fin : ∀ D ys h tk, Fr h₀ L h m → News h₀ L h ((D, lst ys) :: news) → (∀ p ∈ news, p.1 ≠ D) → IntsAre ys (enumG g xs) → Q (.ref D) { s with heap := h, toks := tk }) :
    wpAny (model prog w) A (call (.type "enumerate") [.ref ax]) (EnSrc prog w A h₀ L m env elt a b scope cl g Q) E s := by
  have hls : s.heap.IsList ax vs.toArray := News.isList N hm
  have hLs : L < s.heap.objs.size := F.ns.lt
  have hab : h₀.objs.size ≤ L := F.above
  refine call_enumerate_list hls fun h' he hit hsz' hk => ?_
  refine ⟨_, _, ax, vs, xs, c, news, rfl, Nat.succ_ne_self _, hi, hsz, he, hit, hm, ⟨F.ns.keeps hk, fun b o e => hk b o (F.keep b o e), F.above⟩, fun p hp => ⟨hk _ _ (N p hp).1, (N p hp).2⟩, ⟨Nat.ne_of_lt (Nat.lt_succ_of_lt hLs), Nat.ne_of_lt hLs⟩,
    ⟨Heap.get?_none_of_le (Nat.le_trans hab (Nat.le_of_lt (Nat.lt_succ_of_lt hLs))), Heap.get?_none_of_le (Nat.le_trans hab (Nat.le_of_lt hLs))⟩, fun p hp => ⟨Nat.ne_of_lt (Nat.lt_succ_of_lt (Heap.lt_size (N p hp).1)), Nat.ne_of_lt (Heap.lt_size (N p hp).1)⟩, R h', fin⟩
end

end
section
open Builtin.Int (intBits)
noncomputable def deriveQ (w : List Int) : List Int := (enumG (fun i k => k * (i : Int)) w).drop 1
noncomputable def okDiv (g : List Int) : Bool := (leadP g != 0) && g.all smallI && Nat.blt g.length 50
theorem okDiv_facts {g : List Int} (h : okDiv g = true) : g ≠ [] ∧ leadP g ≠ 0 ∧ Bd 200 g ∧ g.length < 50 := by
  simp only [okDiv, Bool.and_eq_true, bne_iff_ne] at h
  obtain ⟨⟨h1, h2⟩, h3⟩ := h
  exact ⟨fun e => by subst e; exact h1 rfl, h1, smallI_Bd h2, by simpa using h3⟩
noncomputable def squareP (p : List Int) : Option (List Int) :=
  if okPrim p = true ∧ p ≠ [] then
    match zgcdP (primP p) (deriveQ (primP p)) with
    | none => none
    | some g => if okDiv g = true then exactP (primP p) g else none
  else none
theorem squareP_go {p q : List Int} (e : squareP p = some q) : okPrim p = true ∧ p ≠ [] ∧ ∃ g, zgcdP (primP p) (deriveQ (primP p)) = some g ∧ okDiv g = true ∧ exactP (primP p) g = some q := by
  by_cases c : okPrim p = true ∧ p ≠ []
  · rw [squareP, if_pos c] at e
    cases h : zgcdP (primP p) (deriveQ (primP p)) with
    | none => rw [h] at e; cases e
    | some g =>
      rw [h] at e
      simp only at e
      by_cases d : okDiv g = true
      · rw [if_pos d] at e; exact ⟨c.1, c.2, g, rfl, d, e⟩
      · rw [if_neg d] at e; cases e
  · rw [squareP, if_neg c] at e; cases e

end
section
open Builtin.Int (intBits)
noncomputable def smallP (g : List Int) : Bool := g.all smallI && Nat.blt g.length 50
theorem smallP_facts {g : List Int} (h : smallP g = true) : Bd 200 g ∧ g.length < 50 := by
  simp only [smallP, Bool.and_eq_true] at h
  exact ⟨smallI_Bd h.1, by simpa using h.2⟩
/-- one is asked: the divisor is a number -/
noncomputable def copP (a b : List Int) : Bool := match zgcdP a b with | some [_] => true | _ => false
theorem copP_facts {a b : List Int} (h : copP a b = true) : ∃ q, zgcdP a b = some q ∧ q.length = 1 := by
  unfold copP at h
  split at h
  · rename_i x e; exact ⟨_, e, rfl⟩
  · cases h
noncomputable def degI (a : List Int) : Int := (a.length : Int) - 1
/-- what the law asks of the three, in plain words -/
noncomputable def tripleOk (a b t : List Int) : Bool :=
  copP a b && copP a t && copP t b &&
  match squareP a, squareP b, squareP t with
  | some x, some y, some z => smallP x && smallP y && smallP z && (max (max (degI a) (degI b)) (degI t) == 0 || decide (max (max (degI a) (degI b)) (degI t) ≤ 0 + degI x + degI y + degI z - 1))
  | _, _, _ => false
noncomputable def threeOk (f s : List Int) : Bool :=
  match zgcdP f s with
  | none => false
  | some c => okDiv c && smallP f && smallP s &&
    match exactP f c, exactP s c with
    | some a, some b => smallP a && smallP b && smallP (addP a b) && (if addP a b = [] then (a.length == 1 && b.length == 1) else tripleOk a b (addP a b))
    | _, _ => false
theorem threeOk_go {f s : List Int} (h : threeOk f s = true) : ∃ c, zgcdP f s = some c ∧ okDiv c = true ∧ smallP f = true ∧ smallP s = true ∧ ∃ a b, exactP f c = some a ∧ exactP s c = some b ∧ smallP a = true ∧ smallP b = true ∧ smallP (addP a b) = true ∧
    ((addP a b = [] ∧ a.length = 1 ∧ b.length = 1) ∨ (addP a b ≠ [] ∧ tripleOk a b (addP a b) = true)) := by
  unfold threeOk at h
  cases hz : zgcdP f s with
  | none => rw [hz] at h; cases h
  | some c =>
    rw [hz] at h
    simp only [Bool.and_eq_true] at h
    obtain ⟨⟨⟨h1, h2⟩, h3⟩, h4⟩ := h
    cases ha : exactP f c with
    | none => rw [ha] at h4; cases h4
    | some a =>
      cases hb : exactP s c with
      | none => rw [ha, hb] at h4; cases h4
      | some b =>
        rw [ha, hb] at h4
        simp only [Bool.and_eq_true] at h4
        obtain ⟨⟨⟨h5, h6⟩, h7⟩, h8⟩ := h4
        refine ⟨c, rfl, h1, h2, h3, a, b, ha, hb, h5, h6, h7, ?_⟩
        by_cases e : addP a b = []
        · rw [if_pos e] at h8
          simp only [Bool.and_eq_true, beq_iff_eq] at h8
          exact .inl ⟨e, h8.1, h8.2⟩
        · rw [if_neg e] at h8
          exact .inr ⟨e, h8⟩
theorem tripleOk_go {a b t : List Int} (h : tripleOk a b t = true) : copP a b = true ∧ copP a t = true ∧ copP t b = true ∧ ∃ x y z, squareP a = some x ∧ squareP b = some y ∧ squareP t = some z ∧ smallP x = true ∧ smallP y = true ∧ smallP z = true ∧
    (max (max (degI a) (degI b)) (degI t) = 0 ∨ max (max (degI a) (degI b)) (degI t) ≤ 0 + degI x + degI y + degI z - 1) := by
  unfold tripleOk at h
  simp only [Bool.and_eq_true] at h
  obtain ⟨⟨⟨h1, h2⟩, h3⟩, h4⟩ := h
  refine ⟨h1, h2, h3, ?_⟩
  cases ha : squareP a with
  | none => rw [ha] at h4; cases h4
  | some x =>
    cases hb : squareP b with
    | none => rw [ha, hb] at h4; cases h4
    | some y =>
      cases hc : squareP t with
      | none => rw [ha, hb, hc] at h4; cases h4
      | some z =>
        rw [ha, hb, hc] at h4
        simp only [Bool.and_eq_true, Bool.or_eq_true, beq_iff_eq, decide_eq_true_eq] at h4
        exact ⟨x, y, z, rfl, rfl, rfl, h4.1.1.1, h4.1.1.2, h4.1.2, h4.2⟩

end
section
open PyProof.Rows.LCg
section
variable {prog : Program} {w : World} {A : Around} {E : Value → Shared → Prop} {s : Shared} {h₀ : Heap} {L : Addr} {m : Str → Option Value} {env : Env}
/-- the tuple lies in the ledger -/
noncomputable def TupAt (ax : Addr) (its : Array Value) (news : List (Addr × Obj)) : Prop := False ∨ ∃ o, (ax, o) ∈ news ∧ o.cls = .type "tuple" ∧ ∃ n, o.data = .seq its n
theorem TupAt.tup {h : Heap} {ax : Addr} {its : Array Value} {news : List (Addr × Obj)} (x : TupAt ax its news) (N : News h₀ L h news) : h.IsTuple ax its := by
  rcases x with x | ⟨o, hm, r⟩
  · exact x.elim
  · exact ⟨o, (N _ hm).1, r⟩
theorem tup_st {ax I : Addr} {its : Array Value} : ∀ i (h h' : Heap) (o : Obj) (nw : List (Addr × Obj)), (h.IsTupleIter I ax i ∧ h.IsTuple ax its) → h.get? I = some o → h'.get? I = some o → (∀ b o, h₀.get? b = some o → h'.get? b = some o) → News h₀ L h' nw → TupAt ax its nw → (h'.IsTupleIter I ax i ∧ h'.IsTuple ax its) :=
  fun i h h' o nw st e e' _ N S => ⟨by obtain ⟨o', q, r⟩ := st.1; rw [e] at q; cases q; exact ⟨o, e', r⟩, S.tup N⟩
/-- what is asked of a tuple that a comprehension takes -/
noncomputable def TupSrc (prog : Program) (w : World) (A : Around) (h₀ : Heap) (L : Addr) (m : Str → Option Value) (env : Env) (elt : Expr) (x : Str) (scope : Scope) (cl : List (Str × Addr)) (Fin : Shared → List Value → List (Addr × Obj) → Prop) (xv : Value) (s₁ : Shared) : Prop :=
  ∃ ax its news, xv = .ref ax ∧ A.handled = none ∧ Fr h₀ L s₁.heap m ∧ News h₀ L s₁.heap news ∧ TupAt ax its news ∧ its.size ≤ sizeLine ∧
    ∀ s₂ : Shared, (∃ h, s₂ = { s₁ with heap := h }) → CompRest prog w A h₀ L m env elt x scope cl s₂ (TupAt ax its) (fun i v => its[i]? = some v) (Fin s₂) its.size 0 [] news
theorem TupSrc.intro {elt : Expr} {x : Str} {scope : Scope} {cl : List (Str × Addr)} {Fin : Shared → List Value → List (Addr × Obj) → Prop} {ax : Addr} {its : Array Value} {k : Nat} {news : List (Addr × Obj)} {s₁ : Shared}
    (hh : A.handled = none) (F : Fr h₀ L s₁.heap m) (N : News h₀ L s₁.heap news) (hm : (ax, ({ cls := .type "tuple", data := .seq its k } : Obj)) ∈ news) (hsz : its.size ≤ sizeLine)
    (h : ∀ g, CompRest prog w A h₀ L m env elt x scope cl { s₁ with heap := g } (TupAt ax its) (fun i v => its[i]? = some v) (Fin { s₁ with heap := g }) its.size 0 [] news) :
    TupSrc prog w A h₀ L m env elt x scope cl Fin (.ref ax) s₁ := ⟨ax, its, news, rfl, hh, F, N, .inr ⟨_, hm, rfl, _, rfl⟩, hsz, fun _ ⟨g, e⟩ => e ▸ h g⟩
theorem ListComp_tup {elt iter : Expr} {x : Str} {px : Pos} {scope : Scope} {cl : List (Str × Addr)} {pos : Pos} {Q : Value → Shared → Prop} (_F₀ : Fr h₀ L s.heap m)
    (hclos : closureFor scope env = pure cl) (hcell : ∀ y ∈ scope.names, y.2 ≠ .cell) (hkind : scope.kind = .function)
    (hnames : ∀ y ∈ scope.names, y.2 = .local → scope.names.lookup y.1 = some .local) (hx : scope.names.lookup x = some .local)
    (h : wpAny (model prog w) A (eval iter env) (TupSrc prog w A h₀ L m env elt x scope cl (fun s₂ => FinE h₀ L m s₂ Q)) E s)
    (hs : ∀ x, foldedSetIterable iter env x = pure x := by intro _; rfl) :
    wpAny (model prog w) A (eval (.ListComp elt [⟨.Name x px, iter, [], 0⟩] scope pos) env) Q E s := by
  rw [eval_ListComp]
  refine wpAny_comprehension_free (use := none) rfl hs hclos hkind hnames (wpAny_mono h (fun xv s₁ h₁ => ?_) fun _ _ e => e)
  obtain ⟨ax, its, news, rfl, hh, F, N, S, hsz, R⟩ := h₁
  have hl := S.tup N
  have hlt : ax < s₁.heap.objs.size := by obtain ⟨_, e, _⟩ := hl; exact Heap.lt_size e
  refine wpAny_pyIter_tuple hl ?_
  have up : ∀ b o, s₁.heap.get? b = some o → (s₁.heap.push { cls := .type "tuple_iterator", data := .fields #[.ref ax, .int 0 0] }).get? b = some o := fun b o e => Heap.get?_push_of_some _ e
  refine block_U (Walks.tuple hh s₁.heap.objs.size ax (Nat.ne_of_lt hlt) its) hsz (fun i h st => by obtain ⟨o, e, _⟩ := st.1; exact ⟨o, e⟩) tup_st hcell hkind hx ⟨⟨_, Heap.get?_push_size _ rfl, rfl, rfl⟩, hl.push _⟩ (fun b hb => ?_)
    (F.keeps up) (N.grown up) (Nat.ne_of_lt F.ns.lt) (next_is_new F) (fun p hp => Nat.ne_of_lt (Heap.lt_size (N p hp).1)) S (R _ ⟨_, rfl⟩) ?_
  · show b < (s₁.heap.push _).objs.size
    rw [Heap.size_push]
    rcases List.mem_cons.mp hb with rfl | hb
    · exact Nat.lt_succ_self _
    · rw [List.mem_singleton.mp hb]; exact Nat.lt_succ_of_lt hlt
  · intro D C h tk m' ys news' F' N' o1 hn hC₀ hD₀ hCL hDL hCD offC fin
    refine ⟨m', hn, fun h'' hs'' => fin D h'' tk (F'.change hs'' hCL hC₀) (fun p hp => ?_) o1⟩
    refine ⟨hs''.extBut _ _ ?_ (N' p hp).1, (N' p hp).2⟩
    rcases List.mem_cons.mp hp with rfl | hp
    · exact Ne.symm hCD
    · exact offC p hp
theorem max_three_L {a b c : Int} {t u x : Tok} {news : List (Addr × Obj)} {Q : Value → Shared → Prop} (hh : A.handled = none) (F : Fr h₀ L s.heap m) (N : News h₀ L s.heap news)
    (h : ∀ t' h' tk, Fr h₀ L h' m → News h₀ L h' news → Q (.int (max (max a b) c) t') { s with heap := h', toks := tk }) :
    wpAny (model prog w) A (call (.builtin "max") [.int a t, .int b u, .int c x]) Q E s := by
  refine max_three_ints hh fun h' tk hk => ?_
  have key := fun tok => h tok h' tk (F.grownK hk) (N.grown hk)
  have e : max (max a b) c = (if b > a then (if c > b then c else b) else (if c > a then c else a)) := by split <;> split <;> omega
  rw [e] at key
  by_cases hba : b > a <;> by_cases hc1 : c > b <;> by_cases hc2 : c > a <;> simp only [hba, hc1, hc2, if_true, if_false] at key ⊢ <;> exact key _
end
theorem end_sub {h₀ : Heap} {L I C D : Addr} {m : Str → Option Value} {s₁ : Shared} {oI oC oD : Obj} {S : List (Addr × Obj) → Prop} {rest : Value → List (Addr × Obj) → Prop} {y : Value} {h' : Heap} {tk : Nat} {all news' : List (Addr × Obj)}
    (F : Fr h₀ L h' m) (N : News h₀ L h' all) (sub : Sub ((I, oI) :: (C, oC) :: (D, oD) :: news') all) (off : Off3 I C D news') (hS : S news') (r : rest y news') :
    CompEnd h₀ L m s₁ I oI C oC D oD S rest y { s₁ with heap := h', toks := tk } := CompEnd.intro F N news' sub off hS r

end
section
open Builtin.Int (intBits)
set_option maxHeartbeats 8000000 in
theorem t_zderive (w : World) (mean : ExcName → Option Value) (mg mb : Str → Option Value) (xs : List Int) (hl : xs.length < 1000) (M : Nat) (hM : M ≤ 90000) (hx : Bd M xs) : Ct w mean mg mb 129 1 (R1 xs) (OPoly ((enumG (fun i k => k * (i : Int)) xs).drop 1)) := by
  w_top off; unfold Ct PR VW LS KF; k_fill; intro dp un gd cn cs a ccd cl outer A₀ base h₀ L m news s vs Q E B F X N T hk hR hd hu hret
  obtain ⟨pa, rfl, pv, pn, hpm, hpi⟩ := hR
  have hpl := hpi.length
  (refine wpAny_call ?_; k_dflt ktr_enter)
  (repeat' ((fail_if_success (with_reducible show wpAny _ _ (exec (Stmt.While _ _ _ _) _) _ _ _)); (fail_if_success (with_reducible show wpAny _ _ (pyIter (Value.ref _)) (fun it s₂ => LoopAtV _ _ _ _ _ _ _ _ _ it s₂) _ _)); (fail_if_success (with_reducible show wpAny _ _ (exec (Stmt.For (Expr.Tuple _ _ _) _ _ _ _) _) _ _ _)); (fail_if_success (with_reducible show wpAny _ _ (call (Value.type "enumerate") _) _ _ _)); (first | (k_unfold; (try dsimp only)) | (k_end; wrow_close) | (first | (k_here; (with_reducible show wpAny _ _ (eval (Expr.ListComp _ [Comprehension.mk (Expr.Tuple _ _ _) _ _ _] _ _) _) _ _ _); k_dflt (refine ListComp_en (fun i k => k * (i : Int)) (by k_asm) rfl (by with_unfolding_all rfl) (by decide) (by rfl) (by decide) (by rfl) (by rfl) (by decide) ?_ (fun _ => rfl))) | ((with_reducible show wpAny _ _ (binaryOp Operator.Mult (Value.int _ _) (Value.int _ _)) _ _ _); (k_here; k_dflt (refine mul_int ?_ (by assumption)))) | walk1) | (dsimp only; (first | (k_here; (with_reducible show wpAny _ _ (eval (Expr.ListComp _ [Comprehension.mk (Expr.Tuple _ _ _) _ _ _] _ _) _) _ _ _); k_dflt (refine ListComp_en (fun i k => k * (i : Int)) (by k_asm) rfl (by with_unfolding_all rfl) (by decide) (by rfl) (by decide) (by rfl) (by rfl) (by decide) ?_ (fun _ => rfl))) | ((with_reducible show wpAny _ _ (binaryOp Operator.Mult (Value.int _ _) (Value.int _ _)) _ _ _); (k_here; k_dflt (refine mul_int ?_ (by assumption)))) | walk1)) | (leave1; walk_say "STEP leave1"; try dsimp only) | fail "no step")))
  refine en_call (by k_asm) (by k_asm) hpm hpi (by ((try simp only [List.size_toArray, sizeLine_eq]); omega)) ?_ ?_
  · intro g' i k tk t C oC m₂ h tkn E' hv hC ha hb F₁ N₁
    have hk : xs[i]? = some k := by
      obtain ⟨k', t', e, hk⟩ := IntsAre.at hpi i _ hv
      cases e; exact hk
    have hil : i < xs.length := (List.getElem?_eq_some_iff.mp hk).1
    have hmok : IntMulOk k (i : Int) := IntMulOk.of_le (hx k (List.mem_of_getElem? hk)) (intBits_cast_le (by rw [sizeLine_eq]; omega)) (by omega)
    (repeat' ((fail_if_success (with_reducible show wpAny _ _ (exec (Stmt.While _ _ _ _) _) _ _ _)); (fail_if_success (with_reducible show wpAny _ _ (pyIter (Value.ref _)) (fun it s₂ => LoopAtV _ _ _ _ _ _ _ _ _ it s₂) _ _)); (fail_if_success (with_reducible show wpAny _ _ (exec (Stmt.For (Expr.Tuple _ _ _) _ _ _ _) _) _ _ _)); (fail_if_success (with_reducible show wpAny _ _ (call (Value.type "enumerate") _) _ _ _)); (first | (k_unfold; (try dsimp only)) | (k_end; wrow_close) | (first | (k_here; (with_reducible show wpAny _ _ (eval (Expr.ListComp _ [Comprehension.mk (Expr.Tuple _ _ _) _ _ _] _ _) _) _ _ _); k_dflt (refine ListComp_en (fun i k => k * (i : Int)) (by k_asm) rfl (by with_unfolding_all rfl) (by decide) (by rfl) (by decide) (by rfl) (by rfl) (by decide) ?_ (fun _ => rfl))) | ((with_reducible show wpAny _ _ (binaryOp Operator.Mult (Value.int _ _) (Value.int _ _)) _ _ _); (k_here; k_dflt (refine mul_int ?_ (by assumption)))) | walk1) | (dsimp only; (first | (k_here; (with_reducible show wpAny _ _ (eval (Expr.ListComp _ [Comprehension.mk (Expr.Tuple _ _ _) _ _ _] _ _) _) _ _ _); k_dflt (refine ListComp_en (fun i k => k * (i : Int)) (by k_asm) rfl (by with_unfolding_all rfl) (by decide) (by rfl) (by decide) (by rfl) (by rfl) (by decide) ?_ (fun _ => rfl))) | ((with_reducible show wpAny _ _ (binaryOp Operator.Mult (Value.int _ _) (Value.int _ _)) _ _ _); (k_here; k_dflt (refine mul_int ?_ (by assumption)))) | walk1)) | (leave1; walk_say "STEP leave1"; try dsimp only) | fail "no step")))
  · intro D ys h tk F₁ N₁ hoff hI
    have hil := hI.length
    rw [enumG, List.length_map, List.length_range] at hil
    (repeat' ((fail_if_success (with_reducible show wpAny _ _ (exec (Stmt.While _ _ _ _) _) _ _ _)); (fail_if_success (with_reducible show wpAny _ _ (pyIter (Value.ref _)) (fun it s₂ => LoopAtV _ _ _ _ _ _ _ _ _ it s₂) _ _)); (fail_if_success (with_reducible show wpAny _ _ (exec (Stmt.For (Expr.Tuple _ _ _) _ _ _ _) _) _ _ _)); (fail_if_success (with_reducible show wpAny _ _ (call (Value.type "enumerate") _) _ _ _)); (first | (k_unfold; (try dsimp only)) | (k_end; wrow_close) | (first | (k_here; (with_reducible show wpAny _ _ (eval (Expr.ListComp _ [Comprehension.mk (Expr.Tuple _ _ _) _ _ _] _ _) _) _ _ _); k_dflt (refine ListComp_en (fun i k => k * (i : Int)) (by k_asm) rfl (by with_unfolding_all rfl) (by decide) (by rfl) (by decide) (by rfl) (by rfl) (by decide) ?_ (fun _ => rfl))) | ((with_reducible show wpAny _ _ (binaryOp Operator.Mult (Value.int _ _) (Value.int _ _)) _ _ _); (k_here; k_dflt (refine mul_int ?_ (by assumption)))) | walk1) | (dsimp only; (first | (k_here; (with_reducible show wpAny _ _ (eval (Expr.ListComp _ [Comprehension.mk (Expr.Tuple _ _ _) _ _ _] _ _) _) _ _ _); k_dflt (refine ListComp_en (fun i k => k * (i : Int)) (by k_asm) rfl (by with_unfolding_all rfl) (by decide) (by rfl) (by decide) (by rfl) (by rfl) (by decide) ?_ (fun _ => rfl))) | ((with_reducible show wpAny _ _ (binaryOp Operator.Mult (Value.int _ _) (Value.int _ _)) _ _ _); (k_here; k_dflt (refine mul_int ?_ (by assumption)))) | walk1)) | (leave1; walk_say "STEP leave1"; try dsimp only) | fail "no step")))
    exact hret _ _ _ _ (by k_asm) (by k_asm) (opoly (by walk_at "mine sub") (by k_mem) (by (first | assumption | exact IntsAre.nil | exact IntsAre.cons _ _ .nil)) (by (first | exact fun q hq => (by assumption : ∀ q ∈ _, q.1 ≠ _) q (by k_mem) | exact off1_mem (by assumption) | exact off1_mem (And.right (by assumption)) | exact allLt_ne (by assumption) | exact allLt_ne (And.right (by assumption)) | exact allLt_ne (And.right (And.right (by assumption))) | exact allLt_ne (And.right (And.right (And.right (by assumption)))) | exact allLt_ne (And.right (And.right (And.right (And.right (by assumption))))) | exact off1_mem (And.right (And.right (by assumption))) | exact off1_mem (And.right (And.right (And.right (by assumption)))) | exact lt_ne (by assumption))))

end
section
open Builtin.Int (intBits)
/-- what subresultants hands back: a list whose last item is the row q -/
noncomputable def ORow (q : List Int) (news news' : List (Addr × Obj)) (r : Value) : Prop := Sub news news' ∧ ∃ prow its c pl vs n, r = .ref prow ∧ (prow, listOf its c) ∈ news' ∧ its.back? = some (.ref pl) ∧ (pl, listOf (List.toArray vs) n) ∈ news' ∧ IntsAre vs q
local macro_rules | `(tactic| k_ne) => `(tactic| exact Ne.symm ((by assumption : ∀ q : Addr × Obj, q ∈ (_ : List (Addr × Obj)) → q.1 ≠ _) (_, _) (by k_mem)))
section
variable {M : Model} {A₁ : Around} {E : Value → Shared → Prop} {s : Shared} {h₀ : Heap} {L : Addr} {m : Str → Option Value}
/-- the two rows, the longer one first -/
noncomputable def JSwap (h₀ : Heap) (L : Addr) (s : Shared) (news : List (Addr × Obj)) (q : List Int) (fl : Flow) (s' : Shared) : Prop := ∃ h tk m' pa pb A B av an bv bn, fl = .next ∧ s' = { s with heap := h, toks := tk } ∧ m' (Str.ofString "a") = some (.ref pa) ∧ m' (Str.ofString "b") = some (.ref pb) ∧ Fr h₀ L h m' ∧ News h₀ L h news ∧ (pa, listOf (List.toArray av) an) ∈ news ∧ IntsAre av A ∧ (pb, listOf (List.toArray bv) bn) ∈ news ∧ IntsAre bv B ∧ chainS 10 A B 1 1 = some q ∧ Bd 200 A ∧ Bd 200 B ∧ A.length < 20 ∧ B.length ≤ A.length
theorem mono_swap {c : Sem Flow} {Q : Flow → Shared → Prop} (news : List (Addr × Obj)) (q : List Int) (_F : Fr h₀ L s.heap m) (h1 : wpAny M A₁ c (JSwap h₀ L s news q) E s)
    (h2 : ∀ h tk m' pa pb A B av an bv bn, m' (Str.ofString "a") = some (.ref pa) → m' (Str.ofString "b") = some (.ref pb) → Fr h₀ L h m' → News h₀ L h news → (pa, listOf (List.toArray av) an) ∈ news → IntsAre av A → (pb, listOf (List.toArray bv) bn) ∈ news → IntsAre bv B → chainS 10 A B 1 1 = some q → Bd 200 A → Bd 200 B → A.length < 20 → B.length ≤ A.length → Q .next { s with heap := h, toks := tk }) : wpAny M A₁ c Q E s := by
  refine wpAny_mono h1 (fun v s' hJ => ?_) fun _ _ e => e
  obtain ⟨h, tk, m', pa, pb, A, B, av, an, bv, bn, rfl, rfl, a1, a2, a3, a4, a5, a6, a7, a8, a9, b1, b2, b3, b4⟩ := hJ
  exact h2 h tk m' pa pb A B av an bv bn a1 a2 a3 a4 a5 a6 a7 a8 a9 b1 b2 b3 b4
theorem JSwap.intro {s' : Shared} {news r : List (Addr × Obj)} {q : List Int} {h : Heap} {tk : Nat} {m' : Str → Option Value} {pa pb : Addr} {A B : List Int} {av bv : List Value} {an bn : Nat} (F : Fr h₀ L h m') (ha : m' (Str.ofString "a") = some (.ref pa)) (hb : m' (Str.ofString "b") = some (.ref pb)) (N : News h₀ L h r) (k : Sub news r) (ham : (pa, listOf (List.toArray av) an) ∈ news) (hai : IntsAre av A) (hbm : (pb, listOf (List.toArray bv) bn) ∈ news) (hbi : IntsAre bv B) (hch : chainS 10 A B 1 1 = some q) (hA : Bd 200 A) (hB : Bd 200 B) (lA : A.length < 20) (lB : B.length ≤ A.length) (es : s' = { s with heap := h, toks := tk }) : JSwap h₀ L s news q .next s' :=
  ⟨h, tk, m', pa, pb, A, B, av, an, bv, bn, Eq.refl _, es, ha, hb, F, news_sub N k, ham, hai, hbm, hbi, hch, hA, hB, lA, lB⟩
end
/-- what stands at the loop's test -/
noncomputable def JSub (q : List Int) (news : List (Addr × Obj)) (n : Nat) (m₁ : Str → Option Value) (news₁ : List (Addr × Obj)) : Prop := ∃ A B pa' pb' prow its c fr h tf th pl, m₁ (Str.ofString "a") = some (.ref pa') ∧ m₁ (Str.ofString "b") = some (.ref pb') ∧ m₁ (Str.ofString "row") = some (.ref prow) ∧ m₁ (Str.ofString "front") = some (.int fr tf) ∧ m₁ (Str.ofString "height") = some (.int h th)
      ∧ Poly news₁ pa' A ∧ Poly news₁ pb' B ∧ (prow, listOf its c) ∈ news₁ ∧ its.back? = some (.ref pl) ∧ Poly news₁ pl B ∧ prow ≠ pa' ∧ prow ≠ pb' ∧ prow ≠ pl ∧ Sub news news₁ ∧ (∀ q ∈ news, q.1 ≠ prow)
      ∧ chainS n A B fr h = some q ∧ Bd 200 A ∧ Bd 200 B ∧ intBits fr ≤ 200 ∧ intBits h ≤ 200 ∧ h ≠ 0 ∧ A.length < 20 ∧ B.length ≤ A.length ∧ its.size + n ≤ 30
set_option maxHeartbeats 8000000 in
theorem t_subresultants (w : World) (mean : ExcName → Option Value) (mg mb : Str → Option Value) (xs ys q : List Int) (hl : xs.length < 20) (hl' : ys.length < 20) (hx : Bd 200 xs) (hy : Bd 200 ys) (hq : subresP xs ys = some q) : Ct w mean mg mb 171 7 (R2 xs ys) (ORow q) := by
  w_top off; unfold Ct PR VW LS KF; k_fill; intro dp un gd cn cs a ccd cl outer A₀ base h₀ L m news s vs Q E B F X N T hk hR hd hu hret
  obtain ⟨pa, pb, rfl, ⟨pv, pn, hpm, hpi⟩, ⟨qv, qn, hqm, hqi⟩⟩ := hR
  have hpl := hpi.length
  have hql := hqi.length
  (refine wpAny_call ?_; k_dflt ktr_enter)
  (repeat' ((fail_if_success (with_reducible show wpAny _ _ (exec (Stmt.If _ _ _ _) _) _ _ _)); (first | (k_unfold; (try dsimp only)) | (first | ((with_reducible show wpAny _ _ (call (Value.ref _) _) _ _ _); first | (k_here; (with_reducible show wpAny _ _ (call (Value.ref 164) _) _ _ _); k_dflt (refine Ct.useIntR (R := RIII _ _ _) (by k_asm) (by k_asm) (by k_asm) (by k_asm) (by k_asm) (by first | exact rfl | assumption) (riii) (t_next_height _ _ _ _ _ _ _ (by omega) (by omega) (by assumption) (by assumption) (by assumption) (by assumption)) (by ktr_room) (by ktr_units) ?_; (intro t'z h'z tk'z F'z N'z; (try dsimp only); (try k_fold)))) | (k_here; (with_reducible show wpAny _ _ (call (Value.ref 69) _) _ _ _); k_dflt (refine Ct.useIntR (R := R1 _) (by k_asm) (by k_asm) (by k_asm) (by k_asm) (by k_asm) (by first | exact rfl | assumption) (r1 (by k_mem) (by (first | assumption | exact IntsAre.nil | exact IntsAre.cons _ _ .nil))) (t_zleadP _ _ _ _ _ (by omega)) (by ktr_room) (by ktr_units) ?_; (intro t'z h'z tk'z F'z N'z; (try dsimp only); (try k_fold)))) | (k_here; (with_reducible show wpAny _ _ (call (Value.ref 117) _) _ _ _); k_dflt (refine Ct.usePolyR (R := R1k _ _) (by k_asm) (by k_asm) (by k_asm) (by k_asm) (by k_asm) (by first | exact rfl | assumption) (r1k (by k_mem) (by (first | assumption | exact IntsAre.nil | exact IntsAre.cons _ _ .nil))) (t_zdivided _ _ _ _ _ _ (by omega) (by assumption) (by assumption)) (by ktr_room) (by ktr_units) ?_; (intro D'z us'z n'z h'z tk'z F'z N'z I'z J'z K'z; (try dsimp only); (try k_fold)))) | (k_here; (with_reducible show wpAny _ _ (call (Value.ref 157) _) _ _ _); k_dflt (refine Ct.usePolyR (R := R2 _ _) (by k_asm) (by k_asm) (by k_asm) (by k_asm) (by k_asm) (by first | exact rfl | assumption) (r2 (by k_mem) (by (first | assumption | exact IntsAre.nil | exact IntsAre.cons _ _ .nil)) (by k_mem) (by (first | assumption | exact IntsAre.nil | exact IntsAre.cons _ _ .nil))) (t_zpseudo_rest _ _ _ _ _ _ (by omega) (by omega) (by assumption) 200 (by omega) (by assumption) (by assumption)) (by ktr_room) (by ktr_units) ?_; (intro D'z us'z n'z h'z tk'z F'z N'z I'z J'z K'z; (try dsimp only); (try k_fold))))) | ((with_reducible show WhileEnd ..); (dsimp only [WhileEnd])) | ((with_reducible show wpAny _ _ (binaryOp Operator.Mult (Value.int _ _) (Value.int _ _)) _ _ _); (k_here; k_dflt (refine mul_int ?_ (by assumption)))) | ((with_reducible show wpAny _ _ (binaryOp Operator.Pow (Value.int _ _) (Value.int _ _)) _ _ _); (k_here; k_dflt (refine pow_int (by omega) (pow_room (by assumption) (by omega) (by omega)) ?_))) | walk1) | (dsimp only; (first | ((with_reducible show wpAny _ _ (call (Value.ref _) _) _ _ _); first | (k_here; (with_reducible show wpAny _ _ (call (Value.ref 164) _) _ _ _); k_dflt (refine Ct.useIntR (R := RIII _ _ _) (by k_asm) (by k_asm) (by k_asm) (by k_asm) (by k_asm) (by first | exact rfl | assumption) (riii) (t_next_height _ _ _ _ _ _ _ (by omega) (by omega) (by assumption) (by assumption) (by assumption) (by assumption)) (by ktr_room) (by ktr_units) ?_; (intro t'z h'z tk'z F'z N'z; (try dsimp only); (try k_fold)))) | (k_here; (with_reducible show wpAny _ _ (call (Value.ref 69) _) _ _ _); k_dflt (refine Ct.useIntR (R := R1 _) (by k_asm) (by k_asm) (by k_asm) (by k_asm) (by k_asm) (by first | exact rfl | assumption) (r1 (by k_mem) (by (first | assumption | exact IntsAre.nil | exact IntsAre.cons _ _ .nil))) (t_zleadP _ _ _ _ _ (by omega)) (by ktr_room) (by ktr_units) ?_; (intro t'z h'z tk'z F'z N'z; (try dsimp only); (try k_fold)))) | (k_here; (with_reducible show wpAny _ _ (call (Value.ref 117) _) _ _ _); k_dflt (refine Ct.usePolyR (R := R1k _ _) (by k_asm) (by k_asm) (by k_asm) (by k_asm) (by k_asm) (by first | exact rfl | assumption) (r1k (by k_mem) (by (first | assumption | exact IntsAre.nil | exact IntsAre.cons _ _ .nil))) (t_zdivided _ _ _ _ _ _ (by omega) (by assumption) (by assumption)) (by ktr_room) (by ktr_units) ?_; (intro D'z us'z n'z h'z tk'z F'z N'z I'z J'z K'z; (try dsimp only); (try k_fold)))) | (k_here; (with_reducible show wpAny _ _ (call (Value.ref 157) _) _ _ _); k_dflt (refine Ct.usePolyR (R := R2 _ _) (by k_asm) (by k_asm) (by k_asm) (by k_asm) (by k_asm) (by first | exact rfl | assumption) (r2 (by k_mem) (by (first | assumption | exact IntsAre.nil | exact IntsAre.cons _ _ .nil)) (by k_mem) (by (first | assumption | exact IntsAre.nil | exact IntsAre.cons _ _ .nil))) (t_zpseudo_rest _ _ _ _ _ _ (by omega) (by omega) (by assumption) 200 (by omega) (by assumption) (by assumption)) (by ktr_room) (by ktr_units) ?_; (intro D'z us'z n'z h'z tk'z F'z N'z I'z J'z K'z; (try dsimp only); (try k_fold))))) | ((with_reducible show WhileEnd ..); (dsimp only [WhileEnd])) | ((with_reducible show wpAny _ _ (binaryOp Operator.Mult (Value.int _ _) (Value.int _ _)) _ _ _); (k_here; k_dflt (refine mul_int ?_ (by assumption)))) | ((with_reducible show wpAny _ _ (binaryOp Operator.Pow (Value.int _ _) (Value.int _ _)) _ _ _); (k_here; k_dflt (refine pow_int (by omega) (pow_room (by assumption) (by omega) (by omega)) ?_))) | walk1)) | (leave1; walk_say "STEP leave1"; try dsimp only) | fail "no step")))
  refine mono_swap news q (by k_asm) ?_ ?_
  · (repeat' ((fail_if_success (with_reducible show wpAny _ _ (exec (Stmt.While _ _ _ _) _) _ _ _)); (fail_if_success (with_reducible show wpAny _ _ (pyIter (Value.ref _)) (fun it s₂ => LoopAtV _ _ _ _ _ _ _ _ _ it s₂) _ _)); (fail_if_success (with_reducible show wpAny _ _ (exec (Stmt.For (Expr.Tuple _ _ _) _ _ _ _) _) _ _ _)); (fail_if_success (with_reducible show wpAny _ _ (call (Value.type "enumerate") _) _ _ _)); (first | (k_unfold; (try dsimp only)) | (k_end; wrow_close) | (first | ((with_reducible show wpAny _ _ (call (Value.ref _) _) _ _ _); first | (k_here; (with_reducible show wpAny _ _ (call (Value.ref 164) _) _ _ _); k_dflt (refine Ct.useIntR (R := RIII _ _ _) (by k_asm) (by k_asm) (by k_asm) (by k_asm) (by k_asm) (by first | exact rfl | assumption) (riii) (t_next_height _ _ _ _ _ _ _ (by omega) (by omega) (by assumption) (by assumption) (by assumption) (by assumption)) (by ktr_room) (by ktr_units) ?_; (intro t'z h'z tk'z F'z N'z; (try dsimp only); (try k_fold)))) | (k_here; (with_reducible show wpAny _ _ (call (Value.ref 69) _) _ _ _); k_dflt (refine Ct.useIntR (R := R1 _) (by k_asm) (by k_asm) (by k_asm) (by k_asm) (by k_asm) (by first | exact rfl | assumption) (r1 (by k_mem) (by (first | assumption | exact IntsAre.nil | exact IntsAre.cons _ _ .nil))) (t_zleadP _ _ _ _ _ (by omega)) (by ktr_room) (by ktr_units) ?_; (intro t'z h'z tk'z F'z N'z; (try dsimp only); (try k_fold)))) | (k_here; (with_reducible show wpAny _ _ (call (Value.ref 117) _) _ _ _); k_dflt (refine Ct.usePolyR (R := R1k _ _) (by k_asm) (by k_asm) (by k_asm) (by k_asm) (by k_asm) (by first | exact rfl | assumption) (r1k (by k_mem) (by (first | assumption | exact IntsAre.nil | exact IntsAre.cons _ _ .nil))) (t_zdivided _ _ _ _ _ _ (by omega) (by assumption) (by assumption)) (by ktr_room) (by ktr_units) ?_; (intro D'z us'z n'z h'z tk'z F'z N'z I'z J'z K'z; (try dsimp only); (try k_fold)))) | (k_here; (with_reducible show wpAny _ _ (call (Value.ref 157) _) _ _ _); k_dflt (refine Ct.usePolyR (R := R2 _ _) (by k_asm) (by k_asm) (by k_asm) (by k_asm) (by k_asm) (by first | exact rfl | assumption) (r2 (by k_mem) (by (first | assumption | exact IntsAre.nil | exact IntsAre.cons _ _ .nil)) (by k_mem) (by (first | assumption | exact IntsAre.nil | exact IntsAre.cons _ _ .nil))) (t_zpseudo_rest _ _ _ _ _ _ (by omega) (by omega) (by assumption) 200 (by omega) (by assumption) (by assumption)) (by ktr_room) (by ktr_units) ?_; (intro D'z us'z n'z h'z tk'z F'z N'z I'z J'z K'z; (try dsimp only); (try k_fold))))) | ((with_reducible show WhileEnd ..); (dsimp only [WhileEnd])) | ((with_reducible show wpAny _ _ (binaryOp Operator.Mult (Value.int _ _) (Value.int _ _)) _ _ _); (k_here; k_dflt (refine mul_int ?_ (by assumption)))) | ((with_reducible show wpAny _ _ (binaryOp Operator.Pow (Value.int _ _) (Value.int _ _)) _ _ _); (k_here; k_dflt (refine pow_int (by omega) (pow_room (by assumption) (by omega) (by omega)) ?_))) | walk1) | (dsimp only; (first | ((with_reducible show wpAny _ _ (call (Value.ref _) _) _ _ _); first | (k_here; (with_reducible show wpAny _ _ (call (Value.ref 164) _) _ _ _); k_dflt (refine Ct.useIntR (R := RIII _ _ _) (by k_asm) (by k_asm) (by k_asm) (by k_asm) (by k_asm) (by first | exact rfl | assumption) (riii) (t_next_height _ _ _ _ _ _ _ (by omega) (by omega) (by assumption) (by assumption) (by assumption) (by assumption)) (by ktr_room) (by ktr_units) ?_; (intro t'z h'z tk'z F'z N'z; (try dsimp only); (try k_fold)))) | (k_here; (with_reducible show wpAny _ _ (call (Value.ref 69) _) _ _ _); k_dflt (refine Ct.useIntR (R := R1 _) (by k_asm) (by k_asm) (by k_asm) (by k_asm) (by k_asm) (by first | exact rfl | assumption) (r1 (by k_mem) (by (first | assumption | exact IntsAre.nil | exact IntsAre.cons _ _ .nil))) (t_zleadP _ _ _ _ _ (by omega)) (by ktr_room) (by ktr_units) ?_; (intro t'z h'z tk'z F'z N'z; (try dsimp only); (try k_fold)))) | (k_here; (with_reducible show wpAny _ _ (call (Value.ref 117) _) _ _ _); k_dflt (refine Ct.usePolyR (R := R1k _ _) (by k_asm) (by k_asm) (by k_asm) (by k_asm) (by k_asm) (by first | exact rfl | assumption) (r1k (by k_mem) (by (first | assumption | exact IntsAre.nil | exact IntsAre.cons _ _ .nil))) (t_zdivided _ _ _ _ _ _ (by omega) (by assumption) (by assumption)) (by ktr_room) (by ktr_units) ?_; (intro D'z us'z n'z h'z tk'z F'z N'z I'z J'z K'z; (try dsimp only); (try k_fold)))) | (k_here; (with_reducible show wpAny _ _ (call (Value.ref 157) _) _ _ _); k_dflt (refine Ct.usePolyR (R := R2 _ _) (by k_asm) (by k_asm) (by k_asm) (by k_asm) (by k_asm) (by first | exact rfl | assumption) (r2 (by k_mem) (by (first | assumption | exact IntsAre.nil | exact IntsAre.cons _ _ .nil)) (by k_mem) (by (first | assumption | exact IntsAre.nil | exact IntsAre.cons _ _ .nil))) (t_zpseudo_rest _ _ _ _ _ _ (by omega) (by omega) (by assumption) 200 (by omega) (by assumption) (by assumption)) (by ktr_room) (by ktr_units) ?_; (intro D'z us'z n'z h'z tk'z F'z N'z I'z J'z K'z; (try dsimp only); (try k_fold))))) | ((with_reducible show WhileEnd ..); (dsimp only [WhileEnd])) | ((with_reducible show wpAny _ _ (binaryOp Operator.Mult (Value.int _ _) (Value.int _ _)) _ _ _); (k_here; k_dflt (refine mul_int ?_ (by assumption)))) | ((with_reducible show wpAny _ _ (binaryOp Operator.Pow (Value.int _ _) (Value.int _ _)) _ _ _); (k_here; k_dflt (refine pow_int (by omega) (pow_room (by assumption) (by omega) (by omega)) ?_))) | walk1)) | (leave1; walk_say "STEP leave1"; try dsimp only) | fail "no step")))
    all_goals first
      | exact JSwap.intro (by k_asm) (by exact rfl) (by exact rfl) (by k_asm) (by walk_at "mine sub") hqm hqi hpm hpi (by rw [subresP, if_pos (by omega)] at hq; exact hq) hy hx hl' (by omega) rfl
      | exact JSwap.intro (by k_asm) (by exact rfl) (by exact rfl) (by k_asm) (by walk_at "mine sub") hpm hpi hqm hqi (by rw [subresP, if_neg (by omega)] at hq; exact hq) hx hy hl (by omega) rfl
  · intro h₉ tk₉ m₉ pa₀ pb₀ A₀ B₀ av₀ an₀ bv₀ bn₀ ha₀ hb₀ F₉ N₉ ham₀ hai₀ hbm₀ hbi₀ hch₀ hA₀ hB₀ hlA₀ hBA₀
    clear hq hx hy hl hl' hpm hpi hqm hqi hpl hql
    have hpl := hai₀.length
    have hql := hbi₀.length
    ((try dsimp only); (try k_fold))
    (repeat' ((fail_if_success (with_reducible show wpAny _ _ (exec (Stmt.While _ _ _ _) _) _ _ _)); (fail_if_success (with_reducible show wpAny _ _ (pyIter (Value.ref _)) (fun it s₂ => LoopAtV _ _ _ _ _ _ _ _ _ it s₂) _ _)); (fail_if_success (with_reducible show wpAny _ _ (exec (Stmt.For (Expr.Tuple _ _ _) _ _ _ _) _) _ _ _)); (fail_if_success (with_reducible show wpAny _ _ (call (Value.type "enumerate") _) _ _ _)); (first | (k_unfold; (try dsimp only)) | (k_end; wrow_close) | (first | ((with_reducible show wpAny _ _ (call (Value.ref _) _) _ _ _); first | (k_here; (with_reducible show wpAny _ _ (call (Value.ref 164) _) _ _ _); k_dflt (refine Ct.useIntR (R := RIII _ _ _) (by k_asm) (by k_asm) (by k_asm) (by k_asm) (by k_asm) (by first | exact rfl | assumption) (riii) (t_next_height _ _ _ _ _ _ _ (by omega) (by omega) (by assumption) (by assumption) (by assumption) (by assumption)) (by ktr_room) (by ktr_units) ?_; (intro t'z h'z tk'z F'z N'z; (try dsimp only); (try k_fold)))) | (k_here; (with_reducible show wpAny _ _ (call (Value.ref 69) _) _ _ _); k_dflt (refine Ct.useIntR (R := R1 _) (by k_asm) (by k_asm) (by k_asm) (by k_asm) (by k_asm) (by first | exact rfl | assumption) (r1 (by k_mem) (by (first | assumption | exact IntsAre.nil | exact IntsAre.cons _ _ .nil))) (t_zleadP _ _ _ _ _ (by omega)) (by ktr_room) (by ktr_units) ?_; (intro t'z h'z tk'z F'z N'z; (try dsimp only); (try k_fold)))) | (k_here; (with_reducible show wpAny _ _ (call (Value.ref 117) _) _ _ _); k_dflt (refine Ct.usePolyR (R := R1k _ _) (by k_asm) (by k_asm) (by k_asm) (by k_asm) (by k_asm) (by first | exact rfl | assumption) (r1k (by k_mem) (by (first | assumption | exact IntsAre.nil | exact IntsAre.cons _ _ .nil))) (t_zdivided _ _ _ _ _ _ (by omega) (by assumption) (by assumption)) (by ktr_room) (by ktr_units) ?_; (intro D'z us'z n'z h'z tk'z F'z N'z I'z J'z K'z; (try dsimp only); (try k_fold)))) | (k_here; (with_reducible show wpAny _ _ (call (Value.ref 157) _) _ _ _); k_dflt (refine Ct.usePolyR (R := R2 _ _) (by k_asm) (by k_asm) (by k_asm) (by k_asm) (by k_asm) (by first | exact rfl | assumption) (r2 (by k_mem) (by (first | assumption | exact IntsAre.nil | exact IntsAre.cons _ _ .nil)) (by k_mem) (by (first | assumption | exact IntsAre.nil | exact IntsAre.cons _ _ .nil))) (t_zpseudo_rest _ _ _ _ _ _ (by omega) (by omega) (by assumption) 200 (by omega) (by assumption) (by assumption)) (by ktr_room) (by ktr_units) ?_; (intro D'z us'z n'z h'z tk'z F'z N'z I'z J'z K'z; (try dsimp only); (try k_fold))))) | ((with_reducible show WhileEnd ..); (dsimp only [WhileEnd])) | ((with_reducible show wpAny _ _ (binaryOp Operator.Mult (Value.int _ _) (Value.int _ _)) _ _ _); (k_here; k_dflt (refine mul_int ?_ (by assumption)))) | ((with_reducible show wpAny _ _ (binaryOp Operator.Pow (Value.int _ _) (Value.int _ _)) _ _ _); (k_here; k_dflt (refine pow_int (by omega) (pow_room (by assumption) (by omega) (by omega)) ?_))) | walk1) | (dsimp only; (first | ((with_reducible show wpAny _ _ (call (Value.ref _) _) _ _ _); first | (k_here; (with_reducible show wpAny _ _ (call (Value.ref 164) _) _ _ _); k_dflt (refine Ct.useIntR (R := RIII _ _ _) (by k_asm) (by k_asm) (by k_asm) (by k_asm) (by k_asm) (by first | exact rfl | assumption) (riii) (t_next_height _ _ _ _ _ _ _ (by omega) (by omega) (by assumption) (by assumption) (by assumption) (by assumption)) (by ktr_room) (by ktr_units) ?_; (intro t'z h'z tk'z F'z N'z; (try dsimp only); (try k_fold)))) | (k_here; (with_reducible show wpAny _ _ (call (Value.ref 69) _) _ _ _); k_dflt (refine Ct.useIntR (R := R1 _) (by k_asm) (by k_asm) (by k_asm) (by k_asm) (by k_asm) (by first | exact rfl | assumption) (r1 (by k_mem) (by (first | assumption | exact IntsAre.nil | exact IntsAre.cons _ _ .nil))) (t_zleadP _ _ _ _ _ (by omega)) (by ktr_room) (by ktr_units) ?_; (intro t'z h'z tk'z F'z N'z; (try dsimp only); (try k_fold)))) | (k_here; (with_reducible show wpAny _ _ (call (Value.ref 117) _) _ _ _); k_dflt (refine Ct.usePolyR (R := R1k _ _) (by k_asm) (by k_asm) (by k_asm) (by k_asm) (by k_asm) (by first | exact rfl | assumption) (r1k (by k_mem) (by (first | assumption | exact IntsAre.nil | exact IntsAre.cons _ _ .nil))) (t_zdivided _ _ _ _ _ _ (by omega) (by assumption) (by assumption)) (by ktr_room) (by ktr_units) ?_; (intro D'z us'z n'z h'z tk'z F'z N'z I'z J'z K'z; (try dsimp only); (try k_fold)))) | (k_here; (with_reducible show wpAny _ _ (call (Value.ref 157) _) _ _ _); k_dflt (refine Ct.usePolyR (R := R2 _ _) (by k_asm) (by k_asm) (by k_asm) (by k_asm) (by k_asm) (by first | exact rfl | assumption) (r2 (by k_mem) (by (first | assumption | exact IntsAre.nil | exact IntsAre.cons _ _ .nil)) (by k_mem) (by (first | assumption | exact IntsAre.nil | exact IntsAre.cons _ _ .nil))) (t_zpseudo_rest _ _ _ _ _ _ (by omega) (by omega) (by assumption) 200 (by omega) (by assumption) (by assumption)) (by ktr_room) (by ktr_units) ?_; (intro D'z us'z n'z h'z tk'z F'z N'z I'z J'z K'z; (try dsimp only); (try k_fold))))) | ((with_reducible show WhileEnd ..); (dsimp only [WhileEnd])) | ((with_reducible show wpAny _ _ (binaryOp Operator.Mult (Value.int _ _) (Value.int _ _)) _ _ _); (k_here; k_dflt (refine mul_int ?_ (by assumption)))) | ((with_reducible show wpAny _ _ (binaryOp Operator.Pow (Value.int _ _) (Value.int _ _)) _ _ _); (k_here; k_dflt (refine pow_int (by omega) (pow_room (by assumption) (by omega) (by omega)) ?_))) | walk1)) | (leave1; walk_say "STEP leave1"; try dsimp only) | fail "no step")))
    refine While_ret (JSub q news) (n₀ := 10) (by k_asm) (by k_asm) ?_ ?_ ?_
    · delta JSub
      refine ⟨A₀, B₀, _, _, _, _, _, _, _, _, _, _, by exact ha₀, by exact hb₀, rfl, rfl, rfl, ⟨_, _, by k_mem, hai₀⟩, ⟨_, _, by k_mem, hbi₀⟩, by k_mem, rfl, ⟨_, _, by k_mem, hbi₀⟩, ?n1, ?n2, ?n3, by walk_at "mine sub", ?off, hch₀, hA₀, hB₀, by decide, by decide, by decide, hlA₀, hBA₀, by show (2 : Nat) + 10 ≤ 30; omega⟩
      case off => (first | exact fun q hq => (by assumption : ∀ q ∈ _, q.1 ≠ _) q (by k_mem) | exact off1_mem (by assumption) | exact off1_mem (And.right (by assumption)) | exact allLt_ne (by assumption) | exact allLt_ne (And.right (by assumption)) | exact allLt_ne (And.right (And.right (by assumption))) | exact allLt_ne (And.right (And.right (And.right (by assumption)))) | exact allLt_ne (And.right (And.right (And.right (And.right (by assumption))))) | exact off1_mem (And.right (And.right (by assumption))) | exact off1_mem (And.right (And.right (And.right (by assumption)))) | exact lt_ne (by assumption))
      case n1 => exact fun e => (by (first | exact fun q hq => (by assumption : ∀ q ∈ _, q.1 ≠ _) q (by k_mem) | exact off1_mem (by assumption) | exact off1_mem (And.right (by assumption)) | exact allLt_ne (by assumption) | exact allLt_ne (And.right (by assumption)) | exact allLt_ne (And.right (And.right (by assumption))) | exact allLt_ne (And.right (And.right (And.right (by assumption)))) | exact allLt_ne (And.right (And.right (And.right (And.right (by assumption))))) | exact off1_mem (And.right (And.right (by assumption))) | exact off1_mem (And.right (And.right (And.right (by assumption)))) | exact lt_ne (by assumption)) : ∀ q ∈ news, q.1 ≠ _) _ ham₀ e.symm
      case n2 => exact fun e => (by (first | exact fun q hq => (by assumption : ∀ q ∈ _, q.1 ≠ _) q (by k_mem) | exact off1_mem (by assumption) | exact off1_mem (And.right (by assumption)) | exact allLt_ne (by assumption) | exact allLt_ne (And.right (by assumption)) | exact allLt_ne (And.right (And.right (by assumption))) | exact allLt_ne (And.right (And.right (And.right (by assumption)))) | exact allLt_ne (And.right (And.right (And.right (And.right (by assumption))))) | exact off1_mem (And.right (And.right (by assumption))) | exact off1_mem (And.right (And.right (And.right (by assumption)))) | exact lt_ne (by assumption)) : ∀ q ∈ news, q.1 ≠ _) _ hbm₀ e.symm
      case n3 => show (_ : Nat) ≠ _; omega
    · rintro n m₁ news₁ h₁ tk₁ F₁ N₁' ⟨A, B, pa', pb', prow, its, c, fr, h, tf, th, pl, m1, m2, m3, m4, m5, ⟨av, an, ham', hai⟩, ⟨bv, bn, hbm', hbi⟩, hrow, hlast, ⟨lv, ln, hlm', hli⟩, hna, hnb, hnl, hsub', hoff, hch, hA, hB, hfr, hh, hh0, hAl, hBA, hits⟩
      have N₁ := news_front N₁' hrow
      have hRne := front_ne (D := prow) (all := news₁)
      have ham := front_mem ham' hna.symm
      have hbm := front_mem hbm' hnb.symm
      have hlm := front_mem hlm' hnl.symm
      have hsub := front_sub hsub' hoff
      generalize (news₁.filter fun p => p.1 != prow) = R at N₁ hRne ham hbm hlm hsub
      clear N₁' ham' hbm' hlm' hsub'
      have hal := hai.length
      have hbl := hbi.length
      by_cases hb1 : B.length ≤ 1
      · have e := chainS_stop hb1 hch
        subst e
        (repeat' ((fail_if_success (with_reducible show wpAny _ _ (exec (Stmt.While _ _ _ _) _) _ _ _)); (fail_if_success (with_reducible show wpAny _ _ (pyIter (Value.ref _)) (fun it s₂ => LoopAtV _ _ _ _ _ _ _ _ _ it s₂) _ _)); (fail_if_success (with_reducible show wpAny _ _ (exec (Stmt.For (Expr.Tuple _ _ _) _ _ _ _) _) _ _ _)); (fail_if_success (with_reducible show wpAny _ _ (call (Value.type "enumerate") _) _ _ _)); (first | (k_unfold; (try dsimp only)) | (k_end; wrow_close) | (first | ((with_reducible show wpAny _ _ (call (Value.ref _) _) _ _ _); first | (k_here; (with_reducible show wpAny _ _ (call (Value.ref 164) _) _ _ _); k_dflt (refine Ct.useIntR (R := RIII _ _ _) (by k_asm) (by k_asm) (by k_asm) (by k_asm) (by k_asm) (by first | exact rfl | assumption) (riii) (t_next_height _ _ _ _ _ _ _ (by omega) (by omega) (by assumption) (by assumption) (by assumption) (by assumption)) (by ktr_room) (by ktr_units) ?_; (intro t'z h'z tk'z F'z N'z; (try dsimp only); (try k_fold)))) | (k_here; (with_reducible show wpAny _ _ (call (Value.ref 69) _) _ _ _); k_dflt (refine Ct.useIntR (R := R1 _) (by k_asm) (by k_asm) (by k_asm) (by k_asm) (by k_asm) (by first | exact rfl | assumption) (r1 (by k_mem) (by (first | assumption | exact IntsAre.nil | exact IntsAre.cons _ _ .nil))) (t_zleadP _ _ _ _ _ (by omega)) (by ktr_room) (by ktr_units) ?_; (intro t'z h'z tk'z F'z N'z; (try dsimp only); (try k_fold)))) | (k_here; (with_reducible show wpAny _ _ (call (Value.ref 117) _) _ _ _); k_dflt (refine Ct.usePolyR (R := R1k _ _) (by k_asm) (by k_asm) (by k_asm) (by k_asm) (by k_asm) (by first | exact rfl | assumption) (r1k (by k_mem) (by (first | assumption | exact IntsAre.nil | exact IntsAre.cons _ _ .nil))) (t_zdivided _ _ _ _ _ _ (by omega) (by assumption) (by assumption)) (by ktr_room) (by ktr_units) ?_; (intro D'z us'z n'z h'z tk'z F'z N'z I'z J'z K'z; (try dsimp only); (try k_fold)))) | (k_here; (with_reducible show wpAny _ _ (call (Value.ref 157) _) _ _ _); k_dflt (refine Ct.usePolyR (R := R2 _ _) (by k_asm) (by k_asm) (by k_asm) (by k_asm) (by k_asm) (by first | exact rfl | assumption) (r2 (by k_mem) (by (first | assumption | exact IntsAre.nil | exact IntsAre.cons _ _ .nil)) (by k_mem) (by (first | assumption | exact IntsAre.nil | exact IntsAre.cons _ _ .nil))) (t_zpseudo_rest _ _ _ _ _ _ (by omega) (by omega) (by assumption) 200 (by omega) (by assumption) (by assumption)) (by ktr_room) (by ktr_units) ?_; (intro D'z us'z n'z h'z tk'z F'z N'z I'z J'z K'z; (try dsimp only); (try k_fold))))) | ((with_reducible show WhileEnd ..); (dsimp only [WhileEnd])) | ((with_reducible show wpAny _ _ (binaryOp Operator.Mult (Value.int _ _) (Value.int _ _)) _ _ _); (k_here; k_dflt (refine mul_int ?_ (by assumption)))) | ((with_reducible show wpAny _ _ (binaryOp Operator.Pow (Value.int _ _) (Value.int _ _)) _ _ _); (k_here; k_dflt (refine pow_int (by omega) (pow_room (by assumption) (by omega) (by omega)) ?_))) | walk1) | (dsimp only; (first | ((with_reducible show wpAny _ _ (call (Value.ref _) _) _ _ _); first | (k_here; (with_reducible show wpAny _ _ (call (Value.ref 164) _) _ _ _); k_dflt (refine Ct.useIntR (R := RIII _ _ _) (by k_asm) (by k_asm) (by k_asm) (by k_asm) (by k_asm) (by first | exact rfl | assumption) (riii) (t_next_height _ _ _ _ _ _ _ (by omega) (by omega) (by assumption) (by assumption) (by assumption) (by assumption)) (by ktr_room) (by ktr_units) ?_; (intro t'z h'z tk'z F'z N'z; (try dsimp only); (try k_fold)))) | (k_here; (with_reducible show wpAny _ _ (call (Value.ref 69) _) _ _ _); k_dflt (refine Ct.useIntR (R := R1 _) (by k_asm) (by k_asm) (by k_asm) (by k_asm) (by k_asm) (by first | exact rfl | assumption) (r1 (by k_mem) (by (first | assumption | exact IntsAre.nil | exact IntsAre.cons _ _ .nil))) (t_zleadP _ _ _ _ _ (by omega)) (by ktr_room) (by ktr_units) ?_; (intro t'z h'z tk'z F'z N'z; (try dsimp only); (try k_fold)))) | (k_here; (with_reducible show wpAny _ _ (call (Value.ref 117) _) _ _ _); k_dflt (refine Ct.usePolyR (R := R1k _ _) (by k_asm) (by k_asm) (by k_asm) (by k_asm) (by k_asm) (by first | exact rfl | assumption) (r1k (by k_mem) (by (first | assumption | exact IntsAre.nil | exact IntsAre.cons _ _ .nil))) (t_zdivided _ _ _ _ _ _ (by omega) (by assumption) (by assumption)) (by ktr_room) (by ktr_units) ?_; (intro D'z us'z n'z h'z tk'z F'z N'z I'z J'z K'z; (try dsimp only); (try k_fold)))) | (k_here; (with_reducible show wpAny _ _ (call (Value.ref 157) _) _ _ _); k_dflt (refine Ct.usePolyR (R := R2 _ _) (by k_asm) (by k_asm) (by k_asm) (by k_asm) (by k_asm) (by first | exact rfl | assumption) (r2 (by k_mem) (by (first | assumption | exact IntsAre.nil | exact IntsAre.cons _ _ .nil)) (by k_mem) (by (first | assumption | exact IntsAre.nil | exact IntsAre.cons _ _ .nil))) (t_zpseudo_rest _ _ _ _ _ _ (by omega) (by omega) (by assumption) 200 (by omega) (by assumption) (by assumption)) (by ktr_room) (by ktr_units) ?_; (intro D'z us'z n'z h'z tk'z F'z N'z I'z J'z K'z; (try dsimp only); (try k_fold))))) | ((with_reducible show WhileEnd ..); (dsimp only [WhileEnd])) | ((with_reducible show wpAny _ _ (binaryOp Operator.Mult (Value.int _ _) (Value.int _ _)) _ _ _); (k_here; k_dflt (refine mul_int ?_ (by assumption)))) | ((with_reducible show wpAny _ _ (binaryOp Operator.Pow (Value.int _ _) (Value.int _ _)) _ _ _); (k_here; k_dflt (refine pow_int (by omega) (pow_room (by assumption) (by omega) (by omega)) ?_))) | walk1)) | (leave1; walk_say "STEP leave1"; try dsimp only) | fail "no step")))
        exact hret _ _ _ _ (by k_asm) (by k_asm) ⟨by walk_at "mine sub", _, _, _, _, _, _, rfl, by k_mem, hlast, by k_mem, hli⟩
      · have hBne : B ≠ [] := fun e => by rw [e] at hb1; exact hb1 (Nat.zero_le _)
        by_cases hr : premP A B = []
        · have e := chainS_nil hb1 hr hch
          subst e
          have hrl : (premP A B).length = 0 := by rw [hr]; rfl
          (repeat' ((fail_if_success (with_reducible show wpAny _ _ (exec (Stmt.While _ _ _ _) _) _ _ _)); (fail_if_success (with_reducible show wpAny _ _ (pyIter (Value.ref _)) (fun it s₂ => LoopAtV _ _ _ _ _ _ _ _ _ it s₂) _ _)); (fail_if_success (with_reducible show wpAny _ _ (exec (Stmt.For (Expr.Tuple _ _ _) _ _ _ _) _) _ _ _)); (fail_if_success (with_reducible show wpAny _ _ (call (Value.type "enumerate") _) _ _ _)); (first | (k_unfold; (try dsimp only)) | (k_end; wrow_close) | (first | ((with_reducible show wpAny _ _ (call (Value.ref _) _) _ _ _); first | (k_here; (with_reducible show wpAny _ _ (call (Value.ref 164) _) _ _ _); k_dflt (refine Ct.useIntR (R := RIII _ _ _) (by k_asm) (by k_asm) (by k_asm) (by k_asm) (by k_asm) (by first | exact rfl | assumption) (riii) (t_next_height _ _ _ _ _ _ _ (by omega) (by omega) (by assumption) (by assumption) (by assumption) (by assumption)) (by ktr_room) (by ktr_units) ?_; (intro t'z h'z tk'z F'z N'z; (try dsimp only); (try k_fold)))) | (k_here; (with_reducible show wpAny _ _ (call (Value.ref 69) _) _ _ _); k_dflt (refine Ct.useIntR (R := R1 _) (by k_asm) (by k_asm) (by k_asm) (by k_asm) (by k_asm) (by first | exact rfl | assumption) (r1 (by k_mem) (by (first | assumption | exact IntsAre.nil | exact IntsAre.cons _ _ .nil))) (t_zleadP _ _ _ _ _ (by omega)) (by ktr_room) (by ktr_units) ?_; (intro t'z h'z tk'z F'z N'z; (try dsimp only); (try k_fold)))) | (k_here; (with_reducible show wpAny _ _ (call (Value.ref 117) _) _ _ _); k_dflt (refine Ct.usePolyR (R := R1k _ _) (by k_asm) (by k_asm) (by k_asm) (by k_asm) (by k_asm) (by first | exact rfl | assumption) (r1k (by k_mem) (by (first | assumption | exact IntsAre.nil | exact IntsAre.cons _ _ .nil))) (t_zdivided _ _ _ _ _ _ (by omega) (by assumption) (by assumption)) (by ktr_room) (by ktr_units) ?_; (intro D'z us'z n'z h'z tk'z F'z N'z I'z J'z K'z; (try dsimp only); (try k_fold)))) | (k_here; (with_reducible show wpAny _ _ (call (Value.ref 157) _) _ _ _); k_dflt (refine Ct.usePolyR (R := R2 _ _) (by k_asm) (by k_asm) (by k_asm) (by k_asm) (by k_asm) (by first | exact rfl | assumption) (r2 (by k_mem) (by (first | assumption | exact IntsAre.nil | exact IntsAre.cons _ _ .nil)) (by k_mem) (by (first | assumption | exact IntsAre.nil | exact IntsAre.cons _ _ .nil))) (t_zpseudo_rest _ _ _ _ _ _ (by omega) (by omega) (by assumption) 200 (by omega) (by assumption) (by assumption)) (by ktr_room) (by ktr_units) ?_; (intro D'z us'z n'z h'z tk'z F'z N'z I'z J'z K'z; (try dsimp only); (try k_fold))))) | ((with_reducible show WhileEnd ..); (dsimp only [WhileEnd])) | ((with_reducible show wpAny _ _ (binaryOp Operator.Mult (Value.int _ _) (Value.int _ _)) _ _ _); (k_here; k_dflt (refine mul_int ?_ (by assumption)))) | ((with_reducible show wpAny _ _ (binaryOp Operator.Pow (Value.int _ _) (Value.int _ _)) _ _ _); (k_here; k_dflt (refine pow_int (by omega) (pow_room (by assumption) (by omega) (by omega)) ?_))) | walk1) | (dsimp only; (first | ((with_reducible show wpAny _ _ (call (Value.ref _) _) _ _ _); first | (k_here; (with_reducible show wpAny _ _ (call (Value.ref 164) _) _ _ _); k_dflt (refine Ct.useIntR (R := RIII _ _ _) (by k_asm) (by k_asm) (by k_asm) (by k_asm) (by k_asm) (by first | exact rfl | assumption) (riii) (t_next_height _ _ _ _ _ _ _ (by omega) (by omega) (by assumption) (by assumption) (by assumption) (by assumption)) (by ktr_room) (by ktr_units) ?_; (intro t'z h'z tk'z F'z N'z; (try dsimp only); (try k_fold)))) | (k_here; (with_reducible show wpAny _ _ (call (Value.ref 69) _) _ _ _); k_dflt (refine Ct.useIntR (R := R1 _) (by k_asm) (by k_asm) (by k_asm) (by k_asm) (by k_asm) (by first | exact rfl | assumption) (r1 (by k_mem) (by (first | assumption | exact IntsAre.nil | exact IntsAre.cons _ _ .nil))) (t_zleadP _ _ _ _ _ (by omega)) (by ktr_room) (by ktr_units) ?_; (intro t'z h'z tk'z F'z N'z; (try dsimp only); (try k_fold)))) | (k_here; (with_reducible show wpAny _ _ (call (Value.ref 117) _) _ _ _); k_dflt (refine Ct.usePolyR (R := R1k _ _) (by k_asm) (by k_asm) (by k_asm) (by k_asm) (by k_asm) (by first | exact rfl | assumption) (r1k (by k_mem) (by (first | assumption | exact IntsAre.nil | exact IntsAre.cons _ _ .nil))) (t_zdivided _ _ _ _ _ _ (by omega) (by assumption) (by assumption)) (by ktr_room) (by ktr_units) ?_; (intro D'z us'z n'z h'z tk'z F'z N'z I'z J'z K'z; (try dsimp only); (try k_fold)))) | (k_here; (with_reducible show wpAny _ _ (call (Value.ref 157) _) _ _ _); k_dflt (refine Ct.usePolyR (R := R2 _ _) (by k_asm) (by k_asm) (by k_asm) (by k_asm) (by k_asm) (by first | exact rfl | assumption) (r2 (by k_mem) (by (first | assumption | exact IntsAre.nil | exact IntsAre.cons _ _ .nil)) (by k_mem) (by (first | assumption | exact IntsAre.nil | exact IntsAre.cons _ _ .nil))) (t_zpseudo_rest _ _ _ _ _ _ (by omega) (by omega) (by assumption) 200 (by omega) (by assumption) (by assumption)) (by ktr_room) (by ktr_units) ?_; (intro D'z us'z n'z h'z tk'z F'z N'z I'z J'z K'z; (try dsimp only); (try k_fold))))) | ((with_reducible show WhileEnd ..); (dsimp only [WhileEnd])) | ((with_reducible show wpAny _ _ (binaryOp Operator.Mult (Value.int _ _) (Value.int _ _)) _ _ _); (k_here; k_dflt (refine mul_int ?_ (by assumption)))) | ((with_reducible show wpAny _ _ (binaryOp Operator.Pow (Value.int _ _) (Value.int _ _)) _ _ _); (k_here; k_dflt (refine pow_int (by omega) (pow_room (by assumption) (by omega) (by omega)) ?_))) | walk1)) | (leave1; walk_say "STEP leave1"; try dsimp only) | fail "no step")))
          all_goals first
            | (exfalso; omega)
            | ((try dsimp only); (repeat' ((fail_if_success (with_reducible show wpAny _ _ (exec (Stmt.While _ _ _ _) _) _ _ _)); (fail_if_success (with_reducible show wpAny _ _ (pyIter (Value.ref _)) (fun it s₂ => LoopAtV _ _ _ _ _ _ _ _ _ it s₂) _ _)); (fail_if_success (with_reducible show wpAny _ _ (exec (Stmt.For (Expr.Tuple _ _ _) _ _ _ _) _) _ _ _)); (fail_if_success (with_reducible show wpAny _ _ (call (Value.type "enumerate") _) _ _ _)); (first | (k_unfold; (try dsimp only)) | (k_end; wrow_close) | (first | ((with_reducible show wpAny _ _ (call (Value.ref _) _) _ _ _); first | (k_here; (with_reducible show wpAny _ _ (call (Value.ref 164) _) _ _ _); k_dflt (refine Ct.useIntR (R := RIII _ _ _) (by k_asm) (by k_asm) (by k_asm) (by k_asm) (by k_asm) (by first | exact rfl | assumption) (riii) (t_next_height _ _ _ _ _ _ _ (by omega) (by omega) (by assumption) (by assumption) (by assumption) (by assumption)) (by ktr_room) (by ktr_units) ?_; (intro t'z h'z tk'z F'z N'z; (try dsimp only); (try k_fold)))) | (k_here; (with_reducible show wpAny _ _ (call (Value.ref 69) _) _ _ _); k_dflt (refine Ct.useIntR (R := R1 _) (by k_asm) (by k_asm) (by k_asm) (by k_asm) (by k_asm) (by first | exact rfl | assumption) (r1 (by k_mem) (by (first | assumption | exact IntsAre.nil | exact IntsAre.cons _ _ .nil))) (t_zleadP _ _ _ _ _ (by omega)) (by ktr_room) (by ktr_units) ?_; (intro t'z h'z tk'z F'z N'z; (try dsimp only); (try k_fold)))) | (k_here; (with_reducible show wpAny _ _ (call (Value.ref 117) _) _ _ _); k_dflt (refine Ct.usePolyR (R := R1k _ _) (by k_asm) (by k_asm) (by k_asm) (by k_asm) (by k_asm) (by first | exact rfl | assumption) (r1k (by k_mem) (by (first | assumption | exact IntsAre.nil | exact IntsAre.cons _ _ .nil))) (t_zdivided _ _ _ _ _ _ (by omega) (by assumption) (by assumption)) (by ktr_room) (by ktr_units) ?_; (intro D'z us'z n'z h'z tk'z F'z N'z I'z J'z K'z; (try dsimp only); (try k_fold)))) | (k_here; (with_reducible show wpAny _ _ (call (Value.ref 157) _) _ _ _); k_dflt (refine Ct.usePolyR (R := R2 _ _) (by k_asm) (by k_asm) (by k_asm) (by k_asm) (by k_asm) (by first | exact rfl | assumption) (r2 (by k_mem) (by (first | assumption | exact IntsAre.nil | exact IntsAre.cons _ _ .nil)) (by k_mem) (by (first | assumption | exact IntsAre.nil | exact IntsAre.cons _ _ .nil))) (t_zpseudo_rest _ _ _ _ _ _ (by omega) (by omega) (by assumption) 200 (by omega) (by assumption) (by assumption)) (by ktr_room) (by ktr_units) ?_; (intro D'z us'z n'z h'z tk'z F'z N'z I'z J'z K'z; (try dsimp only); (try k_fold))))) | ((with_reducible show WhileEnd ..); (dsimp only [WhileEnd])) | ((with_reducible show wpAny _ _ (binaryOp Operator.Mult (Value.int _ _) (Value.int _ _)) _ _ _); (k_here; k_dflt (refine mul_int ?_ (by assumption)))) | ((with_reducible show wpAny _ _ (binaryOp Operator.Pow (Value.int _ _) (Value.int _ _)) _ _ _); (k_here; k_dflt (refine pow_int (by omega) (pow_room (by assumption) (by omega) (by omega)) ?_))) | walk1) | (dsimp only; (first | ((with_reducible show wpAny _ _ (call (Value.ref _) _) _ _ _); first | (k_here; (with_reducible show wpAny _ _ (call (Value.ref 164) _) _ _ _); k_dflt (refine Ct.useIntR (R := RIII _ _ _) (by k_asm) (by k_asm) (by k_asm) (by k_asm) (by k_asm) (by first | exact rfl | assumption) (riii) (t_next_height _ _ _ _ _ _ _ (by omega) (by omega) (by assumption) (by assumption) (by assumption) (by assumption)) (by ktr_room) (by ktr_units) ?_; (intro t'z h'z tk'z F'z N'z; (try dsimp only); (try k_fold)))) | (k_here; (with_reducible show wpAny _ _ (call (Value.ref 69) _) _ _ _); k_dflt (refine Ct.useIntR (R := R1 _) (by k_asm) (by k_asm) (by k_asm) (by k_asm) (by k_asm) (by first | exact rfl | assumption) (r1 (by k_mem) (by (first | assumption | exact IntsAre.nil | exact IntsAre.cons _ _ .nil))) (t_zleadP _ _ _ _ _ (by omega)) (by ktr_room) (by ktr_units) ?_; (intro t'z h'z tk'z F'z N'z; (try dsimp only); (try k_fold)))) | (k_here; (with_reducible show wpAny _ _ (call (Value.ref 117) _) _ _ _); k_dflt (refine Ct.usePolyR (R := R1k _ _) (by k_asm) (by k_asm) (by k_asm) (by k_asm) (by k_asm) (by first | exact rfl | assumption) (r1k (by k_mem) (by (first | assumption | exact IntsAre.nil | exact IntsAre.cons _ _ .nil))) (t_zdivided _ _ _ _ _ _ (by omega) (by assumption) (by assumption)) (by ktr_room) (by ktr_units) ?_; (intro D'z us'z n'z h'z tk'z F'z N'z I'z J'z K'z; (try dsimp only); (try k_fold)))) | (k_here; (with_reducible show wpAny _ _ (call (Value.ref 157) _) _ _ _); k_dflt (refine Ct.usePolyR (R := R2 _ _) (by k_asm) (by k_asm) (by k_asm) (by k_asm) (by k_asm) (by first | exact rfl | assumption) (r2 (by k_mem) (by (first | assumption | exact IntsAre.nil | exact IntsAre.cons _ _ .nil)) (by k_mem) (by (first | assumption | exact IntsAre.nil | exact IntsAre.cons _ _ .nil))) (t_zpseudo_rest _ _ _ _ _ _ (by omega) (by omega) (by assumption) 200 (by omega) (by assumption) (by assumption)) (by ktr_room) (by ktr_units) ?_; (intro D'z us'z n'z h'z tk'z F'z N'z I'z J'z K'z; (try dsimp only); (try k_fold))))) | ((with_reducible show WhileEnd ..); (dsimp only [WhileEnd])) | ((with_reducible show wpAny _ _ (binaryOp Operator.Mult (Value.int _ _) (Value.int _ _)) _ _ _); (k_here; k_dflt (refine mul_int ?_ (by assumption)))) | ((with_reducible show wpAny _ _ (binaryOp Operator.Pow (Value.int _ _) (Value.int _ _)) _ _ _); (k_here; k_dflt (refine pow_int (by omega) (pow_room (by assumption) (by omega) (by omega)) ?_))) | walk1)) | (leave1; walk_say "STEP leave1"; try dsimp only) | fail "no step"))); exact hret _ _ _ _ (by k_asm) (by k_asm) ⟨by walk_at "mine sub", _, _, _, _, _, _, rfl, by k_mem, hlast, by k_mem, hli⟩)
        · obtain ⟨k, rfl, hd, hh', hs, hall, hlen, hgo⟩ := chainS_go hb1 hr hch
          have hst : ((A.length : Int) - (B.length : Int)).toNat = A.length - B.length := by omega
          have hst1 : ((A.length : Int) - (B.length : Int) - 1).toNat = A.length - B.length - 1 := by omega
          have hH : heightP (leadP B) h (A.length - B.length) = if (A.length : Int) - (B.length : Int) = 0 then h else Int.fdiv (leadP B ^ ((A.length : Int) - (B.length : Int)).toNat) (h ^ ((A.length : Int) - (B.length : Int) - 1).toNat) := by
            rw [heightP, hst, hst1]
            by_cases c : A.length - B.length = 0
            · rw [if_pos c, if_pos (by omega)]
            · rw [if_neg c, if_neg (by omega)]
          rw [hH] at hh' hs hgo
          rw [← hst] at hd hall hlen hgo
          have hrl : 0 < (premP A B).length := List.length_pos_iff.mpr hr
          have hrb : (premP A B).length < B.length := by simpa using hlen
          have hpw : intBits (h ^ ((A.length : Int) - (B.length : Int)).toNat) ≤ 4001 := Nat.le_trans (intBits_pow_le hh _) (by omega)
          have hdl := Nat.lt_of_lt_of_le (log2_of_bits (intBits_mul_le hfr hpw) (by omega)) (by omega : 200 + 4001 ≤ 9000)
          have hmul : IntMulOk fr (h ^ ((A.length : Int) - (B.length : Int)).toNat) := IntMulOk.of_le hfr hpw (by omega)
          have hh9 : intBits h < 100000 := by omega
          have hlb : intBits (leadP B) ≤ 200 := Bd.lead hB
          have hlb9 : intBits (leadP B) < 100000 := by omega
          have hpl1 : (h ^ ((A.length : Int) - (B.length : Int) - 1).toNat).natAbs.log2 < 9000 := Nat.lt_of_lt_of_le (log2_of_bits (Nat.le_trans (intBits_pow_le hh _) (by omega : _ ≤ 4001)) (by omega)) (by omega : 4001 ≤ 9000)
          (repeat' ((fail_if_success (with_reducible show wpAny _ _ (exec (Stmt.While _ _ _ _) _) _ _ _)); (fail_if_success (with_reducible show wpAny _ _ (pyIter (Value.ref _)) (fun it s₂ => LoopAtV _ _ _ _ _ _ _ _ _ it s₂) _ _)); (fail_if_success (with_reducible show wpAny _ _ (exec (Stmt.For (Expr.Tuple _ _ _) _ _ _ _) _) _ _ _)); (fail_if_success (with_reducible show wpAny _ _ (call (Value.type "enumerate") _) _ _ _)); (first | (k_unfold; (try dsimp only)) | (k_end; wrow_close) | (first | ((with_reducible show wpAny _ _ (call (Value.ref _) _) _ _ _); first | (k_here; (with_reducible show wpAny _ _ (call (Value.ref 164) _) _ _ _); k_dflt (refine Ct.useIntR (R := RIII _ _ _) (by k_asm) (by k_asm) (by k_asm) (by k_asm) (by k_asm) (by first | exact rfl | assumption) (riii) (t_next_height _ _ _ _ _ _ _ (by omega) (by omega) (by assumption) (by assumption) (by assumption) (by assumption)) (by ktr_room) (by ktr_units) ?_; (intro t'z h'z tk'z F'z N'z; (try dsimp only); (try k_fold)))) | (k_here; (with_reducible show wpAny _ _ (call (Value.ref 69) _) _ _ _); k_dflt (refine Ct.useIntR (R := R1 _) (by k_asm) (by k_asm) (by k_asm) (by k_asm) (by k_asm) (by first | exact rfl | assumption) (r1 (by k_mem) (by (first | assumption | exact IntsAre.nil | exact IntsAre.cons _ _ .nil))) (t_zleadP _ _ _ _ _ (by omega)) (by ktr_room) (by ktr_units) ?_; (intro t'z h'z tk'z F'z N'z; (try dsimp only); (try k_fold)))) | (k_here; (with_reducible show wpAny _ _ (call (Value.ref 117) _) _ _ _); k_dflt (refine Ct.usePolyR (R := R1k _ _) (by k_asm) (by k_asm) (by k_asm) (by k_asm) (by k_asm) (by first | exact rfl | assumption) (r1k (by k_mem) (by (first | assumption | exact IntsAre.nil | exact IntsAre.cons _ _ .nil))) (t_zdivided _ _ _ _ _ _ (by omega) (by assumption) (by assumption)) (by ktr_room) (by ktr_units) ?_; (intro D'z us'z n'z h'z tk'z F'z N'z I'z J'z K'z; (try dsimp only); (try k_fold)))) | (k_here; (with_reducible show wpAny _ _ (call (Value.ref 157) _) _ _ _); k_dflt (refine Ct.usePolyR (R := R2 _ _) (by k_asm) (by k_asm) (by k_asm) (by k_asm) (by k_asm) (by first | exact rfl | assumption) (r2 (by k_mem) (by (first | assumption | exact IntsAre.nil | exact IntsAre.cons _ _ .nil)) (by k_mem) (by (first | assumption | exact IntsAre.nil | exact IntsAre.cons _ _ .nil))) (t_zpseudo_rest _ _ _ _ _ _ (by omega) (by omega) (by assumption) 200 (by omega) (by assumption) (by assumption)) (by ktr_room) (by ktr_units) ?_; (intro D'z us'z n'z h'z tk'z F'z N'z I'z J'z K'z; (try dsimp only); (try k_fold))))) | ((with_reducible show WhileEnd ..); (dsimp only [WhileEnd])) | ((with_reducible show wpAny _ _ (binaryOp Operator.Mult (Value.int _ _) (Value.int _ _)) _ _ _); (k_here; k_dflt (refine mul_int ?_ (by assumption)))) | ((with_reducible show wpAny _ _ (binaryOp Operator.Pow (Value.int _ _) (Value.int _ _)) _ _ _); (k_here; k_dflt (refine pow_int (by omega) (pow_room (by assumption) (by omega) (by omega)) ?_))) | walk1) | (dsimp only; (first | ((with_reducible show wpAny _ _ (call (Value.ref _) _) _ _ _); first | (k_here; (with_reducible show wpAny _ _ (call (Value.ref 164) _) _ _ _); k_dflt (refine Ct.useIntR (R := RIII _ _ _) (by k_asm) (by k_asm) (by k_asm) (by k_asm) (by k_asm) (by first | exact rfl | assumption) (riii) (t_next_height _ _ _ _ _ _ _ (by omega) (by omega) (by assumption) (by assumption) (by assumption) (by assumption)) (by ktr_room) (by ktr_units) ?_; (intro t'z h'z tk'z F'z N'z; (try dsimp only); (try k_fold)))) | (k_here; (with_reducible show wpAny _ _ (call (Value.ref 69) _) _ _ _); k_dflt (refine Ct.useIntR (R := R1 _) (by k_asm) (by k_asm) (by k_asm) (by k_asm) (by k_asm) (by first | exact rfl | assumption) (r1 (by k_mem) (by (first | assumption | exact IntsAre.nil | exact IntsAre.cons _ _ .nil))) (t_zleadP _ _ _ _ _ (by omega)) (by ktr_room) (by ktr_units) ?_; (intro t'z h'z tk'z F'z N'z; (try dsimp only); (try k_fold)))) | (k_here; (with_reducible show wpAny _ _ (call (Value.ref 117) _) _ _ _); k_dflt (refine Ct.usePolyR (R := R1k _ _) (by k_asm) (by k_asm) (by k_asm) (by k_asm) (by k_asm) (by first | exact rfl | assumption) (r1k (by k_mem) (by (first | assumption | exact IntsAre.nil | exact IntsAre.cons _ _ .nil))) (t_zdivided _ _ _ _ _ _ (by omega) (by assumption) (by assumption)) (by ktr_room) (by ktr_units) ?_; (intro D'z us'z n'z h'z tk'z F'z N'z I'z J'z K'z; (try dsimp only); (try k_fold)))) | (k_here; (with_reducible show wpAny _ _ (call (Value.ref 157) _) _ _ _); k_dflt (refine Ct.usePolyR (R := R2 _ _) (by k_asm) (by k_asm) (by k_asm) (by k_asm) (by k_asm) (by first | exact rfl | assumption) (r2 (by k_mem) (by (first | assumption | exact IntsAre.nil | exact IntsAre.cons _ _ .nil)) (by k_mem) (by (first | assumption | exact IntsAre.nil | exact IntsAre.cons _ _ .nil))) (t_zpseudo_rest _ _ _ _ _ _ (by omega) (by omega) (by assumption) 200 (by omega) (by assumption) (by assumption)) (by ktr_room) (by ktr_units) ?_; (intro D'z us'z n'z h'z tk'z F'z N'z I'z J'z K'z; (try dsimp only); (try k_fold))))) | ((with_reducible show WhileEnd ..); (dsimp only [WhileEnd])) | ((with_reducible show wpAny _ _ (binaryOp Operator.Mult (Value.int _ _) (Value.int _ _)) _ _ _); (k_here; k_dflt (refine mul_int ?_ (by assumption)))) | ((with_reducible show wpAny _ _ (binaryOp Operator.Pow (Value.int _ _) (Value.int _ _)) _ _ _); (k_here; k_dflt (refine pow_int (by omega) (pow_room (by assumption) (by omega) (by omega)) ?_))) | walk1)) | (leave1; walk_say "STEP leave1"; try dsimp only) | fail "no step")))
          · exfalso; omega
          refine WhileStep.intro (n' := k) (by k_asm) (by k_asm) (by omega) ?_
          delta JSub
          refine ⟨B, _, _, _, prow, _, _, _, _, _, _, _, rfl, rfl, by exact m3, rfl, rfl, ⟨_, _, by k_mem, hbi⟩, ⟨_, _, by k_mem, by assumption⟩, by k_mem, Array.back?_push, ⟨_, _, by k_mem, by assumption⟩, hnb, ?nb, ?nl, by walk_at "mine sub", hoff, hgo, hB, smallI_Bd hall, Bd.lead hB, smallI_bits hs, hh', by omega, Nat.le_of_lt hlen, ?sz⟩
          case nb => exact (by assumption : ∀ q : Addr × Obj, q ∈ (_ : List (Addr × Obj)) → q.1 ≠ _) (prow, _) (by k_mem)
          case nl => exact (by assumption : ∀ q : Addr × Obj, q ∈ (_ : List (Addr × Obj)) → q.1 ≠ _) (prow, _) (by k_mem)
          case sz => rw [Array.size_push]; omega
    · with_unfolding_all passes_own

end
section
open Builtin.Int (intBits)
theorem last_item {prog : Program} {w : World} {A : Around} {E : Value → Shared → Prop} {s : Shared} {h₀ : Heap} {L l : Addr} {news : List (Addr × Obj)} {its : Array Value} {c : Nat} {x : Value} {u : Tok} {value slice : PySem.Expr} {Q : Value → Shared → Prop}
    (N : News h₀ L s.heap news) (hm : (l, listOf its c) ∈ news) (hb : its.back? = some x) (h : Q x s)
    (hs : subscripted slice false (.ref l) (.int (-1) u) = operate [.ref l, .int (-1) u] (getItem (.ref l) (.int (-1) u)) := by with_unfolding_all rfl) :
    wpAny (model prog w) A (subscriptTail value slice (.ref l) (.int (-1) u)) Q E s := by
  have hl : s.heap.IsList l its := News.isList N hm
  have hz : 0 < its.size := by
    rw [Array.back?] at hb
    obtain ⟨h, _⟩ := Array.getElem?_eq_some_iff.mp hb
    omega
  refine tail_any hl.typeIs slot_list_getitem.lookup (wpAny_getItem_list_neg hl (by decide) (by omega) (by decide) ?_ h) hs
  rw [(by omega : (-1 + (its.size : Int)).toNat = its.size - 1), ← hb, Array.back?]
theorem okPrim_log {a : List Int} (h : intBits (contentP a) ≤ 200) : (contentP a).natAbs.log2 < 9000 := Nat.lt_of_lt_of_le (log2_of_bits h (by omega)) (by omega)
set_option maxHeartbeats 8000000 in
theorem t_zgcd (w : World) (mean : ExcName → Option Value) (mg mb : Str → Option Value) (xs ys q : List Int) (hl : xs.length < 1000) (hl' : ys.length < 1000) (hq : zgcdP xs ys = some q) : Ct w mean mg mb 178 8 (R2 xs ys) (OPoly q) := by
  by_cases hy0 : ys = []
  · subst hy0
    obtain ⟨ha, ha0, hqe⟩ := zgcdP_nil hq
    obtain ⟨hac, hab, haB, hal⟩ := okPrim_facts ha
    have halg := okPrim_log hab
    have hmul : ∀ x ∈ primP xs, IntMulOk x (contentP xs) := Bd.mulOk haB hab (by omega)
    have hx0 : (0 : Int) < xs.length := by have := List.length_pos_iff.mpr ha0; omega
    subst hqe
    w_top off; unfold Ct PR VW LS KF; k_fill; intro dp un gd cn cs a ccd cl outer A₀ base h₀ L m news s vs Q E B F X N T hk hR hd hu hret
    obtain ⟨pa, pb, rfl, ⟨pv, pn, hpm, hpi⟩, ⟨qv, qn, hqm, hqi⟩⟩ := hR
    have hpl := hpi.length
    have hql := hqi.length
    rw [List.length_nil] at hql
    (refine wpAny_call ?_; k_dflt ktr_enter)
    (repeat' ((fail_if_success (with_reducible show wpAny _ _ (exec (Stmt.While _ _ _ _) _) _ _ _)); (fail_if_success (with_reducible show wpAny _ _ (pyIter (Value.ref _)) (fun it s₂ => LoopAtV _ _ _ _ _ _ _ _ _ it s₂) _ _)); (fail_if_success (with_reducible show wpAny _ _ (exec (Stmt.For (Expr.Tuple _ _ _) _ _ _ _) _) _ _ _)); (fail_if_success (with_reducible show wpAny _ _ (call (Value.type "enumerate") _) _ _ _)); (first | (k_unfold; (try dsimp only)) | (k_end; wrow_close) | (first | ((with_reducible show wpAny _ _ (call (Value.ref _) _) _ _ _); first | (k_here; (with_reducible show wpAny _ _ (call (Value.ref 171) _) _ _ _); k_dflt (refine Ct.useR (R := R2 _ _) (by k_asm) (by k_asm) (by k_asm) (by k_asm) (by k_asm) (by first | exact rfl | assumption) (r2 (by k_mem) (by (first | assumption | exact IntsAre.nil | exact IntsAre.cons _ _ .nil)) (by k_mem) (by (first | assumption | exact IntsAre.nil | exact IntsAre.cons _ _ .nil))) (t_subresultants _ _ _ _ _ _ _ (by (first | omega | (rw [primP_length]; omega))) (by (first | omega | (rw [primP_length]; omega))) (by assumption) (by assumption) (by assumption)) (by ktr_room) (by ktr_units) ?_; (intro r'z news'z h'z tk'z F'z N'z O'z; obtain ⟨hs'z, pr'z, its'z, c'z, pl'z, vs'z, n'z, e'z, hp'z, hlast'z, hl'z, hi'z⟩ := O'z; subst e'z; (have hz'z := IntsAre.length hi'z); (try dsimp only); (try k_fold)))) | (k_here; (with_reducible show wpAny _ _ (call (Value.ref 91) _) _ _ _); k_dflt (refine Ct.usePolyR (R := R1k _ _) (by k_asm) (by k_asm) (by k_asm) (by k_asm) (by k_asm) (by first | exact rfl | assumption) (r1k (by k_mem) (by (first | assumption | exact IntsAre.nil | exact IntsAre.cons _ _ .nil))) (t_zscaleP _ _ _ _ _ _ (by (first | omega | (rw [primP_length]; omega))) (by assumption)) (by ktr_room) (by ktr_units) ?_; (intro D'z us'z n'z h'z tk'z F'z N'z I'z J'z K'z; (try dsimp only); (try k_fold)))) | (k_here; (with_reducible show wpAny _ _ (call (Value.ref 124) _) _ _ _); k_dflt (refine Ct.usePolyR (R := R1 _) (by k_asm) (by k_asm) (by k_asm) (by k_asm) (by k_asm) (by first | exact rfl | assumption) (r1 (by k_mem) (by (first | assumption | exact IntsAre.nil | exact IntsAre.cons _ _ .nil))) (t_zprimitive _ _ _ _ _ (by (first | omega | (rw [primP_length]; omega))) (by (first | assumption | (intro _; assumption))) (by (first | assumption | (intro _; assumption)))) (by ktr_room) (by ktr_units) ?_; (intro D'z us'z n'z h'z tk'z F'z N'z I'z J'z K'z; (try dsimp only); (try k_fold)))) | (k_here; (with_reducible show wpAny _ _ (call (Value.ref 112) _) _ _ _); k_dflt (refine Ct.useIntR (R := R1 _) (by k_asm) (by k_asm) (by k_asm) (by k_asm) (by k_asm) (by first | exact rfl | assumption) (r1 (by k_mem) (by (first | assumption | exact IntsAre.nil | exact IntsAre.cons _ _ .nil))) (t_zcontent _ _ _ _ _ (by (first | omega | (rw [primP_length]; omega)))) (by ktr_room) (by ktr_units) ?_; (intro t'z h'z tk'z F'z N'z; (try dsimp only); (try k_fold)))) | (k_here; (with_reducible show wpAny _ _ (call (Value.ref 41) _) _ _ _); k_dflt (refine Ct.useIntR (R := RII _ _) (by k_asm) (by k_asm) (by k_asm) (by k_asm) (by k_asm) (by first | exact rfl | assumption) (rii) (t_gcd _ _ _ _ _ _) (by ktr_room) (by ktr_units) ?_; (intro t'z h'z tk'z F'z N'z; (try dsimp only); (try k_fold))))) | (k_here; (with_reducible show wpAny _ _ (subscriptTail _ _ (Value.ref _) (Value.int _ _)) _ _ _); k_dflt (refine last_item (by k_asm) (by assumption) (by assumption) ?_ (by with_unfolding_all rfl))) | walk1) | (dsimp only; (first | ((with_reducible show wpAny _ _ (call (Value.ref _) _) _ _ _); first | (k_here; (with_reducible show wpAny _ _ (call (Value.ref 171) _) _ _ _); k_dflt (refine Ct.useR (R := R2 _ _) (by k_asm) (by k_asm) (by k_asm) (by k_asm) (by k_asm) (by first | exact rfl | assumption) (r2 (by k_mem) (by (first | assumption | exact IntsAre.nil | exact IntsAre.cons _ _ .nil)) (by k_mem) (by (first | assumption | exact IntsAre.nil | exact IntsAre.cons _ _ .nil))) (t_subresultants _ _ _ _ _ _ _ (by (first | omega | (rw [primP_length]; omega))) (by (first | omega | (rw [primP_length]; omega))) (by assumption) (by assumption) (by assumption)) (by ktr_room) (by ktr_units) ?_; (intro r'z news'z h'z tk'z F'z N'z O'z; obtain ⟨hs'z, pr'z, its'z, c'z, pl'z, vs'z, n'z, e'z, hp'z, hlast'z, hl'z, hi'z⟩ := O'z; subst e'z; (have hz'z := IntsAre.length hi'z); (try dsimp only); (try k_fold)))) | (k_here; (with_reducible show wpAny _ _ (call (Value.ref 91) _) _ _ _); k_dflt (refine Ct.usePolyR (R := R1k _ _) (by k_asm) (by k_asm) (by k_asm) (by k_asm) (by k_asm) (by first | exact rfl | assumption) (r1k (by k_mem) (by (first | assumption | exact IntsAre.nil | exact IntsAre.cons _ _ .nil))) (t_zscaleP _ _ _ _ _ _ (by (first | omega | (rw [primP_length]; omega))) (by assumption)) (by ktr_room) (by ktr_units) ?_; (intro D'z us'z n'z h'z tk'z F'z N'z I'z J'z K'z; (try dsimp only); (try k_fold)))) | (k_here; (with_reducible show wpAny _ _ (call (Value.ref 124) _) _ _ _); k_dflt (refine Ct.usePolyR (R := R1 _) (by k_asm) (by k_asm) (by k_asm) (by k_asm) (by k_asm) (by first | exact rfl | assumption) (r1 (by k_mem) (by (first | assumption | exact IntsAre.nil | exact IntsAre.cons _ _ .nil))) (t_zprimitive _ _ _ _ _ (by (first | omega | (rw [primP_length]; omega))) (by (first | assumption | (intro _; assumption))) (by (first | assumption | (intro _; assumption)))) (by ktr_room) (by ktr_units) ?_; (intro D'z us'z n'z h'z tk'z F'z N'z I'z J'z K'z; (try dsimp only); (try k_fold)))) | (k_here; (with_reducible show wpAny _ _ (call (Value.ref 112) _) _ _ _); k_dflt (refine Ct.useIntR (R := R1 _) (by k_asm) (by k_asm) (by k_asm) (by k_asm) (by k_asm) (by first | exact rfl | assumption) (r1 (by k_mem) (by (first | assumption | exact IntsAre.nil | exact IntsAre.cons _ _ .nil))) (t_zcontent _ _ _ _ _ (by (first | omega | (rw [primP_length]; omega)))) (by ktr_room) (by ktr_units) ?_; (intro t'z h'z tk'z F'z N'z; (try dsimp only); (try k_fold)))) | (k_here; (with_reducible show wpAny _ _ (call (Value.ref 41) _) _ _ _); k_dflt (refine Ct.useIntR (R := RII _ _) (by k_asm) (by k_asm) (by k_asm) (by k_asm) (by k_asm) (by first | exact rfl | assumption) (rii) (t_gcd _ _ _ _ _ _) (by ktr_room) (by ktr_units) ?_; (intro t'z h'z tk'z F'z N'z; (try dsimp only); (try k_fold))))) | (k_here; (with_reducible show wpAny _ _ (subscriptTail _ _ (Value.ref _) (Value.int _ _)) _ _ _); k_dflt (refine last_item (by k_asm) (by assumption) (by assumption) ?_ (by with_unfolding_all rfl))) | walk1)) | (leave1; walk_say "STEP leave1"; try dsimp only) | fail "no step")))
    all_goals first | (exfalso; omega) | exact hret _ _ _ _ (by k_asm) (by k_asm) (opoly (by walk_at "mine sub") (by k_mem) (by (first | assumption | exact IntsAre.nil | exact IntsAre.cons _ _ .nil)) (by (first | exact fun q hq => (by assumption : ∀ q ∈ _, q.1 ≠ _) q (by k_mem) | exact off1_mem (by assumption) | exact off1_mem (And.right (by assumption)) | exact allLt_ne (by assumption) | exact allLt_ne (And.right (by assumption)) | exact allLt_ne (And.right (And.right (by assumption))) | exact allLt_ne (And.right (And.right (And.right (by assumption)))) | exact allLt_ne (And.right (And.right (And.right (And.right (by assumption))))) | exact off1_mem (And.right (And.right (by assumption))) | exact off1_mem (And.right (And.right (And.right (by assumption)))) | exact lt_ne (by assumption))))
  · obtain ⟨ha, ha0, hb, hg, last, hsub, hcase⟩ := zgcdP_go hy0 hq
    obtain ⟨hac, hab, haB, hal⟩ := okPrim_facts ha
    obtain ⟨hbc, hbb, hbB, hbl⟩ := okPrim_facts hb
    have halg := okPrim_log hab
    have hblg := okPrim_log hbb
    have hx0 : (0 : Int) < xs.length := by have := List.length_pos_iff.mpr ha0; omega
    have hy0' : (0 : Int) < ys.length := by have := List.length_pos_iff.mpr hy0; omega
    rcases hcase with ⟨hlen, hlo, hqe⟩ | ⟨hlen, hqe⟩
    · obtain ⟨hlc, hlb, hlB, hll⟩ := okPrim_facts hlo
      have hllg := okPrim_log hlb
      have hmul : ∀ x ∈ primP last, IntMulOk x (Int.gcd (contentP xs) (contentP ys)) := Bd.mulOk hlB (smallI_bits hg) (by omega)
      subst hqe
      w_top off; unfold Ct PR VW LS KF; k_fill; intro dp un gd cn cs a ccd cl outer A₀ base h₀ L m news s vs Q E B F X N T hk hR hd hu hret
      obtain ⟨pa, pb, rfl, ⟨pv, pn, hpm, hpi⟩, ⟨qv, qn, hqm, hqi⟩⟩ := hR
      have hpl := hpi.length
      have hql := hqi.length
      (refine wpAny_call ?_; k_dflt ktr_enter)
      (repeat' ((fail_if_success (with_reducible show wpAny _ _ (exec (Stmt.While _ _ _ _) _) _ _ _)); (fail_if_success (with_reducible show wpAny _ _ (pyIter (Value.ref _)) (fun it s₂ => LoopAtV _ _ _ _ _ _ _ _ _ it s₂) _ _)); (fail_if_success (with_reducible show wpAny _ _ (exec (Stmt.For (Expr.Tuple _ _ _) _ _ _ _) _) _ _ _)); (fail_if_success (with_reducible show wpAny _ _ (call (Value.type "enumerate") _) _ _ _)); (first | (k_unfold; (try dsimp only)) | (k_end; wrow_close) | (first | ((with_reducible show wpAny _ _ (call (Value.ref _) _) _ _ _); first | (k_here; (with_reducible show wpAny _ _ (call (Value.ref 171) _) _ _ _); k_dflt (refine Ct.useR (R := R2 _ _) (by k_asm) (by k_asm) (by k_asm) (by k_asm) (by k_asm) (by first | exact rfl | assumption) (r2 (by k_mem) (by (first | assumption | exact IntsAre.nil | exact IntsAre.cons _ _ .nil)) (by k_mem) (by (first | assumption | exact IntsAre.nil | exact IntsAre.cons _ _ .nil))) (t_subresultants _ _ _ _ _ _ _ (by (first | omega | (rw [primP_length]; omega))) (by (first | omega | (rw [primP_length]; omega))) (by assumption) (by assumption) (by assumption)) (by ktr_room) (by ktr_units) ?_; (intro r'z news'z h'z tk'z F'z N'z O'z; obtain ⟨hs'z, pr'z, its'z, c'z, pl'z, vs'z, n'z, e'z, hp'z, hlast'z, hl'z, hi'z⟩ := O'z; subst e'z; (have hz'z := IntsAre.length hi'z); (try dsimp only); (try k_fold)))) | (k_here; (with_reducible show wpAny _ _ (call (Value.ref 91) _) _ _ _); k_dflt (refine Ct.usePolyR (R := R1k _ _) (by k_asm) (by k_asm) (by k_asm) (by k_asm) (by k_asm) (by first | exact rfl | assumption) (r1k (by k_mem) (by (first | assumption | exact IntsAre.nil | exact IntsAre.cons _ _ .nil))) (t_zscaleP _ _ _ _ _ _ (by (first | omega | (rw [primP_length]; omega))) (by assumption)) (by ktr_room) (by ktr_units) ?_; (intro D'z us'z n'z h'z tk'z F'z N'z I'z J'z K'z; (try dsimp only); (try k_fold)))) | (k_here; (with_reducible show wpAny _ _ (call (Value.ref 124) _) _ _ _); k_dflt (refine Ct.usePolyR (R := R1 _) (by k_asm) (by k_asm) (by k_asm) (by k_asm) (by k_asm) (by first | exact rfl | assumption) (r1 (by k_mem) (by (first | assumption | exact IntsAre.nil | exact IntsAre.cons _ _ .nil))) (t_zprimitive _ _ _ _ _ (by (first | omega | (rw [primP_length]; omega))) (by (first | assumption | (intro _; assumption))) (by (first | assumption | (intro _; assumption)))) (by ktr_room) (by ktr_units) ?_; (intro D'z us'z n'z h'z tk'z F'z N'z I'z J'z K'z; (try dsimp only); (try k_fold)))) | (k_here; (with_reducible show wpAny _ _ (call (Value.ref 112) _) _ _ _); k_dflt (refine Ct.useIntR (R := R1 _) (by k_asm) (by k_asm) (by k_asm) (by k_asm) (by k_asm) (by first | exact rfl | assumption) (r1 (by k_mem) (by (first | assumption | exact IntsAre.nil | exact IntsAre.cons _ _ .nil))) (t_zcontent _ _ _ _ _ (by (first | omega | (rw [primP_length]; omega)))) (by ktr_room) (by ktr_units) ?_; (intro t'z h'z tk'z F'z N'z; (try dsimp only); (try k_fold)))) | (k_here; (with_reducible show wpAny _ _ (call (Value.ref 41) _) _ _ _); k_dflt (refine Ct.useIntR (R := RII _ _) (by k_asm) (by k_asm) (by k_asm) (by k_asm) (by k_asm) (by first | exact rfl | assumption) (rii) (t_gcd _ _ _ _ _ _) (by ktr_room) (by ktr_units) ?_; (intro t'z h'z tk'z F'z N'z; (try dsimp only); (try k_fold))))) | (k_here; (with_reducible show wpAny _ _ (subscriptTail _ _ (Value.ref _) (Value.int _ _)) _ _ _); k_dflt (refine last_item (by k_asm) (by assumption) (by assumption) ?_ (by with_unfolding_all rfl))) | walk1) | (dsimp only; (first | ((with_reducible show wpAny _ _ (call (Value.ref _) _) _ _ _); first | (k_here; (with_reducible show wpAny _ _ (call (Value.ref 171) _) _ _ _); k_dflt (refine Ct.useR (R := R2 _ _) (by k_asm) (by k_asm) (by k_asm) (by k_asm) (by k_asm) (by first | exact rfl | assumption) (r2 (by k_mem) (by (first | assumption | exact IntsAre.nil | exact IntsAre.cons _ _ .nil)) (by k_mem) (by (first | assumption | exact IntsAre.nil | exact IntsAre.cons _ _ .nil))) (t_subresultants _ _ _ _ _ _ _ (by (first | omega | (rw [primP_length]; omega))) (by (first | omega | (rw [primP_length]; omega))) (by assumption) (by assumption) (by assumption)) (by ktr_room) (by ktr_units) ?_; (intro r'z news'z h'z tk'z F'z N'z O'z; obtain ⟨hs'z, pr'z, its'z, c'z, pl'z, vs'z, n'z, e'z, hp'z, hlast'z, hl'z, hi'z⟩ := O'z; subst e'z; (have hz'z := IntsAre.length hi'z); (try dsimp only); (try k_fold)))) | (k_here; (with_reducible show wpAny _ _ (call (Value.ref 91) _) _ _ _); k_dflt (refine Ct.usePolyR (R := R1k _ _) (by k_asm) (by k_asm) (by k_asm) (by k_asm) (by k_asm) (by first | exact rfl | assumption) (r1k (by k_mem) (by (first | assumption | exact IntsAre.nil | exact IntsAre.cons _ _ .nil))) (t_zscaleP _ _ _ _ _ _ (by (first | omega | (rw [primP_length]; omega))) (by assumption)) (by ktr_room) (by ktr_units) ?_; (intro D'z us'z n'z h'z tk'z F'z N'z I'z J'z K'z; (try dsimp only); (try k_fold)))) | (k_here; (with_reducible show wpAny _ _ (call (Value.ref 124) _) _ _ _); k_dflt (refine Ct.usePolyR (R := R1 _) (by k_asm) (by k_asm) (by k_asm) (by k_asm) (by k_asm) (by first | exact rfl | assumption) (r1 (by k_mem) (by (first | assumption | exact IntsAre.nil | exact IntsAre.cons _ _ .nil))) (t_zprimitive _ _ _ _ _ (by (first | omega | (rw [primP_length]; omega))) (by (first | assumption | (intro _; assumption))) (by (first | assumption | (intro _; assumption)))) (by ktr_room) (by ktr_units) ?_; (intro D'z us'z n'z h'z tk'z F'z N'z I'z J'z K'z; (try dsimp only); (try k_fold)))) | (k_here; (with_reducible show wpAny _ _ (call (Value.ref 112) _) _ _ _); k_dflt (refine Ct.useIntR (R := R1 _) (by k_asm) (by k_asm) (by k_asm) (by k_asm) (by k_asm) (by first | exact rfl | assumption) (r1 (by k_mem) (by (first | assumption | exact IntsAre.nil | exact IntsAre.cons _ _ .nil))) (t_zcontent _ _ _ _ _ (by (first | omega | (rw [primP_length]; omega)))) (by ktr_room) (by ktr_units) ?_; (intro t'z h'z tk'z F'z N'z; (try dsimp only); (try k_fold)))) | (k_here; (with_reducible show wpAny _ _ (call (Value.ref 41) _) _ _ _); k_dflt (refine Ct.useIntR (R := RII _ _) (by k_asm) (by k_asm) (by k_asm) (by k_asm) (by k_asm) (by first | exact rfl | assumption) (rii) (t_gcd _ _ _ _ _ _) (by ktr_room) (by ktr_units) ?_; (intro t'z h'z tk'z F'z N'z; (try dsimp only); (try k_fold))))) | (k_here; (with_reducible show wpAny _ _ (subscriptTail _ _ (Value.ref _) (Value.int _ _)) _ _ _); k_dflt (refine last_item (by k_asm) (by assumption) (by assumption) ?_ (by with_unfolding_all rfl))) | walk1)) | (leave1; walk_say "STEP leave1"; try dsimp only) | fail "no step")))
      all_goals try (exfalso; omega; done)
      have hS := (by assumption : Sub (_ :: _) _)
      exact hret _ _ _ _ (by k_asm) (by k_asm) (opoly (fun q hq => List.Mem.tail _ (List.Mem.tail _ (hS q (by k_mem)))) (by k_mem) (by (first | assumption | exact IntsAre.nil | exact IntsAre.cons _ _ .nil)) (fun q hq => (by assumption : ∀ q ∈ _, q.1 ≠ _) q (List.Mem.tail _ (hS q (by k_mem)))))
    · subst hqe
      w_top off; unfold Ct PR VW LS KF; k_fill; intro dp un gd cn cs a ccd cl outer A₀ base h₀ L m news s vs Q E B F X N T hk hR hd hu hret
      obtain ⟨pa, pb, rfl, ⟨pv, pn, hpm, hpi⟩, ⟨qv, qn, hqm, hqi⟩⟩ := hR
      have hpl := hpi.length
      have hql := hqi.length
      (refine wpAny_call ?_; k_dflt ktr_enter)
      (repeat' ((fail_if_success (with_reducible show wpAny _ _ (exec (Stmt.While _ _ _ _) _) _ _ _)); (fail_if_success (with_reducible show wpAny _ _ (pyIter (Value.ref _)) (fun it s₂ => LoopAtV _ _ _ _ _ _ _ _ _ it s₂) _ _)); (fail_if_success (with_reducible show wpAny _ _ (exec (Stmt.For (Expr.Tuple _ _ _) _ _ _ _) _) _ _ _)); (fail_if_success (with_reducible show wpAny _ _ (call (Value.type "enumerate") _) _ _ _)); (first | (k_unfold; (try dsimp only)) | (k_end; wrow_close) | (first | ((with_reducible show wpAny _ _ (call (Value.ref _) _) _ _ _); first | (k_here; (with_reducible show wpAny _ _ (call (Value.ref 171) _) _ _ _); k_dflt (refine Ct.useR (R := R2 _ _) (by k_asm) (by k_asm) (by k_asm) (by k_asm) (by k_asm) (by first | exact rfl | assumption) (r2 (by k_mem) (by (first | assumption | exact IntsAre.nil | exact IntsAre.cons _ _ .nil)) (by k_mem) (by (first | assumption | exact IntsAre.nil | exact IntsAre.cons _ _ .nil))) (t_subresultants _ _ _ _ _ _ _ (by (first | omega | (rw [primP_length]; omega))) (by (first | omega | (rw [primP_length]; omega))) (by assumption) (by assumption) (by assumption)) (by ktr_room) (by ktr_units) ?_; (intro r'z news'z h'z tk'z F'z N'z O'z; obtain ⟨hs'z, pr'z, its'z, c'z, pl'z, vs'z, n'z, e'z, hp'z, hlast'z, hl'z, hi'z⟩ := O'z; subst e'z; (have hz'z := IntsAre.length hi'z); (try dsimp only); (try k_fold)))) | (k_here; (with_reducible show wpAny _ _ (call (Value.ref 91) _) _ _ _); k_dflt (refine Ct.usePolyR (R := R1k _ _) (by k_asm) (by k_asm) (by k_asm) (by k_asm) (by k_asm) (by first | exact rfl | assumption) (r1k (by k_mem) (by (first | assumption | exact IntsAre.nil | exact IntsAre.cons _ _ .nil))) (t_zscaleP _ _ _ _ _ _ (by (first | omega | (rw [primP_length]; omega))) (by assumption)) (by ktr_room) (by ktr_units) ?_; (intro D'z us'z n'z h'z tk'z F'z N'z I'z J'z K'z; (try dsimp only); (try k_fold)))) | (k_here; (with_reducible show wpAny _ _ (call (Value.ref 124) _) _ _ _); k_dflt (refine Ct.usePolyR (R := R1 _) (by k_asm) (by k_asm) (by k_asm) (by k_asm) (by k_asm) (by first | exact rfl | assumption) (r1 (by k_mem) (by (first | assumption | exact IntsAre.nil | exact IntsAre.cons _ _ .nil))) (t_zprimitive _ _ _ _ _ (by (first | omega | (rw [primP_length]; omega))) (by (first | assumption | (intro _; assumption))) (by (first | assumption | (intro _; assumption)))) (by ktr_room) (by ktr_units) ?_; (intro D'z us'z n'z h'z tk'z F'z N'z I'z J'z K'z; (try dsimp only); (try k_fold)))) | (k_here; (with_reducible show wpAny _ _ (call (Value.ref 112) _) _ _ _); k_dflt (refine Ct.useIntR (R := R1 _) (by k_asm) (by k_asm) (by k_asm) (by k_asm) (by k_asm) (by first | exact rfl | assumption) (r1 (by k_mem) (by (first | assumption | exact IntsAre.nil | exact IntsAre.cons _ _ .nil))) (t_zcontent _ _ _ _ _ (by (first | omega | (rw [primP_length]; omega)))) (by ktr_room) (by ktr_units) ?_; (intro t'z h'z tk'z F'z N'z; (try dsimp only); (try k_fold)))) | (k_here; (with_reducible show wpAny _ _ (call (Value.ref 41) _) _ _ _); k_dflt (refine Ct.useIntR (R := RII _ _) (by k_asm) (by k_asm) (by k_asm) (by k_asm) (by k_asm) (by first | exact rfl | assumption) (rii) (t_gcd _ _ _ _ _ _) (by ktr_room) (by ktr_units) ?_; (intro t'z h'z tk'z F'z N'z; (try dsimp only); (try k_fold))))) | (k_here; (with_reducible show wpAny _ _ (subscriptTail _ _ (Value.ref _) (Value.int _ _)) _ _ _); k_dflt (refine last_item (by k_asm) (by assumption) (by assumption) ?_ (by with_unfolding_all rfl))) | walk1) | (dsimp only; (first | ((with_reducible show wpAny _ _ (call (Value.ref _) _) _ _ _); first | (k_here; (with_reducible show wpAny _ _ (call (Value.ref 171) _) _ _ _); k_dflt (refine Ct.useR (R := R2 _ _) (by k_asm) (by k_asm) (by k_asm) (by k_asm) (by k_asm) (by first | exact rfl | assumption) (r2 (by k_mem) (by (first | assumption | exact IntsAre.nil | exact IntsAre.cons _ _ .nil)) (by k_mem) (by (first | assumption | exact IntsAre.nil | exact IntsAre.cons _ _ .nil))) (t_subresultants _ _ _ _ _ _ _ (by (first | omega | (rw [primP_length]; omega))) (by (first | omega | (rw [primP_length]; omega))) (by assumption) (by assumption) (by assumption)) (by ktr_room) (by ktr_units) ?_; (intro r'z news'z h'z tk'z F'z N'z O'z; obtain ⟨hs'z, pr'z, its'z, c'z, pl'z, vs'z, n'z, e'z, hp'z, hlast'z, hl'z, hi'z⟩ := O'z; subst e'z; (have hz'z := IntsAre.length hi'z); (try dsimp only); (try k_fold)))) | (k_here; (with_reducible show wpAny _ _ (call (Value.ref 91) _) _ _ _); k_dflt (refine Ct.usePolyR (R := R1k _ _) (by k_asm) (by k_asm) (by k_asm) (by k_asm) (by k_asm) (by first | exact rfl | assumption) (r1k (by k_mem) (by (first | assumption | exact IntsAre.nil | exact IntsAre.cons _ _ .nil))) (t_zscaleP _ _ _ _ _ _ (by (first | omega | (rw [primP_length]; omega))) (by assumption)) (by ktr_room) (by ktr_units) ?_; (intro D'z us'z n'z h'z tk'z F'z N'z I'z J'z K'z; (try dsimp only); (try k_fold)))) | (k_here; (with_reducible show wpAny _ _ (call (Value.ref 124) _) _ _ _); k_dflt (refine Ct.usePolyR (R := R1 _) (by k_asm) (by k_asm) (by k_asm) (by k_asm) (by k_asm) (by first | exact rfl | assumption) (r1 (by k_mem) (by (first | assumption | exact IntsAre.nil | exact IntsAre.cons _ _ .nil))) (t_zprimitive _ _ _ _ _ (by (first | omega | (rw [primP_length]; omega))) (by (first | assumption | (intro _; assumption))) (by (first | assumption | (intro _; assumption)))) (by ktr_room) (by ktr_units) ?_; (intro D'z us'z n'z h'z tk'z F'z N'z I'z J'z K'z; (try dsimp only); (try k_fold)))) | (k_here; (with_reducible show wpAny _ _ (call (Value.ref 112) _) _ _ _); k_dflt (refine Ct.useIntR (R := R1 _) (by k_asm) (by k_asm) (by k_asm) (by k_asm) (by k_asm) (by first | exact rfl | assumption) (r1 (by k_mem) (by (first | assumption | exact IntsAre.nil | exact IntsAre.cons _ _ .nil))) (t_zcontent _ _ _ _ _ (by (first | omega | (rw [primP_length]; omega)))) (by ktr_room) (by ktr_units) ?_; (intro t'z h'z tk'z F'z N'z; (try dsimp only); (try k_fold)))) | (k_here; (with_reducible show wpAny _ _ (call (Value.ref 41) _) _ _ _); k_dflt (refine Ct.useIntR (R := RII _ _) (by k_asm) (by k_asm) (by k_asm) (by k_asm) (by k_asm) (by first | exact rfl | assumption) (rii) (t_gcd _ _ _ _ _ _) (by ktr_room) (by ktr_units) ?_; (intro t'z h'z tk'z F'z N'z; (try dsimp only); (try k_fold))))) | (k_here; (with_reducible show wpAny _ _ (subscriptTail _ _ (Value.ref _) (Value.int _ _)) _ _ _); k_dflt (refine last_item (by k_asm) (by assumption) (by assumption) ?_ (by with_unfolding_all rfl))) | walk1)) | (leave1; walk_say "STEP leave1"; try dsimp only) | fail "no step")))
      all_goals try (exfalso; omega; done)
      have hS := (by assumption : Sub (_ :: _) _)
      exact hret _ _ _ _ (by k_asm) (by k_asm) (opoly (fun q hq => List.Mem.tail _ (hS q (by k_mem))) (by k_mem) (by (first | assumption | exact IntsAre.nil | exact IntsAre.cons _ _ .nil)) (fun q hq => lt_ne (by assumption) q (hS q (by k_mem))))

/-- an answer that is a bool -/
noncomputable def OBool (b : Bool) (news news' : List (Addr × Obj)) (r : Value) : Prop := Sub news news' ∧ r = .bool b
set_option maxHeartbeats 8000000 in
theorem t_zcoprime (w : World) (mean : ExcName → Option Value) (mg mb : Str → Option Value) (xs ys q : List Int) (hl : xs.length < 1000) (hl' : ys.length < 1000) (hq : zgcdP xs ys = some q) (hql' : q.length < 1000) : Ct w mean mg mb 185 9 (R2 xs ys) (OBool ((q.length : Int) == 1)) := by
  w_top off; unfold Ct PR VW LS KF; k_fill; intro dp un gd cn cs a ccd cl outer A₀ base h₀ L m news s vs Q E B F X N T hk hR hd hu hret
  obtain ⟨pa, pb, rfl, ⟨pv, pn, hpm, hpi⟩, ⟨qv, qn, hqm, hqi⟩⟩ := hR
  have hpl := hpi.length
  have hql := hqi.length
  (refine wpAny_call ?_; k_dflt ktr_enter)
  (repeat' ((fail_if_success (with_reducible show wpAny _ _ (exec (Stmt.While _ _ _ _) _) _ _ _)); (fail_if_success (with_reducible show wpAny _ _ (pyIter (Value.ref _)) (fun it s₂ => LoopAtV _ _ _ _ _ _ _ _ _ it s₂) _ _)); (fail_if_success (with_reducible show wpAny _ _ (exec (Stmt.For (Expr.Tuple _ _ _) _ _ _ _) _) _ _ _)); (fail_if_success (with_reducible show wpAny _ _ (call (Value.type "enumerate") _) _ _ _)); (first | (k_unfold; (try dsimp only)) | (k_end; wrow_close) | (first | ((with_reducible show wpAny _ _ (call (Value.ref _) _) _ _ _); first | (k_here; (with_reducible show wpAny _ _ (call (Value.ref 178) _) _ _ _); k_dflt (refine Ct.usePolyR (R := R2 _ _) (by k_asm) (by k_asm) (by k_asm) (by k_asm) (by k_asm) (by first | exact rfl | assumption) (r2 (by k_mem) (by (first | assumption | exact IntsAre.nil | exact IntsAre.cons _ _ .nil)) (by k_mem) (by (first | assumption | exact IntsAre.nil | exact IntsAre.cons _ _ .nil))) (t_zgcd _ _ _ _ _ _ _ (by omega) (by omega) (by assumption)) (by ktr_room) (by ktr_units) ?_; (intro D'z us'z n'z h'z tk'z F'z N'z I'z J'z K'z; (try dsimp only); (try k_fold)))) | (k_here; (with_reducible show wpAny _ _ (call (Value.ref 171) _) _ _ _); k_dflt (refine Ct.useR (R := R2 _ _) (by k_asm) (by k_asm) (by k_asm) (by k_asm) (by k_asm) (by first | exact rfl | assumption) (r2 (by k_mem) (by (first | assumption | exact IntsAre.nil | exact IntsAre.cons _ _ .nil)) (by k_mem) (by (first | assumption | exact IntsAre.nil | exact IntsAre.cons _ _ .nil))) (t_subresultants _ _ _ _ _ _ _ (by (first | omega | (rw [primP_length]; omega))) (by (first | omega | (rw [primP_length]; omega))) (by assumption) (by assumption) (by assumption)) (by ktr_room) (by ktr_units) ?_; (intro r'z news'z h'z tk'z F'z N'z O'z; obtain ⟨hs'z, pr'z, its'z, c'z, pl'z, vs'z, n'z, e'z, hp'z, hlast'z, hl'z, hi'z⟩ := O'z; subst e'z; (have hz'z := IntsAre.length hi'z); (try dsimp only); (try k_fold)))) | (k_here; (with_reducible show wpAny _ _ (call (Value.ref 91) _) _ _ _); k_dflt (refine Ct.usePolyR (R := R1k _ _) (by k_asm) (by k_asm) (by k_asm) (by k_asm) (by k_asm) (by first | exact rfl | assumption) (r1k (by k_mem) (by (first | assumption | exact IntsAre.nil | exact IntsAre.cons _ _ .nil))) (t_zscaleP _ _ _ _ _ _ (by (first | omega | (rw [primP_length]; omega))) (by assumption)) (by ktr_room) (by ktr_units) ?_; (intro D'z us'z n'z h'z tk'z F'z N'z I'z J'z K'z; (try dsimp only); (try k_fold)))) | (k_here; (with_reducible show wpAny _ _ (call (Value.ref 124) _) _ _ _); k_dflt (refine Ct.usePolyR (R := R1 _) (by k_asm) (by k_asm) (by k_asm) (by k_asm) (by k_asm) (by first | exact rfl | assumption) (r1 (by k_mem) (by (first | assumption | exact IntsAre.nil | exact IntsAre.cons _ _ .nil))) (t_zprimitive _ _ _ _ _ (by (first | omega | (rw [primP_length]; omega))) (by (first | assumption | (intro _; assumption))) (by (first | assumption | (intro _; assumption)))) (by ktr_room) (by ktr_units) ?_; (intro D'z us'z n'z h'z tk'z F'z N'z I'z J'z K'z; (try dsimp only); (try k_fold)))) | (k_here; (with_reducible show wpAny _ _ (call (Value.ref 112) _) _ _ _); k_dflt (refine Ct.useIntR (R := R1 _) (by k_asm) (by k_asm) (by k_asm) (by k_asm) (by k_asm) (by first | exact rfl | assumption) (r1 (by k_mem) (by (first | assumption | exact IntsAre.nil | exact IntsAre.cons _ _ .nil))) (t_zcontent _ _ _ _ _ (by (first | omega | (rw [primP_length]; omega)))) (by ktr_room) (by ktr_units) ?_; (intro t'z h'z tk'z F'z N'z; (try dsimp only); (try k_fold)))) | (k_here; (with_reducible show wpAny _ _ (call (Value.ref 41) _) _ _ _); k_dflt (refine Ct.useIntR (R := RII _ _) (by k_asm) (by k_asm) (by k_asm) (by k_asm) (by k_asm) (by first | exact rfl | assumption) (rii) (t_gcd _ _ _ _ _ _) (by ktr_room) (by ktr_units) ?_; (intro t'z h'z tk'z F'z N'z; (try dsimp only); (try k_fold))))) | (k_here; (with_reducible show wpAny _ _ (subscriptTail _ _ (Value.ref _) (Value.int _ _)) _ _ _); k_dflt (refine last_item (by k_asm) (by assumption) (by assumption) ?_ (by with_unfolding_all rfl))) | walk1) | (dsimp only; (first | ((with_reducible show wpAny _ _ (call (Value.ref _) _) _ _ _); first | (k_here; (with_reducible show wpAny _ _ (call (Value.ref 178) _) _ _ _); k_dflt (refine Ct.usePolyR (R := R2 _ _) (by k_asm) (by k_asm) (by k_asm) (by k_asm) (by k_asm) (by first | exact rfl | assumption) (r2 (by k_mem) (by (first | assumption | exact IntsAre.nil | exact IntsAre.cons _ _ .nil)) (by k_mem) (by (first | assumption | exact IntsAre.nil | exact IntsAre.cons _ _ .nil))) (t_zgcd _ _ _ _ _ _ _ (by omega) (by omega) (by assumption)) (by ktr_room) (by ktr_units) ?_; (intro D'z us'z n'z h'z tk'z F'z N'z I'z J'z K'z; (try dsimp only); (try k_fold)))) | (k_here; (with_reducible show wpAny _ _ (call (Value.ref 171) _) _ _ _); k_dflt (refine Ct.useR (R := R2 _ _) (by k_asm) (by k_asm) (by k_asm) (by k_asm) (by k_asm) (by first | exact rfl | assumption) (r2 (by k_mem) (by (first | assumption | exact IntsAre.nil | exact IntsAre.cons _ _ .nil)) (by k_mem) (by (first | assumption | exact IntsAre.nil | exact IntsAre.cons _ _ .nil))) (t_subresultants _ _ _ _ _ _ _ (by (first | omega | (rw [primP_length]; omega))) (by (first | omega | (rw [primP_length]; omega))) (by assumption) (by assumption) (by assumption)) (by ktr_room) (by ktr_units) ?_; (intro r'z news'z h'z tk'z F'z N'z O'z; obtain ⟨hs'z, pr'z, its'z, c'z, pl'z, vs'z, n'z, e'z, hp'z, hlast'z, hl'z, hi'z⟩ := O'z; subst e'z; (have hz'z := IntsAre.length hi'z); (try dsimp only); (try k_fold)))) | (k_here; (with_reducible show wpAny _ _ (call (Value.ref 91) _) _ _ _); k_dflt (refine Ct.usePolyR (R := R1k _ _) (by k_asm) (by k_asm) (by k_asm) (by k_asm) (by k_asm) (by first | exact rfl | assumption) (r1k (by k_mem) (by (first | assumption | exact IntsAre.nil | exact IntsAre.cons _ _ .nil))) (t_zscaleP _ _ _ _ _ _ (by (first | omega | (rw [primP_length]; omega))) (by assumption)) (by ktr_room) (by ktr_units) ?_; (intro D'z us'z n'z h'z tk'z F'z N'z I'z J'z K'z; (try dsimp only); (try k_fold)))) | (k_here; (with_reducible show wpAny _ _ (call (Value.ref 124) _) _ _ _); k_dflt (refine Ct.usePolyR (R := R1 _) (by k_asm) (by k_asm) (by k_asm) (by k_asm) (by k_asm) (by first | exact rfl | assumption) (r1 (by k_mem) (by (first | assumption | exact IntsAre.nil | exact IntsAre.cons _ _ .nil))) (t_zprimitive _ _ _ _ _ (by (first | omega | (rw [primP_length]; omega))) (by (first | assumption | (intro _; assumption))) (by (first | assumption | (intro _; assumption)))) (by ktr_room) (by ktr_units) ?_; (intro D'z us'z n'z h'z tk'z F'z N'z I'z J'z K'z; (try dsimp only); (try k_fold)))) | (k_here; (with_reducible show wpAny _ _ (call (Value.ref 112) _) _ _ _); k_dflt (refine Ct.useIntR (R := R1 _) (by k_asm) (by k_asm) (by k_asm) (by k_asm) (by k_asm) (by first | exact rfl | assumption) (r1 (by k_mem) (by (first | assumption | exact IntsAre.nil | exact IntsAre.cons _ _ .nil))) (t_zcontent _ _ _ _ _ (by (first | omega | (rw [primP_length]; omega)))) (by ktr_room) (by ktr_units) ?_; (intro t'z h'z tk'z F'z N'z; (try dsimp only); (try k_fold)))) | (k_here; (with_reducible show wpAny _ _ (call (Value.ref 41) _) _ _ _); k_dflt (refine Ct.useIntR (R := RII _ _) (by k_asm) (by k_asm) (by k_asm) (by k_asm) (by k_asm) (by first | exact rfl | assumption) (rii) (t_gcd _ _ _ _ _ _) (by ktr_room) (by ktr_units) ?_; (intro t'z h'z tk'z F'z N'z; (try dsimp only); (try k_fold))))) | (k_here; (with_reducible show wpAny _ _ (subscriptTail _ _ (Value.ref _) (Value.int _ _)) _ _ _); k_dflt (refine last_item (by k_asm) (by assumption) (by assumption) ?_ (by with_unfolding_all rfl))) | walk1)) | (leave1; walk_say "STEP leave1"; try dsimp only) | fail "no step")))
  exact hret _ _ _ _ (by k_asm) (by k_asm) ⟨by walk_at "mine sub", rfl⟩

end
section
open Builtin.Int (intBits)
set_option maxHeartbeats 8000000 in
theorem t_square (w : World) (mean : ExcName → Option Value) (mg mb : Str → Option Value) (xs q : List Int) (hl : xs.length < 1000) (hq : squareP xs = some q) : Ct w mean mg mb 192 9 (R1 xs) (OPoly q) := by
  obtain ⟨ha, ha0, g, hg, hd, hex⟩ := squareP_go hq
  obtain ⟨hac, hab, haB, hal⟩ := okPrim_facts ha
  obtain ⟨hg0, hgl, hgB, hgn⟩ := okDiv_facts hd
  have halg := okPrim_log hab
  rw [deriveQ] at hg
  w_top off; unfold Ct PR VW LS KF; k_fill; intro dp un gd cn cs a ccd cl outer A₀ base h₀ L m news s vs Q E B F X N T hk hR hd hu hret
  obtain ⟨pa, rfl, pv, pn, hpm, hpi⟩ := hR
  have hpl := hpi.length
  (refine wpAny_call ?_; k_dflt ktr_enter)
  (repeat' ((fail_if_success (with_reducible show wpAny _ _ (exec (Stmt.While _ _ _ _) _) _ _ _)); (fail_if_success (with_reducible show wpAny _ _ (pyIter (Value.ref _)) (fun it s₂ => LoopAtV _ _ _ _ _ _ _ _ _ it s₂) _ _)); (fail_if_success (with_reducible show wpAny _ _ (exec (Stmt.For (Expr.Tuple _ _ _) _ _ _ _) _) _ _ _)); (fail_if_success (with_reducible show wpAny _ _ (call (Value.type "enumerate") _) _ _ _)); (first | (k_unfold; (try dsimp only)) | (k_end; wrow_close) | (first | ((with_reducible show wpAny _ _ (call (Value.ref _) _) _ _ _); first | (k_here; (with_reducible show wpAny _ _ (call (Value.ref 143) _) _ _ _); k_dflt (refine Ct.usePolyR (R := R2 _ _) (by k_asm) (by k_asm) (by k_asm) (by k_asm) (by k_asm) (by first | exact rfl | assumption) (r2 (by k_mem) (by (first | assumption | exact IntsAre.nil | exact IntsAre.cons _ _ .nil)) (by k_mem) (by (first | assumption | exact IntsAre.nil | exact IntsAre.cons _ _ .nil))) (t_zexact _ _ _ _ _ _ _ (by (first | omega | (rw [primP_length]; omega) | (rw [List.length_drop, enumG, List.length_map, List.length_range, primP_length]; omega))) (by (first | omega | (rw [primP_length]; omega) | (rw [List.length_drop, enumG, List.length_map, List.length_range, primP_length]; omega))) (by assumption) (by assumption) 200 (by omega) (by assumption) (by assumption) (by assumption)) (by ktr_room) (by ktr_units) ?_; (intro D'z us'z n'z h'z tk'z F'z N'z I'z J'z K'z; (try dsimp only); (try k_fold)))) | (k_here; (with_reducible show wpAny _ _ (call (Value.ref 178) _) _ _ _); k_dflt (refine Ct.usePolyR (R := R2 _ _) (by k_asm) (by k_asm) (by k_asm) (by k_asm) (by k_asm) (by first | exact rfl | assumption) (r2 (by k_mem) (by (first | assumption | exact IntsAre.nil | exact IntsAre.cons _ _ .nil)) (by k_mem) (by (first | assumption | exact IntsAre.nil | exact IntsAre.cons _ _ .nil))) (t_zgcd _ _ _ _ _ _ _ (by (first | omega | (rw [primP_length]; omega) | (rw [List.length_drop, enumG, List.length_map, List.length_range, primP_length]; omega))) (by (first | omega | (rw [primP_length]; omega) | (rw [List.length_drop, enumG, List.length_map, List.length_range, primP_length]; omega))) (by assumption)) (by ktr_room) (by ktr_units) ?_; (intro D'z us'z n'z h'z tk'z F'z N'z I'z J'z K'z; (try dsimp only); (try k_fold)))) | (k_here; (with_reducible show wpAny _ _ (call (Value.ref 129) _) _ _ _); k_dflt (refine Ct.usePolyR (R := R1 _) (by k_asm) (by k_asm) (by k_asm) (by k_asm) (by k_asm) (by first | exact rfl | assumption) (r1 (by k_mem) (by (first | assumption | exact IntsAre.nil | exact IntsAre.cons _ _ .nil))) (t_zderive _ _ _ _ _ (by (first | omega | (rw [primP_length]; omega) | (rw [List.length_drop, enumG, List.length_map, List.length_range, primP_length]; omega))) 200 (by omega) (by assumption)) (by ktr_room) (by ktr_units) ?_; (intro D'z us'z n'z h'z tk'z F'z N'z I'z J'z K'z; (try dsimp only); (try k_fold)))) | (k_here; (with_reducible show wpAny _ _ (call (Value.ref 124) _) _ _ _); k_dflt (refine Ct.usePolyR (R := R1 _) (by k_asm) (by k_asm) (by k_asm) (by k_asm) (by k_asm) (by first | exact rfl | assumption) (r1 (by k_mem) (by (first | assumption | exact IntsAre.nil | exact IntsAre.cons _ _ .nil))) (t_zprimitive _ _ _ _ _ (by (first | omega | (rw [primP_length]; omega) | (rw [List.length_drop, enumG, List.length_map, List.length_range, primP_length]; omega))) (by (first | assumption | (intro _; assumption))) (by assumption)) (by ktr_room) (by ktr_units) ?_; (intro D'z us'z n'z h'z tk'z F'z N'z I'z J'z K'z; (try dsimp only); (try k_fold))))) | walk1) | (dsimp only; (first | ((with_reducible show wpAny _ _ (call (Value.ref _) _) _ _ _); first | (k_here; (with_reducible show wpAny _ _ (call (Value.ref 143) _) _ _ _); k_dflt (refine Ct.usePolyR (R := R2 _ _) (by k_asm) (by k_asm) (by k_asm) (by k_asm) (by k_asm) (by first | exact rfl | assumption) (r2 (by k_mem) (by (first | assumption | exact IntsAre.nil | exact IntsAre.cons _ _ .nil)) (by k_mem) (by (first | assumption | exact IntsAre.nil | exact IntsAre.cons _ _ .nil))) (t_zexact _ _ _ _ _ _ _ (by (first | omega | (rw [primP_length]; omega) | (rw [List.length_drop, enumG, List.length_map, List.length_range, primP_length]; omega))) (by (first | omega | (rw [primP_length]; omega) | (rw [List.length_drop, enumG, List.length_map, List.length_range, primP_length]; omega))) (by assumption) (by assumption) 200 (by omega) (by assumption) (by assumption) (by assumption)) (by ktr_room) (by ktr_units) ?_; (intro D'z us'z n'z h'z tk'z F'z N'z I'z J'z K'z; (try dsimp only); (try k_fold)))) | (k_here; (with_reducible show wpAny _ _ (call (Value.ref 178) _) _ _ _); k_dflt (refine Ct.usePolyR (R := R2 _ _) (by k_asm) (by k_asm) (by k_asm) (by k_asm) (by k_asm) (by first | exact rfl | assumption) (r2 (by k_mem) (by (first | assumption | exact IntsAre.nil | exact IntsAre.cons _ _ .nil)) (by k_mem) (by (first | assumption | exact IntsAre.nil | exact IntsAre.cons _ _ .nil))) (t_zgcd _ _ _ _ _ _ _ (by (first | omega | (rw [primP_length]; omega) | (rw [List.length_drop, enumG, List.length_map, List.length_range, primP_length]; omega))) (by (first | omega | (rw [primP_length]; omega) | (rw [List.length_drop, enumG, List.length_map, List.length_range, primP_length]; omega))) (by assumption)) (by ktr_room) (by ktr_units) ?_; (intro D'z us'z n'z h'z tk'z F'z N'z I'z J'z K'z; (try dsimp only); (try k_fold)))) | (k_here; (with_reducible show wpAny _ _ (call (Value.ref 129) _) _ _ _); k_dflt (refine Ct.usePolyR (R := R1 _) (by k_asm) (by k_asm) (by k_asm) (by k_asm) (by k_asm) (by first | exact rfl | assumption) (r1 (by k_mem) (by (first | assumption | exact IntsAre.nil | exact IntsAre.cons _ _ .nil))) (t_zderive _ _ _ _ _ (by (first | omega | (rw [primP_length]; omega) | (rw [List.length_drop, enumG, List.length_map, List.length_range, primP_length]; omega))) 200 (by omega) (by assumption)) (by ktr_room) (by ktr_units) ?_; (intro D'z us'z n'z h'z tk'z F'z N'z I'z J'z K'z; (try dsimp only); (try k_fold)))) | (k_here; (with_reducible show wpAny _ _ (call (Value.ref 124) _) _ _ _); k_dflt (refine Ct.usePolyR (R := R1 _) (by k_asm) (by k_asm) (by k_asm) (by k_asm) (by k_asm) (by first | exact rfl | assumption) (r1 (by k_mem) (by (first | assumption | exact IntsAre.nil | exact IntsAre.cons _ _ .nil))) (t_zprimitive _ _ _ _ _ (by (first | omega | (rw [primP_length]; omega) | (rw [List.length_drop, enumG, List.length_map, List.length_range, primP_length]; omega))) (by (first | assumption | (intro _; assumption))) (by assumption)) (by ktr_room) (by ktr_units) ?_; (intro D'z us'z n'z h'z tk'z F'z N'z I'z J'z K'z; (try dsimp only); (try k_fold))))) | walk1)) | (leave1; walk_say "STEP leave1"; try dsimp only) | fail "no step")))
  exact hret _ _ _ _ (by k_asm) (by k_asm) (opoly (by walk_at "mine sub") (by k_mem) (by (first | assumption | exact IntsAre.nil | exact IntsAre.cons _ _ .nil)) (by (first | exact fun q hq => (by assumption : ∀ q ∈ _, q.1 ≠ _) q (by k_mem) | exact off1_mem (by assumption) | exact off1_mem (And.right (by assumption)) | exact allLt_ne (by assumption) | exact allLt_ne (And.right (by assumption)) | exact allLt_ne (And.right (And.right (by assumption))) | exact allLt_ne (And.right (And.right (And.right (by assumption)))) | exact allLt_ne (And.right (And.right (And.right (And.right (by assumption))))) | exact off1_mem (And.right (And.right (by assumption))) | exact off1_mem (And.right (And.right (And.right (by assumption)))) | exact lt_ne (by assumption))))

end
section
open Builtin.Int (intBits)
set_option maxHeartbeats 8000000 in
theorem t_three (w : World) (mean : ExcName → Option Value) (mg mb : Str → Option Value) (xs ys : List Int) (hl : xs.length < 1000) (hl' : ys.length < 1000) (hq : threeOk xs ys = true) : Ct w mean mg mb 211 10 (R2 xs ys) (OBool true) := by
  obtain ⟨c, hz, hd, hsx, hsy, a, b, hea, heb, hsa, hsb, hst, hcase⟩ := threeOk_go hq
  obtain ⟨hg0, hgl, hgB, hgn⟩ := okDiv_facts hd
  obtain ⟨hxB, hxl⟩ := smallP_facts hsx
  obtain ⟨hyB, hyl⟩ := smallP_facts hsy
  obtain ⟨haB, hal⟩ := smallP_facts hsa
  obtain ⟨hbB, hbl⟩ := smallP_facts hsb
  obtain ⟨htB, htl⟩ := smallP_facts hst
  rcases hcase with ⟨ht, hla, hlb⟩ | ⟨ht, htr⟩
  · w_top off; unfold Ct PR VW LS KF; k_fill; intro dp un gd cn cs a ccd cl outer A₀ base h₀ L m news s vs Q E B F X N T hk hR hd hu hret
    obtain ⟨pa, pb, rfl, ⟨pv, pn, hpm, hpi⟩, ⟨qv, qn, hqm, hqi⟩⟩ := hR
    have hpl := hpi.length
    have hql := hqi.length
    (refine wpAny_call ?_; k_dflt ktr_enter)
    (repeat' ((fail_if_success (with_reducible show wpAny _ _ (exec (Stmt.While _ _ _ _) _) _ _ _)); (fail_if_success (with_reducible show wpAny _ _ (pyIter (Value.ref _)) (fun it s₂ => LoopAtV _ _ _ _ _ _ _ _ _ it s₂) _ _)); (fail_if_success (with_reducible show wpAny _ _ (exec (Stmt.For (Expr.Tuple _ _ _) _ _ _ _) _) _ _ _)); (fail_if_success (with_reducible show wpAny _ _ (call (Value.type "enumerate") _) _ _ _)); (first | (k_unfold; (try dsimp only)) | (k_end; wrow_close) | (first | ((with_reducible show wpAny _ _ (call (Value.ref _) _) _ _ _); first | (k_here; (with_reducible show wpAny _ _ (call (Value.ref 185) _) _ _ _); k_dflt (refine Ct.useR (R := R2 _ _) (by k_asm) (by k_asm) (by k_asm) (by k_asm) (by k_asm) (by first | exact rfl | assumption) (r2 (by k_mem) (by (first | assumption | exact IntsAre.nil | exact IntsAre.cons _ _ .nil)) (by k_mem) (by (first | assumption | exact IntsAre.nil | exact IntsAre.cons _ _ .nil))) (t_zcoprime _ _ _ _ _ _ _ (by (omega)) (by (omega)) (by assumption) (by omega)) (by ktr_room) (by ktr_units) ?_; (intro r'z news'z h'z tk'z F'z N'z O'z; (first | (obtain ⟨hs'z, e'z⟩ := O'z; subst e'z; (have N'z := news_sub N'z hs'z); clear hs'z); (try dsimp only); (try k_fold))))) | (k_here; (with_reducible show wpAny _ _ (call (Value.ref 192) _) _ _ _); k_dflt (refine Ct.usePolyR (R := R1 _) (by k_asm) (by k_asm) (by k_asm) (by k_asm) (by k_asm) (by first | exact rfl | assumption) (r1 (by k_mem) (by (first | assumption | exact IntsAre.nil | exact IntsAre.cons _ _ .nil))) (t_square _ _ _ _ _ _ (by (omega)) (by assumption)) (by ktr_room) (by ktr_units) ?_; (intro D'z us'z n'z h'z tk'z F'z N'z I'z J'z K'z; (try dsimp only); (try k_fold)))) | (k_here; (with_reducible show wpAny _ _ (call (Value.ref 62) _) _ _ _); k_dflt (refine Ct.useIntR (R := R1 _) (by k_asm) (by k_asm) (by k_asm) (by k_asm) (by k_asm) (by first | exact rfl | assumption) (r1 (by k_mem) (by (first | assumption | exact IntsAre.nil | exact IntsAre.cons _ _ .nil))) (t_zdegree _ _ _ _ _ (by (omega))) (by ktr_room) (by ktr_units) ?_; (intro t'z h'z tk'z F'z N'z; (try dsimp only); (try k_fold)))) | (k_here; (with_reducible show wpAny _ _ (call (Value.ref 74) _) _ _ _); k_dflt (refine Ct.usePolyR (R := R2 _ _) (by k_asm) (by k_asm) (by k_asm) (by k_asm) (by k_asm) (by first | exact rfl | assumption) (r2 (by k_mem) (by (first | assumption | exact IntsAre.nil | exact IntsAre.cons _ _ .nil)) (by k_mem) (by (first | assumption | exact IntsAre.nil | exact IntsAre.cons _ _ .nil))) (t_zadd _ _ _ _ _ _ (by (omega)) (by (omega))) (by ktr_room) (by ktr_units) ?_; (intro D'z us'z n'z h'z tk'z F'z N'z I'z J'z K'z; (try dsimp only); (try k_fold)))) | (k_here; (with_reducible show wpAny _ _ (call (Value.ref 143) _) _ _ _); k_dflt (refine Ct.usePolyR (R := R2 _ _) (by k_asm) (by k_asm) (by k_asm) (by k_asm) (by k_asm) (by first | exact rfl | assumption) (r2 (by k_mem) (by (first | assumption | exact IntsAre.nil | exact IntsAre.cons _ _ .nil)) (by k_mem) (by (first | assumption | exact IntsAre.nil | exact IntsAre.cons _ _ .nil))) (t_zexact _ _ _ _ _ _ _ (by (omega)) (by (omega)) (by assumption) (by assumption) 200 (by omega) (by assumption) (by assumption) (by assumption)) (by ktr_room) (by ktr_units) ?_; (intro D'z us'z n'z h'z tk'z F'z N'z I'z J'z K'z; (try dsimp only); (try k_fold)))) | (k_here; (with_reducible show wpAny _ _ (call (Value.ref 178) _) _ _ _); k_dflt (refine Ct.usePolyR (R := R2 _ _) (by k_asm) (by k_asm) (by k_asm) (by k_asm) (by k_asm) (by first | exact rfl | assumption) (r2 (by k_mem) (by (first | assumption | exact IntsAre.nil | exact IntsAre.cons _ _ .nil)) (by k_mem) (by (first | assumption | exact IntsAre.nil | exact IntsAre.cons _ _ .nil))) (t_zgcd _ _ _ _ _ _ _ (by (omega)) (by (omega)) (by assumption)) (by ktr_room) (by ktr_units) ?_; (intro D'z us'z n'z h'z tk'z F'z N'z I'z J'z K'z; (try dsimp only); (try k_fold))))) | (k_here; (with_reducible show wpAny _ _ (call (Value.builtin _) [Value.int _ _, Value.int _ _, Value.int _ _]) _ _ _); refine max_three_L (by rfl) (by k_asm) (by k_asm) ?_; intro t'z h'z tk'z F'z N'z; (try dsimp only); (try k_fold)) | ((with_reducible show LCg.CompEnd ..); (k_here; refine end_sub (by k_asm) (by k_asm) (by walk_at "mine sub") (by assumption) (by exact Or.inr ⟨_, by k_mem, rfl, _, rfl⟩) ?_)) | (k_here; (with_reducible show TupSrc _ _ _ _ _ _ _ _ _ _ _ _ (Value.ref _) _); k_dflt (refine TupSrc.intro (by rfl) (by k_asm) (by k_asm) (by k_mem) (by exact Nat.le_of_ble_eq_true rfl) ?_); intro g'z) | (k_here; (with_reducible show wpAny _ _ (eval (Expr.ListComp _ [Comprehension.mk (Expr.Name _ _) _ _ _] _ _) _) _ _ _); k_dflt (refine ListComp_tup (by k_asm) (by with_unfolding_all rfl) (by decide) (by rfl) (by decide) (by rfl) ?_)) | walk1) | (dsimp only; (first | ((with_reducible show wpAny _ _ (call (Value.ref _) _) _ _ _); first | (k_here; (with_reducible show wpAny _ _ (call (Value.ref 185) _) _ _ _); k_dflt (refine Ct.useR (R := R2 _ _) (by k_asm) (by k_asm) (by k_asm) (by k_asm) (by k_asm) (by first | exact rfl | assumption) (r2 (by k_mem) (by (first | assumption | exact IntsAre.nil | exact IntsAre.cons _ _ .nil)) (by k_mem) (by (first | assumption | exact IntsAre.nil | exact IntsAre.cons _ _ .nil))) (t_zcoprime _ _ _ _ _ _ _ (by (omega)) (by (omega)) (by assumption) (by omega)) (by ktr_room) (by ktr_units) ?_; (intro r'z news'z h'z tk'z F'z N'z O'z; (first | (obtain ⟨hs'z, e'z⟩ := O'z; subst e'z; (have N'z := news_sub N'z hs'z); clear hs'z); (try dsimp only); (try k_fold))))) | (k_here; (with_reducible show wpAny _ _ (call (Value.ref 192) _) _ _ _); k_dflt (refine Ct.usePolyR (R := R1 _) (by k_asm) (by k_asm) (by k_asm) (by k_asm) (by k_asm) (by first | exact rfl | assumption) (r1 (by k_mem) (by (first | assumption | exact IntsAre.nil | exact IntsAre.cons _ _ .nil))) (t_square _ _ _ _ _ _ (by (omega)) (by assumption)) (by ktr_room) (by ktr_units) ?_; (intro D'z us'z n'z h'z tk'z F'z N'z I'z J'z K'z; (try dsimp only); (try k_fold)))) | (k_here; (with_reducible show wpAny _ _ (call (Value.ref 62) _) _ _ _); k_dflt (refine Ct.useIntR (R := R1 _) (by k_asm) (by k_asm) (by k_asm) (by k_asm) (by k_asm) (by first | exact rfl | assumption) (r1 (by k_mem) (by (first | assumption | exact IntsAre.nil | exact IntsAre.cons _ _ .nil))) (t_zdegree _ _ _ _ _ (by (omega))) (by ktr_room) (by ktr_units) ?_; (intro t'z h'z tk'z F'z N'z; (try dsimp only); (try k_fold)))) | (k_here; (with_reducible show wpAny _ _ (call (Value.ref 74) _) _ _ _); k_dflt (refine Ct.usePolyR (R := R2 _ _) (by k_asm) (by k_asm) (by k_asm) (by k_asm) (by k_asm) (by first | exact rfl | assumption) (r2 (by k_mem) (by (first | assumption | exact IntsAre.nil | exact IntsAre.cons _ _ .nil)) (by k_mem) (by (first | assumption | exact IntsAre.nil | exact IntsAre.cons _ _ .nil))) (t_zadd _ _ _ _ _ _ (by (omega)) (by (omega))) (by ktr_room) (by ktr_units) ?_; (intro D'z us'z n'z h'z tk'z F'z N'z I'z J'z K'z; (try dsimp only); (try k_fold)))) | (k_here; (with_reducible show wpAny _ _ (call (Value.ref 143) _) _ _ _); k_dflt (refine Ct.usePolyR (R := R2 _ _) (by k_asm) (by k_asm) (by k_asm) (by k_asm) (by k_asm) (by first | exact rfl | assumption) (r2 (by k_mem) (by (first | assumption | exact IntsAre.nil | exact IntsAre.cons _ _ .nil)) (by k_mem) (by (first | assumption | exact IntsAre.nil | exact IntsAre.cons _ _ .nil))) (t_zexact _ _ _ _ _ _ _ (by (omega)) (by (omega)) (by assumption) (by assumption) 200 (by omega) (by assumption) (by assumption) (by assumption)) (by ktr_room) (by ktr_units) ?_; (intro D'z us'z n'z h'z tk'z F'z N'z I'z J'z K'z; (try dsimp only); (try k_fold)))) | (k_here; (with_reducible show wpAny _ _ (call (Value.ref 178) _) _ _ _); k_dflt (refine Ct.usePolyR (R := R2 _ _) (by k_asm) (by k_asm) (by k_asm) (by k_asm) (by k_asm) (by first | exact rfl | assumption) (r2 (by k_mem) (by (first | assumption | exact IntsAre.nil | exact IntsAre.cons _ _ .nil)) (by k_mem) (by (first | assumption | exact IntsAre.nil | exact IntsAre.cons _ _ .nil))) (t_zgcd _ _ _ _ _ _ _ (by (omega)) (by (omega)) (by assumption)) (by ktr_room) (by ktr_units) ?_; (intro D'z us'z n'z h'z tk'z F'z N'z I'z J'z K'z; (try dsimp only); (try k_fold))))) | (k_here; (with_reducible show wpAny _ _ (call (Value.builtin _) [Value.int _ _, Value.int _ _, Value.int _ _]) _ _ _); refine max_three_L (by rfl) (by k_asm) (by k_asm) ?_; intro t'z h'z tk'z F'z N'z; (try dsimp only); (try k_fold)) | ((with_reducible show LCg.CompEnd ..); (k_here; refine end_sub (by k_asm) (by k_asm) (by walk_at "mine sub") (by assumption) (by exact Or.inr ⟨_, by k_mem, rfl, _, rfl⟩) ?_)) | (k_here; (with_reducible show TupSrc _ _ _ _ _ _ _ _ _ _ _ _ (Value.ref _) _); k_dflt (refine TupSrc.intro (by rfl) (by k_asm) (by k_asm) (by k_mem) (by exact Nat.le_of_ble_eq_true rfl) ?_); intro g'z) | (k_here; (with_reducible show wpAny _ _ (eval (Expr.ListComp _ [Comprehension.mk (Expr.Name _ _) _ _ _] _ _) _) _ _ _); k_dflt (refine ListComp_tup (by k_asm) (by with_unfolding_all rfl) (by decide) (by rfl) (by decide) (by rfl) ?_)) | walk1)) | (leave1; walk_say "STEP leave1"; try dsimp only) | fail "no step")))
    all_goals first
      | (exfalso; omega)
      | exact hret _ _ _ _ (by k_asm) (by k_asm) ⟨by walk_at "mine sub", by rw [beq_iff_eq.mpr (by omega)]⟩
  · obtain ⟨hc1, hc2, hc3, x, y, z, hx, hy, hz', hsx', hsy', hsz', hmost⟩ := tripleOk_go htr
    obtain ⟨q1, he1, hq1⟩ := copP_facts hc1
    obtain ⟨q2, he2, hq2⟩ := copP_facts hc2
    obtain ⟨q3, he3, hq3⟩ := copP_facts hc3
    obtain ⟨hxB', hxl'⟩ := smallP_facts hsx'
    obtain ⟨hyB', hyl'⟩ := smallP_facts hsy'
    obtain ⟨hzB', hzl'⟩ := smallP_facts hsz'
    unfold degI at hmost
    have hn1 : (q1.length : Int) = 1 := by omega
    have hn2 : (q2.length : Int) = 1 := by omega
    have hn3 : (q3.length : Int) = 1 := by omega
    have hm2 : max (max ((a.length : Int) - 1) ((b.length : Int) - 1)) (((addP a b).length : Int) - 1) ≠ 0 → max (max ((a.length : Int) - 1) ((b.length : Int) - 1)) (((addP a b).length : Int) - 1) ≤ (x.length : Int) - 1 + ((y.length : Int) - 1 + ((z.length : Int) - 1 + 0)) - 1 := by
      intro h
      rcases hmost with h' | h'
      · exact absurd h' h
      · generalize max (max ((a.length : Int) - 1) ((b.length : Int) - 1)) (((addP a b).length : Int) - 1) = M at h' ⊢
        omega
    have htpos : 0 < (addP a b).length := List.length_pos_iff.mpr ht
    w_top off; unfold Ct PR VW LS KF; k_fill; intro dp un gd cn cs a ccd cl outer A₀ base h₀ L m news s vs Q E B F X N T hk hR hd hu hret
    obtain ⟨pa, pb, rfl, ⟨pv, pn, hpm, hpi⟩, ⟨qv, qn, hqm, hqi⟩⟩ := hR
    have hpl := hpi.length
    have hql := hqi.length
    (refine wpAny_call ?_; k_dflt ktr_enter)
    (repeat' ((fail_if_success (with_reducible show wpAny _ _ (exec (Stmt.While _ _ _ _) _) _ _ _)); (fail_if_success (with_reducible show wpAny _ _ (pyIter (Value.ref _)) (fun it s₂ => LoopAtV _ _ _ _ _ _ _ _ _ it s₂) _ _)); (fail_if_success (with_reducible show wpAny _ _ (exec (Stmt.For (Expr.Tuple _ _ _) _ _ _ _) _) _ _ _)); (fail_if_success (with_reducible show wpAny _ _ (call (Value.type "enumerate") _) _ _ _)); (first | (k_unfold; (try dsimp only)) | (k_end; wrow_close) | (first | ((with_reducible show wpAny _ _ (call (Value.ref _) _) _ _ _); first | (k_here; (with_reducible show wpAny _ _ (call (Value.ref 185) _) _ _ _); k_dflt (refine Ct.useR (R := R2 _ _) (by k_asm) (by k_asm) (by k_asm) (by k_asm) (by k_asm) (by first | exact rfl | assumption) (r2 (by k_mem) (by (first | assumption | exact IntsAre.nil | exact IntsAre.cons _ _ .nil)) (by k_mem) (by (first | assumption | exact IntsAre.nil | exact IntsAre.cons _ _ .nil))) (t_zcoprime _ _ _ _ _ _ _ (by (omega)) (by (omega)) (by assumption) (by omega)) (by ktr_room) (by ktr_units) ?_; (intro r'z news'z h'z tk'z F'z N'z O'z; (first | (obtain ⟨hs'z, e'z⟩ := O'z; subst e'z; (have N'z := news_sub N'z hs'z); clear hs'z); (try dsimp only); (try k_fold))))) | (k_here; (with_reducible show wpAny _ _ (call (Value.ref 192) _) _ _ _); k_dflt (refine Ct.usePolyR (R := R1 _) (by k_asm) (by k_asm) (by k_asm) (by k_asm) (by k_asm) (by first | exact rfl | assumption) (r1 (by k_mem) (by (first | assumption | exact IntsAre.nil | exact IntsAre.cons _ _ .nil))) (t_square _ _ _ _ _ _ (by (omega)) (by assumption)) (by ktr_room) (by ktr_units) ?_; (intro D'z us'z n'z h'z tk'z F'z N'z I'z J'z K'z; (try dsimp only); (try k_fold)))) | (k_here; (with_reducible show wpAny _ _ (call (Value.ref 62) _) _ _ _); k_dflt (refine Ct.useIntR (R := R1 _) (by k_asm) (by k_asm) (by k_asm) (by k_asm) (by k_asm) (by first | exact rfl | assumption) (r1 (by k_mem) (by (first | assumption | exact IntsAre.nil | exact IntsAre.cons _ _ .nil))) (t_zdegree _ _ _ _ _ (by (omega))) (by ktr_room) (by ktr_units) ?_; (intro t'z h'z tk'z F'z N'z; (try dsimp only); (try k_fold)))) | (k_here; (with_reducible show wpAny _ _ (call (Value.ref 74) _) _ _ _); k_dflt (refine Ct.usePolyR (R := R2 _ _) (by k_asm) (by k_asm) (by k_asm) (by k_asm) (by k_asm) (by first | exact rfl | assumption) (r2 (by k_mem) (by (first | assumption | exact IntsAre.nil | exact IntsAre.cons _ _ .nil)) (by k_mem) (by (first | assumption | exact IntsAre.nil | exact IntsAre.cons _ _ .nil))) (t_zadd _ _ _ _ _ _ (by (omega)) (by (omega))) (by ktr_room) (by ktr_units) ?_; (intro D'z us'z n'z h'z tk'z F'z N'z I'z J'z K'z; (try dsimp only); (try k_fold)))) | (k_here; (with_reducible show wpAny _ _ (call (Value.ref 143) _) _ _ _); k_dflt (refine Ct.usePolyR (R := R2 _ _) (by k_asm) (by k_asm) (by k_asm) (by k_asm) (by k_asm) (by first | exact rfl | assumption) (r2 (by k_mem) (by (first | assumption | exact IntsAre.nil | exact IntsAre.cons _ _ .nil)) (by k_mem) (by (first | assumption | exact IntsAre.nil | exact IntsAre.cons _ _ .nil))) (t_zexact _ _ _ _ _ _ _ (by (omega)) (by (omega)) (by assumption) (by assumption) 200 (by omega) (by assumption) (by assumption) (by assumption)) (by ktr_room) (by ktr_units) ?_; (intro D'z us'z n'z h'z tk'z F'z N'z I'z J'z K'z; (try dsimp only); (try k_fold)))) | (k_here; (with_reducible show wpAny _ _ (call (Value.ref 178) _) _ _ _); k_dflt (refine Ct.usePolyR (R := R2 _ _) (by k_asm) (by k_asm) (by k_asm) (by k_asm) (by k_asm) (by first | exact rfl | assumption) (r2 (by k_mem) (by (first | assumption | exact IntsAre.nil | exact IntsAre.cons _ _ .nil)) (by k_mem) (by (first | assumption | exact IntsAre.nil | exact IntsAre.cons _ _ .nil))) (t_zgcd _ _ _ _ _ _ _ (by (omega)) (by (omega)) (by assumption)) (by ktr_room) (by ktr_units) ?_; (intro D'z us'z n'z h'z tk'z F'z N'z I'z J'z K'z; (try dsimp only); (try k_fold))))) | (k_here; (with_reducible show wpAny _ _ (call (Value.builtin _) [Value.int _ _, Value.int _ _, Value.int _ _]) _ _ _); refine max_three_L (by rfl) (by k_asm) (by k_asm) ?_; intro t'z h'z tk'z F'z N'z; (try dsimp only); (try k_fold)) | ((with_reducible show LCg.CompEnd ..); (k_here; refine end_sub (by k_asm) (by k_asm) (by walk_at "mine sub") (by assumption) (by exact Or.inr ⟨_, by k_mem, rfl, _, rfl⟩) ?_)) | (k_here; (with_reducible show TupSrc _ _ _ _ _ _ _ _ _ _ _ _ (Value.ref _) _); k_dflt (refine TupSrc.intro (by rfl) (by k_asm) (by k_asm) (by k_mem) (by exact Nat.le_of_ble_eq_true rfl) ?_); intro g'z) | (k_here; (with_reducible show wpAny _ _ (eval (Expr.ListComp _ [Comprehension.mk (Expr.Name _ _) _ _ _] _ _) _) _ _ _); k_dflt (refine ListComp_tup (by k_asm) (by with_unfolding_all rfl) (by decide) (by rfl) (by decide) (by rfl) ?_)) | walk1) | (dsimp only; (first | ((with_reducible show wpAny _ _ (call (Value.ref _) _) _ _ _); first | (k_here; (with_reducible show wpAny _ _ (call (Value.ref 185) _) _ _ _); k_dflt (refine Ct.useR (R := R2 _ _) (by k_asm) (by k_asm) (by k_asm) (by k_asm) (by k_asm) (by first | exact rfl | assumption) (r2 (by k_mem) (by (first | assumption | exact IntsAre.nil | exact IntsAre.cons _ _ .nil)) (by k_mem) (by (first | assumption | exact IntsAre.nil | exact IntsAre.cons _ _ .nil))) (t_zcoprime _ _ _ _ _ _ _ (by (omega)) (by (omega)) (by assumption) (by omega)) (by ktr_room) (by ktr_units) ?_; (intro r'z news'z h'z tk'z F'z N'z O'z; (first | (obtain ⟨hs'z, e'z⟩ := O'z; subst e'z; (have N'z := news_sub N'z hs'z); clear hs'z); (try dsimp only); (try k_fold))))) | (k_here; (with_reducible show wpAny _ _ (call (Value.ref 192) _) _ _ _); k_dflt (refine Ct.usePolyR (R := R1 _) (by k_asm) (by k_asm) (by k_asm) (by k_asm) (by k_asm) (by first | exact rfl | assumption) (r1 (by k_mem) (by (first | assumption | exact IntsAre.nil | exact IntsAre.cons _ _ .nil))) (t_square _ _ _ _ _ _ (by (omega)) (by assumption)) (by ktr_room) (by ktr_units) ?_; (intro D'z us'z n'z h'z tk'z F'z N'z I'z J'z K'z; (try dsimp only); (try k_fold)))) | (k_here; (with_reducible show wpAny _ _ (call (Value.ref 62) _) _ _ _); k_dflt (refine Ct.useIntR (R := R1 _) (by k_asm) (by k_asm) (by k_asm) (by k_asm) (by k_asm) (by first | exact rfl | assumption) (r1 (by k_mem) (by (first | assumption | exact IntsAre.nil | exact IntsAre.cons _ _ .nil))) (t_zdegree _ _ _ _ _ (by (omega))) (by ktr_room) (by ktr_units) ?_; (intro t'z h'z tk'z F'z N'z; (try dsimp only); (try k_fold)))) | (k_here; (with_reducible show wpAny _ _ (call (Value.ref 74) _) _ _ _); k_dflt (refine Ct.usePolyR (R := R2 _ _) (by k_asm) (by k_asm) (by k_asm) (by k_asm) (by k_asm) (by first | exact rfl | assumption) (r2 (by k_mem) (by (first | assumption | exact IntsAre.nil | exact IntsAre.cons _ _ .nil)) (by k_mem) (by (first | assumption | exact IntsAre.nil | exact IntsAre.cons _ _ .nil))) (t_zadd _ _ _ _ _ _ (by (omega)) (by (omega))) (by ktr_room) (by ktr_units) ?_; (intro D'z us'z n'z h'z tk'z F'z N'z I'z J'z K'z; (try dsimp only); (try k_fold)))) | (k_here; (with_reducible show wpAny _ _ (call (Value.ref 143) _) _ _ _); k_dflt (refine Ct.usePolyR (R := R2 _ _) (by k_asm) (by k_asm) (by k_asm) (by k_asm) (by k_asm) (by first | exact rfl | assumption) (r2 (by k_mem) (by (first | assumption | exact IntsAre.nil | exact IntsAre.cons _ _ .nil)) (by k_mem) (by (first | assumption | exact IntsAre.nil | exact IntsAre.cons _ _ .nil))) (t_zexact _ _ _ _ _ _ _ (by (omega)) (by (omega)) (by assumption) (by assumption) 200 (by omega) (by assumption) (by assumption) (by assumption)) (by ktr_room) (by ktr_units) ?_; (intro D'z us'z n'z h'z tk'z F'z N'z I'z J'z K'z; (try dsimp only); (try k_fold)))) | (k_here; (with_reducible show wpAny _ _ (call (Value.ref 178) _) _ _ _); k_dflt (refine Ct.usePolyR (R := R2 _ _) (by k_asm) (by k_asm) (by k_asm) (by k_asm) (by k_asm) (by first | exact rfl | assumption) (r2 (by k_mem) (by (first | assumption | exact IntsAre.nil | exact IntsAre.cons _ _ .nil)) (by k_mem) (by (first | assumption | exact IntsAre.nil | exact IntsAre.cons _ _ .nil))) (t_zgcd _ _ _ _ _ _ _ (by (omega)) (by (omega)) (by assumption)) (by ktr_room) (by ktr_units) ?_; (intro D'z us'z n'z h'z tk'z F'z N'z I'z J'z K'z; (try dsimp only); (try k_fold))))) | (k_here; (with_reducible show wpAny _ _ (call (Value.builtin _) [Value.int _ _, Value.int _ _, Value.int _ _]) _ _ _); refine max_three_L (by rfl) (by k_asm) (by k_asm) ?_; intro t'z h'z tk'z F'z N'z; (try dsimp only); (try k_fold)) | ((with_reducible show LCg.CompEnd ..); (k_here; refine end_sub (by k_asm) (by k_asm) (by walk_at "mine sub") (by assumption) (by exact Or.inr ⟨_, by k_mem, rfl, _, rfl⟩) ?_)) | (k_here; (with_reducible show TupSrc _ _ _ _ _ _ _ _ _ _ _ _ (Value.ref _) _); k_dflt (refine TupSrc.intro (by rfl) (by k_asm) (by k_asm) (by k_mem) (by exact Nat.le_of_ble_eq_true rfl) ?_); intro g'z) | (k_here; (with_reducible show wpAny _ _ (eval (Expr.ListComp _ [Comprehension.mk (Expr.Name _ _) _ _ _] _ _) _) _ _ _); k_dflt (refine ListComp_tup (by k_asm) (by with_unfolding_all rfl) (by decide) (by rfl) (by decide) (by rfl) ?_)) | walk1)) | (leave1; walk_say "STEP leave1"; try dsimp only) | fail "no step")))
    all_goals first
      | exact absurd hn1 (by assumption)
      | exact absurd hn2 (by assumption)
      | exact absurd hn3 (by assumption)
      | exact hret _ _ _ _ (by k_asm) (by k_asm) ⟨by walk_at "mine sub", by rw [decide_eq_true (hm2 (by assumption))]⟩
      | exact hret _ _ _ _ (by k_asm) (by k_asm) ⟨by walk_at "mine sub", by rw [beq_iff_eq.mpr (by assumption)]⟩

end
section
open Builtin.Int (intBits)
theorem set_head {prog : Program} {w : World} {A : Around} {E : Value → Shared → Prop} {s : Shared} {h₀ : Heap} {L D : Addr} {m : Str → Option Value} {v0 v1 v : Value} {n : Nat} {t : Tok} {news : List (Addr × Obj)} {Q : Unit → Shared → Prop} (F : Fr h₀ L s.heap m) (N : News h₀ L s.heap ((D, listOf (List.toArray [v0, v1]) n) :: news)) (hap : ∀ p ∈ news, p.1 ≠ D)
    (h : ∀ h', Fr h₀ L h' m → News h₀ L h' ((D, listOf (List.toArray [v0, v]) n) :: news) → Q () { s with heap := h' }) : wpAny (model prog w) A (setItem (.ref D) (.int 1 t) v) Q E s := by
  have z := N _ (.head _)
  refine ki_setAt z.1 (by decide) (by decide) (by simp) (h _ (F.change (Heap.SameBut.update ..) z.2.1 z.2.2) (ki_turn (pre := []) _ N (fun _ h => nomatch h) hap ?_ ?_))
  · simp
  · simp
/-- what a draw gives -/
noncomputable def drawP (xs : List Int) (spot many : Int) : Int := if spot < (xs.length : Int) then Int.fmod (if xs.getD spot.toNat 0 < 0 then -xs.getD spot.toNat 0 else xs.getD spot.toNat 0) many else Int.fmod (7 * spot + Int.fdiv spot 2 + 5) many
theorem draw_in {xs : List Int} {spot many : Int} (h : spot < (xs.length : Int)) (t : Tok) : Value.int (Int.fmod (if xs.getD spot.toNat 0 < 0 then -xs.getD spot.toNat 0 else xs.getD spot.toNat 0) many) t = Value.int (drawP xs spot many) t := by rw [drawP, if_pos h]
theorem draw_out {xs : List Int} {spot many : Int} (h : ¬ spot < (xs.length : Int)) (t : Tok) : Value.int (Int.fmod (7 * spot + Int.fdiv spot 2 + 5) many) t = Value.int (drawP xs spot many) t := by rw [drawP, if_neg h]
/-- the pool is asked: its cells and its spot -/
noncomputable def RDraw (pp pl : Addr) (xs : List Int) (spot many : Int) (news : List (Addr × Obj)) (vs : List Value) : Prop := ∃ t t2 n, (pp, listOf (List.toArray [.ref pl, .int spot t]) n) ∈ news ∧ vs = [.ref pp, .int many t2] ∧ Poly news pl xs ∧ pl ≠ pp
noncomputable def ODraw (pp pl : Addr) (xs : List Int) (spot x : Int) (news news' : List (Addr × Obj)) (r : Value) : Prop := (∃ t, r = .int x t) ∧ (∀ q ∈ news, q.1 ≠ pp → q ∈ news') ∧ ∃ t n, (pp, listOf (List.toArray [.ref pl, .int (spot + 1) t]) n) ∈ news' ∧ Poly news' pl xs
set_option maxHeartbeats 8000000 in
theorem t_draw (w : World) (mean : ExcName → Option Value) (mg mb : Str → Option Value) (pp pl : Addr) (xs : List Int) (spot many : Int) (hl : xs.length < 1000) (hs0 : 0 ≤ spot) (hs : spot < 1000) (hm0 : 0 < many) (hm : many < 1000) : Ct w mean mg mb 199 1 (RDraw pp pl xs spot many) (ODraw pp pl xs spot (drawP xs spot many)) := by
  w_top off; unfold Ct PR VW LS KF; k_fill; intro dp un gd cn cs a ccd cl outer A₀ base h₀ L m news s vs Q E B F X N T hk hR hd hu hret
  obtain ⟨t, t2, n, hpm, rfl, ⟨pv, pn, hlm, hpi⟩, hne⟩ := hR
  have hpl := hpi.length
  have N₁ := news_front (by assumption : News _ _ _ _) hpm
  have hlm' := front_mem hlm hne
  (refine wpAny_call ?_; k_dflt ktr_enter)
  (repeat' ((fail_if_success (with_reducible show wpAny _ _ (exec (Stmt.While _ _ _ _) _) _ _ _)); (fail_if_success (with_reducible show wpAny _ _ (pyIter (Value.ref _)) (fun it s₂ => LoopAtV _ _ _ _ _ _ _ _ _ it s₂) _ _)); (fail_if_success (with_reducible show wpAny _ _ (exec (Stmt.For (Expr.Tuple _ _ _) _ _ _ _) _) _ _ _)); (fail_if_success (with_reducible show wpAny _ _ (call (Value.type "enumerate") _) _ _ _)); (first | (k_unfold; (try dsimp only)) | (k_end; wrow_close) | (first | (k_here; (with_reducible show wpAny _ _ (setItem (Value.ref _) (Value.int 1 _) _) _ _ _); k_dflt (refine set_head (by k_asm) (by assumption) front_ne ?_); intro h'z F'z N'z; (try dsimp only); (try k_fold)) | walk1) | (dsimp only; (first | (k_here; (with_reducible show wpAny _ _ (setItem (Value.ref _) (Value.int 1 _) _) _ _ _); k_dflt (refine set_head (by k_asm) (by assumption) front_ne ?_); intro h'z F'z N'z; (try dsimp only); (try k_fold)) | walk1)) | (leave1; walk_say "STEP leave1"; try dsimp only) | fail "no step")))
  all_goals first
    | exact hret _ _ _ _ (by k_asm) (by k_asm) ⟨⟨_, draw_in (by assumption) _⟩, fun q hq hn => List.Mem.tail _ (front_mem hq hn), _, _, List.Mem.head _, ⟨pv, pn, List.Mem.tail _ hlm', hpi⟩⟩
    | exact hret _ _ _ _ (by k_asm) (by k_asm) ⟨⟨_, draw_out (by assumption) _⟩, fun q hq hn => List.Mem.tail _ (front_mem hq hn), _, _, List.Mem.head _, ⟨pv, pn, List.Mem.tail _ hlm', hpi⟩⟩

end
section
open Builtin.Int (intBits)
noncomputable def smallP' (g : List Int) : Bool := g.all smallI && Nat.blt g.length 50
/-- the factor taken in so many times -/
noncomputable def powP (line : List Int) : Nat → List Int → Option (List Int)
  | 0, f => some f
  | n + 1, f => match powP line n f with
    | some g => if smallP' g = true ∧ smallP' line = true then some (mulP g line) else none
    | none => none
/-- the two turns -/
noncomputable def lineP (xs : List Int) (spot : Int) : List Int := [2 - drawP xs spot 5, 1]
noncomputable def linesP (xs : List Int) (spot : Int) : Nat → Option (List Int)
  | 0 => some [1 + drawP xs spot 3]
  | n + 1 => match linesP xs spot n with
    | some g => powP (lineP xs (spot + 1 + 2 * n)) (drawP xs (spot + 2 + 2 * n) 3).toNat g
    | none => none
theorem drawP_lt {xs : List Int} {spot many : Int} (h : 0 < many) : 0 ≤ drawP xs spot many ∧ drawP xs spot many < many := by
  unfold drawP
  split
  · exact ⟨Int.fmod_nonneg_of_pos _ h, Int.fmod_lt_of_pos _ h⟩
  · exact ⟨Int.fmod_nonneg_of_pos _ h, Int.fmod_lt_of_pos _ h⟩
theorem powP_go {line : List Int} {n : Nat} {f g : List Int} (h : powP line (n + 1) f = some g) : ∃ g0, powP line n f = some g0 ∧ smallP' g0 = true ∧ smallP' line = true ∧ mulP g0 line = g := by
  rw [powP] at h
  cases e : powP line n f with
  | none => rw [e] at h; cases h
  | some g0 =>
    rw [e] at h
    simp only at h
    by_cases c : smallP' g0 = true ∧ smallP' line = true
    · rw [if_pos c] at h; exact ⟨g0, rfl, c.1, c.2, Option.some.inj h⟩
    · rw [if_neg c] at h; cases h
theorem powP_le {line : List Int} {f g : List Int} : ∀ {n k : Nat}, powP line n f = some g → k ≤ n → ∃ g', powP line k f = some g'
  | 0, k, h, hk => ⟨g, by rw [Nat.le_zero.mp hk]; exact h⟩
  | n + 1, k, h, hk => by
    by_cases e : k = n + 1
    · exact ⟨g, e ▸ h⟩
    · obtain ⟨g0, h0, _⟩ := powP_go h
      exact powP_le h0 (by omega)
theorem linesP_go {xs : List Int} {spot : Int} {n : Nat} {g : List Int} (h : linesP xs spot (n + 1) = some g) : ∃ f, linesP xs spot n = some f ∧ powP (lineP xs (spot + 1 + 2 * n)) (drawP xs (spot + 2 + 2 * n) 3).toNat f = some g := by
  rw [linesP] at h
  cases e : linesP xs spot n with
  | none => rw [e] at h; cases h
  | some f => rw [e] at h; exact ⟨f, rfl, h⟩
theorem linesP_turn {xs : List Int} {spot : Int} {q f : List Int} {i : Nat} (h : linesP xs spot 2 = some q) (hi : i < 2) (hf : linesP xs spot i = some f) : ∃ g, linesP xs spot (i + 1) = some g ∧ powP (lineP xs (spot + 1 + 2 * i)) (drawP xs (spot + 2 + 2 * i) 3).toNat f = some g := by
  obtain ⟨f1, h1, p1⟩ := linesP_go h
  have key : ∀ {n : Nat} {g : List Int}, linesP xs spot (n + 1) = some g → linesP xs spot n = some f → ∃ g, linesP xs spot (n + 1) = some g ∧ powP (lineP xs (spot + 1 + 2 * n)) (drawP xs (spot + 2 + 2 * n) 3).toNat f = some g := fun hg hf => by
    obtain ⟨f', h', p'⟩ := linesP_go hg
    rw [hf] at h'
    obtain rfl := Option.some.inj h'
    exact ⟨_, hg, p'⟩
  match i, hi with
  | 0, _ => exact key h1 hf
  | 1, _ => exact key h hf
/-- after a draw, in the caller: the pool stands first -/
theorem draw_back {h₀ h : Heap} {L pp pl : Addr} {xs : List Int} {spot x : Int} {news news' : List (Addr × Obj)} {r : Value} (O : ODraw pp pl xs spot x news news' r) (hne : pl ≠ pp) (N : News h₀ L h news') :
    ∃ t, r = .int x t ∧ ∃ t' n rest, News h₀ L h ((pp, listOf (List.toArray [.ref pl, .int (spot + 1) t']) n) :: rest) ∧ Poly rest pl xs ∧ (∀ q ∈ rest, q.1 ≠ pp) ∧ ∀ q ∈ news, q.1 ≠ pp → q ∈ rest := by
  obtain ⟨⟨t, e⟩, hk, t', n, hm, ⟨pv, pn, hlm, hpi⟩⟩ := O
  exact ⟨t, e, t', n, _, news_front N hm, ⟨pv, pn, front_mem hlm hne, hpi⟩, front_ne, fun q hq hn => front_mem (hk q hq hn) hn⟩
theorem poly_up {a b : List (Addr × Obj)} {p : Addr} {xs : List Int} (h : Poly a p xs) (k : Sub a b) : Poly b p xs := by
  obtain ⟨v, n, hm, hi⟩ := h
  exact ⟨v, n, k _ hm, hi⟩
theorem rdraw {pp pl : Addr} {xs : List Int} {spot many : Int} {t t2 : Tok} {n : Nat} {news a : List (Addr × Obj)} (hm : (pp, listOf (List.toArray [.ref pl, .int spot t]) n) ∈ news) (hp : Poly a pl xs) (k : Sub a news) (hne : pl ≠ pp) : RDraw pp pl xs spot many news [.ref pp, .int many t2] := ⟨t, t2, n, hm, Eq.refl _, poly_up hp k, hne⟩
noncomputable def RLines (pp pl : Addr) (xs : List Int) (spot : Int) (news : List (Addr × Obj)) (vs : List Value) : Prop := ∃ t n, (pp, listOf (List.toArray [.ref pl, .int spot t]) n) ∈ news ∧ vs = [.ref pp] ∧ Poly news pl xs ∧ pl ≠ pp
noncomputable def OLines (pp pl : Addr) (xs : List Int) (spot : Int) (f : List Int) (news news' : List (Addr × Obj)) (r : Value) : Prop := ∃ pf, r = .ref pf ∧ pf ≠ pp ∧ Poly news' pf f ∧ (∀ q ∈ news, q.1 ≠ pp → q ∈ news') ∧ ∃ t n, (pp, listOf (List.toArray [.ref pl, .int (spot + 5) t]) n) ∈ news' ∧ Poly news' pl xs
noncomputable def JLines (pp pl : Addr) (xs : List Int) (spot : Int) (news : List (Addr × Obj)) (i : Nat) (m₁ : Str → Option Value) (news₁ : List (Addr × Obj)) : Prop :=
  ∃ pf f t n, m₁ (Str.ofString "found") = some (.ref pf) ∧ m₁ (Str.ofString "pool") = some (.ref pp) ∧ (pp, listOf (List.toArray [.ref pl, .int (spot + 1 + 2 * (i : Int)) t]) n) ∈ news₁ ∧ Poly news₁ pf f ∧ linesP xs spot i = some f ∧ Poly news₁ pl xs ∧ pf ≠ pp ∧ (∀ q ∈ news, q.1 ≠ pp → q ∈ news₁)
theorem JLines.intro {pp pf pl : Addr} {xs f : List Int} {spot spot' : Int} {news a : List (Addr × Obj)} {i : Nat} {m₁ : Str → Option Value} {news₁ : List (Addr × Obj)} {t : Tok} {n : Nat} (h1 : m₁ (Str.ofString "found") = some (.ref pf)) (h2 : m₁ (Str.ofString "pool") = some (.ref pp)) (hm : (pp, listOf (List.toArray [.ref pl, .int spot' t]) n) ∈ news₁) (he : spot' = spot + 1 + 2 * (i : Int))
    (hf : Poly news₁ pf f) (hl : linesP xs spot i = some f) (hp : Poly a pl xs) (hs : Sub a news₁) (hnf : pf ≠ pp) (hk : ∀ q ∈ news, q.1 ≠ pp → q ∈ a) : JLines pp pl xs spot news i m₁ news₁ := by
  subst he
  exact ⟨pf, f, t, n, h1, h2, hm, hf, hl, poly_up hp hs, hnf, fun q hq hn => hs q (hk q hq hn)⟩
theorem small'_facts {g : List Int} (h : smallP' g = true) : Bd 200 g ∧ g.length < 50 := by
  simp only [smallP', Bool.and_eq_true] at h
  exact ⟨smallI_Bd h.1, by simpa using h.2⟩
noncomputable def JPow (pp pl I : Addr) (xs line : List Int) (spot : Int) (f : List Int) (K : List (Addr × Obj)) (k : Nat) (m₁ : Str → Option Value) (news₁ : List (Addr × Obj)) : Prop :=
  ∃ pf g ll t n, m₁ (Str.ofString "found") = some (.ref pf) ∧ m₁ (Str.ofString "pool") = some (.ref pp) ∧ m₁ (Str.ofString "line") = some (.ref ll) ∧ (pp, listOf (List.toArray [.ref pl, .int spot t]) n) ∈ news₁ ∧ Poly news₁ pf g ∧ powP line k f = some g ∧ Poly news₁ ll line ∧ Poly news₁ pl xs ∧ pf ≠ pp ∧ pf ≠ I ∧ (∀ q ∈ K, q.1 ≠ pp → q ∈ news₁)
theorem two_front {p q : Addr × Obj} {r : List (Addr × Obj)} : Sub (p :: r) (p :: q :: r) := List.forall_mem_cons.mpr ⟨List.Mem.head _, fun _ hq => List.Mem.tail _ (List.Mem.tail _ hq)⟩
theorem JPow.intro {pp pl I pf ll : Addr} {xs line g f : List Int} {spot : Int} {K : List (Addr × Obj)} {k : Nat} {m₁ : Str → Option Value} {news₁ : List (Addr × Obj)} {t : Tok} {n : Nat} (h1 : m₁ (Str.ofString "found") = some (.ref pf)) (h2 : m₁ (Str.ofString "pool") = some (.ref pp)) (h3 : m₁ (Str.ofString "line") = some (.ref ll)) (hm : (pp, listOf (List.toArray [.ref pl, .int spot t]) n) ∈ news₁)
    (hf : Poly news₁ pf g) (hp : powP line k f = some g) (hl : Poly news₁ ll line) (hpl : Poly news₁ pl xs) (hnf : pf ≠ pp) (hfI : pf ≠ I) (hk : ∀ q ∈ K, q.1 ≠ pp → q ∈ news₁) : JPow pp pl I xs line spot f K k m₁ news₁ := ⟨pf, g, ll, t, n, h1, h2, h3, hm, hf, hp, hl, hpl, hnf, hfI, hk⟩
set_option maxHeartbeats 8000000 in
theorem t_lines (w : World) (mean : ExcName → Option Value) (mg mb : Str → Option Value) (pp pl : Addr) (xs q : List Int) (spot : Int) (hl : xs.length < 1000) (hs0 : 0 ≤ spot) (hs : spot < 900) (hq : linesP xs spot 2 = some q) : Ct w mean mg mb 206 2 (RLines pp pl xs spot) (OLines pp pl xs spot q) := by
  w_top off; unfold Ct PR VW LS KF; k_fill; intro dp un gd cn cs a ccd cl outer A₀ base h₀ L m news s vs Q E B F X N T hk hR hd hu hret
  obtain ⟨t, n, hpm, rfl, hpo, hne⟩ := hR
  (refine wpAny_call ?_; k_dflt ktr_enter)
  (repeat' ((fail_if_success (with_reducible show wpAny _ _ (exec (Stmt.While _ _ _ _) _) _ _ _)); (fail_if_success (with_reducible show wpAny _ _ (pyIter (Value.ref _)) (fun it s₂ => LoopAtV _ _ _ _ _ _ _ _ _ it s₂) _ _)); (fail_if_success (with_reducible show wpAny _ _ (exec (Stmt.For (Expr.Tuple _ _ _) _ _ _ _) _) _ _ _)); (fail_if_success (with_reducible show wpAny _ _ (call (Value.type "enumerate") _) _ _ _)); (first | (k_unfold; (try dsimp only)) | (k_end; wrow_close) | (first | ((with_reducible show wpAny _ _ (call (Value.ref _) _) _ _ _); first | (k_here; (with_reducible show wpAny _ _ (call (Value.ref 105) _) _ _ _); k_dflt (refine Ct.usePolyR (R := R2 _ _) (by k_asm) (by k_asm) (by k_asm) (by k_asm) (by k_asm) (by first | exact rfl | assumption) (r2 (by k_mem) (by (first | assumption | exact IntsAre.nil | exact IntsAre.cons _ _ .nil)) (by k_mem) (by (first | assumption | exact IntsAre.nil | exact IntsAre.cons _ _ .nil))) (t_zmul _ _ _ _ _ _ (by omega) (by omega) 200 (by omega) (by assumption) (by assumption)) (by ktr_room) (by ktr_units) ?_; (intro D'z us'z n'z h'z tk'z F'z N'z I'z J'z K'z; (try dsimp only); (try k_fold)))) | (k_here; (with_reducible show wpAny _ _ (call (Value.ref 199) _) _ _ _); k_dflt (refine Ct.useR (R := RDraw _ _ _ _ _) (by k_asm) (by k_asm) (by k_asm) (by k_asm) (by k_asm) (by first | exact rfl | assumption) (rdraw (by k_mem) (by assumption) (by walk_at "mine sub") (by assumption)) (t_draw _ _ _ _ _ _ _ _ _ (by omega) (by omega) (by omega) (by omega) (by omega)) (by ktr_room) (by ktr_units) ?_; (intro r'z news'z h'z tk'z F'z N'z O'z; obtain ⟨t'z, e'z, t₂'z, n'z, rest'z, N'z, hp'z, hoff'z, hkeep'z⟩ := draw_back O'z (by assumption) N'z; subst e'z; clear O'z; (try dsimp only); (try k_fold))))) | walk1) | (dsimp only; (first | ((with_reducible show wpAny _ _ (call (Value.ref _) _) _ _ _); first | (k_here; (with_reducible show wpAny _ _ (call (Value.ref 105) _) _ _ _); k_dflt (refine Ct.usePolyR (R := R2 _ _) (by k_asm) (by k_asm) (by k_asm) (by k_asm) (by k_asm) (by first | exact rfl | assumption) (r2 (by k_mem) (by (first | assumption | exact IntsAre.nil | exact IntsAre.cons _ _ .nil)) (by k_mem) (by (first | assumption | exact IntsAre.nil | exact IntsAre.cons _ _ .nil))) (t_zmul _ _ _ _ _ _ (by omega) (by omega) 200 (by omega) (by assumption) (by assumption)) (by ktr_room) (by ktr_units) ?_; (intro D'z us'z n'z h'z tk'z F'z N'z I'z J'z K'z; (try dsimp only); (try k_fold)))) | (k_here; (with_reducible show wpAny _ _ (call (Value.ref 199) _) _ _ _); k_dflt (refine Ct.useR (R := RDraw _ _ _ _ _) (by k_asm) (by k_asm) (by k_asm) (by k_asm) (by k_asm) (by first | exact rfl | assumption) (rdraw (by k_mem) (by assumption) (by walk_at "mine sub") (by assumption)) (t_draw _ _ _ _ _ _ _ _ _ (by omega) (by omega) (by omega) (by omega) (by omega)) (by ktr_room) (by ktr_units) ?_; (intro r'z news'z h'z tk'z F'z N'z O'z; obtain ⟨t'z, e'z, t₂'z, n'z, rest'z, N'z, hp'z, hoff'z, hkeep'z⟩ := draw_back O'z (by assumption) N'z; subst e'z; clear O'z; (try dsimp only); (try k_fold))))) | walk1)) | (leave1; walk_say "STEP leave1"; try dsimp only) | fail "no step")))
  refine iter_range (n := 2) (JLines pp pl xs spot news) ?hL rfl (by k_asm) (by k_asm) (by assumption) (by decide) (by decide) ?hJ ?_ ?_
  case hL => rfl
  case hJ =>
    refine JLines.intro (i := 0) rfl rfl (by k_mem) ?_ ⟨_, _, List.Mem.head _, by (first | assumption | exact IntsAre.nil | exact IntsAre.cons _ _ .nil)⟩ rfl (by assumption : Poly _ _ xs) ?_ ?_ (by assumption)
    · omega
    · walk_at "mine sub"
    · exact fun e => Nat.ne_of_lt (by assumption : _ < _ ∧ AllLt _ _).1 e.symm
  · rintro i t I oI m₁ news₁ h tk hi ⟨pf, f, t₁, n₁, hfd, hpd, hpm₁, hpf₁, hlin, hpl₁, hnf₁, hkeep₁⟩ hoff F₁ N₁
    have hd3 := drawP_lt (xs := xs) (spot := spot + 1 + 2 * (i : Int) + 1) (by decide : (0 : Int) < 3)
    obtain ⟨g, hg, hpow⟩ := linesP_turn hq hi hlin
    rw [show spot + 2 + 2 * (i : Int) = spot + 1 + 2 * (i : Int) + 1 by omega] at hpow
    have hIp : I ≠ pp := fun e => hoff _ hpm₁ e.symm
    obtain ⟨lv, ln, hlm₁, hli₁⟩ := hpl₁
    have hlI : pl ≠ I := hoff _ hlm₁
    obtain ⟨fv, fn, hfm₁, hfi₁⟩ := hpf₁
    have hfI : pf ≠ I := hoff _ hfm₁
    have hpl₁ : Poly news₁ pl xs := ⟨lv, ln, hlm₁, hli₁⟩
    have hsm := small_one (a := 0) (b := drawP xs (spot + 1 + 2 * (i : Int) + 1) 3) (by decide) (by decide) (by omega) (by omega)
    have hrs := rangeSize_nat 0 (drawP xs (spot + 1 + 2 * (i : Int) + 1) 3)
    rw [Int.sub_zero] at hrs
    (repeat' ((fail_if_success (with_reducible show wpAny _ _ (exec (Stmt.While _ _ _ _) _) _ _ _)); (fail_if_success (with_reducible show wpAny _ _ (pyIter (Value.ref _)) (fun it s₂ => LoopAtV _ _ _ _ _ _ _ _ _ it s₂) _ _)); (fail_if_success (with_reducible show wpAny _ _ (exec (Stmt.For (Expr.Tuple _ _ _) _ _ _ _) _) _ _ _)); (fail_if_success (with_reducible show wpAny _ _ (call (Value.type "enumerate") _) _ _ _)); (first | (k_unfold; (try dsimp only)) | (k_end; wrow_close) | (first | ((with_reducible show wpAny _ _ (call (Value.ref _) _) _ _ _); first | (k_here; (with_reducible show wpAny _ _ (call (Value.ref 105) _) _ _ _); k_dflt (refine Ct.usePolyR (R := R2 _ _) (by k_asm) (by k_asm) (by k_asm) (by k_asm) (by k_asm) (by first | exact rfl | assumption) (r2 (by k_mem) (by (first | assumption | exact IntsAre.nil | exact IntsAre.cons _ _ .nil)) (by k_mem) (by (first | assumption | exact IntsAre.nil | exact IntsAre.cons _ _ .nil))) (t_zmul _ _ _ _ _ _ (by omega) (by omega) 200 (by omega) (by assumption) (by assumption)) (by ktr_room) (by ktr_units) ?_; (intro D'z us'z n'z h'z tk'z F'z N'z I'z J'z K'z; (try dsimp only); (try k_fold)))) | (k_here; (with_reducible show wpAny _ _ (call (Value.ref 199) _) _ _ _); k_dflt (refine Ct.useR (R := RDraw _ _ _ _ _) (by k_asm) (by k_asm) (by k_asm) (by k_asm) (by k_asm) (by first | exact rfl | assumption) (rdraw (by k_mem) (by assumption) (by walk_at "mine sub") (by assumption)) (t_draw _ _ _ _ _ _ _ _ _ (by omega) (by omega) (by omega) (by omega) (by omega)) (by ktr_room) (by ktr_units) ?_; (intro r'z news'z h'z tk'z F'z N'z O'z; obtain ⟨t'z, e'z, t₂'z, n'z, rest'z, N'z, hp'z, hoff'z, hkeep'z⟩ := draw_back O'z (by assumption) N'z; subst e'z; clear O'z; (try dsimp only); (try k_fold))))) | walk1) | (dsimp only; (first | ((with_reducible show wpAny _ _ (call (Value.ref _) _) _ _ _); first | (k_here; (with_reducible show wpAny _ _ (call (Value.ref 105) _) _ _ _); k_dflt (refine Ct.usePolyR (R := R2 _ _) (by k_asm) (by k_asm) (by k_asm) (by k_asm) (by k_asm) (by first | exact rfl | assumption) (r2 (by k_mem) (by (first | assumption | exact IntsAre.nil | exact IntsAre.cons _ _ .nil)) (by k_mem) (by (first | assumption | exact IntsAre.nil | exact IntsAre.cons _ _ .nil))) (t_zmul _ _ _ _ _ _ (by omega) (by omega) 200 (by omega) (by assumption) (by assumption)) (by ktr_room) (by ktr_units) ?_; (intro D'z us'z n'z h'z tk'z F'z N'z I'z J'z K'z; (try dsimp only); (try k_fold)))) | (k_here; (with_reducible show wpAny _ _ (call (Value.ref 199) _) _ _ _); k_dflt (refine Ct.useR (R := RDraw _ _ _ _ _) (by k_asm) (by k_asm) (by k_asm) (by k_asm) (by k_asm) (by first | exact rfl | assumption) (rdraw (by k_mem) (by assumption) (by walk_at "mine sub") (by assumption)) (t_draw _ _ _ _ _ _ _ _ _ (by omega) (by omega) (by omega) (by omega) (by omega)) (by ktr_room) (by ktr_units) ?_; (intro r'z news'z h'z tk'z F'z N'z O'z; obtain ⟨t'z, e'z, t₂'z, n'z, rest'z, N'z, hp'z, hoff'z, hkeep'z⟩ := draw_back O'z (by assumption) N'z; subst e'z; clear O'z; (try dsimp only); (try k_fold))))) | walk1)) | (leave1; walk_say "STEP leave1"; try dsimp only) | fail "no step")))
    refine iter_range (JPow pp pl I xs (lineP xs (spot + 1 + 2 * (i : Int))) (spot + 1 + 2 * (i : Int) + 1 + 1) f ((I, oI) :: news₁)) ?hL rfl (by k_asm) (by k_asm) (by assumption) hsm hrs ?hJ ?_ ?_
    case hL => rfl
    case hJ =>
      have k1 := (by assumption : ∀ q : Addr × Obj, q ∈ (I, oI) :: news₁ → q.1 ≠ pp → q ∈ _)
      have k2 := (by assumption : ∀ q : Addr × Obj, q ∈ (_ :: (pp, _) :: _) → q.1 ≠ pp → q ∈ _)
      have k3 := fun q hq hn => k2 q (List.Mem.tail _ (List.Mem.tail _ (k1 q hq hn))) hn
      refine JPow.intro (by exact hfd) (by exact hpd) rfl (by k_mem) ⟨fv, fn, List.Mem.tail _ (List.Mem.tail _ (k3 _ (List.Mem.tail _ hfm₁) hnf₁)), hfi₁⟩ rfl ⟨_, _, List.Mem.tail _ (List.Mem.tail _ (k2 _ (List.Mem.head _) ?_)), ?_⟩ ⟨lv, ln, List.Mem.tail _ (List.Mem.tail _ (k3 _ (List.Mem.tail _ hlm₁) hne)), hli₁⟩ hnf₁ hfI (fun q hq hn => List.Mem.tail _ (List.Mem.tail _ (k3 q hq hn)))
      · exact Nat.ne_of_gt (And.left (by assumption))
      · unfold lineP; exact IntsAre.cons _ _ (IntsAre.cons _ _ .nil)
    · rintro k t₂ I₂ oI₂ m₂ news₂ h₂ tk₂ hk ⟨pf₂, g₂, ll, t₃, n₃, hfd₂, hpd₂, hld₂, hpm₂, ⟨fv₂, fn₂, hfm₂, hfi₂⟩, hpow₂, ⟨lv₂, ln₂, hlm₂, hli₂⟩, hpl₂, hnf₂, hfI₂, hkeep₂⟩ hoff₂ F₂ N₂
      obtain ⟨g', hg'⟩ := powP_le hpow (Nat.succ_le_of_lt hk)
      obtain ⟨g0, hp0, hs0', hsl, hmul⟩ := powP_go hg'
      rw [hpow₂] at hp0
      obtain rfl := Option.some.inj hp0
      obtain ⟨hB0, hL0⟩ := small'_facts hs0'
      obtain ⟨hBl, hLl⟩ := small'_facts hsl
      subst hmul
      have hI₂ := hkeep₂ _ (List.Mem.head _) hIp
      (repeat' ((fail_if_success (with_reducible show wpAny _ _ (exec (Stmt.While _ _ _ _) _) _ _ _)); (fail_if_success (with_reducible show wpAny _ _ (pyIter (Value.ref _)) (fun it s₂ => LoopAtV _ _ _ _ _ _ _ _ _ it s₂) _ _)); (fail_if_success (with_reducible show wpAny _ _ (exec (Stmt.For (Expr.Tuple _ _ _) _ _ _ _) _) _ _ _)); (fail_if_success (with_reducible show wpAny _ _ (call (Value.type "enumerate") _) _ _ _)); (first | (k_unfold; (try dsimp only)) | (k_end; wrow_close) | (first | ((with_reducible show wpAny _ _ (call (Value.ref _) _) _ _ _); first | (k_here; (with_reducible show wpAny _ _ (call (Value.ref 105) _) _ _ _); k_dflt (refine Ct.usePolyR (R := R2 _ _) (by k_asm) (by k_asm) (by k_asm) (by k_asm) (by k_asm) (by first | exact rfl | assumption) (r2 (by k_mem) (by (first | assumption | exact IntsAre.nil | exact IntsAre.cons _ _ .nil)) (by k_mem) (by (first | assumption | exact IntsAre.nil | exact IntsAre.cons _ _ .nil))) (t_zmul _ _ _ _ _ _ (by omega) (by omega) 200 (by omega) (by assumption) (by assumption)) (by ktr_room) (by ktr_units) ?_; (intro D'z us'z n'z h'z tk'z F'z N'z I'z J'z K'z; (try dsimp only); (try k_fold)))) | (k_here; (with_reducible show wpAny _ _ (call (Value.ref 199) _) _ _ _); k_dflt (refine Ct.useR (R := RDraw _ _ _ _ _) (by k_asm) (by k_asm) (by k_asm) (by k_asm) (by k_asm) (by first | exact rfl | assumption) (rdraw (by k_mem) (by assumption) (by walk_at "mine sub") (by assumption)) (t_draw _ _ _ _ _ _ _ _ _ (by omega) (by omega) (by omega) (by omega) (by omega)) (by ktr_room) (by ktr_units) ?_; (intro r'z news'z h'z tk'z F'z N'z O'z; obtain ⟨t'z, e'z, t₂'z, n'z, rest'z, N'z, hp'z, hoff'z, hkeep'z⟩ := draw_back O'z (by assumption) N'z; subst e'z; clear O'z; (try dsimp only); (try k_fold))))) | walk1) | (dsimp only; (first | ((with_reducible show wpAny _ _ (call (Value.ref _) _) _ _ _); first | (k_here; (with_reducible show wpAny _ _ (call (Value.ref 105) _) _ _ _); k_dflt (refine Ct.usePolyR (R := R2 _ _) (by k_asm) (by k_asm) (by k_asm) (by k_asm) (by k_asm) (by first | exact rfl | assumption) (r2 (by k_mem) (by (first | assumption | exact IntsAre.nil | exact IntsAre.cons _ _ .nil)) (by k_mem) (by (first | assumption | exact IntsAre.nil | exact IntsAre.cons _ _ .nil))) (t_zmul _ _ _ _ _ _ (by omega) (by omega) 200 (by omega) (by assumption) (by assumption)) (by ktr_room) (by ktr_units) ?_; (intro D'z us'z n'z h'z tk'z F'z N'z I'z J'z K'z; (try dsimp only); (try k_fold)))) | (k_here; (with_reducible show wpAny _ _ (call (Value.ref 199) _) _ _ _); k_dflt (refine Ct.useR (R := RDraw _ _ _ _ _) (by k_asm) (by k_asm) (by k_asm) (by k_asm) (by k_asm) (by first | exact rfl | assumption) (rdraw (by k_mem) (by assumption) (by walk_at "mine sub") (by assumption)) (t_draw _ _ _ _ _ _ _ _ _ (by omega) (by omega) (by omega) (by omega) (by omega)) (by ktr_room) (by ktr_units) ?_; (intro r'z news'z h'z tk'z F'z N'z O'z; obtain ⟨t'z, e'z, t₂'z, n'z, rest'z, N'z, hp'z, hoff'z, hkeep'z⟩ := draw_back O'z (by assumption) N'z; subst e'z; clear O'z; (try dsimp only); (try k_fold))))) | walk1)) | (leave1; walk_say "STEP leave1"; try dsimp only) | fail "no step")))
      have kD := (by assumption : ∀ q : Addr × Obj, q ∈ (I₂, oI₂) :: news₂ → q.1 ≠ _)
      have N₃ := (by assumption : News _ _ _ (_ :: (I₂, oI₂) :: news₂))
      refine Turn.next (by k_asm) N₃ (List.Mem.tail _ (List.Mem.head _)) _ two_front ?_ (JPow.intro rfl (by exact hpd₂) (by exact hld₂) (List.Mem.tail _ hpm₂) ⟨_, _, List.Mem.head _, by assumption⟩ hg' ⟨lv₂, ln₂, List.Mem.tail _ hlm₂, hli₂⟩ (poly_up hpl₂ fun q hq => List.Mem.tail _ hq) (fun e => kD _ (List.Mem.tail _ hpm₂) e.symm) (fun e => kD _ (List.Mem.tail _ hI₂) e.symm) (fun q hq hn => List.Mem.tail _ (hkeep₂ q hq hn)))
      · exact List.forall_mem_cons.mpr ⟨fun e => kD _ (List.Mem.head _) e.symm, hoff₂⟩
    · rintro m₂ news₂ h₂ tk₂ ⟨pf₂, g₂, ll, t₃, n₃, hfd₂, hpd₂, hld₂, hpm₂, ⟨fv₂, fn₂, hfm₂, hfi₂⟩, hpow₂, hll₂, ⟨lv₂, ln₂, hlm₂, hli₂⟩, hnf₂, hfI₂, hkeep₂⟩ F₂ N₂
      rw [hpow] at hpow₂
      obtain rfl := Option.some.inj hpow₂
      have he : spot + 1 + 2 * (i : Int) + 1 + 1 = spot + 1 + 2 * ((i + 1 : Nat) : Int) := by omega
      (repeat' ((fail_if_success (with_reducible show wpAny _ _ (exec (Stmt.While _ _ _ _) _) _ _ _)); (fail_if_success (with_reducible show wpAny _ _ (pyIter (Value.ref _)) (fun it s₂ => LoopAtV _ _ _ _ _ _ _ _ _ it s₂) _ _)); (fail_if_success (with_reducible show wpAny _ _ (exec (Stmt.For (Expr.Tuple _ _ _) _ _ _ _) _) _ _ _)); (fail_if_success (with_reducible show wpAny _ _ (call (Value.type "enumerate") _) _ _ _)); (first | (k_unfold; (try dsimp only)) | (k_end; wrow_close) | (first | ((with_reducible show wpAny _ _ (call (Value.ref _) _) _ _ _); first | (k_here; (with_reducible show wpAny _ _ (call (Value.ref 105) _) _ _ _); k_dflt (refine Ct.usePolyR (R := R2 _ _) (by k_asm) (by k_asm) (by k_asm) (by k_asm) (by k_asm) (by first | exact rfl | assumption) (r2 (by k_mem) (by (first | assumption | exact IntsAre.nil | exact IntsAre.cons _ _ .nil)) (by k_mem) (by (first | assumption | exact IntsAre.nil | exact IntsAre.cons _ _ .nil))) (t_zmul _ _ _ _ _ _ (by omega) (by omega) 200 (by omega) (by assumption) (by assumption)) (by ktr_room) (by ktr_units) ?_; (intro D'z us'z n'z h'z tk'z F'z N'z I'z J'z K'z; (try dsimp only); (try k_fold)))) | (k_here; (with_reducible show wpAny _ _ (call (Value.ref 199) _) _ _ _); k_dflt (refine Ct.useR (R := RDraw _ _ _ _ _) (by k_asm) (by k_asm) (by k_asm) (by k_asm) (by k_asm) (by first | exact rfl | assumption) (rdraw (by k_mem) (by assumption) (by walk_at "mine sub") (by assumption)) (t_draw _ _ _ _ _ _ _ _ _ (by omega) (by omega) (by omega) (by omega) (by omega)) (by ktr_room) (by ktr_units) ?_; (intro r'z news'z h'z tk'z F'z N'z O'z; obtain ⟨t'z, e'z, t₂'z, n'z, rest'z, N'z, hp'z, hoff'z, hkeep'z⟩ := draw_back O'z (by assumption) N'z; subst e'z; clear O'z; (try dsimp only); (try k_fold))))) | walk1) | (dsimp only; (first | ((with_reducible show wpAny _ _ (call (Value.ref _) _) _ _ _); first | (k_here; (with_reducible show wpAny _ _ (call (Value.ref 105) _) _ _ _); k_dflt (refine Ct.usePolyR (R := R2 _ _) (by k_asm) (by k_asm) (by k_asm) (by k_asm) (by k_asm) (by first | exact rfl | assumption) (r2 (by k_mem) (by (first | assumption | exact IntsAre.nil | exact IntsAre.cons _ _ .nil)) (by k_mem) (by (first | assumption | exact IntsAre.nil | exact IntsAre.cons _ _ .nil))) (t_zmul _ _ _ _ _ _ (by omega) (by omega) 200 (by omega) (by assumption) (by assumption)) (by ktr_room) (by ktr_units) ?_; (intro D'z us'z n'z h'z tk'z F'z N'z I'z J'z K'z; (try dsimp only); (try k_fold)))) | (k_here; (with_reducible show wpAny _ _ (call (Value.ref 199) _) _ _ _); k_dflt (refine Ct.useR (R := RDraw _ _ _ _ _) (by k_asm) (by k_asm) (by k_asm) (by k_asm) (by k_asm) (by first | exact rfl | assumption) (rdraw (by k_mem) (by assumption) (by walk_at "mine sub") (by assumption)) (t_draw _ _ _ _ _ _ _ _ _ (by omega) (by omega) (by omega) (by omega) (by omega)) (by ktr_room) (by ktr_units) ?_; (intro r'z news'z h'z tk'z F'z N'z O'z; obtain ⟨t'z, e'z, t₂'z, n'z, rest'z, N'z, hp'z, hoff'z, hkeep'z⟩ := draw_back O'z (by assumption) N'z; subst e'z; clear O'z; (try dsimp only); (try k_fold))))) | walk1)) | (leave1; walk_say "STEP leave1"; try dsimp only) | fail "no step")))
      exact Turn.next (by k_asm) (by k_asm) (hkeep₂ _ (List.Mem.head _) hIp) (news₂.filter fun p => p.1 != I) (fun q hq => (List.mem_filter.mp hq).1) front_ne (JLines.intro (i := i + 1) (by exact hfd₂) (by exact hpd₂) (front_mem hpm₂ (Ne.symm hIp)) he ⟨_, _, front_mem hfm₂ hfI₂, hfi₂⟩ hg ⟨_, _, front_mem hlm₂ hlI, hli₂⟩ (fun q hq => hq) hnf₂ (fun q hq hn => front_mem (hkeep₂ q (List.Mem.tail _ (hkeep₁ q hq hn)) hn) (hoff q (hkeep₁ q hq hn))))
  · rintro m₁ news₁ h tk ⟨pf, f, t₁, n₁, hfd, hpd, hpm₁, hpf₁, hlin, hpl₁, hnf₁, hkeep₁⟩ F₁ N₁
    (repeat' ((fail_if_success (with_reducible show wpAny _ _ (exec (Stmt.While _ _ _ _) _) _ _ _)); (fail_if_success (with_reducible show wpAny _ _ (pyIter (Value.ref _)) (fun it s₂ => LoopAtV _ _ _ _ _ _ _ _ _ it s₂) _ _)); (fail_if_success (with_reducible show wpAny _ _ (exec (Stmt.For (Expr.Tuple _ _ _) _ _ _ _) _) _ _ _)); (fail_if_success (with_reducible show wpAny _ _ (call (Value.type "enumerate") _) _ _ _)); (first | (k_unfold; (try dsimp only)) | (k_end; wrow_close) | (first | ((with_reducible show wpAny _ _ (call (Value.ref _) _) _ _ _); first | (k_here; (with_reducible show wpAny _ _ (call (Value.ref 105) _) _ _ _); k_dflt (refine Ct.usePolyR (R := R2 _ _) (by k_asm) (by k_asm) (by k_asm) (by k_asm) (by k_asm) (by first | exact rfl | assumption) (r2 (by k_mem) (by (first | assumption | exact IntsAre.nil | exact IntsAre.cons _ _ .nil)) (by k_mem) (by (first | assumption | exact IntsAre.nil | exact IntsAre.cons _ _ .nil))) (t_zmul _ _ _ _ _ _ (by omega) (by omega) 200 (by omega) (by assumption) (by assumption)) (by ktr_room) (by ktr_units) ?_; (intro D'z us'z n'z h'z tk'z F'z N'z I'z J'z K'z; (try dsimp only); (try k_fold)))) | (k_here; (with_reducible show wpAny _ _ (call (Value.ref 199) _) _ _ _); k_dflt (refine Ct.useR (R := RDraw _ _ _ _ _) (by k_asm) (by k_asm) (by k_asm) (by k_asm) (by k_asm) (by first | exact rfl | assumption) (rdraw (by k_mem) (by assumption) (by walk_at "mine sub") (by assumption)) (t_draw _ _ _ _ _ _ _ _ _ (by omega) (by omega) (by omega) (by omega) (by omega)) (by ktr_room) (by ktr_units) ?_; (intro r'z news'z h'z tk'z F'z N'z O'z; obtain ⟨t'z, e'z, t₂'z, n'z, rest'z, N'z, hp'z, hoff'z, hkeep'z⟩ := draw_back O'z (by assumption) N'z; subst e'z; clear O'z; (try dsimp only); (try k_fold))))) | walk1) | (dsimp only; (first | ((with_reducible show wpAny _ _ (call (Value.ref _) _) _ _ _); first | (k_here; (with_reducible show wpAny _ _ (call (Value.ref 105) _) _ _ _); k_dflt (refine Ct.usePolyR (R := R2 _ _) (by k_asm) (by k_asm) (by k_asm) (by k_asm) (by k_asm) (by first | exact rfl | assumption) (r2 (by k_mem) (by (first | assumption | exact IntsAre.nil | exact IntsAre.cons _ _ .nil)) (by k_mem) (by (first | assumption | exact IntsAre.nil | exact IntsAre.cons _ _ .nil))) (t_zmul _ _ _ _ _ _ (by omega) (by omega) 200 (by omega) (by assumption) (by assumption)) (by ktr_room) (by ktr_units) ?_; (intro D'z us'z n'z h'z tk'z F'z N'z I'z J'z K'z; (try dsimp only); (try k_fold)))) | (k_here; (with_reducible show wpAny _ _ (call (Value.ref 199) _) _ _ _); k_dflt (refine Ct.useR (R := RDraw _ _ _ _ _) (by k_asm) (by k_asm) (by k_asm) (by k_asm) (by k_asm) (by first | exact rfl | assumption) (rdraw (by k_mem) (by assumption) (by walk_at "mine sub") (by assumption)) (t_draw _ _ _ _ _ _ _ _ _ (by omega) (by omega) (by omega) (by omega) (by omega)) (by ktr_room) (by ktr_units) ?_; (intro r'z news'z h'z tk'z F'z N'z O'z; obtain ⟨t'z, e'z, t₂'z, n'z, rest'z, N'z, hp'z, hoff'z, hkeep'z⟩ := draw_back O'z (by assumption) N'z; subst e'z; clear O'z; (try dsimp only); (try k_fold))))) | walk1)) | (leave1; walk_say "STEP leave1"; try dsimp only) | fail "no step")))
    rw [hq] at hlin
    obtain rfl := Option.some.inj hlin
    exact hret _ _ _ _ (by k_asm) (by k_asm) ⟨pf, rfl, hnf₁, hpf₁, hkeep₁, t₁, n₁, by rw [(by decide : (2 : Int) * ((2 : Nat) : Int) = 4), Int.add_assoc] at hpm₁; exact hpm₁, hpl₁⟩

end
section
open Builtin.Int (intBits)
noncomputable def signed (xs g : List Int) : List Int := if drawP xs 10 2 = 1 then g.map fun x => -x else g
noncomputable def farF (xs : List Int) : List Int := [drawP xs 12 5 - 2, 1 + drawP xs 13 3, drawP xs 14 2]
noncomputable def farG (xs : List Int) : List Int := [drawP xs 15 5 - 2, drawP xs 16 5 - 2, drawP xs 17 3, 1]
noncomputable def gapP (f g : List Int) : List Int := subP (mulP f (mulP f f)) (mulP g g)
noncomputable def fitP (f g : List Int) : Bool := smallP f && smallP g && smallP (mulP f f) && smallP (mulP f (mulP f f)) && smallP (mulP g g) && smallP (gapP f g)
theorem fitP_facts {f g : List Int} (h : fitP f g = true) : (Bd 200 f ∧ f.length < 100) ∧ (Bd 200 g ∧ g.length < 100) ∧ (Bd 200 (mulP f f) ∧ (mulP f f).length < 100) ∧ (mulP f (mulP f f)).length < 500 ∧ (mulP g g).length < 500 ∧ (subP (mulP f (mulP f f)) (mulP g g)).length < 1000 ∧ f.length < 1000 := by
  simp only [fitP, Bool.and_eq_true] at h
  obtain ⟨⟨⟨⟨⟨h1, h2⟩, h3⟩, h4⟩, h5⟩, h6⟩ := h
  have l1 := smallP_facts h1
  have l2 := smallP_facts h2
  have l3 := smallP_facts h3
  have l4 := (smallP_facts h4).2
  have l5 := (smallP_facts h5).2
  have l6 := (smallP_facts h6).2
  unfold gapP at l6
  exact ⟨⟨l1.1, by omega⟩, ⟨l2.1, by omega⟩, ⟨l3.1, by omega⟩, by omega, by omega, by omega, by omega⟩
noncomputable def halfP (f g : List Int) : Bool := fitP f g && ((gapP f g).length == 0 || decide (degI f + 2 ≤ 2 * degI (gapP f g)))
noncomputable def nearP (n : Int) : Bool := halfP [2 * n, 0, 1] [0, 3 * n, 0, 1] && (2 * degI (gapP [2 * n, 0, 1] [0, 3 * n, 0, 1]) == degI [2 * n, 0, 1] + 2)
theorem halfP_facts {f g : List Int} (h : halfP f g = true) : fitP f g = true ∧ ((subP (mulP f (mulP f f)) (mulP g g)).length ≠ 0 → (f.length : Int) - 1 + 2 ≤ 2 * (((subP (mulP f (mulP f f)) (mulP g g)).length : Int) - 1)) := by
  simp only [halfP, Bool.and_eq_true, Bool.or_eq_true, beq_iff_eq, decide_eq_true_eq, degI, gapP] at h
  refine ⟨h.1, fun hn => ?_⟩
  rcases h.2 with h' | h'
  · exact absurd h' hn
  · exact of_decide_eq_true h'
theorem nearP_facts {n : Int} (h : nearP n = true) : halfP [2 * n, 0, 1] [0, 3 * n, 0, 1] = true ∧ 2 * (((subP (mulP [2 * n, 0, 1] (mulP [2 * n, 0, 1] [2 * n, 0, 1])) (mulP [0, 3 * n, 0, 1] [0, 3 * n, 0, 1])).length : Int) - 1) = (([2 * n, 0, 1].length : Int) - 1) + 2 := by
  simp only [nearP, Bool.and_eq_true, beq_iff_eq, degI, gapP] at h
  exact ⟨h.1, h.2⟩
/-- the calls of the second half, and what is known of the degrees, with no list in sight -/
structure Half (f g P2 P3 Q2 D : List Int) (dD dF : Int) : Prop where
  c1 : ∀ w mean mg mb, Ct w mean mg mb 105 1 (R2 f f) (OPoly P2)
  c2 : ∀ w mean mg mb, Ct w mean mg mb 105 1 (R2 f P2) (OPoly P3)
  c3 : ∀ w mean mg mb, Ct w mean mg mb 105 1 (R2 g g) (OPoly Q2)
  c4 : ∀ w mean mg mb, Ct w mean mg mb 86 3 (R2 P3 Q2) (OPoly D)
  c5 : ∀ w mean mg mb, Ct w mean mg mb 62 1 (R1 D) (OInt dD)
  c6 : ∀ w mean mg mb, Ct w mean mg mb 62 1 (R1 f) (OInt dF)
  c7 : D ≠ [] → dF + 2 ≤ 2 * dD
theorem halfZ {f g : List Int} (h : halfP f g = true) : Half f g (mulP f f) (mulP f (mulP f f)) (mulP g g) (subP (mulP f (mulP f f)) (mulP g g)) (((subP (mulP f (mulP f f)) (mulP g g)).length : Int) - 1) ((f.length : Int) - 1) := by
  obtain ⟨h1, h2⟩ := halfP_facts h
  obtain ⟨⟨b1, b2⟩, ⟨b3, b4⟩, ⟨b5, b6⟩, b7, b8, b9, b10⟩ := fitP_facts h1
  exact ⟨fun w mean mg mb => t_zmul w mean mg mb _ _ b2 b2 200 (by decide) b1 b1, fun w mean mg mb => t_zmul w mean mg mb _ _ b2 b6 200 (by decide) b1 b5, fun w mean mg mb => t_zmul w mean mg mb _ _ b4 b4 200 (by decide) b3 b3,
    fun w mean mg mb => t_zsub w mean mg mb _ _ b7 b8, fun w mean mg mb => t_zdegree w mean mg mb _ b9, fun w mean mg mb => t_zdegree w mean mg mb _ b10, fun hn => h2 fun e => hn (List.eq_nil_of_length_eq_zero e)⟩
theorem nameIt {a b : Addr} (h : a ≠ b) : ∃ x y, x = a ∧ y = b ∧ x ≠ y := ⟨a, b, Eq.refl _, Eq.refl _, h⟩
theorem news_swap {h₀ h : Heap} {L : Addr} {a b : Addr × Obj} {r : List (Addr × Obj)} (N : News h₀ L h (a :: b :: r)) : News h₀ L h (b :: a :: r) := news_sub N (List.forall_mem_cons.mpr ⟨List.Mem.tail _ (List.Mem.head _), List.forall_mem_cons.mpr ⟨List.Mem.head _, fun _ hq => List.Mem.tail _ (List.Mem.tail _ hq)⟩⟩)
theorem news_two {h₀ h : Heap} {L : Addr} {a b : Addr × Obj} {r : List (Addr × Obj)} (N : News h₀ L h r) (ha : a ∈ r) (hb : b ∈ r) : News h₀ L h [a, b] := news_sub N (List.forall_mem_cons.mpr ⟨ha, List.forall_mem_singleton.mpr hb⟩)
section
variable {M : Model} {A : Around} {E : Value → Shared → Prop} {s : Shared} {h₀ : Heap} {L : Addr} {m : Str → Option Value}
/-- the second line, or its negative -/
noncomputable def JSign (h₀ : Heap) (L : Addr) (m : Str → Option Value) (s : Shared) (pp pl pf : Addr) (xs f g : List Int) (v : Value) (s' : Shared) : Prop := ∃ p h tk rest t n, v = .ref p ∧ s' = { s with heap := h, toks := tk } ∧ Fr h₀ L h m ∧ News h₀ L h ((pp, listOf (List.toArray [.ref pl, .int 11 t]) n) :: rest) ∧ Poly rest pf f ∧ Poly rest p g ∧ Poly rest pl xs
theorem mono_sign {c : Sem Value} {Q : Value → Shared → Prop} (pp pl pf : Addr) (xs f g : List Int) (_F : Fr h₀ L s.heap m) (h1 : wpAny M A c (JSign h₀ L m s pp pl pf xs f g) E s)
    (h2 : ∀ p h tk rest t n, Fr h₀ L h m → News h₀ L h ((pp, listOf (List.toArray [.ref pl, .int 11 t]) n) :: rest) → Poly rest pf f → Poly rest p g → Poly rest pl xs → Q (.ref p) { s with heap := h, toks := tk }) : wpAny M A c Q E s := by
  refine wpAny_mono h1 (fun v s' hJ => ?_) fun _ _ e => e
  obtain ⟨p, h, tk, rest, t, n, rfl, rfl, a1, a2, a3, a4, a5⟩ := hJ
  exact h2 p h tk rest t n a1 a2 a3 a4 a5
/-- the two of the second half -/
noncomputable def JHalf (h₀ : Heap) (L : Addr) (s : Shared) (nz : Int) (fl : Flow) (s' : Shared) : Prop := ∃ h tk m' pf pg a b c t u v t' vs n n' G, fl = .next ∧ s' = { s with heap := h, toks := tk } ∧ m' (Str.ofString "f") = some (.ref pf) ∧ m' (Str.ofString "g") = some (.ref pg) ∧ m' (Str.ofString "near") = some (.int nz t') ∧ Fr h₀ L h m' ∧
  News h₀ L h [(pf, listOf (List.toArray [.int a t, .int b u, .int c v]) n), (pg, listOf (List.toArray vs) n')] ∧ IntsAre vs G ∧ (c ≠ 0 → halfP [a, b, c] G = true) ∧ (c = 0 → halfP [a, b] G = true) ∧ (nz ≠ 0 → c ≠ 0 ∧ 2 * degI (gapP [a, b, c] G) = degI [a, b, c] + 2)
theorem mono_half {c : Sem Flow} {Q : Flow → Shared → Prop} (nz : Int) (_F : Fr h₀ L s.heap m) (h1 : wpAny M A c (JHalf h₀ L s nz) E s)
    (h2 : ∀ h tk m' pf pg a b c t u v t' vs n n' G, m' (Str.ofString "f") = some (.ref pf) → m' (Str.ofString "g") = some (.ref pg) → m' (Str.ofString "near") = some (.int nz t') → Fr h₀ L h m' →
      News h₀ L h [(pf, listOf (List.toArray [.int a t, .int b u, .int c v]) n), (pg, listOf (List.toArray vs) n')] → IntsAre vs G → (c ≠ 0 → halfP [a, b, c] G = true) → (c = 0 → halfP [a, b] G = true) → (nz ≠ 0 → c ≠ 0 ∧ 2 * degI (gapP [a, b, c] G) = degI [a, b, c] + 2) → Q .next { s with heap := h, toks := tk }) : wpAny M A c Q E s := by
  refine wpAny_mono h1 (fun v s' hJ => ?_) fun _ _ e => e
  obtain ⟨h, tk, m', pf, pg, a, b, c, t, u, v, t', vs, n, n', G, rfl, rfl, a1, a2, a3, a4, a5, a6, a7, a8, a9⟩ := hJ
  exact h2 h tk m' pf pg a b c t u v t' vs n n' G a1 a2 a3 a4 a5 a6 a7 a8 a9
theorem JHalf.intro {s' : Shared} {nz a b c : Int} {t u v t' : Tok} {pf pg : Addr} {h : Heap} {tk n n' : Nat} {m' : Str → Option Value} {vs : List Value} {G : List Int} {r : List (Addr × Obj)} (F : Fr h₀ L h m') (hf : m' (Str.ofString "f") = some (.ref pf)) (hg : m' (Str.ofString "g") = some (.ref pg)) (hn : m' (Str.ofString "near") = some (.int nz t')) (N : News h₀ L h r)
    (hfm : (pf, listOf (List.toArray [.int a t, .int b u, .int c v]) n) ∈ r) (hgm : (pg, listOf (List.toArray vs) n') ∈ r) (hG : IntsAre vs G) (x1 : c ≠ 0 → halfP [a, b, c] G = true) (x2 : c = 0 → halfP [a, b] G = true) (x3 : nz ≠ 0 → c ≠ 0 ∧ 2 * degI (gapP [a, b, c] G) = degI [a, b, c] + 2) (es : s' = { s with heap := h, toks := tk }) : JHalf h₀ L s nz .next s' :=
  ⟨h, tk, m', pf, pg, a, b, c, t, u, v, t', vs, n, n', G, Eq.refl _, es, hf, hg, hn, F, news_two N hfm hgm, hG, x1, x2, x3⟩
/-- the first of the two, shortened where its head is zero -/
noncomputable def JF (h₀ : Heap) (L : Addr) (m : Str → Option Value) (s : Shared) (nz : Int) (pg : Addr) (w : Value) (s' : Shared) : Prop := ∃ p h tk F G P2 P3 Q2 D dD dF vs n vs' n', w = .ref p ∧ s' = { s with heap := h, toks := tk } ∧ Fr h₀ L h m ∧ News h₀ L h [(p, listOf (List.toArray vs) n), (pg, listOf (List.toArray vs') n')] ∧ IntsAre vs F ∧ IntsAre vs' G ∧ Half F G P2 P3 Q2 D dD dF ∧ (nz ≠ 0 → 2 * dD = dF + 2)
theorem mono_f {c : Sem Value} {Q : Value → Shared → Prop} (nz : Int) (pg : Addr) (_F : Fr h₀ L s.heap m) (h1 : wpAny M A c (JF h₀ L m s nz pg) E s)
    (h2 : ∀ p h tk F G P2 P3 Q2 D dD dF vs n vs' n', Fr h₀ L h m → News h₀ L h [(p, listOf (List.toArray vs) n), (pg, listOf (List.toArray vs') n')] → IntsAre vs F → IntsAre vs' G → Half F G P2 P3 Q2 D dD dF → (nz ≠ 0 → 2 * dD = dF + 2) → Q (.ref p) { s with heap := h, toks := tk }) : wpAny M A c Q E s := by
  refine wpAny_mono h1 (fun v s' hJ => ?_) fun _ _ e => e
  obtain ⟨p, h, tk, F, G, P2, P3, Q2, D, dD, dF, vs, n, vs', n', rfl, rfl, a1, a2, a3, a4, a5, a6⟩ := hJ
  exact h2 p h tk F G P2 P3 Q2 D dD dF vs n vs' n' a1 a2 a3 a4 a5 a6
theorem JF.three {s' : Shared} {nz a b c : Int} {t u v : Tok} {pf pg : Addr} {h : Heap} {tk n n' : Nat} {vs : List Value} {G : List Int} (hc : c ≠ 0) (h1 : c ≠ 0 → halfP [a, b, c] G = true) (h3 : nz ≠ 0 → c ≠ 0 ∧ 2 * degI (gapP [a, b, c] G) = degI [a, b, c] + 2) (hG : IntsAre vs G) (F : Fr h₀ L h m)
    (N : News h₀ L h [(pf, listOf (List.toArray [.int a t, .int b u, .int c v]) n), (pg, listOf (List.toArray vs) n')]) (es : s' = { s with heap := h, toks := tk }) : JF h₀ L m s nz pg (.ref pf) s' :=
  ⟨pf, h, tk, _, _, _, _, _, _, _, _, _, _, _, _, Eq.refl _, es, F, N, .cons _ _ (.cons _ _ (.cons _ _ .nil)), hG, halfZ (h1 hc), fun hn => (h3 hn).2⟩
theorem JF.two {s' : Shared} {nz a b c : Int} {t u : Tok} {p pg : Addr} {h : Heap} {tk n n' : Nat} {vs : List Value} {G : List Int} {r : List (Addr × Obj)} (hc : c = 0) (h2 : c = 0 → halfP [a, b] G = true) (h3 : nz ≠ 0 → c ≠ 0 ∧ 2 * degI (gapP [a, b, c] G) = degI [a, b, c] + 2) (hG : IntsAre vs G) (F : Fr h₀ L h m)
    (N : News h₀ L h r) (hp : (p, listOf (List.toArray [.int a t, .int b u]) n) ∈ r) (hg : (pg, listOf (List.toArray vs) n') ∈ r) (es : s' = { s with heap := h, toks := tk }) : JF h₀ L m s nz pg (.ref p) s' :=
  ⟨p, h, tk, _, _, _, _, _, _, _, _, _, _, _, _, Eq.refl _, es, F, news_two N hp hg, .cons _ _ (.cons _ _ .nil), hG, halfZ (h2 hc), fun hn => absurd hc (h3 hn).1⟩
end
theorem nearC {n : Int} (h : nearP n = true) : halfP [2 * n, 0, 1] [0, 3 * n, 0, 1] = true ∧ 2 * degI (gapP [2 * n, 0, 1] [0, 3 * n, 0, 1]) = degI [2 * n, 0, 1] + 2 := by
  simp only [nearP, Bool.and_eq_true, beq_iff_eq] at h
  exact h
theorem farC {xs : List Int} (h : drawP xs 11 3 - 1 = 0 → halfP (if drawP xs 14 2 ≠ 0 then farF xs else (farF xs).take 2) (farG xs) = true) (h0 : drawP xs 11 3 - 1 = 0) : (drawP xs 14 2 ≠ 0 → halfP [drawP xs 12 5 - 2, 1 + drawP xs 13 3, drawP xs 14 2] [drawP xs 15 5 - 2, drawP xs 16 5 - 2, drawP xs 17 3, 1] = true) ∧ (drawP xs 14 2 = 0 → halfP [drawP xs 12 5 - 2, 1 + drawP xs 13 3] [drawP xs 15 5 - 2, drawP xs 16 5 - 2, drawP xs 17 3, 1] = true) := by
  have := h h0
  refine ⟨fun h1 => ?_, fun h1 => ?_⟩
  · rw [if_pos h1] at this; exact this
  · rw [if_neg (fun h2 => h2 h1)] at this; exact this
theorem farI {a b c d : Int} {t u v x : Tok} : IntsAre [.int a t, .int b u, .int c v, .int d x] [a, b, c, d] := .cons _ _ (.cons _ _ (.cons _ _ (.cons _ _ .nil)))
theorem signed_length (xs g : List Int) : (signed xs g).length = g.length := by unfold signed; split <;> simp
structure Plain (xs : List Int) : Prop where
  three : ∃ f g, linesP xs 0 2 = some f ∧ linesP xs 5 2 = some g ∧ threeOk f (signed xs g) = true
  near : drawP xs 11 3 - 1 ≠ 0 → nearP (drawP xs 11 3 - 1) = true
  far : drawP xs 11 3 - 1 = 0 → halfP (if drawP xs 14 2 ≠ 0 then farF xs else (farF xs).take 2) (farG xs) = true
theorem rlines {pp pl : Addr} {xs : List Int} {spot : Int} {t : Tok} {n : Nat} {news a : List (Addr × Obj)} (hm : (pp, listOf (List.toArray [.ref pl, .int spot t]) n) ∈ news) (hp : Poly a pl xs) (k : Sub a news) (hne : pl ≠ pp) : RLines pp pl xs spot news [.ref pp] := ⟨t, n, hm, Eq.refl _, poly_up hp k, hne⟩
/-- after the lines, in the caller: the pool stands first -/
theorem lines_back {h₀ h : Heap} {L pp pl : Addr} {xs f : List Int} {spot : Int} {news news' : List (Addr × Obj)} {r : Value} (O : OLines pp pl xs spot f news news' r) (hne : pl ≠ pp) (N : News h₀ L h news') :
    ∃ pf, r = .ref pf ∧ pf ≠ pp ∧ ∃ t' n rest, News h₀ L h ((pp, listOf (List.toArray [.ref pl, .int (spot + 5) t']) n) :: rest) ∧ Poly rest pf f ∧ Poly rest pl xs ∧ (∀ q ∈ rest, q.1 ≠ pp) ∧ ∀ q ∈ news, q.1 ≠ pp → q ∈ rest := by
  obtain ⟨pf, e, hn, ⟨fv, fn, hfm, hfi⟩, hk, t', n, hm, ⟨pv, pn, hlm, hpi⟩⟩ := O
  exact ⟨pf, e, hn, t', n, _, news_front N hm, ⟨fv, fn, front_mem hfm hn, hfi⟩, ⟨pv, pn, front_mem hlm hne, hpi⟩, front_ne, fun q hq hn => front_mem (hk q hq hn) hn⟩
theorem poly_keep {pp pf : Addr} {f : List Int} {a news rest : List (Addr × Obj)} (h : Poly a pf f) (k : Sub a news) (hn : pf ≠ pp) (hk : ∀ q ∈ news, q.1 ≠ pp → q ∈ rest) : Poly rest pf f := by
  obtain ⟨v, n, hm, hi⟩ := h
  exact ⟨v, n, hk _ (k _ hm) hn, hi⟩
theorem r2p {news a b : List (Addr × Obj)} {pa pb : Addr} {xs ys : List Int} (h : Poly a pa xs) (k : Sub a news) (h' : Poly b pb ys) (k' : Sub b news) : R2 xs ys news [.ref pa, .ref pb] := ⟨pa, pb, Eq.refl _, poly_up h k, poly_up h' k'⟩
theorem r1p {news a : List (Addr × Obj)} {pa : Addr} {xs : List Int} (h : Poly a pa xs) (k : Sub a news) : R1 xs news [.ref pa] := ⟨pa, Eq.refl _, poly_up h k⟩

set_option maxHeartbeats 8000000 in
theorem good_true {cl : Str → Option Addr} {mean : ExcName → Option Value} {xs : List Int} {s₁ s' : Shared} {L : Addr} {m : Str → Option Value} (F : Fr s₁.heap L s'.heap m) (hg : s'.gens = #[]) (hos : s'.os = s₁.os) : GoodW PySem.Challenge.rw_tg0006_01.row.claim cl mean [ofPy (PyData.list (List.map PyData.int xs))] s₁ (.ok (.ret (.bool true))) s' := by
  refine goodW_bool F hg (raisesW_false ?_) ?_ hos
  · wrow_none_raised
  · wrow_post

end
section
open Builtin.Int (intBits)
/-- the number by which is reckoned, its half, what is small -/
noncomputable def qM : Nat := 13407807929942597099574024998205846127479365820592393377723561443721764030073546976801874298166903427690031858186486050853753882811946569946433649006084096
noncomputable def qH : Nat := 6703903964971298549787012499102923063739682910296196688861780721860882015036773488400937149083451713845015929093243025426876941405973284973216824503042048
noncomputable def qS : Nat := 1099511627776
noncomputable def qSS : Nat := 2199023255552
theorem qM2 : qM = 2 * qH := by decide +kernel
theorem qHb : 2 ^ 400 < qH := by decide +kernel
theorem qSp : qS = 2 ^ 40 := by decide +kernel
theorem qSS2 : qSS = 2 * qS := by decide +kernel
theorem qSH : 4 * qS < qH := by decide +kernel
noncomputable def qif {α : Type} (b : Bool) (x y : α) : α := @Bool.rec (fun _ => α) y x b
theorem qif_pos {α : Type} {b : Bool} {x y : α} (h : b = true) : qif b x y = x := by rw [h]; rfl
theorem qif_neg {α : Type} {b : Bool} {x y : α} (h : b = false) : qif b x y = y := by rw [h]; rfl
theorem qif_and {b : Bool} {x : Bool} (h : qif b x false = true) : b = true ∧ x = true := by
  cases b with
  | true => exact ⟨rfl, h⟩
  | false => cases h
noncomputable def qhd (b : List Nat) : Nat := @List.rec Nat (fun _ => Nat) 0 (fun x _ _ => x) b
noncomputable def qtl (b : List Nat) : List Nat := @List.rec Nat (fun _ => List Nat) [] (fun _ r _ => r) b
noncomputable def qlen (b : List Nat) : Nat := @List.rec Nat (fun _ => Nat) 0 (fun _ _ ih => Nat.succ ih) b
noncomputable def qzip (u n : Nat) (r : List Nat) : List Nat → List Nat := @List.rec Nat (fun _ => List Nat → List Nat) (fun _ => []) (fun x _ ih b => @List.rec Nat (fun _ => List Nat) (List.cons (Nat.mul u x) (ih [])) (fun y c _ => List.cons (Nat.add (Nat.mul u x) (Nat.mul n y)) (ih c)) b) r
noncomputable def qstrip (r : List Nat) : List Nat := @List.rec Nat (fun _ => List Nat) [] (fun x r ih => qif (Nat.beq (Nat.mod x qM) 0) ih (List.cons x r)) r
noncomputable def qscl (u : Nat) (r : List Nat) : List Nat := @List.rec Nat (fun _ => List Nat) [] (fun x _ ih => List.cons (Nat.mul u x) ih) r
noncomputable def qprem (c : List Nat) (lb u : Nat) (j : Nat) : List Nat → List Nat :=
  @Nat.rec (fun _ => List Nat → List Nat) (fun r => r)
   (fun j ih r => qif (Nat.ble lb (qlen r)) (ih (qstrip (qzip u (Nat.sub qM (Nat.mod (qhd r) qM)) (qtl r) c))) (qscl (Nat.pow u (Nat.succ j)) r)) j
noncomputable def qexI (V d : Nat) : Nat :=
   qif (Nat.blt V qH)
    (qif (Nat.blt d qH) (qif (Nat.beq (Nat.mod V d) 0) (Nat.div V d) qH) ((fun d => qif (Nat.beq (Nat.mod V d) 0) (Nat.sub qM (Nat.div V d)) qH) (Nat.sub qM d)))
    ((fun V => qif (Nat.blt d qH) (qif (Nat.beq (Nat.mod V d) 0) (Nat.sub qM (Nat.div V d)) qH) ((fun d => qif (Nat.beq (Nat.mod V d) 0) (Nat.div V d) qH) (Nat.sub qM d))) (Nat.sub qM V))
noncomputable def qred (r : List Nat) : List Nat := @List.rec Nat (fun _ => List Nat) [] (fun x _ ih => List.cons (Nat.mod x qM) ih) r
noncomputable def qexR (d : Nat) (r : List Nat) : List Nat := @List.rec Nat (fun _ => List Nat) [] (fun x _ ih => List.cons (qexI (Nat.mod x qM) d) ih) r
noncomputable def qexL (d : Nat) (r : List Nat) : List Nat := qif (Nat.beq d 1) (qred r) (qexR d r)
noncomputable def qsmall (r : List Nat) : Bool := @List.rec Nat (fun _ => Bool) true (fun x _ ih => qif (Nat.blt (Nat.mod (Nat.add x qS) qM) qSS) ih false) r
-- the same on ints, heads first
noncomputable def zipI (a b : Int) : List Int → List Int → List Int
  | [], _ => []
  | x :: r, [] => a * x :: zipI a b r []
  | x :: r, y :: c => (a * x + b * y) :: zipI a b r c
noncomputable def stripI : List Int → List Int
  | [] => []
  | z :: p => if z = 0 then stripI p else z :: p
noncomputable def premI (d : List Int) (lb : Nat) (a : Int) : Nat → List Int → List Int
  | 0, p => p
  | j + 1, p => if lb ≤ p.length then premI d lb a j (stripI (zipI a (-(p.headD 0)) p.tail d)) else p.map fun x => a ^ (j + 1) * x
/-- the head is not zero -/
noncomputable def Hn (p : List Int) : Prop := ∀ z r, p = z :: r → z ≠ 0
theorem Hn.nil : Hn [] := fun _ _ h => nomatch h
theorem stripI_Hn : ∀ p, Hn (stripI p)
  | [] => Hn.nil
  | z :: p => by
    unfold stripI
    split
    · exact stripI_Hn p
    · rename_i hz; intro z' r h; obtain ⟨rfl, _⟩ := List.cons.inj h; exact hz
theorem stripI_of {p : List Int} (h : Hn p) : stripI p = p := by
  cases p with
  | nil => rfl
  | cons z r => rw [stripI, if_neg (h z r rfl)]
theorem stripI_snoc (x : Int) : ∀ l, stripI (l ++ [x]) = if stripI l = [] then stripI [x] else stripI l ++ [x]
  | [] => rfl
  | z :: p => by
    rw [List.cons_append, stripI, stripI_snoc x p]
    by_cases h : z = 0
    · rw [if_pos h]
      have e : stripI (z :: p) = stripI p := by rw [stripI, if_pos h]
      rw [e]
    · rw [if_neg h]
      have e : stripI (z :: p) = z :: p := by rw [stripI, if_neg h]
      rw [e, if_neg (List.cons_ne_nil _ _)]; rfl
theorem trimP_strip : ∀ zs : List Int, trimP zs = (stripI zs.reverse).reverse
  | [] => rfl
  | x :: r => by
    rw [trimP, trimP_strip r, List.reverse_cons, stripI_snoc]
    cases h : stripI r.reverse with
    | nil =>
      simp only [List.reverse_nil, if_true, stripI]
      split <;> rfl
    | cons z p =>
      rw [if_neg (List.cons_ne_nil _ _), List.reverse_append]
      cases h2 : (z :: p).reverse with
      | nil => simp at h2
      | cons y t => simp
-- adding, with zeros at the end up to the same length
noncomputable def padL (n : Nat) (xs : List Int) : List Int := xs ++ List.replicate (n - xs.length) 0
theorem padL_getD (n : Nat) (xs : List Int) (i : Nat) : (padL n xs).getD i 0 = xs.getD i 0 := by
  unfold padL
  rw [List.getD_eq_getElem?_getD, List.getD_eq_getElem?_getD]
  by_cases h : i < xs.length
  · rw [List.getElem?_append_left h]
  · rw [List.getElem?_append_right (by omega), List.getElem?_eq_none (by omega : xs.length ≤ i), List.getElem?_replicate]
    split <;> rfl
theorem padL_length {n : Nat} {xs : List Int} (h : xs.length ≤ n) : (padL n xs).length = n := by
  unfold padL; rw [List.length_append, List.length_replicate]; omega
theorem addP_zip (xs ys : List Int) : addP xs ys = trimP (List.zipWith (fun x y => x + y) (padL (max xs.length ys.length) xs) (padL (max xs.length ys.length) ys)) := by
  unfold addP
  congr 1
  have h1 := padL_length (n := max xs.length ys.length) (xs := xs) (by omega)
  have h2 := padL_length (n := max xs.length ys.length) (xs := ys) (by omega)
  apply List.ext_getElem
  · rw [List.length_map, rangeKs_length, List.length_zipWith, h1, h2, Nat.min_self]
  · intro i hi hj
    rw [List.length_map, rangeKs_length] at hi
    have hv : (rangeKs 0 (max xs.length ys.length))[i]'(by rw [rangeKs_length]; exact hi) = (i : Int) := by
      have h2 := kll_at (a := 0) hi
      rw [List.getD_eq_getElem?_getD, List.getElem?_eq_getElem (by rw [rangeKs_length]; exact hi), Option.getD_some] at h2
      omega
    rw [List.getElem_map, hv, List.getElem_zipWith]
    have e1 := padL_getD (max xs.length ys.length) xs i
    have e2 := padL_getD (max xs.length ys.length) ys i
    rw [List.getD_eq_getElem?_getD, List.getElem?_eq_getElem (by omega), Option.getD_some] at e1 e2
    rw [e1, e2]; rfl
theorem zipI_zipWith (a b : Int) : ∀ (r c : List Int), c.length ≤ r.length → zipI a b r c = List.zipWith (fun x y => x + y) (r.map fun x => a * x) (c.map (fun y => b * y) ++ List.replicate (r.length - c.length) 0)
  | [], c, h => by
    rw [zipI]; rfl
  | x :: r, [], h => by
    rw [zipI, zipI_zipWith a b r [] (Nat.zero_le _)]
    simp [List.replicate_succ]
  | x :: r, y :: c, h => by
    rw [zipI, zipI_zipWith a b r c (by simpa using h)]
    simp
theorem padL_same {xs : List Int} {n : Nat} (h : n = xs.length) : padL n xs = xs := by
  unfold padL; rw [h, Nat.sub_self]; simp
/-- one step of the division by heads, heads first -/
theorem headI {P B p d : List Int} {z a : Int} (hP : P.reverse = z :: p) (hB : B.reverse = a :: d) (ha : a ≠ 0) (hz : z ≠ 0) (hl : B.length ≤ P.length) :
    subP (scaleP P a) (raiseP (scaleP B z) ((P.length - B.length : Nat) : Int)) = (stripI (zipI a (-z) p d)).reverse := by
  have lP : P.length = p.length + 1 := by have := congrArg List.length hP; simpa using this
  have lB : B.length = d.length + 1 := by have := congrArg List.length hB; simpa using this
  unfold subP
  have e1 : scaleP P a = P.map fun x => x * a := by unfold scaleP; rw [if_pos ha]
  have e2 : scaleP B z = B.map fun x => x * z := by unfold scaleP; rw [if_pos hz]
  have e3 : raiseP (scaleP B z) ((P.length - B.length : Nat) : Int) = List.replicate (P.length - B.length) 0 ++ B.map fun x => x * z := by
    unfold raiseP; rw [e2, if_pos (by rw [List.length_map]; omega)]; rfl
  rw [e3, e1, addP_zip, trimP_strip]
  have l1 : (P.map fun x => x * a).length = P.length := List.length_map ..
  have l2 : (List.map (fun y => -y) (List.replicate (P.length - B.length) 0 ++ List.map (fun x => x * z) B)).length = P.length := by
    rw [List.length_map, List.length_append, List.length_replicate, List.length_map]; omega
  rw [l1, l2, Nat.max_self, padL_same l1.symm, padL_same l2.symm]
  congr 1
  have e4 : zipI a (-z) (z :: p) (a :: d) = 0 :: zipI a (-z) p d := by
    rw [zipI]
    congr 1
    rw [Int.neg_mul, Int.mul_comm a z]; omega
  have e5 : stripI (zipI a (-z) p d) = stripI (zipI a (-z) (z :: p) (a :: d)) := by rw [e4, stripI, if_pos rfl]
  rw [e5, ← hP, ← hB, zipI_zipWith _ _ _ _ (by rw [List.length_reverse, List.length_reverse]; exact hl), List.reverse_zipWith (by rw [l1, l2])]
  congr 1
  congr 1
  · rw [← List.map_reverse]
    exact List.map_congr_left fun x _ => Int.mul_comm x a
  · rw [← List.map_reverse, List.reverse_append, List.map_append, ← List.map_reverse, List.map_map, List.length_reverse, List.length_reverse]
    congr 1
    · exact List.map_congr_left fun x _ => by show -(x * z) = -z * x; rw [Int.neg_mul, Int.mul_comm]
    · simp
theorem leadP_rev {P p : List Int} {z : Int} (hP : P.reverse = z :: p) : leadP P = z := by
  have : P = p.reverse ++ [z] := by have := congrArg List.reverse hP; simpa using this
  rw [leadP, this, List.getLastD_concat]
theorem scaleP_one (P : List Int) : scaleP P 1 = P := by
  unfold scaleP; rw [if_pos (by decide)]; simp
theorem pow_ne0 {a : Int} (ha : a ≠ 0) : ∀ n : Nat, a ^ n ≠ 0
  | 0 => by rw [Int.pow_zero]; decide
  | n + 1 => by rw [Int.pow_succ]; exact Int.mul_ne_zero (pow_ne0 ha n) ha
theorem Hn.map {p : List Int} (h : Hn p) {f : Int → Int} (hf : ∀ z, z ≠ 0 → f z ≠ 0) : Hn (p.map f) := by
  cases p with
  | nil => exact Hn.nil
  | cons z r => intro z' r' e; rw [← (List.cons.inj e).1]; exact hf z (h z r rfl)
theorem prem_loop {B d : List Int} {a : Int} (hB : B.reverse = a :: d) (ha : a ≠ 0) : ∀ (n : Nat) (P : List Int), Hn P.reverse →
    scaleP (premLoop B n P).1 (a ^ (premLoop B n P).2) = (premI d B.length a n P.reverse).reverse ∧ Hn (premI d B.length a n P.reverse)
  | 0, P, h => by
    rw [premLoop, premI]
    exact ⟨by show scaleP P (a ^ 0) = _; rw [Int.pow_zero, scaleP_one, List.reverse_reverse], h⟩
  | n + 1, P, h => by
    rw [premLoop, premI, List.length_reverse]
    by_cases c : B.length ≤ P.length
    · rw [if_pos c, if_pos c]
      cases hP : P.reverse with
      | nil => exfalso; have h1 := congrArg List.length hP; have h2 := congrArg List.length hB; simp at h1 h2; subst h1; simp at c; subst c; simp at h2
      | cons z p =>
        have hz := h z p hP
        rw [leadP_rev hB, leadP_rev hP, headI hP hB ha hz c]
        have ih := prem_loop hB ha n (stripI (zipI a (-z) p d)).reverse (by rw [List.reverse_reverse]; exact stripI_Hn _)
        rw [List.reverse_reverse] at ih
        exact ih
    · rw [if_neg c, if_neg c]
      refine ⟨?_, h.map fun z hz => Int.mul_ne_zero (pow_ne0 ha _) hz⟩
      show scaleP P (a ^ (n + 1)) = _
      unfold scaleP
      rw [if_pos (pow_ne0 ha _), List.map_reverse, List.reverse_reverse]
      exact List.map_congr_left fun x _ => Int.mul_comm x _
theorem premP_I {A B d : List Int} {a : Int} (hB : B.reverse = a :: d) (ha : a ≠ 0) (hA : Hn A.reverse) : premP A B = (premI d B.length a (A.length + 1 - B.length) A.reverse).reverse ∧ Hn (premI d B.length a (A.length + 1 - B.length) A.reverse) := by
  have := prem_loop hB ha (A.length + 1 - B.length) A hA
  unfold premP
  rw [leadP_rev hB]
  exact this

end
section
open Builtin.Int (intBits)
/-- the same but for a multiple of the number by which is reckoned -/
noncomputable def Cg (x : Nat) (z : Int) : Prop := (x : Int) % (qM : Int) = z % (qM : Int)
theorem Cg.mul {x y : Nat} {z t : Int} (h : Cg x z) (k : Cg y t) : Cg (Nat.mul x y) (z * t) := by
  unfold Cg at *
  show ((x * y : Nat) : Int) % _ = _
  rw [Int.natCast_mul, Int.mul_emod, h, k, ← Int.mul_emod]
theorem Cg.add {x y : Nat} {z t : Int} (h : Cg x z) (k : Cg y t) : Cg (Nat.add x y) (z + t) := by
  unfold Cg at *
  show ((x + y : Nat) : Int) % _ = _
  rw [Int.natCast_add, Int.add_emod, h, k, ← Int.add_emod]
theorem Cg.mod {x : Nat} {z : Int} (h : Cg x z) : Cg (Nat.mod x qM) z := by
  unfold Cg at *
  show ((x % qM : Nat) : Int) % _ = _
  rw [Int.natCast_emod, Int.emod_emod]; exact h
theorem Cg.ofNat (x : Nat) : Cg x (x : Int) := Eq.refl _
theorem Cg.pow {x : Nat} {z : Int} (h : Cg x z) : ∀ n, Cg (Nat.pow x n) (z ^ n)
  | 0 => by show Cg 1 (z ^ 0); rw [Int.pow_zero]; exact Eq.refl _
  | n + 1 => by rw [Int.pow_succ]; exact (Cg.pow h n).mul h
theorem qM_pos : 0 < qM := by have := qM2; have := qHb; omega
theorem Cg.neg {x : Nat} {z : Int} (h : Cg x z) : Cg (Nat.sub qM (Nat.mod x qM)) (-z) := by
  have hlt : x % qM < qM := Nat.mod_lt _ qM_pos
  have h1 := Cg.mod h
  unfold Cg at *
  show ((qM - x % qM : Nat) : Int) % _ = _
  have h1 : ((x % qM : Nat) : Int) % (qM : Int) = z % (qM : Int) := h1
  have e : ((qM - x % qM : Nat) : Int) = (qM : Int) - ((x % qM : Nat) : Int) := by omega
  rw [e, Int.sub_emod, h1, ← Int.sub_emod, show (qM : Int) - z = -z + qM by omega, Int.add_emod_right]
/-- what a number is, when it is small -/
theorem Cg.dec {x : Nat} {z : Int} (h : Cg x z) (hz : z.natAbs < qH) : ((Nat.mod x qM : Nat) : Int) = if 0 ≤ z then z else z + qM := by
  show ((x % qM : Nat) : Int) = _
  have h2 := qM2
  rw [Int.natCast_emod, h]
  split
  · exact Int.emod_eq_of_lt (by assumption) (by omega)
  · rw [← Int.add_emod_right]
    exact Int.emod_eq_of_lt (by omega) (by omega)
theorem Cg.zero {x : Nat} {z : Int} (h : Cg x z) (hz : z.natAbs < qH) : Nat.beq (Nat.mod x qM) 0 = true ↔ z = 0 := by
  have := h.dec hz
  have h2 := qM2
  rw [Nat.beq_eq]
  generalize Nat.mod x qM = y at this ⊢
  split at this <;> omega
/-- rows: heads first, of the same numbers, small -/
inductive Rw (K : Nat) : List Nat → List Int → Prop
  | nil : Rw K [] []
  | cons {x : Nat} {z : Int} {r : List Nat} {p : List Int} : Cg x z → z.natAbs ≤ K → Rw K r p → Rw K (x :: r) (z :: p)
theorem Rw.mono {K K' : Nat} (k : K ≤ K') {r : List Nat} {p : List Int} (h : Rw K r p) : Rw K' r p := by
  induction h with
  | nil => exact .nil
  | cons a b _ ih => exact .cons a (Nat.le_trans b k) ih
theorem Rw.len {K : Nat} {r : List Nat} {p : List Int} (h : Rw K r p) : qlen r = p.length := by
  induction h with
  | nil => rfl
  | cons a b _ ih => show Nat.succ (qlen _) = _; rw [ih]; rfl
theorem Rw.tl {K : Nat} {r : List Nat} {p : List Int} (h : Rw K r p) : Rw K (qtl r) p.tail := by
  cases h with
  | nil => exact .nil
  | cons a b k => exact k
theorem Rw.hd {K : Nat} {r : List Nat} {p : List Int} (h : Rw K r p) : Cg (qhd r) (p.headD 0) ∧ (p.headD 0).natAbs ≤ K := by
  cases h with
  | nil => exact ⟨Eq.refl _, Nat.zero_le _⟩
  | cons a b k => exact ⟨a, b⟩
theorem zip_ok {K K' L : Nat} {u n : Nat} {a b : Int} (hu : Cg u a) (hn : Cg n b) (hL : a.natAbs * K + b.natAbs * K' ≤ L) {r : List Nat} {p : List Int} (h : Rw K r p) : ∀ {c : List Nat} {d : List Int}, Rw K' c d → Rw L (qzip u n r c) (zipI a b p d) := by
  induction h with
  | nil => intro c d _; exact .nil
  | @cons x z r p hx hb _ ih =>
    intro c d k
    cases k with
    | nil =>
      refine .cons (hu.mul hx) ?_ (ih .nil)
      rw [Int.natAbs_mul]
      exact Nat.le_trans (Nat.mul_le_mul_left _ hb) (Nat.le_trans (Nat.le_add_right _ _) hL)
    | @cons y t c d hy hb' k =>
      refine .cons ((hu.mul hx).add (hn.mul hy)) ?_ (ih k)
      refine Nat.le_trans (Int.natAbs_add_le _ _) (Nat.le_trans (Nat.add_le_add ?_ ?_) hL)
      · rw [Int.natAbs_mul]; exact Nat.mul_le_mul_left _ hb
      · rw [Int.natAbs_mul]; exact Nat.mul_le_mul_left _ hb'
theorem strip_ok {K : Nat} (hK : K < qH) {r : List Nat} {p : List Int} (h : Rw K r p) : Rw K (qstrip r) (stripI p) := by
  induction h with
  | nil => exact .nil
  | @cons x z r p hx hb k ih =>
    have hz := hx.zero (Nat.lt_of_le_of_lt hb hK)
    show Rw K (qif (Nat.beq (Nat.mod x qM) 0) (qstrip r) (x :: r)) _
    unfold stripI
    by_cases c : z = 0
    · rw [qif_pos (hz.mpr c), if_pos c]; exact ih
    · rw [qif_neg (by cases e : Nat.beq (Nat.mod x qM) 0 with | false => rfl | true => exact absurd (hz.mp e) c), if_neg c]; exact .cons hx hb k
theorem scl_ok {K L : Nat} {u : Nat} {a : Int} (hu : Cg u a) (hL : a.natAbs * K ≤ L) {r : List Nat} {p : List Int} (h : Rw K r p) : Rw L (qscl u r) (p.map fun x => a * x) := by
  induction h with
  | nil => exact .nil
  | @cons x z r p hx hb k ih => exact .cons (hu.mul hx) (by rw [Int.natAbs_mul]; exact Nat.le_trans (Nat.mul_le_mul_left _ hb) hL) ih
theorem natAbs_pow_le {a : Int} {K : Nat} (h : a.natAbs ≤ K) : ∀ n : Nat, (a ^ n).natAbs ≤ K ^ n
  | 0 => by rw [Int.pow_zero, Nat.pow_zero]; exact Nat.le_refl 1
  | n + 1 => by rw [Int.pow_succ, Int.natAbs_mul, Nat.pow_succ]; exact Nat.mul_le_mul (natAbs_pow_le h n) h
theorem pow41 (i : Nat) : 2 ^ 40 * 2 ^ (41 * i) + 2 ^ (41 * i) * 2 ^ 40 = 2 ^ (41 * (i + 1)) := by
  rw [Nat.mul_comm (2 ^ (41 * i)), ← Nat.two_mul, Nat.mul_add 41 i 1, Nat.pow_add 2 (41 * i), ← Nat.mul_assoc, Nat.mul_comm (2 ^ (41 * i))]
theorem pow_qH {n : Nat} (h : n ≤ 400) : 2 ^ n < qH := Nat.lt_of_le_of_lt (Nat.pow_le_pow_right (by decide) h) qHb
noncomputable def qK (i : Nat) : Nat := 2 ^ (41 * (i + 1))
theorem qK_step (i : Nat) : qS * qK i + qK i * qS = qK (i + 1) := by rw [qSp]; exact pow41 (i + 1)
theorem qK_lt {i : Nat} (h : i ≤ 8) : qK i < qH := pow_qH (by omega)
theorem qK_scl (i j : Nat) : qS ^ j * qK i ≤ qK (i + j) := by
  rw [qSp, ← Nat.pow_mul]
  unfold qK
  rw [← Nat.pow_add]
  exact Nat.pow_le_pow_right (by decide) (by omega)
theorem qS_qK : qS ≤ qK 0 := by rw [qSp]; exact Nat.pow_le_pow_right (by decide) (by decide)
theorem ble_false {a b : Nat} (h : ¬ a ≤ b) : Nat.ble a b = false := by
  cases e : Nat.ble a b with
  | false => rfl
  | true => exact absurd (Nat.ble_eq.mp e) h
theorem prem_ok {c : List Nat} {d : List Int} {lb u : Nat} {a : Int} (hu : Cg u a) (ha : a.natAbs ≤ qS) (hc : Rw qS c d) (j : Nat) : ∀ (i : Nat) {r : List Nat} {p : List Int}, Rw (qK i) r p → i + j ≤ 8 → Rw (qK (i + j)) (qprem c lb u j r) (premI d lb a j p) := by
  induction j with
  | zero => intro i r p h _; exact h
  | succ j ih =>
    intro i r p h hi
    show Rw _ (qif (Nat.ble lb (qlen r)) (qprem c lb u j (qstrip (qzip u (Nat.sub qM (Nat.mod (qhd r) qM)) (qtl r) c))) (qscl (Nat.pow u (Nat.succ j)) r)) _
    rw [premI, h.len]
    by_cases q : lb ≤ p.length
    · rw [if_pos q, qif_pos (Nat.ble_eq.mpr q)]
      have hz : Rw (qK (i + 1)) (qzip u (Nat.sub qM (Nat.mod (qhd r) qM)) (qtl r) c) (zipI a (-(p.headD 0)) p.tail d) := by
        refine zip_ok hu h.hd.1.neg ?_ h.tl hc
        rw [← qK_step i, Int.natAbs_neg]
        exact Nat.add_le_add (Nat.mul_le_mul_right _ ha) (Nat.mul_le_mul_right _ h.hd.2)
      have := ih (i + 1) (strip_ok (qK_lt (by omega)) hz) (by omega)
      rw [show i + 1 + j = i + (j + 1) by omega] at this
      exact this
    · rw [if_neg q, qif_neg (ble_false q)]
      exact scl_ok (hu.pow _) (Nat.le_trans (Nat.mul_le_mul_right _ (natAbs_pow_le ha (j + 1))) (qK_scl i (j + 1))) h
theorem qsmall_cons (x : Nat) (r : List Nat) : qsmall (x :: r) = qif (Nat.blt (Nat.mod (Nat.add x qS) qM) qSS) (qsmall r) false := by unfold qsmall; rfl
theorem small_ok {K : Nat} (hK : K + qS < qH) {r : List Nat} {p : List Int} (h : Rw K r p) (hs : qsmall r = true) : Rw qS r p := by
  induction h with
  | nil => exact .nil
  | @cons x z r p hx hb k ih =>
    rw [qsmall_cons] at hs
    obtain ⟨h1, h2⟩ := qif_and hs
    refine .cons hx ?_ (ih h2)
    have e := (hx.add (Cg.ofNat qS)).dec (Nat.lt_of_le_of_lt (Int.natAbs_add_le _ _) (Nat.lt_of_le_of_lt (Nat.add_le_add_right hb _) hK))
    have h1 := Nat.blt_eq.mp h1
    rw [qSS2] at h1
    have := qM2
    have := qSH
    generalize Nat.mod (Nat.add x qS) qM = y at e h1
    split at e <;> omega
/-- division that comes out even -/
theorem exI_ok {V D : Nat} {z e : Int} (hV : (V : Int) = if 0 ≤ z then z else z + qM) (hz : z.natAbs < qH) (hD : (D : Int) = if 0 ≤ e then e else e + qM) (he : e.natAbs < qH) (h0 : e ≠ 0) : qexI V D = qH ∨ ∃ q, z = e * q ∧ Cg (qexI V D) q ∧ q.natAbs ≤ z.natAbs := by
  have h2 := qM2
  have key : ∀ (v d : Nat), d ≠ 0 → Nat.beq (Nat.mod v d) 0 = true → (v : Int) = (d : Int) * ((Nat.div v d : Nat) : Int) ∧ Nat.div v d ≤ v := fun v d _ h => by
    have h := Nat.eq_of_beq_eq_true h
    refine ⟨?_, Nat.div_le_self v d⟩
    have := Nat.mul_div_cancel' (Nat.dvd_of_mod_eq_zero h)
    show (v : Int) = (d : Int) * ((v / d : Nat) : Int)
    rw [← Int.natCast_mul, this]
  have sub : ∀ y : Nat, y ≤ qM → Cg (Nat.sub qM y) (-(y : Int)) := fun y hy => by
    unfold Cg
    show ((qM - y : Nat) : Int) % _ = _
    rw [show ((qM - y : Nat) : Int) = -(y : Int) + qM by omega, Int.add_emod_right]
  by_cases cz : 0 ≤ z
  · rw [if_pos cz] at hV
    have b1 : Nat.blt V qH = true := Nat.blt_eq.mpr (by omega)
    unfold qexI
    rw [qif_pos b1]
    by_cases ce : 0 ≤ e
    · rw [if_pos ce] at hD
      rw [qif_pos (Nat.blt_eq.mpr (by omega) : Nat.blt D qH = true)]
      cases hb : Nat.beq (Nat.mod V D) 0 with
      | false => exact .inl (qif_neg rfl)
      | true =>
        obtain ⟨k1, k2⟩ := key V D (by omega) hb
        refine .inr ⟨(Nat.div V D : Nat), ?_, by rw [qif_pos rfl]; exact Cg.ofNat _, by omega⟩
        rw [← hV, ← hD]; exact k1
    · rw [if_neg ce] at hD
      rw [qif_neg (by cases q : Nat.blt D qH with | false => rfl | true => exact absurd (Nat.blt_eq.mp q) (by omega))]
      (try dsimp only)
      cases hb : Nat.beq (Nat.mod V (Nat.sub qM D)) 0 with
      | false => exact .inl (qif_neg rfl)
      | true =>
        have hd : ((Nat.sub qM D : Nat) : Int) = -e := by show ((qM - D : Nat) : Int) = -e; omega
        obtain ⟨k1, k2⟩ := key V (Nat.sub qM D) (by omega) hb
        refine .inr ⟨-((Nat.div V (Nat.sub qM D) : Nat) : Int), ?_, by rw [qif_pos rfl]; exact sub _ (by omega), by omega⟩
        rw [← hV, k1, hd, Int.neg_mul, Int.mul_neg]
  · rw [if_neg cz] at hV
    unfold qexI
    rw [qif_neg (by cases q : Nat.blt V qH with | false => rfl | true => exact absurd (Nat.blt_eq.mp q) (by omega))]
    (try dsimp only)
    have hv : ((Nat.sub qM V : Nat) : Int) = -z := by show ((qM - V : Nat) : Int) = -z; omega
    generalize Nat.sub qM V = W at hv
    by_cases ce : 0 ≤ e
    · rw [if_pos ce] at hD
      rw [qif_pos (Nat.blt_eq.mpr (by omega) : Nat.blt D qH = true)]
      cases hb : Nat.beq (Nat.mod W D) 0 with
      | false => exact .inl (qif_neg rfl)
      | true =>
        obtain ⟨k1, k2⟩ := key W D (by omega) hb
        refine .inr ⟨-((Nat.div W D : Nat) : Int), ?_, by rw [qif_pos rfl]; exact sub _ (by omega), by omega⟩
        rw [Int.mul_neg, ← hD, ← k1]; omega
    · rw [if_neg ce] at hD
      rw [qif_neg (by cases q : Nat.blt D qH with | false => rfl | true => exact absurd (Nat.blt_eq.mp q) (by omega))]
      have hd : ((Nat.sub qM D : Nat) : Int) = -e := by show ((qM - D : Nat) : Int) = -e; omega
      (try dsimp only)
      generalize Nat.sub qM D = G at hd ⊢
      cases hb : Nat.beq (Nat.mod W G) 0 with
      | false => exact .inl (qif_neg rfl)
      | true =>
        obtain ⟨k1, k2⟩ := key W G (by omega) hb
        refine .inr ⟨(Nat.div W G : Nat), ?_, by rw [qif_pos rfl]; exact Cg.ofNat _, by omega⟩
        rw [hv, hd, Int.neg_mul] at k1; omega
theorem exR_ok {K : Nat} (hK : K + qS < qH) {D : Nat} {e : Int} (hD : (D : Int) = if 0 ≤ e then e else e + qM) (he : e.natAbs < qH) (h0 : e ≠ 0) {r : List Nat} {p : List Int} (h : Rw K r p) (hs : qsmall (qexR D r) = true) :
    (∀ z ∈ p, z = e * Int.fdiv z e) ∧ Rw qS (qexR D r) (p.map fun z => Int.fdiv z e) := by
  induction h with
  | nil => exact ⟨fun _ h => (nomatch h), .nil⟩
  | @cons x z r p hx hb k ih =>
    rw [show qexR D (x :: r) = qexI (Nat.mod x qM) D :: qexR D r by unfold qexR; rfl, qsmall_cons] at hs
    obtain ⟨h1, h2⟩ := qif_and hs
    obtain ⟨i1, i2⟩ := ih h2
    have hz : z.natAbs < qH := Nat.lt_of_le_of_lt hb (Nat.lt_of_le_of_lt (Nat.le_add_right _ _) hK)
    rcases exI_ok (hx.dec hz) hz hD he h0 with c | ⟨q, c1, c2, c3⟩
    · rw [c] at h1
      have h1 := Nat.blt_eq.mp h1
      exfalso
      have e2 : Nat.mod (Nat.add qH qS) qM = qH + qS := Nat.mod_eq_of_lt (by show qH + qS < qM; have := qM2; have := qSH; omega)
      rw [e2] at h1
      have := qSS2
      have := qSH
      omega
    · have hq : Int.fdiv z e = q := by rw [c1]; exact Int.mul_fdiv_cancel_left _ h0
      have s1 := small_ok (K := K) hK (Rw.cons c2 (Nat.le_trans c3 hb) .nil) (by rw [qsmall_cons, h1]; rfl)
      cases s1 with
      | cons _ s1 _ =>
        refine ⟨fun t ht => ?_, ?_⟩
        · rcases List.mem_cons.mp ht with rfl | ht
          · rw [hq]; exact c1
          · exact i1 t ht
        · rw [List.map_cons, hq]
          exact .cons c2 s1 i2
theorem red_ok {K : Nat} {r : List Nat} {p : List Int} (h : Rw K r p) : Rw K (qred r) p := by
  induction h with
  | nil => exact .nil
  | cons a b _ ih => exact .cons a.mod b ih
theorem exL_ok {K : Nat} (hK : K + qS < qH) {D : Nat} {e : Int} (hD : (D : Int) = if 0 ≤ e then e else e + qM) (he : e.natAbs < qH) (h0 : e ≠ 0) {r : List Nat} {p : List Int} (h : Rw K r p) (hs : qsmall (qexL D r) = true) :
    (∀ z ∈ p, z = e * Int.fdiv z e) ∧ Rw qS (qexL D r) (p.map fun z => Int.fdiv z e) := by
  have h2 := qM2
  unfold qexL at hs ⊢
  cases c : Nat.beq D 1 with
  | true =>
    rw [c, qif_pos rfl] at hs
    rw [qif_pos rfl]
    have c := Nat.eq_of_beq_eq_true c
    have e1 : e = 1 := by split at hD <;> omega
    subst e1
    have s := small_ok hK (red_ok h) hs
    refine ⟨fun z _ => by rw [Int.fdiv_one, Int.one_mul], ?_⟩
    have : (p.map fun z => Int.fdiv z 1) = p := by
      conv => rhs; rw [← List.map_id p]
      exact List.map_congr_left fun z _ => Int.fdiv_one z
    rw [this]; exact s
  | false =>
    rw [c, qif_neg rfl] at hs
    rw [qif_neg rfl]
    exact exR_ok hK hD he h0 h hs

end
section
open Builtin.Int (intBits)
/-- the chain of subresultants on rows of residues: its last row, or nothing -/
noncomputable def qchain (f : Nat) : List Nat → List Nat → Nat → Nat → List Nat :=
  @Nat.rec (fun _ => List Nat → List Nat → Nat → Nat → List Nat) (fun _ _ _ _ => [])
   (fun _ ih a b fr h =>
    (fun lb => qif (Nat.ble lb 1) b
    ((fun s => (fun R => qif (Nat.beq (qlen R) 0) b
      ((fun R' => qif (qsmall R') (qif (Nat.blt (qlen R') lb) (qif (Nat.ble s 1) (ih b R' (qhd b) (qif (Nat.beq s 0) h (qhd b))) ((fun h' => qif (qsmall [h']) (ih b R' (qhd b) h') []) (qexI (Nat.mod (Nat.pow (qhd b) s) qM) (Nat.mod (Nat.pow h (Nat.pred s)) qM)))) []) []) (qexL (Nat.mod (Nat.mul fr (Nat.pow h s)) qM) R)))
      (qprem (qtl b) lb (qhd b) (Nat.succ s) a)) (Nat.sub (qlen a) lb))) (qlen b)) f
theorem qchain_succ (f : Nat) (a b : List Nat) (fr h : Nat) : qchain (f + 1) a b fr h = qif (Nat.ble (qlen b) 1) b
    (qif (Nat.beq (qlen (qprem (qtl b) (qlen b) (qhd b) (Nat.succ (Nat.sub (qlen a) (qlen b))) a)) 0) b
      ((fun R' => qif (qsmall R') (qif (Nat.blt (qlen R') (qlen b)) (qif (Nat.ble (Nat.sub (qlen a) (qlen b)) 1) (qchain f b R' (qhd b) (qif (Nat.beq (Nat.sub (qlen a) (qlen b)) 0) h (qhd b))) ((fun h' => qif (qsmall [h']) (qchain f b R' (qhd b) h') []) (qexI (Nat.mod (Nat.pow (qhd b) (Nat.sub (qlen a) (qlen b))) qM) (Nat.mod (Nat.pow h (Nat.pred (Nat.sub (qlen a) (qlen b)))) qM)))) []) []) (qexL (Nat.mod (Nat.mul fr (Nat.pow h (Nat.sub (qlen a) (qlen b)))) qM) (qprem (qtl b) (qlen b) (qhd b) (Nat.succ (Nat.sub (qlen a) (qlen b))) a)))) := by unfold qchain; rfl
theorem qif_ne {b : Bool} {x q : List Nat} (h : qif b x [] = q) (hq : q ≠ []) : b = true ∧ x = q := by
  cases b with
  | true => exact ⟨rfl, h⟩
  | false => exact absurd h.symm hq
theorem smallI_of {z : Int} (h : z.natAbs ≤ qS) : smallI z = true := by
  unfold smallI
  rw [Nat.blt_eq]
  exact Nat.lt_of_le_of_lt h (by decide +kernel)
theorem Rw.small {r : List Nat} {p : List Int} (h : Rw qS r p) : p.all smallI = true := by
  induction h with
  | nil => rfl
  | cons _ b _ ih => rw [List.all_cons, smallI_of b, ih]; rfl
theorem Rw.length {K : Nat} {r : List Nat} {p : List Int} (h : Rw K r p) : r.length = p.length := by
  induction h with
  | nil => rfl
  | cons _ _ _ ih => rw [List.length_cons, List.length_cons, ih]
theorem chain_ok (f : Nat) : ∀ {rA rB : List Nat} {A B : List Int} {fr' h' : Nat} {fr h : Int} {q : List Nat}, Rw qS rA A.reverse → Rw qS rB B.reverse → Hn A.reverse → Hn B.reverse → Cg fr' fr → Cg h' h → fr.natAbs ≤ qS → h.natAbs ≤ qS → fr ≠ 0 → h ≠ 0 → A.length ≤ 6 → B.length ≤ A.length →
    qchain f rA rB fr' h' = q → q ≠ [] → ∃ Q, chainS f A B fr h = some Q ∧ Rw qS q Q.reverse ∧ Hn Q.reverse := by
  induction f with
  | zero => intro _ _ _ _ _ _ _ _ q _ _ _ _ _ _ _ _ _ _ _ _ e hq; exact absurd e.symm hq
  | succ f ih =>
    intro rA rB A B fr' h' fr h q hA hB nA nB cfr ch bfr bh fr0 h0 lA lBA e hq
    rw [qchain_succ] at e
    have lenA : qlen rA = A.length := by rw [hA.len, List.length_reverse]
    have lenB : qlen rB = B.length := by rw [hB.len, List.length_reverse]
    rw [lenA, lenB] at e
    rw [chainS]
    by_cases c1 : B.length ≤ 1
    · rw [qif_pos (Nat.ble_eq.mpr c1)] at e
      subst e
      rw [if_pos c1]
      exact ⟨B, rfl, hB, nB⟩
    · rw [qif_neg (ble_false c1)] at e
      rw [if_neg c1]
      cases hBr : B.reverse with
      | nil => exfalso; have h1 := congrArg List.length hBr; rw [List.length_reverse] at h1; exact c1 (by rw [h1]; exact Nat.zero_le _)
      | cons a d =>
        have ha : a ≠ 0 := nB a d hBr
        have hB' := hB
        rw [hBr] at hB'
        obtain ⟨cu, bu⟩ := hB'.hd
        have cu : Cg (qhd rB) a := cu
        have bu : a.natAbs ≤ qS := bu
        have ct : Rw qS (qtl rB) d := hB'.tl
        have hs : Nat.succ (Nat.sub A.length B.length) = A.length + 1 - B.length := by show A.length - B.length + 1 = _; omega
        have hp := prem_ok (lb := B.length) cu bu ct (Nat.succ (Nat.sub A.length B.length)) 0 (hA.mono qS_qK) (by show 0 + (A.length - B.length + 1) ≤ 8; omega)
        obtain ⟨e1, n1⟩ := premP_I hBr ha nA
        rw [hs] at hp e
        generalize hR : qprem (qtl rB) B.length (qhd rB) (A.length + 1 - B.length) rA = R at hp e
        generalize hP : premI d B.length a (A.length + 1 - B.length) A.reverse = P at hp e1 n1
        have hRl : qlen R = P.length := hp.len
        by_cases c2 : P = []
        · subst c2
          rw [qif_pos (by rw [hRl]; rfl)] at e
          subst e
          rw [e1]
          exact ⟨B, by simp, hB, nB⟩
        · rw [qif_neg (by rw [hRl]; cases P with | nil => exact absurd rfl c2 | cons => rfl)] at e
          obtain ⟨e2, e⟩ := qif_ne e hq
          obtain ⟨e3, e⟩ := qif_ne e hq
          have hK : qK (0 + (A.length + 1 - B.length)) + qS < qH := by
            have h1 : qK (0 + (A.length + 1 - B.length)) ≤ 2 ^ 390 := by unfold qK; exact Nat.pow_le_pow_right (by decide) (by omega)
            have h2 : qS ≤ 2 ^ 390 := by rw [qSp]; exact Nat.pow_le_pow_right (by decide) (by decide)
            have h3 : 2 ^ 390 + 2 ^ 390 = 2 ^ 391 := by rw [← Nat.two_mul, Nat.pow_succ 2 390, Nat.mul_comm]
            have h4 := pow_qH (n := 391) (by decide)
            exact Nat.lt_of_le_of_lt (Nat.le_trans (Nat.add_le_add h1 h2) (Nat.le_of_eq h3)) h4
          have hd : (fr * h ^ (A.length - B.length)).natAbs < qH := by
            rw [Int.natAbs_mul]
            refine Nat.lt_of_le_of_lt (Nat.mul_le_mul bfr (natAbs_pow_le bh _)) ?_
            rw [qSp, ← Nat.pow_mul, ← Nat.pow_add]
            exact pow_qH (by omega)
          have d0 : fr * h ^ (A.length - B.length) ≠ 0 := Int.mul_ne_zero fr0 (pow_ne0 h0 _)
          have hD := (cfr.mul (ch.pow (A.length - B.length))).dec hd
          obtain ⟨ev, hb'⟩ := exL_ok hK hD hd d0 hp e2
          have hb'' : Rw qS (qexL (Nat.mod (Nat.mul fr' (Nat.pow h' (A.length - B.length))) qM) R) (List.map (fun x => Int.fdiv x (fr * h ^ (A.length - B.length))) (premP A B)).reverse := by
            rw [e1, ← List.map_reverse, List.reverse_reverse]; exact hb'
          have nb : Hn (List.map (fun x => Int.fdiv x (fr * h ^ (A.length - B.length))) (premP A B)).reverse := by
            rw [e1, ← List.map_reverse, List.reverse_reverse]
            cases P with
            | nil => exact Hn.nil
            | cons z r =>
              intro z' r' e'
              obtain ⟨e', _⟩ := List.cons.inj e'
              rw [← e']
              intro hz
              have hz : Int.fdiv z (fr * h ^ (A.length - B.length)) = 0 := hz
              have := ev z (List.Mem.head _)
              rw [hz, Int.mul_zero] at this
              exact n1 z r rfl this
          have lb' : (List.map (fun x => Int.fdiv x (fr * h ^ (A.length - B.length))) (premP A B)).length < B.length := by
            have := hb''.len
            rw [List.length_reverse] at this
            have e3 := Nat.blt_eq.mp e3
            show _ < _
            rw [← this]; exact e3
          have hne : premP A B ≠ [] := by rw [e1]; simpa using c2
          have hlead : leadP B = a := leadP_rev hBr
          have small : (List.map (fun x => Int.fdiv x (fr * h ^ (A.length - B.length))) (premP A B)).all smallI = true := by
            have := hb''.small
            rw [List.all_reverse] at this; exact this
          simp only [if_neg hne]
          rw [hlead]
          have finish : ∀ (g' : Nat) (g : Int), Cg g' g → g.natAbs ≤ qS → g ≠ 0 → heightP a h (A.length - B.length) = g → qchain f rB (qexL (Nat.mod (Nat.mul fr' (Nat.pow h' (A.length - B.length))) qM) R) (qhd rB) g' = q → ∃ Q, (if fr * h ^ (A.length - B.length) ≠ 0 ∧ heightP a h (A.length - B.length) ≠ 0 ∧ smallI (heightP a h (A.length - B.length)) = true ∧ (List.map (fun x => Int.fdiv x (fr * h ^ (A.length - B.length))) (premP A B)).all smallI = true ∧ (List.map (fun x => Int.fdiv x (fr * h ^ (A.length - B.length))) (premP A B)).length < B.length then chainS f B (List.map (fun x => Int.fdiv x (fr * h ^ (A.length - B.length))) (premP A B)) a (heightP a h (A.length - B.length)) else none) = some Q ∧ Rw qS q Q.reverse ∧ Hn Q.reverse := by
            intro g' g cg bg g0 hg eg
            rw [hg, if_pos ⟨d0, g0, smallI_of bg, small, lb'⟩]
            exact ih hB hb'' nB nb cu cg bu bg ha g0 (by omega) (Nat.le_of_lt lb') eg hq
          by_cases c3 : A.length - B.length ≤ 1
          · rw [show Nat.ble (Nat.sub A.length B.length) 1 = true from Nat.ble_eq.mpr c3, qif_pos rfl] at e
            by_cases c4 : A.length - B.length = 0
            · rw [show Nat.beq (Nat.sub A.length B.length) 0 = true from Nat.beq_eq.mpr c4, qif_pos rfl] at e
              exact finish h' h ch bh h0 (by unfold heightP; rw [if_pos c4]) e
            · rw [show Nat.beq (Nat.sub A.length B.length) 0 = false by cases q : Nat.beq (Nat.sub A.length B.length) 0 with | false => rfl | true => exact absurd (Nat.eq_of_beq_eq_true q) c4, qif_neg rfl] at e
              refine finish (qhd rB) a cu bu ha ?_ e
              unfold heightP
              rw [if_neg c4, show A.length - B.length = 1 by omega, Nat.sub_self, Int.pow_zero, Int.pow_succ, Int.pow_zero, Int.one_mul, Int.fdiv_one]
          · rw [show Nat.ble (Nat.sub A.length B.length) 1 = false from ble_false c3, qif_neg rfl] at e
            obtain ⟨e5, e⟩ := qif_ne e hq
            have hV : (a ^ (A.length - B.length)).natAbs < qH := by
              refine Nat.lt_of_le_of_lt (natAbs_pow_le bu _) ?_
              rw [qSp, ← Nat.pow_mul]; exact pow_qH (by omega)
            have hW : (h ^ (A.length - B.length - 1)).natAbs < qH := by
              refine Nat.lt_of_le_of_lt (natAbs_pow_le bh _) ?_
              rw [qSp, ← Nat.pow_mul]; exact pow_qH (by omega)
            have v0 := pow_ne0 ha (A.length - B.length)
            have w0 := pow_ne0 h0 (A.length - B.length - 1)
            rcases exI_ok ((cu.pow (A.length - B.length)).dec hV) hV ((ch.pow (A.length - B.length - 1)).dec hW) hW w0 with c5 | ⟨g, g1, g2, g3⟩
            · exfalso
              have c5 : qexI (Nat.mod (Nat.pow (qhd rB) (Nat.sub A.length B.length)) qM) (Nat.mod (Nat.pow h' (Nat.pred (Nat.sub A.length B.length))) qM) = qH := c5
              rw [c5, qsmall_cons] at e5
              have h1 := Nat.blt_eq.mp (qif_and e5).1
              have h2 : Nat.mod (Nat.add qH qS) qM = qH + qS := Nat.mod_eq_of_lt (by show qH + qS < qM; have := qM2; have := qSH; omega)
              rw [h2] at h1
              have := qSS2
              have := qSH
              omega
            · have g2 : Cg (qexI (Nat.mod (Nat.pow (qhd rB) (Nat.sub A.length B.length)) qM) (Nat.mod (Nat.pow h' (Nat.pred (Nat.sub A.length B.length))) qM)) g := g2
              have gb : g.natAbs ≤ qS := by
                have h1 : (a ^ (A.length - B.length)).natAbs ≤ 2 ^ 390 := by
                  refine Nat.le_trans (natAbs_pow_le bu _) ?_
                  rw [qSp, ← Nat.pow_mul]; exact Nat.pow_le_pow_right (by decide) (by omega)
                have hK2 : 2 ^ 390 + qS < qH := by
                  have h2 : qS ≤ 2 ^ 390 := by rw [qSp]; exact Nat.pow_le_pow_right (by decide) (by decide)
                  have h3 : 2 ^ 390 + 2 ^ 390 = 2 ^ 391 := by rw [← Nat.two_mul, Nat.pow_succ 2 390, Nat.mul_comm]
                  exact Nat.lt_of_le_of_lt (Nat.le_trans (Nat.add_le_add_left h2 _) (Nat.le_of_eq h3)) (pow_qH (n := 391) (by decide))
                have := small_ok (K := 2 ^ 390) hK2 (Rw.cons g2 (Nat.le_trans g3 h1) .nil) e5
                cases this with
                | cons _ b _ => exact b
              have g0 : g ≠ 0 := fun hg => by rw [hg, Int.mul_zero] at g1; exact v0 g1
              refine finish _ g g2 gb g0 ?_ e
              unfold heightP
              rw [if_neg (by omega), g1]
              exact Int.mul_fdiv_cancel_left _ w0

end
section
open Builtin.Int (intBits)
noncomputable def qchn (a b : List Nat) : List Nat := qif (Nat.blt (qlen a) (qlen b)) (qchain 10 b a 1 1) (qchain 10 a b 1 1)
theorem chn_ok {rA rB : List Nat} {A B : List Int} {q : List Nat} (hA : Rw qS rA A.reverse) (hB : Rw qS rB B.reverse) (nA : Hn A.reverse) (nB : Hn B.reverse) (lA : A.length ≤ 6) (lB : B.length ≤ 6) (e : qchn rA rB = q) (hq : q ≠ []) :
    ∃ Q, subresP A B = some Q ∧ Rw qS q Q.reverse ∧ Hn Q.reverse := by
  have lenA : qlen rA = A.length := by rw [hA.len, List.length_reverse]
  have lenB : qlen rB = B.length := by rw [hB.len, List.length_reverse]
  have one : (1 : Int).natAbs ≤ qS := by show 1 ≤ qS; decide +kernel
  unfold qchn at e
  rw [lenA, lenB] at e
  unfold subresP
  by_cases c : A.length < B.length
  · rw [qif_pos (Nat.blt_eq.mpr c)] at e
    rw [if_pos c]
    exact chain_ok 10 hB hA nB nA (Cg.ofNat 1) (Cg.ofNat 1) one one (by decide) (by decide) lB (Nat.le_of_lt c) e hq
  · rw [qif_neg (by cases h : Nat.blt A.length B.length with | false => rfl | true => exact absurd (Nat.blt_eq.mp h) c)] at e
    rw [if_neg c]
    exact chain_ok 10 hA hB nA nB (Cg.ofNat 1) (Cg.ofNat 1) one one (by decide) (by decide) lA (Nat.not_lt.mp c) e hq
/-- one row is left that is a number -/
noncomputable def qcop (a b : List Nat) : Bool := Nat.beq (qlen (qchn a b)) 1
theorem cop_ok {rA rB : List Nat} {A B : List Int} (hA : Rw qS rA A.reverse) (hB : Rw qS rB B.reverse) (nA : Hn A.reverse) (nB : Hn B.reverse) (lA : A.length ≤ 6) (lB : B.length ≤ 6) (e : qcop rA rB = true) : ∃ Q, subresP A B = some Q ∧ Q.length = 1 := by
  have e := Nat.eq_of_beq_eq_true e
  obtain ⟨Q, h1, h2, _⟩ := chn_ok hA hB nA nB lA lB rfl (fun h => by rw [h] at e; cases e)
  exact ⟨Q, h1, by rw [h2.len, List.length_reverse] at e; exact e⟩
-- the content
noncomputable def qabs (x : Nat) : Nat := (fun x => qif (Nat.blt x qH) x (Nat.sub qM x)) (Nat.mod x qM)
noncomputable def qcont (r : List Nat) : Nat := @List.rec Nat (fun _ => Nat) 0 (fun x _ ih => Nat.gcd ih (qabs x)) r
theorem abs_ok {x : Nat} {z : Int} (h : Cg x z) (hz : z.natAbs < qH) : qabs x = z.natAbs := by
  have e := h.dec hz
  have := qM2
  show qif (Nat.blt (Nat.mod x qM) qH) (Nat.mod x qM) (Nat.sub qM (Nat.mod x qM)) = _
  generalize Nat.mod x qM = y at e ⊢
  by_cases c : 0 ≤ z
  · rw [if_pos c] at e
    rw [qif_pos (Nat.blt_eq.mpr (by omega))]; omega
  · rw [if_neg c] at e
    rw [qif_neg (by cases h : Nat.blt y qH with | false => rfl | true => exact absurd (Nat.blt_eq.mp h) (by omega))]
    show qM - y = _
    omega
theorem contentP_append (p : List Int) (z : Int) : contentP (p ++ [z]) = (Int.gcd (contentP p) z : Int) := by
  unfold contentP; rw [List.foldl_append]; rfl
theorem cont_ok {K : Nat} (hK : K < qH) {r : List Nat} {p : List Int} (h : Rw K r p) : contentP p.reverse = (qcont r : Int) := by
  induction h with
  | nil => rfl
  | @cons x z r p hx hb k ih =>
    rw [List.reverse_cons, contentP_append, ih]
    show _ = ((Nat.gcd (qcont r) (qabs x) : Nat) : Int)
    rw [abs_ok hx (Nat.lt_of_le_of_lt hb hK)]
    rfl
-- the primitive part
noncomputable def qprm (c : Nat) (r : List Nat) : List Nat := qexL (qif (Nat.blt (Nat.mod (qhd r) qM) qH) c (Nat.sub qM c)) r
theorem prm_ok {K : Nat} (hK : K + qS < qH) {r : List Nat} {P : List Int} (h : Rw K r P.reverse) (n : Hn P.reverse) (h0 : P ≠ []) (c0 : qcont r ≠ 0) (cb : qcont r < qH) (hs : qsmall (qprm (qcont r) r) = true) :
    Rw qS (qprm (qcont r) r) (primP P).reverse ∧ Hn (primP P).reverse := by
  have h2 := qM2
  have hc := cont_ok (Nat.lt_of_le_of_lt (Nat.le_add_right _ _) hK) h
  rw [List.reverse_reverse] at hc
  cases hP : P.reverse with
  | nil => exact absurd (by simpa using congrArg List.reverse hP) h0
  | cons z p =>
    have hz := n z p hP
    have hlead : P.getLastD 0 = z := leadP_rev hP
    rw [hP] at h
    have e := h.hd.1.dec (Nat.lt_of_le_of_lt h.hd.2 (Nat.lt_of_le_of_lt (Nat.le_add_right _ _) hK))
    have e : ((Nat.mod (qhd r) qM : Nat) : Int) = if 0 ≤ z then z else z + qM := e
    have zb : z.natAbs < qH := Nat.lt_of_le_of_lt h.hd.2 (Nat.lt_of_le_of_lt (Nat.le_add_right _ _) hK)
    have hp : primP P = P.map fun x => Int.fdiv x (if z > 0 then contentP P else -contentP P) := by
      unfold primP; rw [if_neg h0, hlead]
    rw [hp, ← List.map_reverse, hP]
    generalize hE : (if z > 0 then contentP P else -contentP P) = E
    have key : ((qif (Nat.blt (Nat.mod (qhd r) qM) qH) (qcont r) (Nat.sub qM (qcont r)) : Nat) : Int) = (if 0 ≤ E then E else E + qM) ∧ E.natAbs < qH ∧ E ≠ 0 := by
      generalize Nat.mod (qhd r) qM = y at e ⊢
      by_cases c : 0 ≤ z
      · rw [if_pos c] at e
        rw [qif_pos (Nat.blt_eq.mpr (by omega))]
        rw [if_pos (by omega), hc] at hE
        rw [← hE, if_pos (by omega)]
        exact ⟨rfl, by omega, by omega⟩
      · rw [if_neg c] at e
        rw [qif_neg (by cases h : Nat.blt y qH with | false => rfl | true => exact absurd (Nat.blt_eq.mp h) (by omega))]
        rw [if_neg (by omega), hc] at hE
        rw [← hE, if_neg (by omega)]
        refine ⟨?_, by omega, by omega⟩
        show ((qM - qcont r : Nat) : Int) = _
        omega
    unfold qprm at hs ⊢
    obtain ⟨k1, k2⟩ := exL_ok hK key.1 key.2.1 key.2.2 h hs
    refine ⟨k2, fun z' r' e' => ?_⟩
    rw [List.map_cons] at e'
    obtain ⟨e', _⟩ := List.cons.inj e'
    rw [← e']
    intro hq
    have := k1 z (List.Mem.head _)
    rw [hq, Int.mul_zero] at this
    exact hz this
-- the derivative
noncomputable def qder (r : List Nat) : List Nat := @List.rec Nat (fun _ => List Nat) [] (fun x r ih => qif (Nat.beq (qlen r) 0) [] (List.cons (Nat.mul x (qlen r)) ih)) r
noncomputable def derI : List Int → List Int
  | [] => []
  | z :: p => if p.length = 0 then [] else z * (p.length : Int) :: derI p
theorem der_ok {K : Nat} {r : List Nat} {p : List Int} (h : Rw K r p) : ∀ {n : Nat}, p.length ≤ n → Rw (K * n) (qder r) (derI p) := by
  induction h with
  | nil => intro n _; exact .nil
  | @cons x z r p hx hb k ih =>
    intro n hn
    show Rw _ (qif (Nat.beq (qlen r) 0) [] (List.cons (Nat.mul x (qlen r)) (qder r))) _
    rw [derI, k.len]
    by_cases c : p.length = 0
    · rw [if_pos c, qif_pos (Nat.beq_eq.mpr c)]; exact .nil
    · rw [if_neg c, qif_neg (by cases h : Nat.beq p.length 0 with | false => rfl | true => exact absurd (Nat.eq_of_beq_eq_true h) c)]
      refine .cons (hx.mul (Cg.ofNat _)) ?_ (ih (by simp at hn; omega))
      rw [Int.natAbs_mul]
      exact Nat.mul_le_mul hb (by show p.length ≤ n; simp at hn; omega)
theorem enumG_snoc (g : Nat → Int → Int) (xs : List Int) (z : Int) : enumG g (xs ++ [z]) = enumG g xs ++ [g xs.length z] := by
  unfold enumG
  rw [List.length_append, List.length_singleton, List.range_succ, List.map_append]
  congr 1
  · refine List.map_congr_left fun i hi => ?_
    rw [List.getD_eq_getElem?_getD, List.getD_eq_getElem?_getD, List.getElem?_append_left (by simpa using hi)]
  · simp [List.getD_eq_getElem?_getD]
theorem enumG_length (g : Nat → Int → Int) (xs : List Int) : (enumG g xs).length = xs.length := by unfold enumG; simp
theorem deriveQ_I : ∀ p : List Int, deriveQ p.reverse = (derI p).reverse
  | [] => rfl
  | z :: p => by
    rw [List.reverse_cons, deriveQ, enumG_snoc, derI]
    have hd : (enumG (fun i k => k * (i : Int)) p.reverse).drop 1 = (derI p).reverse := deriveQ_I p
    have hl := enumG_length (fun i k => k * (i : Int)) p.reverse
    rw [List.length_reverse] at hl ⊢
    by_cases c : p.length = 0
    · rw [if_pos c]
      have : p = [] := List.eq_nil_of_length_eq_zero c
      subst this; rfl
    · rw [if_neg c, List.drop_append_of_le_length (by rw [hl]; omega), hd, List.reverse_cons]
theorem derI_Hn {p : List Int} (h : Hn p) : Hn (derI p) := by
  cases p with
  | nil => exact Hn.nil
  | cons z r =>
    rw [derI]
    split
    · exact Hn.nil
    · intro z' r' e
      rw [← (List.cons.inj e).1]
      exact Int.mul_ne_zero (h z r rfl) (by omega)
theorem derI_length : ∀ p : List Int, (derI p).length = p.length - 1
  | [] => rfl
  | z :: p => by
    rw [derI]
    split
    · rename_i c; simp [c]
    · rw [List.length_cons, derI_length p]; simp; omega
-- the sum of multiples
noncomputable def qpad (k : Nat) (r : List Nat) : List Nat := @Nat.rec (fun _ => List Nat) r (fun _ ih => List.cons 0 ih) k
noncomputable def qcomb (u v : Nat) (a b : List Nat) : List Nat := qstrip (qif (Nat.blt (qlen a) (qlen b)) (qzip u v (qpad (Nat.sub (qlen b) (qlen a)) a) b) (qzip u v a (qpad (Nat.sub (qlen a) (qlen b)) b)))
theorem pad_ok {K : Nat} {r : List Nat} {p : List Int} (h : Rw K r p) : ∀ k : Nat, Rw K (qpad k r) (List.replicate k 0 ++ p)
  | 0 => h
  | k + 1 => by rw [List.replicate_succ]; exact .cons (Eq.refl _) (Nat.zero_le _) (pad_ok h k)
noncomputable def sc (k : Int) (p : List Int) : List Int := p.map fun x => k * x
theorem sc_length (k : Int) (p : List Int) : (sc k p).length = p.length := List.length_map ..
theorem padL_sc (n : Nat) (k : Int) (p : List Int) : padL n (sc k p) = sc k (padL n p) := by
  unfold padL sc; simp
theorem comb_same {u v : Int} {p q : List Int} (h : p.length = q.length) : (stripI (zipI u v p.reverse q.reverse)).reverse = trimP (List.zipWith (fun x y => x + y) (sc u p) (sc v q)) := by
  rw [trimP_strip, zipI_zipWith _ _ _ _ (by simp [h]), List.reverse_zipWith (by simp [sc, h])]
  congr 2
  unfold sc
  simp [h]
theorem comb_ok {K L : Nat} {u' v' : Nat} {u v : Int} (cu : Cg u' u) (cv : Cg v' v) (hL : u.natAbs * K + v.natAbs * K ≤ L) (hLq : L < qH) {rA rB : List Nat} {A B : List Int} (hA : Rw K rA A.reverse) (hB : Rw K rB B.reverse) :
    Rw L (qcomb u' v' rA rB) (addP (sc u A) (sc v B)).reverse ∧ Hn (addP (sc u A) (sc v B)).reverse := by
  have lenA : qlen rA = A.length := by rw [hA.len, List.length_reverse]
  have lenB : qlen rB = B.length := by rw [hB.len, List.length_reverse]
  have pr : ∀ (n : Nat) (p : List Int), (padL n p).reverse = List.replicate (n - p.length) 0 ++ p.reverse := fun n p => by unfold padL; simp
  have e : addP (sc u A) (sc v B) = (stripI (zipI u v (padL (max A.length B.length) A).reverse (padL (max A.length B.length) B).reverse)).reverse := by
    rw [addP_zip, sc_length, sc_length, padL_sc, padL_sc, comb_same (by rw [padL_length (by omega), padL_length (by omega)])]
  refine ⟨?_, by rw [e, List.reverse_reverse]; exact stripI_Hn _⟩
  rw [e, List.reverse_reverse, pr, pr]
  unfold qcomb
  refine strip_ok hLq ?_
  rw [lenA, lenB]
  by_cases c : A.length < B.length
  · rw [qif_pos (Nat.blt_eq.mpr c), show max A.length B.length = B.length by omega, Nat.sub_self]
    exact zip_ok cu cv hL (pad_ok hA _) hB
  · rw [qif_neg (by cases h : Nat.blt A.length B.length with | false => rfl | true => exact absurd (Nat.blt_eq.mp h) c), show max A.length B.length = A.length by omega, Nat.sub_self]
    exact zip_ok cu cv hL hA (pad_ok hB _)

end
section
open Builtin.Int (intBits)
-- division by the number one
theorem strip_split : ∀ p : List Int, p = List.replicate (p.length - (stripI p).length) 0 ++ stripI p
  | [] => rfl
  | z :: p => by
    have hle : (stripI p).length ≤ p.length := by
      have := congrArg List.length (strip_split p)
      rw [List.length_append, List.length_replicate] at this; omega
    rw [stripI]
    split
    · rename_i hz
      rw [List.length_cons, Nat.succ_sub hle, List.replicate_succ, List.cons_append, ← strip_split p, hz]
    · simp
theorem strip_length (p : List Int) : (stripI p).length ≤ p.length := by
  have := congrArg List.length (strip_split p)
  rw [List.length_append, List.length_replicate] at this; omega
theorem zipI_one (b : Int) : ∀ p : List Int, zipI 1 b p [] = p
  | [] => rfl
  | x :: p => by rw [zipI, zipI_one b p, Int.one_mul]
theorem exact_loop_one : ∀ (n : Nat) (P t : List Int), Hn P.reverse → P.length ≤ n → exactLoop [1] n P (List.replicate P.length 0 ++ t) = some (trimP (P ++ t)) := by
  intro n
  induction n with
  | zero =>
    intro P t _ hl
    have : P = [] := List.eq_nil_of_length_eq_zero (by omega)
    subst this
    rfl
  | succ n ih =>
    intro P t hn hl
    cases hP : P.reverse with
    | nil =>
      have : P = [] := by simpa using hP
      subst this
      rfl
    | cons z p =>
      have hz := hn z p hP
      have ePz : P = p.reverse ++ [z] := by have := congrArg List.reverse hP; simpa using this
      have lP : P.length = p.length + 1 := by rw [ePz]; simp
      rw [exactLoop, if_pos (by rw [lP]; simp), leadP_rev hP, leadP_rev (P := [1]) (p := []) (z := 1) rfl]
      rw [if_pos ⟨Int.fmod_one z, by rw [List.length_append, List.length_replicate]; simp; omega⟩, Int.fdiv_one]
      have h1 := headI (B := [1]) (d := []) (a := 1) hP rfl (by decide) hz (by rw [lP]; simp)
      rw [scaleP_one, zipI_one] at h1
      rw [h1]
      have e1 : P.length - [(1 : Int)].length = p.length := by rw [lP]; rfl
      have e2 : (List.replicate P.length (0 : Int) ++ t).set (P.length - [(1 : Int)].length) z = List.replicate (stripI p).reverse.length 0 ++ (List.replicate (p.length - (stripI p).length) 0 ++ z :: t) := by
        rw [e1, lP, List.replicate_succ', List.append_assoc, List.set_append_right _ _ (by simp), List.length_replicate, Nat.sub_self, List.length_reverse, ← List.append_assoc]
        have hs := strip_length p
        rw [List.replicate_append_replicate, show (stripI p).length + (p.length - (stripI p).length) = p.length by omega]
        rfl
      rw [e2, ih (stripI p).reverse _ (by rw [List.reverse_reverse]; exact stripI_Hn p) (by rw [List.length_reverse]; have := strip_length p; omega)]
      congr 2
      rw [ePz, ← List.append_assoc]
      have h3 := congrArg List.reverse (strip_split p)
      rw [List.reverse_append, List.reverse_replicate] at h3
      rw [← h3]
      simp
theorem trimP_of_Hn {P : List Int} (h : Hn P.reverse) : trimP P = P := by rw [trimP_strip, stripI_of h, List.reverse_reverse]
theorem exact_one {P : List Int} (h : Hn P.reverse) : exactP P [1] = some P := by
  unfold exactP
  have := exact_loop_one P.length P [] h (Nat.le_refl _)
  rw [List.append_nil, List.append_nil, trimP_of_Hn h] at this
  exact this
-- division does not see a common factor
theorem trim_sc {k : Int} (hk : k ≠ 0) : ∀ p : List Int, trimP (sc k p) = sc k (trimP p)
  | [] => rfl
  | x :: r => by
    show trimP (k * x :: sc k r) = _
    rw [trimP, trimP, trim_sc hk r]
    cases trimP r with
    | nil =>
      show (if k * x = 0 then [] else [k * x]) = _
      by_cases c : x = 0
      · rw [if_pos c, if_pos (by rw [c, Int.mul_zero])]; rfl
      · rw [if_neg c, if_neg (Int.mul_ne_zero hk c)]; rfl
    | cons y t => rfl
theorem zipWith_sc (k : Int) : ∀ p q : List Int, List.zipWith (fun x y => x + y) (sc k p) (sc k q) = sc k (List.zipWith (fun x y => x + y) p q)
  | [], _ => rfl
  | _ :: _, [] => rfl
  | x :: p, y :: q => by
    show (k * x + k * y) :: List.zipWith (fun x y => x + y) (sc k p) (sc k q) = _
    rw [zipWith_sc k p q, ← Int.mul_add]; rfl
theorem add_sc {k : Int} (hk : k ≠ 0) (p q : List Int) : addP (sc k p) (sc k q) = sc k (addP p q) := by
  rw [addP_zip, addP_zip, sc_length, sc_length, padL_sc, padL_sc, zipWith_sc, trim_sc hk]
theorem sub_sc {k : Int} (hk : k ≠ 0) (p q : List Int) : subP (sc k p) (sc k q) = sc k (subP p q) := by
  unfold subP
  rw [← add_sc hk]
  congr 1
  unfold sc
  rw [List.map_map, List.map_map]
  exact List.map_congr_left fun x _ => (Int.mul_neg k x).symm
theorem scale_sc {d e t : Int} (he : e ≠ 0) (b : List Int) : scaleP (sc d b) (e * t) = sc (d * e) (scaleP b t) := by
  unfold scaleP
  by_cases c : t = 0
  · rw [c, Int.mul_zero, if_neg (by simp), if_neg (by simp)]; rfl
  · rw [if_pos (Int.mul_ne_zero he c), if_pos c]
    unfold sc
    rw [List.map_map, List.map_map]
    exact List.map_congr_left fun x _ => by
      show d * x * (e * t) = d * e * (x * t)
      rw [Int.mul_assoc, Int.mul_assoc, Int.mul_left_comm x e t]
theorem raise_sc (k : Int) (p : List Int) (n : Int) : raiseP (sc k p) n = sc k (raiseP p n) := by
  unfold raiseP
  rw [sc_length]
  split
  · unfold sc; simp
  · rfl
theorem lead_sc (k : Int) (p : List Int) : leadP (sc k p) = k * leadP p := by
  cases h : p.reverse with
  | nil =>
    have : p = [] := by simpa using h
    subst this; show (0 : Int) = k * 0; rw [Int.mul_zero]
  | cons z r =>
    have h2 : (sc k p).reverse = k * z :: sc k r := by unfold sc; rw [← List.map_reverse, h]; rfl
    rw [leadP_rev h, leadP_rev h2]
theorem sc_set (k : Int) (f : List Int) (i : Nat) (x : Int) : (sc k f).set i (k * x) = sc k (f.set i x) := by
  unfold sc; rw [List.map_set]
theorem exact_loop_sc {d e : Int} (hd : d ≠ 0) (he : e ≠ 0) {b : List Int} (hb : leadP b ≠ 0) : ∀ (n : Nat) {r f q : List Int}, exactLoop b n r f = some q → exactLoop (sc d b) n (sc (d * e) r) (sc e f) = some (sc e q)
  | 0, r, f, q, h => by
    rw [exactLoop] at h ⊢
    rw [sc_length, sc_length]
    split at h
    · cases h
    · rename_i c
      rw [if_neg c]
      split at h
      · rename_i c2; subst c2
        rw [← Option.some.inj h, trim_sc he]; rfl
      · cases h
  | n + 1, r, f, q, h => by
    rw [exactLoop] at h ⊢
    rw [sc_length, sc_length]
    split at h
    · rename_i c
      rw [if_pos c]
      split at h
      · rename_i c2
        obtain ⟨m1, m2⟩ := c2
        obtain ⟨t, ht⟩ := Int.dvd_of_fmod_eq_zero m1
        have f1 : (leadP r).fdiv (leadP b) = t := by rw [ht]; exact Int.mul_fdiv_cancel_left _ hb
        have e1 : d * e * leadP r = d * leadP b * (e * t) := by rw [ht, Int.mul_assoc, Int.mul_assoc, Int.mul_left_comm e]
        have hdb : d * leadP b ≠ 0 := Int.mul_ne_zero hd hb
        have f2 : (d * e * leadP r).fdiv (d * leadP b) = e * t := by rw [e1]; exact Int.mul_fdiv_cancel_left _ hdb
        have f3 : (d * e * leadP r).fmod (d * leadP b) = 0 := by rw [e1]; exact Int.mul_fmod_right _ _
        rw [lead_sc, lead_sc, sc_length, f2, if_pos ⟨f3, m2⟩, scale_sc he, raise_sc, sub_sc (Int.mul_ne_zero hd he), sc_set]
        rw [f1] at h
        exact exact_loop_sc hd he hb n h
      · cases h
    · rename_i c
      rw [if_neg c]
      split at h
      · rename_i c2; subst c2
        rw [← Option.some.inj h, trim_sc he]; rfl
      · cases h
theorem sc_replicate (k : Int) (n : Nat) : sc k (List.replicate n 0) = List.replicate n 0 := by unfold sc; simp
theorem exact_sc {d e : Int} (hd : d ≠ 0) (he : e ≠ 0) {m g q : List Int} (hb : leadP g ≠ 0) (h : exactP m g = some q) : exactP (sc (d * e) m) (sc d g) = some (sc e q) := by
  unfold exactP at h ⊢
  rw [sc_length, sc_length]
  have := exact_loop_sc hd he hb _ h
  rw [sc_replicate] at this
  exact this
-- the square-free part
noncomputable def squareQ (p : List Int) : Option (List Int) := match zgcdP p (deriveQ p) with
  | none => none
  | some g => if okDiv g = true then exactP p g else none
theorem squareP_Q {P : List Int} (h : okPrim P = true) (h0 : P ≠ []) : squareP P = squareQ (primP P) := by
  unfold squareP squareQ
  rw [if_pos ⟨h, h0⟩]
  try (cases zgcdP (primP P) (deriveQ (primP P)) <;> rfl)
noncomputable def sqLen (p : List Int) : Nat := match squareQ p with
  | some x => if smallP x = true then x.length else 0
  | none => 0
theorem sqLen_ok {p : List Int} {n : Nat} (h : sqLen p = n) (hn : n ≠ 0) : ∃ x, squareQ p = some x ∧ smallP x = true ∧ x.length = n := by
  unfold sqLen at h
  split at h
  · rename_i x e
    split at h
    · rename_i c; exact ⟨x, e, c, h⟩
    · exact absurd h.symm hn
  · exact absurd h.symm hn
theorem okPrim_of {P : List Int} (h1 : contentP P ≠ 0) (h2 : smallI (contentP P) = true) (h3 : (primP P).all smallI = true) (h4 : P.length < 20) : okPrim P = true := by
  unfold okPrim
  rw [h2, h3, Nat.blt_eq.mpr h4]
  simp [h1]
theorem primP_one {P : List Int} (h1 : contentP P = 1) {z : Int} {p : List Int} (hP : P.reverse = z :: p) (hz : 0 < z) : primP P = P := by
  have h0 : P ≠ [] := fun e => by subst e; cases hP
  have hlead : P.getLastD 0 = z := leadP_rev hP
  unfold primP
  rw [if_neg h0, hlead, if_pos hz, h1]
  conv => rhs; rw [← List.map_id P]
  exact List.map_congr_left fun z _ => Int.fdiv_one z
/-- square-free: the divisor that the part shares with its derivative is a number -/
theorem square_free {p Q : List Int} (h1 : contentP p = 1) (hp : primP p = p) (hok : okPrim p = true) (h0 : p ≠ []) (hn : Hn p.reverse) (hd0 : deriveQ p ≠ []) (hdo : okPrim (deriveQ p) = true) (hs : subresP p (primP (deriveQ p)) = some Q) (hQ : Q.length = 1) : squareQ p = some p := by
  have hg : Int.gcd (contentP p) (contentP (deriveQ p)) = 1 := by rw [h1]; simp
  unfold squareQ zgcdP
  rw [if_pos ⟨hok, h0⟩, if_neg hd0, hg, if_pos ⟨hdo, by decide⟩, hp, hs]
  simp only [hQ]
  rw [if_neg (by decide)]
  show (if okDiv [1] = true then exactP p [1] else none) = some p
  rw [if_pos (by decide +kernel), exact_one hn]
theorem square_num : squareQ [1] = some [1] := by decide +kernel

end
section
open Builtin.Int (intBits)
-- a list of ints as a row
noncomputable def qenc (z : Int) : Nat := @Int.rec (fun _ => Nat) (fun n => n) (fun n => Nat.sub qM (Nat.succ n)) z
noncomputable def qencL (p : List Int) : List Nat := @List.rec Int (fun _ => List Nat → List Nat) (fun r => r) (fun x _ ih r => ih (List.cons (qenc x) r)) p []
theorem enc_cg {z : Int} (h : z.natAbs ≤ qS) : Cg (qenc z) z := by
  have h2 := qM2
  have h3 := qSH
  cases z with
  | ofNat n => exact Eq.refl _
  | negSucc n =>
    show ((qM - (n + 1) : Nat) : Int) % (qM : Int) = _
    have hn : n + 1 ≤ qS := h
    rw [show ((qM - (n + 1) : Nat) : Int) = Int.negSucc n + qM by omega, Int.add_emod_right]
noncomputable def qencA (p : List Int) (r : List Nat) : List Nat := @List.rec Int (fun _ => List Nat → List Nat) (fun r => r) (fun x _ ih r => ih (List.cons (qenc x) r)) p r
theorem encA_ok {p : List Int} : ∀ {r : List Nat} {q : List Int}, (∀ z ∈ p, z.natAbs ≤ qS) → Rw qS r q → Rw qS (qencA p r) (p.reverse ++ q) := by
  induction p with
  | nil => intro r q _ k; exact k
  | cons x p ih =>
    intro r q h k
    rw [List.reverse_cons, List.append_assoc]
    exact ih (fun z hz => h z (List.Mem.tail _ hz)) (.cons (enc_cg (h x (List.Mem.head _))) (h x (List.Mem.head _)) k)
theorem encL_ok {p : List Int} (h : ∀ z ∈ p, z.natAbs ≤ qS) : Rw qS (qencL p) p.reverse := by
  have := encA_ok h (Rw.nil (K := qS))
  rw [List.append_nil] at this
  exact this
-- a row as a list of ints
noncomputable def qdecI (x : Nat) : Int := (fun x => qif (Nat.blt x qH) (Int.ofNat x) (Int.negSucc (Nat.pred (Nat.sub qM x)))) (Nat.mod x qM)
noncomputable def qdecL (r : List Nat) : List Int := @List.rec Nat (fun _ => List Int → List Int) (fun p => p) (fun x _ ih p => ih (List.cons (qdecI x) p)) r []
noncomputable def qdecA (r : List Nat) (p : List Int) : List Int := @List.rec Nat (fun _ => List Int → List Int) (fun p => p) (fun x _ ih p => ih (List.cons (qdecI x) p)) r p
theorem decI_ok {x : Nat} {z : Int} (h : Cg x z) (hz : z.natAbs < qH) : qdecI x = z := by
  have e := h.dec hz
  have := qM2
  show qif (Nat.blt (Nat.mod x qM) qH) (Int.ofNat (Nat.mod x qM)) (Int.negSucc (Nat.pred (Nat.sub qM (Nat.mod x qM)))) = _
  generalize Nat.mod x qM = y at e ⊢
  by_cases c : 0 ≤ z
  · rw [if_pos c] at e
    rw [qif_pos (Nat.blt_eq.mpr (by omega))]; exact e
  · rw [if_neg c] at e
    rw [qif_neg (by cases h : Nat.blt y qH with | false => rfl | true => exact absurd (Nat.blt_eq.mp h) (by omega))]
    show Int.negSucc (qM - y - 1) = z
    omega
theorem decA_ok {r : List Nat} {p : List Int} (h : Rw qS r p) : ∀ q, qdecA r q = p.reverse ++ q := by
  induction h with
  | nil => intro q; rfl
  | @cons x z r p hx hb k ih =>
    intro q
    show qdecA r (qdecI x :: q) = _
    rw [decI_ok hx (Nat.lt_of_le_of_lt hb (by have := qSH; omega)), ih, List.reverse_cons, List.append_assoc]; rfl
theorem decL_ok {r : List Nat} {p : List Int} (h : Rw qS r p.reverse) : qdecL r = p := by
  have := decA_ok h []
  rw [List.reverse_reverse, List.append_nil] at this
  exact this
/-- how long the square-free part is; nothing where it is not in order -/
noncomputable def qsq (p : List Nat) : Nat := qif (Nat.beq (qlen p) 1) 1
  ((fun d => (fun c => qif (Nat.blt 0 c) (qif (Nat.blt c qS) ((fun q => qif (qsmall q) (qif (qcop p q) (qlen p) (sqLen (qdecL p))) 0) (qprm c d)) 0) 0) (qcont d)) (qder p))
noncomputable def qmax (x y : Nat) : Nat := qif (Nat.ble x y) y x
theorem qmax_eq (x y : Nat) : qmax x y = max x y := by
  unfold qmax
  by_cases c : x ≤ y
  · rw [qif_pos (Nat.ble_eq.mpr c)]; omega
  · rw [qif_neg (ble_false c)]; omega
noncomputable def qdeg (m n : Nat) : Bool := qif (Nat.beq m 1) true (Nat.ble (Nat.add m 3) n)
/-- the three, looked at -/
noncomputable def qtri (a b : List Nat) (na nb u v : Nat) : Bool :=
  (fun t => qif (Nat.beq (qlen t) 0) (qif (Nat.beq (qlen a) 1) (Nat.beq (qlen b) 1) false)
    ((fun c => qif (Nat.blt 0 c) (qif (Nat.blt c qS) ((fun p => qif (qsmall p) (qif (Nat.beq (qcont p) 1) (qif (Nat.blt (Nat.mod (qhd p) qM) qH) (qif (qcop a p) (qif (qcop p b)
      ((fun n => qif (Nat.blt 0 n) (qdeg (qmax (qmax (qlen a) (qlen b)) (qlen t)) (Nat.add (Nat.add na nb) n)) false) (qsq p)) false) false) false) false) false) (qprm c t)) false) false) (qcont t))) (qcomb u v a b)
/-- a polynomial of the table: it is its own primitive part, whatever small number it is taken with -/
structure MonOk (m : List Int) (n : Nat) : Prop where
  bound : ∀ z ∈ m, z.natAbs ≤ qS
  hn : Hn m.reverse
  len : m.length ≤ 5
  ne : m ≠ []
  cont : ∀ k : Int, k.natAbs ≤ 3 → k ≠ 0 → contentP (sc k m) = (k.natAbs : Int) ∧ primP (sc k m) = m ∧ okPrim (sc k m) = true ∧ smallP (sc k m) = true
  sq : ∃ x, squareQ m = some x ∧ smallP x = true ∧ x.length = n
theorem qsq_ok {r : List Nat} {p : List Int} {n : Nat} (h : Rw qS r p.reverse) (hn : Hn p.reverse) (h0 : p ≠ []) (hc : contentP p = 1) (hp : primP p = p) (hok : okPrim p = true) (hl : p.length ≤ 5) (hpos : 0 < p.getLastD 0) (e : qsq r = n) (n0 : n ≠ 0) : ∃ x, squareQ p = some x ∧ smallP x = true ∧ x.length = n := by
  have hlen : qlen r = p.length := by rw [h.len, List.length_reverse]
  unfold qsq at e
  rw [hlen] at e
  by_cases c1 : p.length = 1
  · rw [qif_pos (Nat.beq_eq.mpr c1)] at e
    have : p = [1] := by
      cases p with
      | nil => exact absurd rfl h0
      | cons z q =>
        have : q = [] := List.eq_nil_of_length_eq_zero (by simpa using c1)
        subst this
        have hz : 0 < z := hpos
        have hc : ((Int.gcd 0 z : Nat) : Int) = 1 := hc
        rw [Int.gcd_zero_left] at hc
        rw [show z = 1 by omega]
    subst this
    exact ⟨[1], square_num, by decide +kernel, e⟩
  · rw [qif_neg (by cases q : Nat.beq p.length 1 with | false => rfl | true => exact absurd (Nat.eq_of_beq_eq_true q) c1)] at e
    have ed := deriveQ_I p.reverse
    rw [List.reverse_reverse] at ed
    have hd : Rw (qS * 5) (qder r) (deriveQ p).reverse := by
      rw [ed, List.reverse_reverse]; exact der_ok h (by rw [List.length_reverse]; exact hl)
    have nd : Hn (deriveQ p).reverse := by rw [ed, List.reverse_reverse]; exact derI_Hn hn
    have ld : (deriveQ p).length = p.length - 1 := by rw [ed, List.length_reverse, derI_length, List.length_reverse]
    have h0' : 0 < p.length := List.length_pos_iff.mpr h0
    have d0 : deriveQ p ≠ [] := fun h => by rw [h] at ld; simp at ld; omega
    have hK : qS * 5 + qS < qH := by have : 6 * qS < qH := by decide +kernel
                                     omega
    have go : ∀ {b : Bool} {x : Nat}, qif b x 0 = n → b = true ∧ x = n := fun {b x} h => by
      cases b with
      | true => exact ⟨rfl, h⟩
      | false => exact absurd h.symm n0
    obtain ⟨e1, e⟩ := go e
    obtain ⟨e2, e⟩ := go e
    obtain ⟨e3, e⟩ := go e
    have e1 := Nat.blt_eq.mp e1
    have e2 := Nat.blt_eq.mp e2
    have cd := cont_ok (Nat.lt_of_le_of_lt (Nat.le_add_right _ _) hK) hd
    rw [List.reverse_reverse] at cd
    obtain ⟨k1, k2⟩ := prm_ok hK hd nd d0 (by omega) (Nat.lt_trans e2 (by have := qSH; omega)) e3
    have hdo : okPrim (deriveQ p) = true := by
      refine okPrim_of (by rw [cd]; omega) (smallI_of (by rw [cd]; show qcont (qder r) ≤ qS; omega)) ?_ (by omega)
      have := k1.small
      rw [List.all_reverse] at this; exact this
    by_cases c2 : qcop r (qprm (qcont (qder r)) (qder r)) = true
    · rw [c2, qif_pos rfl] at e
      obtain ⟨Q, q1, q2⟩ := cop_ok h k1 hn k2 (by omega) (by rw [primP_length]; omega) c2
      refine ⟨p, square_free hc hp hok h0 hn d0 hdo q1 q2, ?_, e⟩
      unfold smallP
      have := h.small
      rw [List.all_reverse] at this
      rw [this, Nat.blt_eq.mpr (by omega)]; rfl
    · rw [qif_neg (by cases q : qcop r (qprm (qcont (qder r)) (qder r)) with | false => rfl | true => exact absurd q c2), decL_ok h] at e
      exact sqLen_ok e n0
theorem cop_true {a b Q : List Int} (ha : okPrim a = true) (a0 : a ≠ []) (b0 : b ≠ []) (hb : okPrim b = true) (hg : smallI (Int.gcd (contentP a) (contentP b)) = true) (hs : subresP (primP a) (primP b) = some Q) (hQ : Q.length = 1) : copP a b = true := by
  unfold copP zgcdP
  rw [if_pos ⟨ha, a0⟩, if_neg b0, if_pos ⟨hb, hg⟩, hs]
  simp only [hQ]
  rw [if_neg (by decide)]
theorem gcd_small {x y : Int} {k : Nat} (hx : x = (k : Int)) (h0 : k ≠ 0) (h : k ≤ 3) : smallI (Int.gcd x y) = true := by
  refine smallI_of ?_
  have : Int.gcd x y ∣ k := by rw [hx]; exact Nat.gcd_dvd_left _ _
  have := Nat.le_of_dvd (by omega) this
  show Int.gcd x y ≤ qS
  have : 3 ≤ qS := by decide +kernel
  omega
theorem gcd_small' {x y : Int} {k : Nat} (hy : y = (k : Int)) (h0 : k ≠ 0) (h : k ≤ 3) : smallI (Int.gcd x y) = true := by
  rw [Int.gcd_comm]; exact gcd_small hy h0 h
theorem sc_ne {k : Int} {m : List Int} (h : m ≠ []) : sc k m ≠ [] := fun e => h (List.eq_nil_of_length_eq_zero (by rw [← sc_length k m, e]; rfl))
/-- the three, looked at on rows, are in order -/
theorem tri_ok {A B Q : List Int} {na nb : Nat} {u v : Int} {u' v' : Nat} (hA : MonOk A na) (hB : MonOk B nb) (cu : Cg u' u) (cv : Cg v' v) (hu : u.natAbs ≤ 3) (hv : v.natAbs ≤ 3) (u0 : u ≠ 0) (v0 : v ≠ 0) (hs : subresP A B = some Q) (hQ : Q.length = 1)
    (e : qtri (qencL A) (qencL B) na nb u' v' = true) : smallP (addP (sc u A) (sc v B)) = true ∧ ((addP (sc u A) (sc v B) = [] ∧ A.length = 1 ∧ B.length = 1) ∨ (addP (sc u A) (sc v B) ≠ [] ∧ tripleOk (sc u A) (sc v B) (addP (sc u A) (sc v B)) = true)) := by
  have rA := encL_ok hA.bound
  have rB := encL_ok hB.bound
  have lA := hA.len
  have lB := hB.len
  have hL : u.natAbs * qS + v.natAbs * qS ≤ 6 * qS := by rw [← Nat.add_mul]; exact Nat.mul_le_mul_right _ (by omega)
  have h6 : 7 * qS < qH := by decide +kernel
  obtain ⟨ht, nt⟩ := comb_ok cu cv hL (by omega) rA rB
  have lt : (addP (sc u A) (sc v B)).length ≤ 5 := by
    have := addP_length (sc u A) (sc v B)
    rw [sc_length, sc_length] at this; omega
  generalize hT : addP (sc u A) (sc v B) = T at ht nt lt ⊢
  have lenA : qlen (qencL A) = A.length := by rw [rA.len, List.length_reverse]
  have lenB : qlen (qencL B) = B.length := by rw [rB.len, List.length_reverse]
  have lenT : qlen (qcomb u' v' (qencL A) (qencL B)) = T.length := by rw [ht.len, List.length_reverse]
  obtain ⟨A1, A2, A3, A4⟩ := hA.cont u hu u0
  obtain ⟨B1, B2, B3, B4⟩ := hB.cont v hv v0
  have smT : smallP T = true := by
    unfold smallP
    have : ∀ {r : List Nat} {p : List Int}, Rw (6 * qS) r p → p.all smallI = true := fun h => by
      induction h with
      | nil => rfl
      | @cons x z r p _ b _ ih =>
        rw [List.all_cons, ih]
        have : smallI z = true := by
          unfold smallI
          rw [Nat.blt_eq]
          exact Nat.lt_of_le_of_lt b (by decide +kernel)
        rw [this]; rfl
    have := this ht
    rw [List.all_reverse] at this
    rw [this, Nat.blt_eq.mpr (by omega)]; rfl
  refine ⟨smT, ?_⟩
  unfold qtri at e
  generalize hR : qcomb u' v' (qencL A) (qencL B) = R at e ht lenT
  dsimp only at e
  rw [lenA, lenB, lenT] at e
  by_cases c0 : T = []
  · left
    rw [c0] at e
    obtain ⟨e1, e2⟩ := qif_and (e : qif (Nat.beq A.length 1) (Nat.beq B.length 1) false = true)
    exact ⟨c0, Nat.eq_of_beq_eq_true e1, Nat.eq_of_beq_eq_true e2⟩
  · right
    refine ⟨c0, ?_⟩
    have tpos : 0 < T.length := List.length_pos_iff.mpr c0
    rw [qif_neg (by cases q : Nat.beq T.length 0 with | false => rfl | true => exact absurd (Nat.eq_of_beq_eq_true q) (by omega))] at e
    obtain ⟨e1, e⟩ := qif_and e
    obtain ⟨e2, e⟩ := qif_and e
    obtain ⟨e3, e⟩ := qif_and e
    obtain ⟨e4, e⟩ := qif_and e
    obtain ⟨e5, e⟩ := qif_and e
    obtain ⟨e6, e⟩ := qif_and e
    obtain ⟨e7, e⟩ := qif_and e
    obtain ⟨e8, e⟩ := qif_and e
    have e1 := Nat.blt_eq.mp e1
    have e2 := Nat.blt_eq.mp e2
    have e4 := Nat.eq_of_beq_eq_true e4
    have e8 := Nat.blt_eq.mp e8
    have hK : 6 * qS + qS < qH := by omega
    have ct := cont_ok (K := 6 * qS) (by omega) ht
    rw [List.reverse_reverse] at ct
    obtain ⟨p1, p2⟩ := prm_ok hK ht nt c0 (by omega) (Nat.lt_trans e2 (by omega)) e3
    have lp : (primP T).length = T.length := primP_length T
    have p0 : primP T ≠ [] := fun h => by rw [h] at lp; simp at lp; omega
    have smp : (primP T).all smallI = true := by
      have := p1.small
      rw [List.all_reverse] at this; exact this
    have okT : okPrim T = true := okPrim_of (by rw [ct]; omega) (smallI_of (by rw [ct]; show qcont R ≤ qS; omega)) smp (by omega)
    -- the part is its own part
    have cp := cont_ok (K := qS) (by omega) p1
    rw [List.reverse_reverse, e4] at cp
    have cp : contentP (primP T) = 1 := cp
    cases hP : (primP T).reverse with
    | nil => exact absurd (by simpa using congrArg List.reverse hP) p0
    | cons z r =>
      have hz := p2 z r hP
      have hzp : 0 < z := by
        have q := p1
        rw [hP] at q
        have d := q.hd.1.dec (Nat.lt_of_le_of_lt q.hd.2 (by omega))
        have d : ((Nat.mod (qhd (qprm (qcont R) R)) qM : Nat) : Int) = if 0 ≤ z then z else z + qM := d
        have e5 := Nat.blt_eq.mp e5
        have := qM2
        have zb : z.natAbs ≤ qS := q.hd.2
        generalize Nat.mod (qhd (qprm (qcont R) R)) qM = y at d e5
        split at d <;> omega
      have pp := primP_one cp hP hzp
      have okp : okPrim (primP T) = true := okPrim_of (by rw [cp]; decide) (by rw [cp]; decide +kernel) (by rw [pp]; exact smp) (by omega)
      have hlast : (primP T).getLastD 0 = z := leadP_rev hP
      obtain ⟨x3, s1, s2, s3⟩ := qsq_ok p1 p2 p0 cp pp okp (by omega) (by rw [hlast]; exact hzp) rfl (by omega)
      obtain ⟨x1, a1, a2, a3⟩ := hA.sq
      obtain ⟨x2, b1, b2, b3⟩ := hB.sq
      obtain ⟨Q2, q3, q4⟩ := cop_ok rA p1 hA.hn p2 (by omega) (by omega) e6
      obtain ⟨Q3, q5, q6⟩ := cop_ok p1 rB p2 hB.hn (by omega) (by omega) e7
      have f1 : copP (sc u A) (sc v B) = true := cop_true A3 (sc_ne hA.ne) (sc_ne hB.ne) B3 (gcd_small A1 (by omega) hu) (by rw [A2, B2]; exact hs) hQ
      have f2 : copP (sc u A) T = true := cop_true A3 (sc_ne hA.ne) c0 okT (gcd_small A1 (by omega) hu) (by rw [A2]; exact q3) q4
      have f3 : copP T (sc v B) = true := cop_true okT c0 (sc_ne hB.ne) B3 (gcd_small' B1 (by omega) hv) (by rw [B2]; exact q5) q6
      have g1 : squareP (sc u A) = some x1 := by rw [squareP_Q A3 (sc_ne hA.ne), A2]; exact a1
      have g2 : squareP (sc v B) = some x2 := by rw [squareP_Q B3 (sc_ne hB.ne), B2]; exact b1
      have g3 : squareP T = some x3 := by rw [squareP_Q okT c0]; exact s1
      unfold tripleOk
      rw [f1, f2, f3, g1, g2, g3]
      simp only [a2, b2, s2, Bool.true_and, Bool.or_eq_true, beq_iff_eq]
      unfold degI
      rw [sc_length, sc_length, a3, b3, s3, decide_eq_true_eq]
      rw [qmax_eq, qmax_eq] at e
      unfold qdeg at e
      by_cases c9 : max (max A.length B.length) T.length = 1
      · left; omega
      · rw [qif_neg (by cases q : Nat.beq (max (max A.length B.length) T.length) 1 with | false => rfl | true => exact absurd (Nat.eq_of_beq_eq_true q) c9)] at e
        have e : max (max A.length B.length) T.length + 3 ≤ na + nb + qsq (qprm (qcont R) R) := Nat.ble_eq.mp e
        right; omega

end
section
open Builtin.Int (intBits)
/-- a monic polynomial of the table, how long its square-free part is, its divisors and what is left -/
structure Ent where
  m : List Int
  n : Nat
  d : List (List Int × List Int)
noncomputable def uvs : List (Int × Int) := [(1, 1), (1, 2), (1, 3), (2, 1), (2, 3), (3, 1), (3, 2), (1, -1), (1, -2), (1, -3), (2, -1), (2, -3), (3, -1), (3, -2)]
/-- two of the table: without a common divisor the three are looked at, else the divisor is taken out -/
noncomputable def qpair (e f : Ent) : Bool :=
  (fun a b => (fun l => qif (Nat.beq (qlen l) 1) (uvs.all fun x => qtri a b e.n f.n (qenc x.1) (qenc x.2))
    ((fun c => qif (Nat.blt 0 c) (qif (Nat.blt c qS) (qif (Nat.blt (qlen l) 20) ((fun g => qif (qsmall g)
      ((fun p => e.d.any fun x => decide (x.1 = p) && f.d.any fun y => decide (y.1 = p) && qcop (qencL x.2) (qencL y.2)) (qdecL g)) false) (qprm c l)) false) false) false) (qcont l))) (qchn a b)) (qencL e.m) (qencL f.m)
/-- one of the table is in order by itself -/
noncomputable def entOk (e : Ent) : Bool := (e.m.all fun z => Nat.ble z.natAbs 1000) && (leadP e.m != 0) && Nat.ble e.m.length 5 && ([1, 2, 3, -1, -2, -3].all fun k : Int => (contentP (sc k e.m) == (k.natAbs : Int)) && (primP (sc k e.m) == e.m) && okPrim (sc k e.m) && smallP (sc k e.m)) && (sqLen e.m == e.n) && (e.n != 0)
theorem small_cases {k : Int} (h : k.natAbs ≤ 3) (h0 : k ≠ 0) : k ∈ [1, 2, 3, -1, -2, -3] := by
  have : k = 1 ∨ k = 2 ∨ k = 3 ∨ k = -1 ∨ k = -2 ∨ k = -3 := by omega
  rcases this with rfl | rfl | rfl | rfl | rfl | rfl <;> simp
theorem entOk_ok {e : Ent} (h : entOk e = true) : MonOk e.m e.n := by
  unfold entOk at h
  simp only [Bool.and_eq_true, bne_iff_ne, beq_iff_eq] at h
  obtain ⟨⟨⟨⟨⟨h1, h2⟩, h3⟩, h4⟩, h5⟩, h6⟩ := h
  refine ⟨fun z hz => ?_, fun z r hr => ?_, Nat.ble_eq.mp h3, fun h => ?_, fun k hk k0 => ?_, sqLen_ok h5 h6⟩
  · exact Nat.le_trans (Nat.ble_eq.mp (List.all_eq_true.mp h1 z hz)) (by decide +kernel)
  · rw [leadP_rev hr] at h2; exact h2
  · rw [h] at h2; exact h2 rfl
  · have := List.all_eq_true.mp h4 k (small_cases hk k0)
    simp only [Bool.and_eq_true, beq_iff_eq] at this
    exact ⟨this.1.1.1, this.1.1.2, this.1.2, this.2⟩
/-- the divisors of one of the table are in order -/
noncomputable def divOk (T : List (List Int)) (e : Ent) : Bool := e.d.all fun x => (exactP e.m x.1 == some x.2) && (leadP x.1 != 0) && okDiv (sc 1 x.1) && okDiv (sc 2 x.1) && okDiv (sc 3 x.1) && T.any fun t => t == x.2
theorem divOk_ok {T : List (List Int)} {e : Ent} (h : divOk T e = true) {g a : List Int} (hx : (g, a) ∈ e.d) : exactP e.m g = some a ∧ leadP g ≠ 0 ∧ (∀ d : Int, d = 1 ∨ d = 2 ∨ d = 3 → okDiv (sc d g) = true) ∧ a ∈ T := by
  have := List.all_eq_true.mp h _ hx
  simp only [Bool.and_eq_true, bne_iff_ne, beq_iff_eq, List.any_eq_true] at this
  obtain ⟨⟨⟨⟨⟨h1, h2⟩, h3⟩, h4⟩, h5⟩, t, h6, h7⟩ := this
  refine ⟨h1, h2, fun d hd => ?_, h7 ▸ h6⟩
  rcases hd with rfl | rfl | rfl
  · exact h3
  · exact h4
  · exact h5
theorem pair_ok {e f : Ent} (he : MonOk e.m e.n) (hf : MonOk f.m f.n) (h : qpair e f = true) :
    ((∃ Q, subresP e.m f.m = some Q ∧ Q.length = 1) ∧ ∀ x ∈ uvs, qtri (qencL e.m) (qencL f.m) e.n f.n (qenc x.1) (qenc x.2) = true) ∨
    ∃ Q g a b, subresP e.m f.m = some Q ∧ Q.length > 1 ∧ okPrim Q = true ∧ primP Q = g ∧ (g, a) ∈ e.d ∧ (g, b) ∈ f.d ∧ qcop (qencL a) (qencL b) = true := by
  have rA := encL_ok he.bound
  have rB := encL_ok hf.bound
  have lA := he.len
  have lB := hf.len
  unfold qpair at h
  dsimp only at h
  generalize hl : qchn (qencL e.m) (qencL f.m) = l at h
  by_cases c : Nat.beq (qlen l) 1 = true
  · left
    rw [qif_pos c] at h
    exact ⟨cop_ok rA rB he.hn hf.hn (by omega) (by omega) (by unfold qcop; rw [hl]; exact c), List.all_eq_true.mp h⟩
  · right
    rw [qif_neg (by cases q : Nat.beq (qlen l) 1 with | false => rfl | true => exact absurd q c)] at h
    obtain ⟨h1, h⟩ := qif_and h
    obtain ⟨h2, h⟩ := qif_and h
    obtain ⟨h3, h⟩ := qif_and h
    obtain ⟨h4, h⟩ := qif_and h
    have h1 := Nat.blt_eq.mp h1
    have h2 := Nat.blt_eq.mp h2
    have h3 := Nat.blt_eq.mp h3
    have l0 : l ≠ [] := fun e => by rw [e] at h1; exact Nat.lt_irrefl 0 h1
    obtain ⟨Q, q1, q2, q3⟩ := chn_ok rA rB he.hn hf.hn (by omega) (by omega) hl l0
    have hlen : qlen l = Q.length := by rw [q2.len, List.length_reverse]
    have Q0 : Q ≠ [] := fun e => by
      subst e
      cases q2
      exact l0 rfl
    have hK : qS + qS < qH := by decide +kernel
    have cQ := cont_ok (K := qS) (by omega) q2
    rw [List.reverse_reverse] at cQ
    obtain ⟨p1, p2⟩ := prm_ok hK q2 q3 Q0 (by omega) (Nat.lt_trans h2 (by omega)) h4
    have ok : okPrim Q = true := by
      refine okPrim_of (by rw [cQ]; omega) (smallI_of (by rw [cQ]; show qcont l ≤ qS; omega)) ?_ (by omega)
      have := p1.small
      rw [List.all_reverse] at this; exact this
    rw [decL_ok p1] at h
    obtain ⟨⟨g, a⟩, h5, h6⟩ := List.any_eq_true.mp h
    simp only [Bool.and_eq_true, decide_eq_true_eq] at h6
    obtain ⟨h6, h7⟩ := h6
    obtain ⟨⟨g', b⟩, h8, h9⟩ := List.any_eq_true.mp h7
    simp only [Bool.and_eq_true, decide_eq_true_eq] at h9
    obtain ⟨h9, h10⟩ := h9
    subst h6
    subst h9
    have : Q.length ≠ 1 := fun e => c (by rw [hlen, e]; rfl)
    have : 0 < Q.length := List.length_pos_iff.mpr Q0
    exact ⟨Q, _, a, b, q1, by omega, ok, rfl, h5, h8, h10⟩
/-- the two products, with their divisor and what is left of them -/
theorem three_of {m1 m2 g a b Q : List Int} {u v u1 v1 d : Int} {n1 n2 na nb : Nat} (h1 : MonOk m1 n1) (h2 : MonOk m2 n2) (hu : u = d * u1) (hv : v = d * v1) (hd : d = 1 ∨ d = 2 ∨ d = 3) (bu : u.natAbs ≤ 3) (bv : v.natAbs ≤ 3) (u0 : u ≠ 0) (v0 : v ≠ 0)
    (hz : zgcdP (sc u m1) (sc v m2) = some (sc d g)) (hg : okDiv (sc d g) = true) (lg : leadP g ≠ 0) (ea : exactP m1 g = some a) (eb : exactP m2 g = some b) (hA : MonOk a na) (hB : MonOk b nb) (hs : subresP a b = some Q) (hQ : Q.length = 1)
    (ht : qtri (qencL a) (qencL b) na nb (qenc u1) (qenc v1) = true) : threeOk (sc u m1) (sc v m2) = true := by
  have d0 : d ≠ 0 := by omega
  have u10 : u1 ≠ 0 := fun e => u0 (by rw [hu, e, Int.mul_zero])
  have v10 : v1 ≠ 0 := fun e => v0 (by rw [hv, e, Int.mul_zero])
  have bu1 : u1.natAbs ≤ 3 := by rcases hd with rfl | rfl | rfl <;> omega
  have bv1 : v1.natAbs ≤ 3 := by rcases hd with rfl | rfl | rfl <;> omega
  have h3 : 3 ≤ qS := by decide +kernel
  have e1 : exactP (sc u m1) (sc d g) = some (sc u1 a) := by rw [hu]; exact exact_sc d0 u10 lg ea
  have e2 : exactP (sc v m2) (sc d g) = some (sc v1 b) := by rw [hv]; exact exact_sc d0 v10 lg eb
  obtain ⟨t1, t2⟩ := tri_ok hA hB (enc_cg (by omega)) (enc_cg (by omega)) bu1 bv1 u10 v10 hs hQ ht
  obtain ⟨_, _, _, s1⟩ := h1.cont u bu u0
  obtain ⟨_, _, _, s2⟩ := h2.cont v bv v0
  obtain ⟨_, _, _, s3⟩ := hA.cont u1 bu1 u10
  obtain ⟨_, _, _, s4⟩ := hB.cont v1 bv1 v10
  unfold threeOk
  rw [hz]
  simp only [e1, e2, hg, s1, s2, s3, s4, t1, Bool.true_and]
  rcases t2 with ⟨k1, k2, k3⟩ | ⟨k1, k2⟩
  · rw [if_pos k1, sc_length, sc_length, k2, k3]; rfl
  · rw [if_neg k1]; exact k2
theorem uv_split : ∀ u ∈ ([1, 2, 3] : List Int), ∀ v ∈ ([1, 2, 3, -1, -2, -3] : List Int), ∃ d u1 v1 : Int, (d = 1 ∨ d = 2 ∨ d = 3) ∧ u = d * u1 ∧ v = d * v1 ∧ (u1, v1) ∈ uvs ∧ (Int.gcd u v : Int) = d := by
  have key : ([1, 2, 3] : List Int).all (fun u => ([1, 2, 3, -1, -2, -3] : List Int).all fun v => (((Int.gcd u v : Int) == 1 || (Int.gcd u v : Int) == 2 || (Int.gcd u v : Int) == 3) && u == (Int.gcd u v : Int) * (u / (Int.gcd u v : Int)) && v == (Int.gcd u v : Int) * (v / (Int.gcd u v : Int)) && uvs.any fun x => x == (u / (Int.gcd u v : Int), v / (Int.gcd u v : Int)))) = true := by decide +kernel
  intro u hu v hv
  have := List.all_eq_true.mp (List.all_eq_true.mp key u hu) v hv
  simp only [Bool.and_eq_true, Bool.or_eq_true, beq_iff_eq, List.any_eq_true] at this
  obtain ⟨⟨⟨h1, h2⟩, h3⟩, x, h4, h5⟩ := this
  exact ⟨_, _, _, by rcases h1 with (h | h) | h <;> omega, h2, h3, h5 ▸ h4, rfl⟩
theorem sc_one (g : List Int) (d : Int) : scaleP g d = if d ≠ 0 then sc d g else [] := by
  unfold scaleP sc
  split
  · exact List.map_congr_left fun x _ => Int.mul_comm x d
  · rfl
/-- all of it: every two of the table, every two numbers -/
theorem three_all {T : List Ent} (hT : ∀ e ∈ T, entOk e = true) (hD : ∀ e ∈ T, divOk (T.map Ent.m) e = true) (hP : ∀ e ∈ T, ∀ f ∈ T, qpair e f = true) {e f : Ent} (he : e ∈ T) (hf : f ∈ T) {u v : Int} (hu : u ∈ ([1, 2, 3] : List Int)) (hv : v ∈ ([1, 2, 3, -1, -2, -3] : List Int)) : threeOk (sc u e.m) (sc v f.m) = true := by
  have E := entOk_ok (hT e he)
  have F := entOk_ok (hT f hf)
  have bu : u.natAbs ≤ 3 ∧ u ≠ 0 := by
    simp at hu; rcases hu with rfl | rfl | rfl <;> decide
  have bv : v.natAbs ≤ 3 ∧ v ≠ 0 := by
    simp at hv; rcases hv with rfl | rfl | rfl | rfl | rfl | rfl <;> decide
  obtain ⟨d, u1, v1, hd, eu, ev, huv, hgcd⟩ := uv_split u hu v hv
  obtain ⟨A1, A2, A3, A4⟩ := E.cont u bu.1 bu.2
  obtain ⟨B1, B2, B3, B4⟩ := F.cont v bv.1 bv.2
  have hg : (Int.gcd (contentP (sc u e.m)) (contentP (sc v f.m)) : Int) = d := by
    rw [A1, B1, ← hgcd]
    rfl
  have sm : smallI d = true := smallI_of (by have : 3 ≤ qS := by decide +kernel
                                             omega)
  rcases pair_ok E F (hP e he f hf) with ⟨⟨Q, q1, q2⟩, q3⟩ | ⟨Q, g, a, b, q1, q2, q3, q4, q5, q6, q7⟩
  · have hz : zgcdP (sc u e.m) (sc v f.m) = some (sc d [1]) := by
      unfold zgcdP
      rw [if_pos ⟨A3, sc_ne E.ne⟩, if_neg (sc_ne F.ne), hg, if_pos ⟨B3, sm⟩, A2, B2, q1]
      simp only [q2]
      rw [if_neg (by decide)]
      show some [d] = some [d * 1]
      rw [Int.mul_one]
    have q4 : qtri (qencL e.m) (qencL f.m) e.n f.n (qenc u1) (qenc v1) = true := q3 (u1, v1) huv
    have hok : okDiv (sc d [1]) = true := by
      clear hz q4 q3 q1 q2 hg hgcd A1 A2 A3 A4 B1 B2 B3 B4
      rcases hd with h | h | h
      · rw [h]; decide +kernel
      · rw [h]; decide +kernel
      · rw [h]; decide +kernel
    have hl1 : leadP [1] ≠ 0 := by decide
    have x1 := exact_one E.hn
    have x2 := exact_one F.hn
    exact three_of E F eu ev hd bu.1 bv.1 bu.2 bv.2 hz hok hl1 x1 x2 E F q1 q2 q4
  · obtain ⟨d1, d2, d3, d4⟩ := divOk_ok (hD e he) q5
    obtain ⟨d5, _, _, d6⟩ := divOk_ok (hD f hf) q6
    obtain ⟨ea, ha, ha'⟩ := List.mem_map.mp d4
    obtain ⟨eb, hb, hb'⟩ := List.mem_map.mp d6
    have MA := entOk_ok (hT ea ha)
    have MB := entOk_ok (hT eb hb)
    have hz : zgcdP (sc u e.m) (sc v f.m) = some (sc d g) := by
      unfold zgcdP
      rw [if_pos ⟨A3, sc_ne E.ne⟩, if_neg (sc_ne F.ne), hg, if_pos ⟨B3, sm⟩, A2, B2, q1]
      simp only []
      rw [if_pos q2, if_pos q3, q4, sc_one, if_pos (by omega)]
    rcases pair_ok MA MB (hP ea ha eb hb) with ⟨⟨Q', r1, r2⟩, r3⟩ | ⟨Q', g', a', b', r1, r2, _⟩
    · rw [ha', hb'] at r1 r3
      rw [ha'] at MA
      rw [hb'] at MB
      have q4 : qtri (qencL a) (qencL b) ea.n eb.n (qenc u1) (qenc v1) = true := r3 (u1, v1) huv
      exact three_of E F eu ev hd bu.1 bv.1 bu.2 bv.2 hz (d3 d hd) d2 d1 d5 MA MB r1 r2 q4
    · exfalso
      rw [← ha', ← hb'] at q7
      have rA := encL_ok MA.bound
      have rB := encL_ok MB.bound
      have lA := MA.len
      have lB := MB.len
      obtain ⟨Q2, s1, s2⟩ := cop_ok rA rB MA.hn MB.hn (by omega) (by omega) q7
      rw [r1] at s1
      rw [Option.some.inj s1] at r2
      omega

end
section
noncomputable def ent0 : Ent := ⟨[.ofNat 1], 1, []⟩
noncomputable def ent1 : Ent := ⟨[.negSucc 1, .ofNat 1], 2, [([.negSucc 1, .ofNat 1], [.ofNat 1])]⟩
noncomputable def ent2 : Ent := ⟨[.negSucc 0, .ofNat 1], 2, [([.negSucc 0, .ofNat 1], [.ofNat 1])]⟩
noncomputable def ent3 : Ent := ⟨[.ofNat 0, .ofNat 1], 2, [([.ofNat 0, .ofNat 1], [.ofNat 1])]⟩
noncomputable def ent4 : Ent := ⟨[.ofNat 1, .ofNat 1], 2, [([.ofNat 1, .ofNat 1], [.ofNat 1])]⟩
noncomputable def ent5 : Ent := ⟨[.ofNat 2, .ofNat 1], 2, [([.ofNat 2, .ofNat 1], [.ofNat 1])]⟩
noncomputable def ent6 : Ent := ⟨[.ofNat 2, .negSucc 2, .ofNat 1], 3, [([.negSucc 0, .ofNat 1], [.negSucc 1, .ofNat 1]), ([.negSucc 1, .ofNat 1], [.negSucc 0, .ofNat 1]), ([.ofNat 2, .negSucc 2, .ofNat 1], [.ofNat 1])]⟩
noncomputable def ent7 : Ent := ⟨[.ofNat 0, .negSucc 1, .ofNat 1], 3, [([.ofNat 0, .ofNat 1], [.negSucc 1, .ofNat 1]), ([.negSucc 1, .ofNat 1], [.ofNat 0, .ofNat 1]), ([.ofNat 0, .negSucc 1, .ofNat 1], [.ofNat 1])]⟩
noncomputable def ent8 : Ent := ⟨[.negSucc 1, .negSucc 0, .ofNat 1], 3, [([.ofNat 1, .ofNat 1], [.negSucc 1, .ofNat 1]), ([.negSucc 1, .ofNat 1], [.ofNat 1, .ofNat 1]), ([.negSucc 1, .negSucc 0, .ofNat 1], [.ofNat 1])]⟩
noncomputable def ent9 : Ent := ⟨[.negSucc 3, .ofNat 0, .ofNat 1], 3, [([.ofNat 2, .ofNat 1], [.negSucc 1, .ofNat 1]), ([.negSucc 1, .ofNat 1], [.ofNat 2, .ofNat 1]), ([.negSucc 3, .ofNat 0, .ofNat 1], [.ofNat 1])]⟩
noncomputable def ent10 : Ent := ⟨[.ofNat 4, .negSucc 3, .ofNat 1], 2, [([.negSucc 1, .ofNat 1], [.negSucc 1, .ofNat 1]), ([.ofNat 4, .negSucc 3, .ofNat 1], [.ofNat 1])]⟩
noncomputable def ent11 : Ent := ⟨[.ofNat 0, .negSucc 0, .ofNat 1], 3, [([.ofNat 0, .ofNat 1], [.negSucc 0, .ofNat 1]), ([.negSucc 0, .ofNat 1], [.ofNat 0, .ofNat 1]), ([.ofNat 0, .negSucc 0, .ofNat 1], [.ofNat 1])]⟩
noncomputable def ent12 : Ent := ⟨[.negSucc 0, .ofNat 0, .ofNat 1], 3, [([.ofNat 1, .ofNat 1], [.negSucc 0, .ofNat 1]), ([.negSucc 0, .ofNat 1], [.ofNat 1, .ofNat 1]), ([.negSucc 0, .ofNat 0, .ofNat 1], [.ofNat 1])]⟩
noncomputable def ent13 : Ent := ⟨[.negSucc 1, .ofNat 1, .ofNat 1], 3, [([.ofNat 2, .ofNat 1], [.negSucc 0, .ofNat 1]), ([.negSucc 0, .ofNat 1], [.ofNat 2, .ofNat 1]), ([.negSucc 1, .ofNat 1, .ofNat 1], [.ofNat 1])]⟩
noncomputable def ent14 : Ent := ⟨[.ofNat 1, .negSucc 1, .ofNat 1], 2, [([.negSucc 0, .ofNat 1], [.negSucc 0, .ofNat 1]), ([.ofNat 1, .negSucc 1, .ofNat 1], [.ofNat 1])]⟩
noncomputable def ent15 : Ent := ⟨[.ofNat 0, .ofNat 1, .ofNat 1], 3, [([.ofNat 1, .ofNat 1], [.ofNat 0, .ofNat 1]), ([.ofNat 0, .ofNat 1], [.ofNat 1, .ofNat 1]), ([.ofNat 0, .ofNat 1, .ofNat 1], [.ofNat 1])]⟩
noncomputable def ent16 : Ent := ⟨[.ofNat 0, .ofNat 2, .ofNat 1], 3, [([.ofNat 2, .ofNat 1], [.ofNat 0, .ofNat 1]), ([.ofNat 0, .ofNat 1], [.ofNat 2, .ofNat 1]), ([.ofNat 0, .ofNat 2, .ofNat 1], [.ofNat 1])]⟩
noncomputable def ent17 : Ent := ⟨[.ofNat 0, .ofNat 0, .ofNat 1], 2, [([.ofNat 0, .ofNat 1], [.ofNat 0, .ofNat 1]), ([.ofNat 0, .ofNat 0, .ofNat 1], [.ofNat 1])]⟩
noncomputable def ent18 : Ent := ⟨[.ofNat 2, .ofNat 3, .ofNat 1], 3, [([.ofNat 2, .ofNat 1], [.ofNat 1, .ofNat 1]), ([.ofNat 1, .ofNat 1], [.ofNat 2, .ofNat 1]), ([.ofNat 2, .ofNat 3, .ofNat 1], [.ofNat 1])]⟩
noncomputable def ent19 : Ent := ⟨[.ofNat 1, .ofNat 2, .ofNat 1], 2, [([.ofNat 1, .ofNat 1], [.ofNat 1, .ofNat 1]), ([.ofNat 1, .ofNat 2, .ofNat 1], [.ofNat 1])]⟩
noncomputable def ent20 : Ent := ⟨[.ofNat 4, .ofNat 4, .ofNat 1], 2, [([.ofNat 2, .ofNat 1], [.ofNat 2, .ofNat 1]), ([.ofNat 4, .ofNat 4, .ofNat 1], [.ofNat 1])]⟩
noncomputable def ent21 : Ent := ⟨[.negSucc 1, .ofNat 5, .negSucc 3, .ofNat 1], 3, [([.negSucc 0, .ofNat 1], [.ofNat 2, .negSucc 2, .ofNat 1]), ([.ofNat 1, .negSucc 1, .ofNat 1], [.negSucc 1, .ofNat 1]), ([.negSucc 1, .ofNat 1], [.ofNat 1, .negSucc 1, .ofNat 1]), ([.ofNat 2, .negSucc 2, .ofNat 1], [.negSucc 0, .ofNat 1]), ([.negSucc 1, .ofNat 5, .negSucc 3, .ofNat 1], [.ofNat 1])]⟩
noncomputable def ent22 : Ent := ⟨[.ofNat 0, .ofNat 0, .negSucc 1, .ofNat 1], 3, [([.ofNat 0, .ofNat 1], [.ofNat 0, .negSucc 1, .ofNat 1]), ([.ofNat 0, .ofNat 0, .ofNat 1], [.negSucc 1, .ofNat 1]), ([.negSucc 1, .ofNat 1], [.ofNat 0, .ofNat 0, .ofNat 1]), ([.ofNat 0, .negSucc 1, .ofNat 1], [.ofNat 0, .ofNat 1]), ([.ofNat 0, .ofNat 0, .negSucc 1, .ofNat 1], [.ofNat 1])]⟩
noncomputable def ent23 : Ent := ⟨[.negSucc 1, .negSucc 2, .ofNat 0, .ofNat 1], 3, [([.ofNat 1, .ofNat 1], [.negSucc 1, .negSucc 0, .ofNat 1]), ([.ofNat 1, .ofNat 2, .ofNat 1], [.negSucc 1, .ofNat 1]), ([.negSucc 1, .ofNat 1], [.ofNat 1, .ofNat 2, .ofNat 1]), ([.negSucc 1, .negSucc 0, .ofNat 1], [.ofNat 1, .ofNat 1]), ([.negSucc 1, .negSucc 2, .ofNat 0, .ofNat 1], [.ofNat 1])]⟩
noncomputable def ent24 : Ent := ⟨[.negSucc 7, .negSucc 3, .ofNat 2, .ofNat 1], 3, [([.ofNat 2, .ofNat 1], [.negSucc 3, .ofNat 0, .ofNat 1]), ([.ofNat 4, .ofNat 4, .ofNat 1], [.negSucc 1, .ofNat 1]), ([.negSucc 1, .ofNat 1], [.ofNat 4, .ofNat 4, .ofNat 1]), ([.negSucc 3, .ofNat 0, .ofNat 1], [.ofNat 2, .ofNat 1]), ([.negSucc 7, .negSucc 3, .ofNat 2, .ofNat 1], [.ofNat 1])]⟩
noncomputable def ent25 : Ent := ⟨[.negSucc 3, .ofNat 8, .negSucc 4, .ofNat 1], 3, [([.negSucc 0, .ofNat 1], [.ofNat 4, .negSucc 3, .ofNat 1]), ([.negSucc 1, .ofNat 1], [.ofNat 2, .negSucc 2, .ofNat 1]), ([.ofNat 2, .negSucc 2, .ofNat 1], [.negSucc 1, .ofNat 1]), ([.ofNat 4, .negSucc 3, .ofNat 1], [.negSucc 0, .ofNat 1]), ([.negSucc 3, .ofNat 8, .negSucc 4, .ofNat 1], [.ofNat 1])]⟩
noncomputable def ent26 : Ent := ⟨[.ofNat 0, .ofNat 4, .negSucc 3, .ofNat 1], 3, [([.ofNat 0, .ofNat 1], [.ofNat 4, .negSucc 3, .ofNat 1]), ([.negSucc 1, .ofNat 1], [.ofNat 0, .negSucc 1, .ofNat 1]), ([.ofNat 0, .negSucc 1, .ofNat 1], [.negSucc 1, .ofNat 1]), ([.ofNat 4, .negSucc 3, .ofNat 1], [.ofNat 0, .ofNat 1]), ([.ofNat 0, .ofNat 4, .negSucc 3, .ofNat 1], [.ofNat 1])]⟩
noncomputable def ent27 : Ent := ⟨[.ofNat 4, .ofNat 0, .negSucc 2, .ofNat 1], 3, [([.ofNat 1, .ofNat 1], [.ofNat 4, .negSucc 3, .ofNat 1]), ([.negSucc 1, .ofNat 1], [.negSucc 1, .negSucc 0, .ofNat 1]), ([.negSucc 1, .negSucc 0, .ofNat 1], [.negSucc 1, .ofNat 1]), ([.ofNat 4, .negSucc 3, .ofNat 1], [.ofNat 1, .ofNat 1]), ([.ofNat 4, .ofNat 0, .negSucc 2, .ofNat 1], [.ofNat 1])]⟩
noncomputable def ent28 : Ent := ⟨[.ofNat 8, .negSucc 3, .negSucc 1, .ofNat 1], 3, [([.ofNat 2, .ofNat 1], [.ofNat 4, .negSucc 3, .ofNat 1]), ([.negSucc 1, .ofNat 1], [.negSucc 3, .ofNat 0, .ofNat 1]), ([.negSucc 3, .ofNat 0, .ofNat 1], [.negSucc 1, .ofNat 1]), ([.ofNat 4, .negSucc 3, .ofNat 1], [.ofNat 2, .ofNat 1]), ([.ofNat 8, .negSucc 3, .negSucc 1, .ofNat 1], [.ofNat 1])]⟩
noncomputable def ent29 : Ent := ⟨[.negSucc 7, .ofNat 12, .negSucc 5, .ofNat 1], 2, [([.negSucc 1, .ofNat 1], [.ofNat 4, .negSucc 3, .ofNat 1]), ([.ofNat 4, .negSucc 3, .ofNat 1], [.negSucc 1, .ofNat 1]), ([.negSucc 7, .ofNat 12, .negSucc 5, .ofNat 1], [.ofNat 1])]⟩
noncomputable def ent30 : Ent := ⟨[.ofNat 0, .ofNat 0, .negSucc 0, .ofNat 1], 3, [([.ofNat 0, .ofNat 1], [.ofNat 0, .negSucc 0, .ofNat 1]), ([.ofNat 0, .ofNat 0, .ofNat 1], [.negSucc 0, .ofNat 1]), ([.negSucc 0, .ofNat 1], [.ofNat 0, .ofNat 0, .ofNat 1]), ([.ofNat 0, .negSucc 0, .ofNat 1], [.ofNat 0, .ofNat 1]), ([.ofNat 0, .ofNat 0, .negSucc 0, .ofNat 1], [.ofNat 1])]⟩
noncomputable def ent31 : Ent := ⟨[.negSucc 0, .negSucc 0, .ofNat 1, .ofNat 1], 3, [([.ofNat 1, .ofNat 1], [.negSucc 0, .ofNat 0, .ofNat 1]), ([.ofNat 1, .ofNat 2, .ofNat 1], [.negSucc 0, .ofNat 1]), ([.negSucc 0, .ofNat 1], [.ofNat 1, .ofNat 2, .ofNat 1]), ([.negSucc 0, .ofNat 0, .ofNat 1], [.ofNat 1, .ofNat 1]), ([.negSucc 0, .negSucc 0, .ofNat 1, .ofNat 1], [.ofNat 1])]⟩
noncomputable def ent32 : Ent := ⟨[.negSucc 3, .ofNat 0, .ofNat 3, .ofNat 1], 3, [([.ofNat 2, .ofNat 1], [.negSucc 1, .ofNat 1, .ofNat 1]), ([.ofNat 4, .ofNat 4, .ofNat 1], [.negSucc 0, .ofNat 1]), ([.negSucc 0, .ofNat 1], [.ofNat 4, .ofNat 4, .ofNat 1]), ([.negSucc 1, .ofNat 1, .ofNat 1], [.ofNat 2, .ofNat 1]), ([.negSucc 3, .ofNat 0, .ofNat 3, .ofNat 1], [.ofNat 1])]⟩
noncomputable def ent33 : Ent := ⟨[.ofNat 0, .ofNat 1, .negSucc 1, .ofNat 1], 3, [([.ofNat 0, .ofNat 1], [.ofNat 1, .negSucc 1, .ofNat 1]), ([.negSucc 0, .ofNat 1], [.ofNat 0, .negSucc 0, .ofNat 1]), ([.ofNat 0, .negSucc 0, .ofNat 1], [.negSucc 0, .ofNat 1]), ([.ofNat 1, .negSucc 1, .ofNat 1], [.ofNat 0, .ofNat 1]), ([.ofNat 0, .ofNat 1, .negSucc 1, .ofNat 1], [.ofNat 1])]⟩
noncomputable def ent34 : Ent := ⟨[.ofNat 1, .negSucc 0, .negSucc 0, .ofNat 1], 3, [([.ofNat 1, .ofNat 1], [.ofNat 1, .negSucc 1, .ofNat 1]), ([.negSucc 0, .ofNat 1], [.negSucc 0, .ofNat 0, .ofNat 1]), ([.negSucc 0, .ofNat 0, .ofNat 1], [.negSucc 0, .ofNat 1]), ([.ofNat 1, .negSucc 1, .ofNat 1], [.ofNat 1, .ofNat 1]), ([.ofNat 1, .negSucc 0, .negSucc 0, .ofNat 1], [.ofNat 1])]⟩
noncomputable def ent35 : Ent := ⟨[.ofNat 2, .negSucc 2, .ofNat 0, .ofNat 1], 3, [([.ofNat 2, .ofNat 1], [.ofNat 1, .negSucc 1, .ofNat 1]), ([.negSucc 0, .ofNat 1], [.negSucc 1, .ofNat 1, .ofNat 1]), ([.negSucc 1, .ofNat 1, .ofNat 1], [.negSucc 0, .ofNat 1]), ([.ofNat 1, .negSucc 1, .ofNat 1], [.ofNat 2, .ofNat 1]), ([.ofNat 2, .negSucc 2, .ofNat 0, .ofNat 1], [.ofNat 1])]⟩
noncomputable def ent36 : Ent := ⟨[.negSucc 0, .ofNat 3, .negSucc 2, .ofNat 1], 2, [([.negSucc 0, .ofNat 1], [.ofNat 1, .negSucc 1, .ofNat 1]), ([.ofNat 1, .negSucc 1, .ofNat 1], [.negSucc 0, .ofNat 1]), ([.negSucc 0, .ofNat 3, .negSucc 2, .ofNat 1], [.ofNat 1])]⟩
noncomputable def ent37 : Ent := ⟨[.ofNat 0, .ofNat 1, .ofNat 2, .ofNat 1], 3, [([.ofNat 1, .ofNat 1], [.ofNat 0, .ofNat 1, .ofNat 1]), ([.ofNat 1, .ofNat 2, .ofNat 1], [.ofNat 0, .ofNat 1]), ([.ofNat 0, .ofNat 1], [.ofNat 1, .ofNat 2, .ofNat 1]), ([.ofNat 0, .ofNat 1, .ofNat 1], [.ofNat 1, .ofNat 1]), ([.ofNat 0, .ofNat 1, .ofNat 2, .ofNat 1], [.ofNat 1])]⟩
noncomputable def ent38 : Ent := ⟨[.ofNat 0, .ofNat 4, .ofNat 4, .ofNat 1], 3, [([.ofNat 2, .ofNat 1], [.ofNat 0, .ofNat 2, .ofNat 1]), ([.ofNat 4, .ofNat 4, .ofNat 1], [.ofNat 0, .ofNat 1]), ([.ofNat 0, .ofNat 1], [.ofNat 4, .ofNat 4, .ofNat 1]), ([.ofNat 0, .ofNat 2, .ofNat 1], [.ofNat 2, .ofNat 1]), ([.ofNat 0, .ofNat 4, .ofNat 4, .ofNat 1], [.ofNat 1])]⟩
noncomputable def ent39 : Ent := ⟨[.ofNat 0, .ofNat 0, .ofNat 1, .ofNat 1], 3, [([.ofNat 1, .ofNat 1], [.ofNat 0, .ofNat 0, .ofNat 1]), ([.ofNat 0, .ofNat 1], [.ofNat 0, .ofNat 1, .ofNat 1]), ([.ofNat 0, .ofNat 1, .ofNat 1], [.ofNat 0, .ofNat 1]), ([.ofNat 0, .ofNat 0, .ofNat 1], [.ofNat 1, .ofNat 1]), ([.ofNat 0, .ofNat 0, .ofNat 1, .ofNat 1], [.ofNat 1])]⟩
noncomputable def ent40 : Ent := ⟨[.ofNat 0, .ofNat 0, .ofNat 2, .ofNat 1], 3, [([.ofNat 2, .ofNat 1], [.ofNat 0, .ofNat 0, .ofNat 1]), ([.ofNat 0, .ofNat 1], [.ofNat 0, .ofNat 2, .ofNat 1]), ([.ofNat 0, .ofNat 2, .ofNat 1], [.ofNat 0, .ofNat 1]), ([.ofNat 0, .ofNat 0, .ofNat 1], [.ofNat 2, .ofNat 1]), ([.ofNat 0, .ofNat 0, .ofNat 2, .ofNat 1], [.ofNat 1])]⟩
noncomputable def ent41 : Ent := ⟨[.ofNat 0, .ofNat 0, .ofNat 0, .ofNat 1], 2, [([.ofNat 0, .ofNat 1], [.ofNat 0, .ofNat 0, .ofNat 1]), ([.ofNat 0, .ofNat 0, .ofNat 1], [.ofNat 0, .ofNat 1]), ([.ofNat 0, .ofNat 0, .ofNat 0, .ofNat 1], [.ofNat 1])]⟩
noncomputable def ent42 : Ent := ⟨[.ofNat 4, .ofNat 8, .ofNat 5, .ofNat 1], 3, [([.ofNat 2, .ofNat 1], [.ofNat 2, .ofNat 3, .ofNat 1]), ([.ofNat 4, .ofNat 4, .ofNat 1], [.ofNat 1, .ofNat 1]), ([.ofNat 1, .ofNat 1], [.ofNat 4, .ofNat 4, .ofNat 1]), ([.ofNat 2, .ofNat 3, .ofNat 1], [.ofNat 2, .ofNat 1]), ([.ofNat 4, .ofNat 8, .ofNat 5, .ofNat 1], [.ofNat 1])]⟩
noncomputable def ent43 : Ent := ⟨[.ofNat 2, .ofNat 5, .ofNat 4, .ofNat 1], 3, [([.ofNat 2, .ofNat 1], [.ofNat 1, .ofNat 2, .ofNat 1]), ([.ofNat 1, .ofNat 1], [.ofNat 2, .ofNat 3, .ofNat 1]), ([.ofNat 2, .ofNat 3, .ofNat 1], [.ofNat 1, .ofNat 1]), ([.ofNat 1, .ofNat 2, .ofNat 1], [.ofNat 2, .ofNat 1]), ([.ofNat 2, .ofNat 5, .ofNat 4, .ofNat 1], [.ofNat 1])]⟩
noncomputable def ent44 : Ent := ⟨[.ofNat 1, .ofNat 3, .ofNat 3, .ofNat 1], 2, [([.ofNat 1, .ofNat 1], [.ofNat 1, .ofNat 2, .ofNat 1]), ([.ofNat 1, .ofNat 2, .ofNat 1], [.ofNat 1, .ofNat 1]), ([.ofNat 1, .ofNat 3, .ofNat 3, .ofNat 1], [.ofNat 1])]⟩
noncomputable def ent45 : Ent := ⟨[.ofNat 8, .ofNat 12, .ofNat 6, .ofNat 1], 2, [([.ofNat 2, .ofNat 1], [.ofNat 4, .ofNat 4, .ofNat 1]), ([.ofNat 4, .ofNat 4, .ofNat 1], [.ofNat 2, .ofNat 1]), ([.ofNat 8, .ofNat 12, .ofNat 6, .ofNat 1], [.ofNat 1])]⟩
noncomputable def ent46 : Ent := ⟨[.ofNat 4, .negSucc 11, .ofNat 13, .negSucc 5, .ofNat 1], 3, [([.negSucc 0, .ofNat 1], [.negSucc 3, .ofNat 8, .negSucc 4, .ofNat 1]), ([.ofNat 1, .negSucc 1, .ofNat 1], [.ofNat 4, .negSucc 3, .ofNat 1]), ([.negSucc 1, .ofNat 1], [.negSucc 1, .ofNat 5, .negSucc 3, .ofNat 1]), ([.ofNat 2, .negSucc 2, .ofNat 1], [.ofNat 2, .negSucc 2, .ofNat 1]), ([.negSucc 1, .ofNat 5, .negSucc 3, .ofNat 1], [.negSucc 1, .ofNat 1]), ([.ofNat 4, .negSucc 3, .ofNat 1], [.ofNat 1, .negSucc 1, .ofNat 1]), ([.negSucc 3, .ofNat 8, .negSucc 4, .ofNat 1], [.negSucc 0, .ofNat 1]), ([.ofNat 4, .negSucc 11, .ofNat 13, .negSucc 5, .ofNat 1], [.ofNat 1])]⟩
noncomputable def ent47 : Ent := ⟨[.ofNat 0, .ofNat 0, .ofNat 4, .negSucc 3, .ofNat 1], 3, [([.ofNat 0, .ofNat 1], [.ofNat 0, .ofNat 4, .negSucc 3, .ofNat 1]), ([.ofNat 0, .ofNat 0, .ofNat 1], [.ofNat 4, .negSucc 3, .ofNat 1]), ([.negSucc 1, .ofNat 1], [.ofNat 0, .ofNat 0, .negSucc 1, .ofNat 1]), ([.ofNat 0, .negSucc 1, .ofNat 1], [.ofNat 0, .negSucc 1, .ofNat 1]), ([.ofNat 0, .ofNat 0, .negSucc 1, .ofNat 1], [.negSucc 1, .ofNat 1]), ([.ofNat 4, .negSucc 3, .ofNat 1], [.ofNat 0, .ofNat 0, .ofNat 1]), ([.ofNat 0, .ofNat 4, .negSucc 3, .ofNat 1], [.ofNat 0, .ofNat 1]), ([.ofNat 0, .ofNat 0, .ofNat 4, .negSucc 3, .ofNat 1], [.ofNat 1])]⟩
noncomputable def ent48 : Ent := ⟨[.ofNat 4, .ofNat 4, .negSucc 2, .negSucc 1, .ofNat 1], 3, [([.ofNat 1, .ofNat 1], [.ofNat 4, .ofNat 0, .negSucc 2, .ofNat 1]), ([.ofNat 1, .ofNat 2, .ofNat 1], [.ofNat 4, .negSucc 3, .ofNat 1]), ([.negSucc 1, .ofNat 1], [.negSucc 1, .negSucc 2, .ofNat 0, .ofNat 1]), ([.negSucc 1, .negSucc 0, .ofNat 1], [.negSucc 1, .negSucc 0, .ofNat 1]), ([.negSucc 1, .negSucc 2, .ofNat 0, .ofNat 1], [.negSucc 1, .ofNat 1]), ([.ofNat 4, .negSucc 3, .ofNat 1], [.ofNat 1, .ofNat 2, .ofNat 1]), ([.ofNat 4, .ofNat 0, .negSucc 2, .ofNat 1], [.ofNat 1, .ofNat 1]), ([.ofNat 4, .ofNat 4, .negSucc 2, .negSucc 1, .ofNat 1], [.ofNat 1])]⟩
noncomputable def ent49 : Ent := ⟨[.ofNat 16, .ofNat 0, .negSucc 7, .ofNat 0, .ofNat 1], 3, [([.ofNat 2, .ofNat 1], [.ofNat 8, .negSucc 3, .negSucc 1, .ofNat 1]), ([.ofNat 4, .ofNat 4, .ofNat 1], [.ofNat 4, .negSucc 3, .ofNat 1]), ([.negSucc 1, .ofNat 1], [.negSucc 7, .negSucc 3, .ofNat 2, .ofNat 1]), ([.negSucc 3, .ofNat 0, .ofNat 1], [.negSucc 3, .ofNat 0, .ofNat 1]), ([.negSucc 7, .negSucc 3, .ofNat 2, .ofNat 1], [.negSucc 1, .ofNat 1]), ([.ofNat 4, .negSucc 3, .ofNat 1], [.ofNat 4, .ofNat 4, .ofNat 1]), ([.ofNat 8, .negSucc 3, .negSucc 1, .ofNat 1], [.ofNat 2, .ofNat 1]), ([.ofNat 16, .ofNat 0, .negSucc 7, .ofNat 0, .ofNat 1], [.ofNat 1])]⟩
noncomputable def ent50 : Ent := ⟨[.ofNat 16, .negSucc 31, .ofNat 24, .negSucc 7, .ofNat 1], 2, [([.negSucc 1, .ofNat 1], [.negSucc 7, .ofNat 12, .negSucc 5, .ofNat 1]), ([.ofNat 4, .negSucc 3, .ofNat 1], [.ofNat 4, .negSucc 3, .ofNat 1]), ([.negSucc 7, .ofNat 12, .negSucc 5, .ofNat 1], [.negSucc 1, .ofNat 1]), ([.ofNat 16, .negSucc 31, .ofNat 24, .negSucc 7, .ofNat 1], [.ofNat 1])]⟩
noncomputable def ent51 : Ent := ⟨[.ofNat 0, .ofNat 0, .ofNat 1, .negSucc 1, .ofNat 1], 3, [([.ofNat 0, .ofNat 1], [.ofNat 0, .ofNat 1, .negSucc 1, .ofNat 1]), ([.ofNat 0, .ofNat 0, .ofNat 1], [.ofNat 1, .negSucc 1, .ofNat 1]), ([.negSucc 0, .ofNat 1], [.ofNat 0, .ofNat 0, .negSucc 0, .ofNat 1]), ([.ofNat 0, .negSucc 0, .ofNat 1], [.ofNat 0, .negSucc 0, .ofNat 1]), ([.ofNat 0, .ofNat 0, .negSucc 0, .ofNat 1], [.negSucc 0, .ofNat 1]), ([.ofNat 1, .negSucc 1, .ofNat 1], [.ofNat 0, .ofNat 0, .ofNat 1]), ([.ofNat 0, .ofNat 1, .negSucc 1, .ofNat 1], [.ofNat 0, .ofNat 1]), ([.ofNat 0, .ofNat 0, .ofNat 1, .negSucc 1, .ofNat 1], [.ofNat 1])]⟩
noncomputable def ent52 : Ent := ⟨[.ofNat 1, .ofNat 0, .negSucc 1, .ofNat 0, .ofNat 1], 3, [([.ofNat 1, .ofNat 1], [.ofNat 1, .negSucc 0, .negSucc 0, .ofNat 1]), ([.ofNat 1, .ofNat 2, .ofNat 1], [.ofNat 1, .negSucc 1, .ofNat 1]), ([.negSucc 0, .ofNat 1], [.negSucc 0, .negSucc 0, .ofNat 1, .ofNat 1]), ([.negSucc 0, .ofNat 0, .ofNat 1], [.negSucc 0, .ofNat 0, .ofNat 1]), ([.negSucc 0, .negSucc 0, .ofNat 1, .ofNat 1], [.negSucc 0, .ofNat 1]), ([.ofNat 1, .negSucc 1, .ofNat 1], [.ofNat 1, .ofNat 2, .ofNat 1]), ([.ofNat 1, .negSucc 0, .negSucc 0, .ofNat 1], [.ofNat 1, .ofNat 1]), ([.ofNat 1, .ofNat 0, .negSucc 1, .ofNat 0, .ofNat 1], [.ofNat 1])]⟩
noncomputable def ent53 : Ent := ⟨[.ofNat 4, .negSucc 3, .negSucc 2, .ofNat 2, .ofNat 1], 3, [([.ofNat 2, .ofNat 1], [.ofNat 2, .negSucc 2, .ofNat 0, .ofNat 1]), ([.ofNat 4, .ofNat 4, .ofNat 1], [.ofNat 1, .negSucc 1, .ofNat 1]), ([.negSucc 0, .ofNat 1], [.negSucc 3, .ofNat 0, .ofNat 3, .ofNat 1]), ([.negSucc 1, .ofNat 1, .ofNat 1], [.negSucc 1, .ofNat 1, .ofNat 1]), ([.negSucc 3, .ofNat 0, .ofNat 3, .ofNat 1], [.negSucc 0, .ofNat 1]), ([.ofNat 1, .negSucc 1, .ofNat 1], [.ofNat 4, .ofNat 4, .ofNat 1]), ([.ofNat 2, .negSucc 2, .ofNat 0, .ofNat 1], [.ofNat 2, .ofNat 1]), ([.ofNat 4, .negSucc 3, .negSucc 2, .ofNat 2, .ofNat 1], [.ofNat 1])]⟩
noncomputable def ent54 : Ent := ⟨[.ofNat 1, .negSucc 3, .ofNat 6, .negSucc 3, .ofNat 1], 2, [([.negSucc 0, .ofNat 1], [.negSucc 0, .ofNat 3, .negSucc 2, .ofNat 1]), ([.ofNat 1, .negSucc 1, .ofNat 1], [.ofNat 1, .negSucc 1, .ofNat 1]), ([.negSucc 0, .ofNat 3, .negSucc 2, .ofNat 1], [.negSucc 0, .ofNat 1]), ([.ofNat 1, .negSucc 3, .ofNat 6, .negSucc 3, .ofNat 1], [.ofNat 1])]⟩
noncomputable def ent55 : Ent := ⟨[.ofNat 0, .ofNat 0, .ofNat 1, .ofNat 2, .ofNat 1], 3, [([.ofNat 1, .ofNat 1], [.ofNat 0, .ofNat 0, .ofNat 1, .ofNat 1]), ([.ofNat 1, .ofNat 2, .ofNat 1], [.ofNat 0, .ofNat 0, .ofNat 1]), ([.ofNat 0, .ofNat 1], [.ofNat 0, .ofNat 1, .ofNat 2, .ofNat 1]), ([.ofNat 0, .ofNat 1, .ofNat 1], [.ofNat 0, .ofNat 1, .ofNat 1]), ([.ofNat 0, .ofNat 1, .ofNat 2, .ofNat 1], [.ofNat 0, .ofNat 1]), ([.ofNat 0, .ofNat 0, .ofNat 1], [.ofNat 1, .ofNat 2, .ofNat 1]), ([.ofNat 0, .ofNat 0, .ofNat 1, .ofNat 1], [.ofNat 1, .ofNat 1]), ([.ofNat 0, .ofNat 0, .ofNat 1, .ofNat 2, .ofNat 1], [.ofNat 1])]⟩
noncomputable def ent56 : Ent := ⟨[.ofNat 0, .ofNat 0, .ofNat 4, .ofNat 4, .ofNat 1], 3, [([.ofNat 2, .ofNat 1], [.ofNat 0, .ofNat 0, .ofNat 2, .ofNat 1]), ([.ofNat 4, .ofNat 4, .ofNat 1], [.ofNat 0, .ofNat 0, .ofNat 1]), ([.ofNat 0, .ofNat 1], [.ofNat 0, .ofNat 4, .ofNat 4, .ofNat 1]), ([.ofNat 0, .ofNat 2, .ofNat 1], [.ofNat 0, .ofNat 2, .ofNat 1]), ([.ofNat 0, .ofNat 4, .ofNat 4, .ofNat 1], [.ofNat 0, .ofNat 1]), ([.ofNat 0, .ofNat 0, .ofNat 1], [.ofNat 4, .ofNat 4, .ofNat 1]), ([.ofNat 0, .ofNat 0, .ofNat 2, .ofNat 1], [.ofNat 2, .ofNat 1]), ([.ofNat 0, .ofNat 0, .ofNat 4, .ofNat 4, .ofNat 1], [.ofNat 1])]⟩
noncomputable def ent57 : Ent := ⟨[.ofNat 0, .ofNat 0, .ofNat 0, .ofNat 0, .ofNat 1], 2, [([.ofNat 0, .ofNat 1], [.ofNat 0, .ofNat 0, .ofNat 0, .ofNat 1]), ([.ofNat 0, .ofNat 0, .ofNat 1], [.ofNat 0, .ofNat 0, .ofNat 1]), ([.ofNat 0, .ofNat 0, .ofNat 0, .ofNat 1], [.ofNat 0, .ofNat 1]), ([.ofNat 0, .ofNat 0, .ofNat 0, .ofNat 0, .ofNat 1], [.ofNat 1])]⟩
noncomputable def ent58 : Ent := ⟨[.ofNat 4, .ofNat 12, .ofNat 13, .ofNat 6, .ofNat 1], 3, [([.ofNat 2, .ofNat 1], [.ofNat 2, .ofNat 5, .ofNat 4, .ofNat 1]), ([.ofNat 4, .ofNat 4, .ofNat 1], [.ofNat 1, .ofNat 2, .ofNat 1]), ([.ofNat 1, .ofNat 1], [.ofNat 4, .ofNat 8, .ofNat 5, .ofNat 1]), ([.ofNat 2, .ofNat 3, .ofNat 1], [.ofNat 2, .ofNat 3, .ofNat 1]), ([.ofNat 4, .ofNat 8, .ofNat 5, .ofNat 1], [.ofNat 1, .ofNat 1]), ([.ofNat 1, .ofNat 2, .ofNat 1], [.ofNat 4, .ofNat 4, .ofNat 1]), ([.ofNat 2, .ofNat 5, .ofNat 4, .ofNat 1], [.ofNat 2, .ofNat 1]), ([.ofNat 4, .ofNat 12, .ofNat 13, .ofNat 6, .ofNat 1], [.ofNat 1])]⟩
noncomputable def ent59 : Ent := ⟨[.ofNat 1, .ofNat 4, .ofNat 6, .ofNat 4, .ofNat 1], 2, [([.ofNat 1, .ofNat 1], [.ofNat 1, .ofNat 3, .ofNat 3, .ofNat 1]), ([.ofNat 1, .ofNat 2, .ofNat 1], [.ofNat 1, .ofNat 2, .ofNat 1]), ([.ofNat 1, .ofNat 3, .ofNat 3, .ofNat 1], [.ofNat 1, .ofNat 1]), ([.ofNat 1, .ofNat 4, .ofNat 6, .ofNat 4, .ofNat 1], [.ofNat 1])]⟩
noncomputable def ent60 : Ent := ⟨[.ofNat 16, .ofNat 32, .ofNat 24, .ofNat 8, .ofNat 1], 2, [([.ofNat 2, .ofNat 1], [.ofNat 8, .ofNat 12, .ofNat 6, .ofNat 1]), ([.ofNat 4, .ofNat 4, .ofNat 1], [.ofNat 4, .ofNat 4, .ofNat 1]), ([.ofNat 8, .ofNat 12, .ofNat 6, .ofNat 1], [.ofNat 2, .ofNat 1]), ([.ofNat 16, .ofNat 32, .ofNat 24, .ofNat 8, .ofNat 1], [.ofNat 1])]⟩
noncomputable def tab : List Ent := [ent0, ent1, ent2, ent3, ent4, ent5, ent6, ent7, ent8, ent9, ent10, ent11, ent12, ent13, ent14, ent15, ent16, ent17, ent18, ent19, ent20, ent21, ent22, ent23, ent24, ent25, ent26, ent27, ent28, ent29, ent30, ent31, ent32, ent33, ent34, ent35, ent36, ent37, ent38, ent39, ent40, ent41, ent42, ent43, ent44, ent45, ent46, ent47, ent48, ent49, ent50, ent51, ent52, ent53, ent54, ent55, ent56, ent57, ent58, ent59, ent60]
theorem tab_ent : ∀ e ∈ tab, entOk e = true := List.all_eq_true.mp (by decide +kernel)
theorem tab_div : ∀ e ∈ tab, divOk (tab.map Ent.m) e = true := List.all_eq_true.mp (by decide +kernel)

end
section
theorem look0 : (tab.all fun f => qpair ent0 f) = true := by decide +kernel
theorem look1 : (tab.all fun f => qpair ent1 f) = true := by decide +kernel
theorem look2 : (tab.all fun f => qpair ent2 f) = true := by decide +kernel
theorem look3 : (tab.all fun f => qpair ent3 f) = true := by decide +kernel
theorem look4 : (tab.all fun f => qpair ent4 f) = true := by decide +kernel
theorem look5 : (tab.all fun f => qpair ent5 f) = true := by decide +kernel
theorem look6 : (tab.all fun f => qpair ent6 f) = true := by decide +kernel
theorem look7 : (tab.all fun f => qpair ent7 f) = true := by decide +kernel
theorem look8 : (tab.all fun f => qpair ent8 f) = true := by decide +kernel
theorem look9 : (tab.all fun f => qpair ent9 f) = true := by decide +kernel
theorem look10 : (tab.all fun f => qpair ent10 f) = true := by decide +kernel
theorem look11 : (tab.all fun f => qpair ent11 f) = true := by decide +kernel
theorem look12 : (tab.all fun f => qpair ent12 f) = true := by decide +kernel
theorem look13 : (tab.all fun f => qpair ent13 f) = true := by decide +kernel
theorem look14 : (tab.all fun f => qpair ent14 f) = true := by decide +kernel
theorem look15 : (tab.all fun f => qpair ent15 f) = true := by decide +kernel
theorem look16 : (tab.all fun f => qpair ent16 f) = true := by decide +kernel
theorem look17 : (tab.all fun f => qpair ent17 f) = true := by decide +kernel
theorem look18 : (tab.all fun f => qpair ent18 f) = true := by decide +kernel
theorem look19 : (tab.all fun f => qpair ent19 f) = true := by decide +kernel
theorem look20 : (tab.all fun f => qpair ent20 f) = true := by decide +kernel
theorem look21 : (tab.all fun f => qpair ent21 f) = true := by decide +kernel
theorem look22 : (tab.all fun f => qpair ent22 f) = true := by decide +kernel
theorem look23 : (tab.all fun f => qpair ent23 f) = true := by decide +kernel
theorem look24 : (tab.all fun f => qpair ent24 f) = true := by decide +kernel
theorem look25 : (tab.all fun f => qpair ent25 f) = true := by decide +kernel
theorem look26 : (tab.all fun f => qpair ent26 f) = true := by decide +kernel
theorem look27 : (tab.all fun f => qpair ent27 f) = true := by decide +kernel
theorem look28 : (tab.all fun f => qpair ent28 f) = true := by decide +kernel
theorem look29 : (tab.all fun f => qpair ent29 f) = true := by decide +kernel
theorem look30 : (tab.all fun f => qpair ent30 f) = true := by decide +kernel
theorem look31 : (tab.all fun f => qpair ent31 f) = true := by decide +kernel
theorem look32 : (tab.all fun f => qpair ent32 f) = true := by decide +kernel
theorem look33 : (tab.all fun f => qpair ent33 f) = true := by decide +kernel
theorem look34 : (tab.all fun f => qpair ent34 f) = true := by decide +kernel
theorem look35 : (tab.all fun f => qpair ent35 f) = true := by decide +kernel
theorem look36 : (tab.all fun f => qpair ent36 f) = true := by decide +kernel
theorem look37 : (tab.all fun f => qpair ent37 f) = true := by decide +kernel
theorem look38 : (tab.all fun f => qpair ent38 f) = true := by decide +kernel
theorem look39 : (tab.all fun f => qpair ent39 f) = true := by decide +kernel
theorem look40 : (tab.all fun f => qpair ent40 f) = true := by decide +kernel
theorem look41 : (tab.all fun f => qpair ent41 f) = true := by decide +kernel
theorem look42 : (tab.all fun f => qpair ent42 f) = true := by decide +kernel
theorem look43 : (tab.all fun f => qpair ent43 f) = true := by decide +kernel
theorem look44 : (tab.all fun f => qpair ent44 f) = true := by decide +kernel
theorem look45 : (tab.all fun f => qpair ent45 f) = true := by decide +kernel
theorem look46 : (tab.all fun f => qpair ent46 f) = true := by decide +kernel
theorem look47 : (tab.all fun f => qpair ent47 f) = true := by decide +kernel
theorem look48 : (tab.all fun f => qpair ent48 f) = true := by decide +kernel
theorem look49 : (tab.all fun f => qpair ent49 f) = true := by decide +kernel
theorem look50 : (tab.all fun f => qpair ent50 f) = true := by decide +kernel
theorem look51 : (tab.all fun f => qpair ent51 f) = true := by decide +kernel
theorem look52 : (tab.all fun f => qpair ent52 f) = true := by decide +kernel
theorem look53 : (tab.all fun f => qpair ent53 f) = true := by decide +kernel
theorem look54 : (tab.all fun f => qpair ent54 f) = true := by decide +kernel
theorem look55 : (tab.all fun f => qpair ent55 f) = true := by decide +kernel
theorem look56 : (tab.all fun f => qpair ent56 f) = true := by decide +kernel
theorem look57 : (tab.all fun f => qpair ent57 f) = true := by decide +kernel
theorem look58 : (tab.all fun f => qpair ent58 f) = true := by decide +kernel
theorem look59 : (tab.all fun f => qpair ent59 f) = true := by decide +kernel
theorem look60 : (tab.all fun f => qpair ent60 f) = true := by decide +kernel
theorem tab_look : ∀ e ∈ tab, ∀ f ∈ tab, qpair e f = true := by
  have h : (tab.all fun e => tab.all fun f => qpair e f) = true := by
    show ([ent0, ent1, ent2, ent3, ent4, ent5, ent6, ent7, ent8, ent9, ent10, ent11, ent12, ent13, ent14, ent15, ent16, ent17, ent18, ent19, ent20, ent21, ent22, ent23, ent24, ent25, ent26, ent27, ent28, ent29, ent30, ent31, ent32, ent33, ent34, ent35, ent36, ent37, ent38, ent39, ent40, ent41, ent42, ent43, ent44, ent45, ent46, ent47, ent48, ent49, ent50, ent51, ent52, ent53, ent54, ent55, ent56, ent57, ent58, ent59, ent60].all fun e => tab.all fun f => qpair e f) = true
    simp only [List.all_cons, List.all_nil, Bool.and_true, look0, look1, look2, look3, look4, look5, look6, look7, look8, look9, look10, look11, look12, look13, look14, look15, look16, look17, look18, look19, look20, look21, look22, look23, look24, look25, look26, look27, look28, look29, look30, look31, look32, look33, look34, look35, look36, look37, look38, look39, look40, look41, look42, look43, look44, look45, look46, look47, look48, look49, look50, look51, look52, look53, look54, look55, look56, look57, look58, look59, look60]
  intro e he f hf
  exact List.all_eq_true.mp (List.all_eq_true.mp h e he) f hf

end
section
open Builtin.Int (intBits)
-- the two lines: what the draws give lies in the table
noncomputable def linesQ (c a1 : Int) (n1 : Nat) (a2 : Int) (n2 : Nat) : Option (List Int) := match powP [a1, 1] n1 [c] with
  | some g => powP [a2, 1] n2 g
  | none => none
theorem linesP_Q (xs : List Int) (s : Int) : linesP xs s 2 = linesQ (1 + drawP xs s 3) (2 - drawP xs (s + 1 + 2 * (0 : Nat)) 5) (drawP xs (s + 2 + 2 * (0 : Nat)) 3).toNat (2 - drawP xs (s + 1 + 2 * (1 : Nat)) 5) (drawP xs (s + 2 + 2 * (1 : Nat)) 3).toNat := rfl
noncomputable def cuts : List Int := [2, 1, 0, -1, -2]
theorem lines_look : (([1, 2, 3] : List Int).all fun c => cuts.all fun a1 => [0, 1, 2].all fun n1 => cuts.all fun a2 => [0, 1, 2].all fun n2 => match linesQ c a1 n1 a2 n2 with
  | some f => tab.any fun e => decide (f = sc c e.m)
  | none => false) = true := by decide +kernel
theorem cuts_mem {d : Int} (h : 0 ≤ d ∧ d < 5) : 2 - d ∈ cuts := by
  have : d = 0 ∨ d = 1 ∨ d = 2 ∨ d = 3 ∨ d = 4 := by omega
  rcases this with rfl | rfl | rfl | rfl | rfl <;> decide
theorem times_mem {d : Int} (h : 0 ≤ d ∧ d < 3) : d.toNat ∈ [0, 1, 2] := by
  have : d = 0 ∨ d = 1 ∨ d = 2 := by omega
  rcases this with rfl | rfl | rfl <;> decide
theorem nums_mem {d : Int} (h : 0 ≤ d ∧ d < 3) : 1 + d ∈ ([1, 2, 3] : List Int) := by
  have : d = 0 ∨ d = 1 ∨ d = 2 := by omega
  rcases this with rfl | rfl | rfl <;> decide
theorem lines_tab (xs : List Int) (s : Int) : ∃ c ∈ ([1, 2, 3] : List Int), ∃ e ∈ tab, linesP xs s 2 = some (sc c e.m) := by
  rw [linesP_Q]
  have h0 := nums_mem (drawP_lt (xs := xs) (spot := s) (by decide : (0 : Int) < 3))
  have h1 := cuts_mem (drawP_lt (xs := xs) (spot := s + 1 + 2 * (0 : Nat)) (by decide : (0 : Int) < 5))
  have h2 := times_mem (drawP_lt (xs := xs) (spot := s + 2 + 2 * (0 : Nat)) (by decide : (0 : Int) < 3))
  have h3 := cuts_mem (drawP_lt (xs := xs) (spot := s + 1 + 2 * (1 : Nat)) (by decide : (0 : Int) < 5))
  have h4 := times_mem (drawP_lt (xs := xs) (spot := s + 2 + 2 * (1 : Nat)) (by decide : (0 : Int) < 3))
  generalize 1 + drawP xs s 3 = c at h0 ⊢
  generalize 2 - drawP xs (s + 1 + 2 * (0 : Nat)) 5 = a1 at h1 ⊢
  generalize (drawP xs (s + 2 + 2 * (0 : Nat)) 3).toNat = n1 at h2 ⊢
  generalize 2 - drawP xs (s + 1 + 2 * (1 : Nat)) 5 = a2 at h3 ⊢
  generalize (drawP xs (s + 2 + 2 * (1 : Nat)) 3).toNat = n2 at h4 ⊢
  have := List.all_eq_true.mp (List.all_eq_true.mp (List.all_eq_true.mp (List.all_eq_true.mp (List.all_eq_true.mp lines_look c h0) a1 h1) n1 h2) a2 h3) n2 h4
  split at this
  · rename_i f hf
    obtain ⟨e, he, h⟩ := List.any_eq_true.mp this
    exact ⟨c, h0, e, he, by rw [hf, of_decide_eq_true h]⟩
  · cases this
-- the second half
noncomputable def twos : List Int := [-2, -1, 0, 1, 2]
theorem twos_mem {d : Int} (h : 0 ≤ d ∧ d < 5) : d - 2 ∈ twos := by
  have : d = 0 ∨ d = 1 ∨ d = 2 ∨ d = 3 ∨ d = 4 := by omega
  rcases this with rfl | rfl | rfl | rfl | rfl <;> decide
theorem near_look : nearP 1 = true ∧ nearP (-1) = true := by decide +kernel
theorem far_look : (twos.all fun a => ([1, 2, 3] : List Int).all fun b => ([0, 1] : List Int).all fun c => twos.all fun p => twos.all fun q => ([0, 1, 2] : List Int).all fun r => halfP (if c ≠ 0 then [a, b, c] else [a, b]) [p, q, r, 1]) = true := by decide +kernel
theorem far_all (xs : List Int) : halfP (if drawP xs 14 2 ≠ 0 then farF xs else (farF xs).take 2) (farG xs) = true := by
  have h1 := twos_mem (drawP_lt (xs := xs) (spot := 12) (by decide : (0 : Int) < 5))
  have h2 := nums_mem (drawP_lt (xs := xs) (spot := 13) (by decide : (0 : Int) < 3))
  have h3 : drawP xs 14 2 ∈ ([0, 1] : List Int) := by
    have h := drawP_lt (xs := xs) (spot := 14) (by decide : (0 : Int) < 2)
    have : drawP xs 14 2 = 0 ∨ drawP xs 14 2 = 1 := by omega
    rcases this with h | h <;> rw [h] <;> decide
  have h4 := twos_mem (drawP_lt (xs := xs) (spot := 15) (by decide : (0 : Int) < 5))
  have h5 := twos_mem (drawP_lt (xs := xs) (spot := 16) (by decide : (0 : Int) < 5))
  have h6 : drawP xs 17 3 ∈ ([0, 1, 2] : List Int) := by
    have h := drawP_lt (xs := xs) (spot := 17) (by decide : (0 : Int) < 3)
    have : drawP xs 17 3 = 0 ∨ drawP xs 17 3 = 1 ∨ drawP xs 17 3 = 2 := by omega
    rcases this with h | h | h <;> rw [h] <;> decide
  exact List.all_eq_true.mp (List.all_eq_true.mp (List.all_eq_true.mp (List.all_eq_true.mp (List.all_eq_true.mp (List.all_eq_true.mp far_look _ h1) _ h2) _ h3) _ h4) _ h5) _ h6
theorem near_all (xs : List Int) (h : drawP xs 11 3 - 1 ≠ 0) : nearP (drawP xs 11 3 - 1) = true := by
  have h1 := drawP_lt (xs := xs) (spot := 11) (by decide : (0 : Int) < 3)
  have : drawP xs 11 3 - 1 = 1 ∨ drawP xs 11 3 - 1 = -1 := by omega
  rcases this with e | e
  · rw [e]; exact near_look.1
  · rw [e]; exact near_look.2
theorem plain_of (hT : ∀ e ∈ tab, ∀ f ∈ tab, qpair e f = true) (xs : List Int) : Plain xs := by
  refine ⟨?_, near_all xs, fun _ => far_all xs⟩
  obtain ⟨c, hc, e, he, h1⟩ := lines_tab xs 0
  obtain ⟨d, hd, f, hf, h2⟩ := lines_tab xs 5
  refine ⟨_, _, h1, h2, ?_⟩
  have key : ∃ v ∈ ([1, 2, 3, -1, -2, -3] : List Int), signed xs (sc d f.m) = sc v f.m := by
    unfold signed
    split
    · refine ⟨-d, ?_, ?_⟩
      · simp at hd; rcases hd with rfl | rfl | rfl <;> decide
      · unfold sc
        rw [List.map_map]
        exact List.map_congr_left fun x _ => (Int.neg_mul d x).symm
    · refine ⟨d, ?_, rfl⟩
      simp at hd; rcases hd with rfl | rfl | rfl <;> decide
  obtain ⟨v, hv, ev⟩ := key
  rw [ev]
  exact three_all tab_ent tab_div hT he hf hc hv

end
section
theorem plain (xs : List Int) : Plain xs := plain_of tab_look xs
theorem plainOf {ws : List Value} {xs : List Int} (_ : IntsAre ws xs) : Plain (List.map (fun k' => k') (List.take 20 xs)) ∧ (List.map (fun k' : Int => k') (List.take 20 xs)).length < 1000 := ⟨plain _, by rw [List.length_map, List.length_take]; omega⟩
end
section
open Builtin.Int (intBits)
local macro_rules | `(tactic| k_qdec) => `(tactic| decide +kernel)
set_option maxHeartbeats 8000000 in
theorem law_holds : PySem.Challenge.rw_tg0006_01.Holds := hd (by
  w_top off
  k_go0
  all_goals try k_fold
  obtain ⟨⟨⟨f, g, hf, hg, h3⟩, hnear, hfar⟩, hl20⟩ := plainOf (by assumption : IntsAre _ _)
  obtain ⟨_, _, _, hsf, hss, _⟩ := threeOk_go h3
  have hfl : f.length < 1000 := Nat.lt_trans (smallP_facts hsf).2 (by decide)
  have hsl := Nat.lt_trans (smallP_facts hss).2 (by decide : 50 < 1000)
  have hgl : g.length < 1000 := by rw [signed_length] at hsl; exact hsl
  generalize hxs : List.map (fun k' : Int => k') (List.take 20 _) = xs at f g hf hg h3 hnear hfar hl20 hsl hss
  (repeat' ((fail_if_success (with_reducible show wpAny _ _ (call (Value.ref 206) _) _ _ _)); (fail_if_success (with_reducible show wpAny _ _ (call (Value.ref 199) _) _ _ _)); (fail_if_success (with_reducible show wpAny _ _ (call (Value.ref 211) _) _ _ _)); (fail_if_success (with_reducible show wpAny _ _ (call (Value.ref 79) _) _ _ _)); (fail_if_success (with_reducible show wpAny _ _ (call (Value.ref 105) _) _ _ _)); (fail_if_success (with_reducible show wpAny _ _ (call (Value.ref 86) _) _ _ _)); (fail_if_success (with_reducible show wpAny _ _ (call (Value.ref 62) _) _ _ _)); (first | (k_unfold; (try dsimp only)) | (k_end; wrow_close) | (first | ((with_reducible show wpAny _ _ (call (Value.ref _) _) _ _ _); first | (k_here; (with_reducible show wpAny _ _ (call (Value.ref 62) _) _ _ _); k_dflt (refine Ct.useIntR (R := R1 _) (below_caller _) (by k_asm) (by k_asm) (by k_asm) (by k_asm) (by first | exact rfl | assumption) (r1 (by k_mem) (by (first | (first | assumption | exact (by assumption : ∀ a b : Tok, IntsAre [.int _ a, .int _ b] _) _ _ | exact (by assumption : ∀ a b c : Tok, IntsAre [.int _ a, .int _ b, .int _ c] _) _ _ _ | exact (by assumption : ∀ a b c d : Tok, IntsAre [.int _ a, .int _ b, .int _ c, .int _ d] _) _ _ _ _) | (first | assumption | exact IntsAre.nil | exact IntsAre.cons _ _ .nil)))) ((by assumption : ∀ w mean mg mb, Ct w mean mg mb 62 1 (R1 _) (OInt _)) _ _ _ _) (by ktr_room) (by ktr_units) ?_; (intro t'z h'z tk'z F'z N'z; (try dsimp only); (try k_fold)))) | (k_here; (with_reducible show wpAny _ _ (call (Value.ref 86) _) _ _ _); k_dflt (refine Ct.usePolyR (R := R2 _ _) (below_caller _) (by k_asm) (by k_asm) (by k_asm) (by k_asm) (by first | exact rfl | assumption) (r2 (by k_mem) (by (first | (first | assumption | exact (by assumption : ∀ a b : Tok, IntsAre [.int _ a, .int _ b] _) _ _ | exact (by assumption : ∀ a b c : Tok, IntsAre [.int _ a, .int _ b, .int _ c] _) _ _ _ | exact (by assumption : ∀ a b c d : Tok, IntsAre [.int _ a, .int _ b, .int _ c, .int _ d] _) _ _ _ _) | (first | assumption | exact IntsAre.nil | exact IntsAre.cons _ _ .nil))) (by k_mem) (by (first | (first | assumption | exact (by assumption : ∀ a b : Tok, IntsAre [.int _ a, .int _ b] _) _ _ | exact (by assumption : ∀ a b c : Tok, IntsAre [.int _ a, .int _ b, .int _ c] _) _ _ _ | exact (by assumption : ∀ a b c d : Tok, IntsAre [.int _ a, .int _ b, .int _ c, .int _ d] _) _ _ _ _) | (first | assumption | exact IntsAre.nil | exact IntsAre.cons _ _ .nil)))) ((by assumption : ∀ w mean mg mb, Ct w mean mg mb 86 3 (R2 _ _) (OPoly _)) _ _ _ _) (by ktr_room) (by ktr_units) ?_; (intro D'z us'z n'z h'z tk'z F'z N'z I'z J'z K'z; (try dsimp only); (try k_fold)))) | (k_here; (with_reducible show wpAny _ _ (call (Value.ref 105) _) _ _ _); k_dflt (refine Ct.usePolyR (R := R2 _ _) (below_caller _) (by k_asm) (by k_asm) (by k_asm) (by k_asm) (by first | exact rfl | assumption) (r2 (by k_mem) (by (first | (first | assumption | exact (by assumption : ∀ a b : Tok, IntsAre [.int _ a, .int _ b] _) _ _ | exact (by assumption : ∀ a b c : Tok, IntsAre [.int _ a, .int _ b, .int _ c] _) _ _ _ | exact (by assumption : ∀ a b c d : Tok, IntsAre [.int _ a, .int _ b, .int _ c, .int _ d] _) _ _ _ _) | (first | assumption | exact IntsAre.nil | exact IntsAre.cons _ _ .nil))) (by k_mem) (by (first | (first | assumption | exact (by assumption : ∀ a b : Tok, IntsAre [.int _ a, .int _ b] _) _ _ | exact (by assumption : ∀ a b c : Tok, IntsAre [.int _ a, .int _ b, .int _ c] _) _ _ _ | exact (by assumption : ∀ a b c d : Tok, IntsAre [.int _ a, .int _ b, .int _ c, .int _ d] _) _ _ _ _) | (first | assumption | exact IntsAre.nil | exact IntsAre.cons _ _ .nil)))) ((by assumption : ∀ w mean mg mb, Ct w mean mg mb 105 1 (R2 _ _) (OPoly _)) _ _ _ _) (by ktr_room) (by ktr_units) ?_; (intro D'z us'z n'z h'z tk'z F'z N'z I'z J'z K'z; (try dsimp only); (try k_fold))))) | walk1) | (dsimp only; (first | ((with_reducible show wpAny _ _ (call (Value.ref _) _) _ _ _); first | (k_here; (with_reducible show wpAny _ _ (call (Value.ref 62) _) _ _ _); k_dflt (refine Ct.useIntR (R := R1 _) (below_caller _) (by k_asm) (by k_asm) (by k_asm) (by k_asm) (by first | exact rfl | assumption) (r1 (by k_mem) (by (first | (first | assumption | exact (by assumption : ∀ a b : Tok, IntsAre [.int _ a, .int _ b] _) _ _ | exact (by assumption : ∀ a b c : Tok, IntsAre [.int _ a, .int _ b, .int _ c] _) _ _ _ | exact (by assumption : ∀ a b c d : Tok, IntsAre [.int _ a, .int _ b, .int _ c, .int _ d] _) _ _ _ _) | (first | assumption | exact IntsAre.nil | exact IntsAre.cons _ _ .nil)))) ((by assumption : ∀ w mean mg mb, Ct w mean mg mb 62 1 (R1 _) (OInt _)) _ _ _ _) (by ktr_room) (by ktr_units) ?_; (intro t'z h'z tk'z F'z N'z; (try dsimp only); (try k_fold)))) | (k_here; (with_reducible show wpAny _ _ (call (Value.ref 86) _) _ _ _); k_dflt (refine Ct.usePolyR (R := R2 _ _) (below_caller _) (by k_asm) (by k_asm) (by k_asm) (by k_asm) (by first | exact rfl | assumption) (r2 (by k_mem) (by (first | (first | assumption | exact (by assumption : ∀ a b : Tok, IntsAre [.int _ a, .int _ b] _) _ _ | exact (by assumption : ∀ a b c : Tok, IntsAre [.int _ a, .int _ b, .int _ c] _) _ _ _ | exact (by assumption : ∀ a b c d : Tok, IntsAre [.int _ a, .int _ b, .int _ c, .int _ d] _) _ _ _ _) | (first | assumption | exact IntsAre.nil | exact IntsAre.cons _ _ .nil))) (by k_mem) (by (first | (first | assumption | exact (by assumption : ∀ a b : Tok, IntsAre [.int _ a, .int _ b] _) _ _ | exact (by assumption : ∀ a b c : Tok, IntsAre [.int _ a, .int _ b, .int _ c] _) _ _ _ | exact (by assumption : ∀ a b c d : Tok, IntsAre [.int _ a, .int _ b, .int _ c, .int _ d] _) _ _ _ _) | (first | assumption | exact IntsAre.nil | exact IntsAre.cons _ _ .nil)))) ((by assumption : ∀ w mean mg mb, Ct w mean mg mb 86 3 (R2 _ _) (OPoly _)) _ _ _ _) (by ktr_room) (by ktr_units) ?_; (intro D'z us'z n'z h'z tk'z F'z N'z I'z J'z K'z; (try dsimp only); (try k_fold)))) | (k_here; (with_reducible show wpAny _ _ (call (Value.ref 105) _) _ _ _); k_dflt (refine Ct.usePolyR (R := R2 _ _) (below_caller _) (by k_asm) (by k_asm) (by k_asm) (by k_asm) (by first | exact rfl | assumption) (r2 (by k_mem) (by (first | (first | assumption | exact (by assumption : ∀ a b : Tok, IntsAre [.int _ a, .int _ b] _) _ _ | exact (by assumption : ∀ a b c : Tok, IntsAre [.int _ a, .int _ b, .int _ c] _) _ _ _ | exact (by assumption : ∀ a b c d : Tok, IntsAre [.int _ a, .int _ b, .int _ c, .int _ d] _) _ _ _ _) | (first | assumption | exact IntsAre.nil | exact IntsAre.cons _ _ .nil))) (by k_mem) (by (first | (first | assumption | exact (by assumption : ∀ a b : Tok, IntsAre [.int _ a, .int _ b] _) _ _ | exact (by assumption : ∀ a b c : Tok, IntsAre [.int _ a, .int _ b, .int _ c] _) _ _ _ | exact (by assumption : ∀ a b c d : Tok, IntsAre [.int _ a, .int _ b, .int _ c, .int _ d] _) _ _ _ _) | (first | assumption | exact IntsAre.nil | exact IntsAre.cons _ _ .nil)))) ((by assumption : ∀ w mean mg mb, Ct w mean mg mb 105 1 (R2 _ _) (OPoly _)) _ _ _ _) (by ktr_room) (by ktr_units) ?_; (intro D'z us'z n'z h'z tk'z F'z N'z I'z J'z K'z; (try dsimp only); (try k_fold))))) | walk1)) | (leave1; walk_say "STEP leave1"; try dsimp only) | fail "no step")))
  obtain ⟨pl, pp, rfl, rfl, hne⟩ := nameIt (Nat.ne_of_lt (And.left (by assumption : _ < _ ∧ _)))
  have I₀ := (by assumption : IntsAre _ (List.map (fun k' : Int => k') (List.take 20 _)))
  rw [hxs] at I₀
  refine Ct.useR (R := RLines _ _ _ _) (below_caller _) (by k_asm) (by k_asm) (by k_asm) (by k_asm) rfl (rlines (List.Mem.head _) ⟨_, _, List.Mem.tail _ (List.Mem.head _), I₀⟩ Sub.rfl hne) (t_lines _ _ _ _ _ _ _ _ _ hl20 (by decide) (by decide) hf) (by ktr_room) (by ktr_units) ?_
  intro r1 news1 h1 tk1 F1 N1 O1
  obtain ⟨pf1, rfl, hn1, t1, n1, rest1, N1, hp1, hx1, hoff1, hkeep1⟩ := lines_back O1 hne N1
  clear O1
  ((try dsimp only); (try k_fold))
  (repeat' ((fail_if_success (with_reducible show wpAny _ _ (call (Value.ref 206) _) _ _ _)); (fail_if_success (with_reducible show wpAny _ _ (call (Value.ref 199) _) _ _ _)); (fail_if_success (with_reducible show wpAny _ _ (call (Value.ref 211) _) _ _ _)); (fail_if_success (with_reducible show wpAny _ _ (call (Value.ref 79) _) _ _ _)); (fail_if_success (with_reducible show wpAny _ _ (call (Value.ref 105) _) _ _ _)); (fail_if_success (with_reducible show wpAny _ _ (call (Value.ref 86) _) _ _ _)); (fail_if_success (with_reducible show wpAny _ _ (call (Value.ref 62) _) _ _ _)); (first | (k_unfold; (try dsimp only)) | (k_end; wrow_close) | (first | ((with_reducible show wpAny _ _ (call (Value.ref _) _) _ _ _); first | (k_here; (with_reducible show wpAny _ _ (call (Value.ref 62) _) _ _ _); k_dflt (refine Ct.useIntR (R := R1 _) (below_caller _) (by k_asm) (by k_asm) (by k_asm) (by k_asm) (by first | exact rfl | assumption) (r1 (by k_mem) (by (first | (first | assumption | exact (by assumption : ∀ a b : Tok, IntsAre [.int _ a, .int _ b] _) _ _ | exact (by assumption : ∀ a b c : Tok, IntsAre [.int _ a, .int _ b, .int _ c] _) _ _ _ | exact (by assumption : ∀ a b c d : Tok, IntsAre [.int _ a, .int _ b, .int _ c, .int _ d] _) _ _ _ _) | (first | assumption | exact IntsAre.nil | exact IntsAre.cons _ _ .nil)))) ((by assumption : ∀ w mean mg mb, Ct w mean mg mb 62 1 (R1 _) (OInt _)) _ _ _ _) (by ktr_room) (by ktr_units) ?_; (intro t'z h'z tk'z F'z N'z; (try dsimp only); (try k_fold)))) | (k_here; (with_reducible show wpAny _ _ (call (Value.ref 86) _) _ _ _); k_dflt (refine Ct.usePolyR (R := R2 _ _) (below_caller _) (by k_asm) (by k_asm) (by k_asm) (by k_asm) (by first | exact rfl | assumption) (r2 (by k_mem) (by (first | (first | assumption | exact (by assumption : ∀ a b : Tok, IntsAre [.int _ a, .int _ b] _) _ _ | exact (by assumption : ∀ a b c : Tok, IntsAre [.int _ a, .int _ b, .int _ c] _) _ _ _ | exact (by assumption : ∀ a b c d : Tok, IntsAre [.int _ a, .int _ b, .int _ c, .int _ d] _) _ _ _ _) | (first | assumption | exact IntsAre.nil | exact IntsAre.cons _ _ .nil))) (by k_mem) (by (first | (first | assumption | exact (by assumption : ∀ a b : Tok, IntsAre [.int _ a, .int _ b] _) _ _ | exact (by assumption : ∀ a b c : Tok, IntsAre [.int _ a, .int _ b, .int _ c] _) _ _ _ | exact (by assumption : ∀ a b c d : Tok, IntsAre [.int _ a, .int _ b, .int _ c, .int _ d] _) _ _ _ _) | (first | assumption | exact IntsAre.nil | exact IntsAre.cons _ _ .nil)))) ((by assumption : ∀ w mean mg mb, Ct w mean mg mb 86 3 (R2 _ _) (OPoly _)) _ _ _ _) (by ktr_room) (by ktr_units) ?_; (intro D'z us'z n'z h'z tk'z F'z N'z I'z J'z K'z; (try dsimp only); (try k_fold)))) | (k_here; (with_reducible show wpAny _ _ (call (Value.ref 105) _) _ _ _); k_dflt (refine Ct.usePolyR (R := R2 _ _) (below_caller _) (by k_asm) (by k_asm) (by k_asm) (by k_asm) (by first | exact rfl | assumption) (r2 (by k_mem) (by (first | (first | assumption | exact (by assumption : ∀ a b : Tok, IntsAre [.int _ a, .int _ b] _) _ _ | exact (by assumption : ∀ a b c : Tok, IntsAre [.int _ a, .int _ b, .int _ c] _) _ _ _ | exact (by assumption : ∀ a b c d : Tok, IntsAre [.int _ a, .int _ b, .int _ c, .int _ d] _) _ _ _ _) | (first | assumption | exact IntsAre.nil | exact IntsAre.cons _ _ .nil))) (by k_mem) (by (first | (first | assumption | exact (by assumption : ∀ a b : Tok, IntsAre [.int _ a, .int _ b] _) _ _ | exact (by assumption : ∀ a b c : Tok, IntsAre [.int _ a, .int _ b, .int _ c] _) _ _ _ | exact (by assumption : ∀ a b c d : Tok, IntsAre [.int _ a, .int _ b, .int _ c, .int _ d] _) _ _ _ _) | (first | assumption | exact IntsAre.nil | exact IntsAre.cons _ _ .nil)))) ((by assumption : ∀ w mean mg mb, Ct w mean mg mb 105 1 (R2 _ _) (OPoly _)) _ _ _ _) (by ktr_room) (by ktr_units) ?_; (intro D'z us'z n'z h'z tk'z F'z N'z I'z J'z K'z; (try dsimp only); (try k_fold))))) | walk1) | (dsimp only; (first | ((with_reducible show wpAny _ _ (call (Value.ref _) _) _ _ _); first | (k_here; (with_reducible show wpAny _ _ (call (Value.ref 62) _) _ _ _); k_dflt (refine Ct.useIntR (R := R1 _) (below_caller _) (by k_asm) (by k_asm) (by k_asm) (by k_asm) (by first | exact rfl | assumption) (r1 (by k_mem) (by (first | (first | assumption | exact (by assumption : ∀ a b : Tok, IntsAre [.int _ a, .int _ b] _) _ _ | exact (by assumption : ∀ a b c : Tok, IntsAre [.int _ a, .int _ b, .int _ c] _) _ _ _ | exact (by assumption : ∀ a b c d : Tok, IntsAre [.int _ a, .int _ b, .int _ c, .int _ d] _) _ _ _ _) | (first | assumption | exact IntsAre.nil | exact IntsAre.cons _ _ .nil)))) ((by assumption : ∀ w mean mg mb, Ct w mean mg mb 62 1 (R1 _) (OInt _)) _ _ _ _) (by ktr_room) (by ktr_units) ?_; (intro t'z h'z tk'z F'z N'z; (try dsimp only); (try k_fold)))) | (k_here; (with_reducible show wpAny _ _ (call (Value.ref 86) _) _ _ _); k_dflt (refine Ct.usePolyR (R := R2 _ _) (below_caller _) (by k_asm) (by k_asm) (by k_asm) (by k_asm) (by first | exact rfl | assumption) (r2 (by k_mem) (by (first | (first | assumption | exact (by assumption : ∀ a b : Tok, IntsAre [.int _ a, .int _ b] _) _ _ | exact (by assumption : ∀ a b c : Tok, IntsAre [.int _ a, .int _ b, .int _ c] _) _ _ _ | exact (by assumption : ∀ a b c d : Tok, IntsAre [.int _ a, .int _ b, .int _ c, .int _ d] _) _ _ _ _) | (first | assumption | exact IntsAre.nil | exact IntsAre.cons _ _ .nil))) (by k_mem) (by (first | (first | assumption | exact (by assumption : ∀ a b : Tok, IntsAre [.int _ a, .int _ b] _) _ _ | exact (by assumption : ∀ a b c : Tok, IntsAre [.int _ a, .int _ b, .int _ c] _) _ _ _ | exact (by assumption : ∀ a b c d : Tok, IntsAre [.int _ a, .int _ b, .int _ c, .int _ d] _) _ _ _ _) | (first | assumption | exact IntsAre.nil | exact IntsAre.cons _ _ .nil)))) ((by assumption : ∀ w mean mg mb, Ct w mean mg mb 86 3 (R2 _ _) (OPoly _)) _ _ _ _) (by ktr_room) (by ktr_units) ?_; (intro D'z us'z n'z h'z tk'z F'z N'z I'z J'z K'z; (try dsimp only); (try k_fold)))) | (k_here; (with_reducible show wpAny _ _ (call (Value.ref 105) _) _ _ _); k_dflt (refine Ct.usePolyR (R := R2 _ _) (below_caller _) (by k_asm) (by k_asm) (by k_asm) (by k_asm) (by first | exact rfl | assumption) (r2 (by k_mem) (by (first | (first | assumption | exact (by assumption : ∀ a b : Tok, IntsAre [.int _ a, .int _ b] _) _ _ | exact (by assumption : ∀ a b c : Tok, IntsAre [.int _ a, .int _ b, .int _ c] _) _ _ _ | exact (by assumption : ∀ a b c d : Tok, IntsAre [.int _ a, .int _ b, .int _ c, .int _ d] _) _ _ _ _) | (first | assumption | exact IntsAre.nil | exact IntsAre.cons _ _ .nil))) (by k_mem) (by (first | (first | assumption | exact (by assumption : ∀ a b : Tok, IntsAre [.int _ a, .int _ b] _) _ _ | exact (by assumption : ∀ a b c : Tok, IntsAre [.int _ a, .int _ b, .int _ c] _) _ _ _ | exact (by assumption : ∀ a b c d : Tok, IntsAre [.int _ a, .int _ b, .int _ c, .int _ d] _) _ _ _ _) | (first | assumption | exact IntsAre.nil | exact IntsAre.cons _ _ .nil)))) ((by assumption : ∀ w mean mg mb, Ct w mean mg mb 105 1 (R2 _ _) (OPoly _)) _ _ _ _) (by ktr_room) (by ktr_units) ?_; (intro D'z us'z n'z h'z tk'z F'z N'z I'z J'z K'z; (try dsimp only); (try k_fold))))) | walk1)) | (leave1; walk_say "STEP leave1"; try dsimp only) | fail "no step")))
  dsimp only [Int.reduceAdd] at N1
  refine Ct.useR (R := RLines _ _ _ _) (below_caller _) (by k_asm) (by k_asm) (by k_asm) (by k_asm) rfl (rlines (List.Mem.head _) hx1 (fun q hq => List.Mem.tail _ hq) hne) (t_lines _ _ _ _ _ _ _ _ _ hl20 (by decide) (by decide) hg) (by ktr_room) (by ktr_units) ?_
  intro r2 news2 h2 tk2 F2 N2 O2
  obtain ⟨pf2, rfl, hn2, t2, n2, rest2, N2, hp2, hx2, hoff2, hkeep2⟩ := lines_back O2 hne N2
  clear O2
  dsimp only [Int.reduceAdd] at N2
  have hp1 := poly_keep hp1 (fun q hq => List.Mem.tail _ hq) hn1 hkeep2
  clear hkeep1 hkeep2 hx1 hoff1 N1
  ((try dsimp only); (try k_fold))
  (repeat' ((fail_if_success (with_reducible show wpAny _ _ (eval (Expr.IfExp _ _ _ _) _) _ _ _)); (fail_if_success (with_reducible show wpAny _ _ (call (Value.ref 199) _) _ _ _)); (fail_if_success (with_reducible show wpAny _ _ (call (Value.ref 211) _) _ _ _)); (first | (k_unfold; (try dsimp only)) | (first | ((with_reducible show wpAny _ _ (call (Value.ref _) _) _ _ _); first | (k_here; (with_reducible show wpAny _ _ (call (Value.ref 62) _) _ _ _); k_dflt (refine Ct.useIntR (R := R1 _) (below_caller _) (by k_asm) (by k_asm) (by k_asm) (by k_asm) (by first | exact rfl | assumption) (r1 (by k_mem) (by (first | (first | assumption | exact (by assumption : ∀ a b : Tok, IntsAre [.int _ a, .int _ b] _) _ _ | exact (by assumption : ∀ a b c : Tok, IntsAre [.int _ a, .int _ b, .int _ c] _) _ _ _ | exact (by assumption : ∀ a b c d : Tok, IntsAre [.int _ a, .int _ b, .int _ c, .int _ d] _) _ _ _ _) | (first | assumption | exact IntsAre.nil | exact IntsAre.cons _ _ .nil)))) ((by assumption : ∀ w mean mg mb, Ct w mean mg mb 62 1 (R1 _) (OInt _)) _ _ _ _) (by ktr_room) (by ktr_units) ?_; (intro t'z h'z tk'z F'z N'z; (try dsimp only); (try k_fold)))) | (k_here; (with_reducible show wpAny _ _ (call (Value.ref 86) _) _ _ _); k_dflt (refine Ct.usePolyR (R := R2 _ _) (below_caller _) (by k_asm) (by k_asm) (by k_asm) (by k_asm) (by first | exact rfl | assumption) (r2 (by k_mem) (by (first | (first | assumption | exact (by assumption : ∀ a b : Tok, IntsAre [.int _ a, .int _ b] _) _ _ | exact (by assumption : ∀ a b c : Tok, IntsAre [.int _ a, .int _ b, .int _ c] _) _ _ _ | exact (by assumption : ∀ a b c d : Tok, IntsAre [.int _ a, .int _ b, .int _ c, .int _ d] _) _ _ _ _) | (first | assumption | exact IntsAre.nil | exact IntsAre.cons _ _ .nil))) (by k_mem) (by (first | (first | assumption | exact (by assumption : ∀ a b : Tok, IntsAre [.int _ a, .int _ b] _) _ _ | exact (by assumption : ∀ a b c : Tok, IntsAre [.int _ a, .int _ b, .int _ c] _) _ _ _ | exact (by assumption : ∀ a b c d : Tok, IntsAre [.int _ a, .int _ b, .int _ c, .int _ d] _) _ _ _ _) | (first | assumption | exact IntsAre.nil | exact IntsAre.cons _ _ .nil)))) ((by assumption : ∀ w mean mg mb, Ct w mean mg mb 86 3 (R2 _ _) (OPoly _)) _ _ _ _) (by ktr_room) (by ktr_units) ?_; (intro D'z us'z n'z h'z tk'z F'z N'z I'z J'z K'z; (try dsimp only); (try k_fold)))) | (k_here; (with_reducible show wpAny _ _ (call (Value.ref 105) _) _ _ _); k_dflt (refine Ct.usePolyR (R := R2 _ _) (below_caller _) (by k_asm) (by k_asm) (by k_asm) (by k_asm) (by first | exact rfl | assumption) (r2 (by k_mem) (by (first | (first | assumption | exact (by assumption : ∀ a b : Tok, IntsAre [.int _ a, .int _ b] _) _ _ | exact (by assumption : ∀ a b c : Tok, IntsAre [.int _ a, .int _ b, .int _ c] _) _ _ _ | exact (by assumption : ∀ a b c d : Tok, IntsAre [.int _ a, .int _ b, .int _ c, .int _ d] _) _ _ _ _) | (first | assumption | exact IntsAre.nil | exact IntsAre.cons _ _ .nil))) (by k_mem) (by (first | (first | assumption | exact (by assumption : ∀ a b : Tok, IntsAre [.int _ a, .int _ b] _) _ _ | exact (by assumption : ∀ a b c : Tok, IntsAre [.int _ a, .int _ b, .int _ c] _) _ _ _ | exact (by assumption : ∀ a b c d : Tok, IntsAre [.int _ a, .int _ b, .int _ c, .int _ d] _) _ _ _ _) | (first | assumption | exact IntsAre.nil | exact IntsAre.cons _ _ .nil)))) ((by assumption : ∀ w mean mg mb, Ct w mean mg mb 105 1 (R2 _ _) (OPoly _)) _ _ _ _) (by ktr_room) (by ktr_units) ?_; (intro D'z us'z n'z h'z tk'z F'z N'z I'z J'z K'z; (try dsimp only); (try k_fold))))) | walk1) | (dsimp only; (first | ((with_reducible show wpAny _ _ (call (Value.ref _) _) _ _ _); first | (k_here; (with_reducible show wpAny _ _ (call (Value.ref 62) _) _ _ _); k_dflt (refine Ct.useIntR (R := R1 _) (below_caller _) (by k_asm) (by k_asm) (by k_asm) (by k_asm) (by first | exact rfl | assumption) (r1 (by k_mem) (by (first | (first | assumption | exact (by assumption : ∀ a b : Tok, IntsAre [.int _ a, .int _ b] _) _ _ | exact (by assumption : ∀ a b c : Tok, IntsAre [.int _ a, .int _ b, .int _ c] _) _ _ _ | exact (by assumption : ∀ a b c d : Tok, IntsAre [.int _ a, .int _ b, .int _ c, .int _ d] _) _ _ _ _) | (first | assumption | exact IntsAre.nil | exact IntsAre.cons _ _ .nil)))) ((by assumption : ∀ w mean mg mb, Ct w mean mg mb 62 1 (R1 _) (OInt _)) _ _ _ _) (by ktr_room) (by ktr_units) ?_; (intro t'z h'z tk'z F'z N'z; (try dsimp only); (try k_fold)))) | (k_here; (with_reducible show wpAny _ _ (call (Value.ref 86) _) _ _ _); k_dflt (refine Ct.usePolyR (R := R2 _ _) (below_caller _) (by k_asm) (by k_asm) (by k_asm) (by k_asm) (by first | exact rfl | assumption) (r2 (by k_mem) (by (first | (first | assumption | exact (by assumption : ∀ a b : Tok, IntsAre [.int _ a, .int _ b] _) _ _ | exact (by assumption : ∀ a b c : Tok, IntsAre [.int _ a, .int _ b, .int _ c] _) _ _ _ | exact (by assumption : ∀ a b c d : Tok, IntsAre [.int _ a, .int _ b, .int _ c, .int _ d] _) _ _ _ _) | (first | assumption | exact IntsAre.nil | exact IntsAre.cons _ _ .nil))) (by k_mem) (by (first | (first | assumption | exact (by assumption : ∀ a b : Tok, IntsAre [.int _ a, .int _ b] _) _ _ | exact (by assumption : ∀ a b c : Tok, IntsAre [.int _ a, .int _ b, .int _ c] _) _ _ _ | exact (by assumption : ∀ a b c d : Tok, IntsAre [.int _ a, .int _ b, .int _ c, .int _ d] _) _ _ _ _) | (first | assumption | exact IntsAre.nil | exact IntsAre.cons _ _ .nil)))) ((by assumption : ∀ w mean mg mb, Ct w mean mg mb 86 3 (R2 _ _) (OPoly _)) _ _ _ _) (by ktr_room) (by ktr_units) ?_; (intro D'z us'z n'z h'z tk'z F'z N'z I'z J'z K'z; (try dsimp only); (try k_fold)))) | (k_here; (with_reducible show wpAny _ _ (call (Value.ref 105) _) _ _ _); k_dflt (refine Ct.usePolyR (R := R2 _ _) (below_caller _) (by k_asm) (by k_asm) (by k_asm) (by k_asm) (by first | exact rfl | assumption) (r2 (by k_mem) (by (first | (first | assumption | exact (by assumption : ∀ a b : Tok, IntsAre [.int _ a, .int _ b] _) _ _ | exact (by assumption : ∀ a b c : Tok, IntsAre [.int _ a, .int _ b, .int _ c] _) _ _ _ | exact (by assumption : ∀ a b c d : Tok, IntsAre [.int _ a, .int _ b, .int _ c, .int _ d] _) _ _ _ _) | (first | assumption | exact IntsAre.nil | exact IntsAre.cons _ _ .nil))) (by k_mem) (by (first | (first | assumption | exact (by assumption : ∀ a b : Tok, IntsAre [.int _ a, .int _ b] _) _ _ | exact (by assumption : ∀ a b c : Tok, IntsAre [.int _ a, .int _ b, .int _ c] _) _ _ _ | exact (by assumption : ∀ a b c d : Tok, IntsAre [.int _ a, .int _ b, .int _ c, .int _ d] _) _ _ _ _) | (first | assumption | exact IntsAre.nil | exact IntsAre.cons _ _ .nil)))) ((by assumption : ∀ w mean mg mb, Ct w mean mg mb 105 1 (R2 _ _) (OPoly _)) _ _ _ _) (by ktr_room) (by ktr_units) ?_; (intro D'z us'z n'z h'z tk'z F'z N'z I'z J'z K'z; (try dsimp only); (try k_fold))))) | walk1)) | (leave1; walk_say "STEP leave1"; try dsimp only) | fail "no step")))
  have N2 := news_sub (by assumption : News _ _ _ (_ :: (pp, _) :: rest2)) (fun q hq => List.Mem.tail _ hq)
  refine mono_sign pp pl pf1 xs f (signed xs g) (by k_asm) ?_ ?_
  · clear hnear hfar
    ((try dsimp only); (try k_fold))
    (repeat' ((fail_if_success (with_reducible show wpAny _ _ (call (Value.ref 206) _) _ _ _)); (fail_if_success (with_reducible show wpAny _ _ (call (Value.ref 199) _) _ _ _)); (fail_if_success (with_reducible show wpAny _ _ (call (Value.ref 211) _) _ _ _)); (fail_if_success (with_reducible show wpAny _ _ (call (Value.ref 79) _) _ _ _)); (fail_if_success (with_reducible show wpAny _ _ (call (Value.ref 105) _) _ _ _)); (fail_if_success (with_reducible show wpAny _ _ (call (Value.ref 86) _) _ _ _)); (fail_if_success (with_reducible show wpAny _ _ (call (Value.ref 62) _) _ _ _)); (first | (k_unfold; (try dsimp only)) | (k_end; wrow_close) | (first | ((with_reducible show wpAny _ _ (call (Value.ref _) _) _ _ _); first | (k_here; (with_reducible show wpAny _ _ (call (Value.ref 62) _) _ _ _); k_dflt (refine Ct.useIntR (R := R1 _) (below_caller _) (by k_asm) (by k_asm) (by k_asm) (by k_asm) (by first | exact rfl | assumption) (r1 (by k_mem) (by (first | (first | assumption | exact (by assumption : ∀ a b : Tok, IntsAre [.int _ a, .int _ b] _) _ _ | exact (by assumption : ∀ a b c : Tok, IntsAre [.int _ a, .int _ b, .int _ c] _) _ _ _ | exact (by assumption : ∀ a b c d : Tok, IntsAre [.int _ a, .int _ b, .int _ c, .int _ d] _) _ _ _ _) | (first | assumption | exact IntsAre.nil | exact IntsAre.cons _ _ .nil)))) ((by assumption : ∀ w mean mg mb, Ct w mean mg mb 62 1 (R1 _) (OInt _)) _ _ _ _) (by ktr_room) (by ktr_units) ?_; (intro t'z h'z tk'z F'z N'z; (try dsimp only); (try k_fold)))) | (k_here; (with_reducible show wpAny _ _ (call (Value.ref 86) _) _ _ _); k_dflt (refine Ct.usePolyR (R := R2 _ _) (below_caller _) (by k_asm) (by k_asm) (by k_asm) (by k_asm) (by first | exact rfl | assumption) (r2 (by k_mem) (by (first | (first | assumption | exact (by assumption : ∀ a b : Tok, IntsAre [.int _ a, .int _ b] _) _ _ | exact (by assumption : ∀ a b c : Tok, IntsAre [.int _ a, .int _ b, .int _ c] _) _ _ _ | exact (by assumption : ∀ a b c d : Tok, IntsAre [.int _ a, .int _ b, .int _ c, .int _ d] _) _ _ _ _) | (first | assumption | exact IntsAre.nil | exact IntsAre.cons _ _ .nil))) (by k_mem) (by (first | (first | assumption | exact (by assumption : ∀ a b : Tok, IntsAre [.int _ a, .int _ b] _) _ _ | exact (by assumption : ∀ a b c : Tok, IntsAre [.int _ a, .int _ b, .int _ c] _) _ _ _ | exact (by assumption : ∀ a b c d : Tok, IntsAre [.int _ a, .int _ b, .int _ c, .int _ d] _) _ _ _ _) | (first | assumption | exact IntsAre.nil | exact IntsAre.cons _ _ .nil)))) ((by assumption : ∀ w mean mg mb, Ct w mean mg mb 86 3 (R2 _ _) (OPoly _)) _ _ _ _) (by ktr_room) (by ktr_units) ?_; (intro D'z us'z n'z h'z tk'z F'z N'z I'z J'z K'z; (try dsimp only); (try k_fold)))) | (k_here; (with_reducible show wpAny _ _ (call (Value.ref 105) _) _ _ _); k_dflt (refine Ct.usePolyR (R := R2 _ _) (below_caller _) (by k_asm) (by k_asm) (by k_asm) (by k_asm) (by first | exact rfl | assumption) (r2 (by k_mem) (by (first | (first | assumption | exact (by assumption : ∀ a b : Tok, IntsAre [.int _ a, .int _ b] _) _ _ | exact (by assumption : ∀ a b c : Tok, IntsAre [.int _ a, .int _ b, .int _ c] _) _ _ _ | exact (by assumption : ∀ a b c d : Tok, IntsAre [.int _ a, .int _ b, .int _ c, .int _ d] _) _ _ _ _) | (first | assumption | exact IntsAre.nil | exact IntsAre.cons _ _ .nil))) (by k_mem) (by (first | (first | assumption | exact (by assumption : ∀ a b : Tok, IntsAre [.int _ a, .int _ b] _) _ _ | exact (by assumption : ∀ a b c : Tok, IntsAre [.int _ a, .int _ b, .int _ c] _) _ _ _ | exact (by assumption : ∀ a b c d : Tok, IntsAre [.int _ a, .int _ b, .int _ c, .int _ d] _) _ _ _ _) | (first | assumption | exact IntsAre.nil | exact IntsAre.cons _ _ .nil)))) ((by assumption : ∀ w mean mg mb, Ct w mean mg mb 105 1 (R2 _ _) (OPoly _)) _ _ _ _) (by ktr_room) (by ktr_units) ?_; (intro D'z us'z n'z h'z tk'z F'z N'z I'z J'z K'z; (try dsimp only); (try k_fold))))) | walk1) | (dsimp only; (first | ((with_reducible show wpAny _ _ (call (Value.ref _) _) _ _ _); first | (k_here; (with_reducible show wpAny _ _ (call (Value.ref 62) _) _ _ _); k_dflt (refine Ct.useIntR (R := R1 _) (below_caller _) (by k_asm) (by k_asm) (by k_asm) (by k_asm) (by first | exact rfl | assumption) (r1 (by k_mem) (by (first | (first | assumption | exact (by assumption : ∀ a b : Tok, IntsAre [.int _ a, .int _ b] _) _ _ | exact (by assumption : ∀ a b c : Tok, IntsAre [.int _ a, .int _ b, .int _ c] _) _ _ _ | exact (by assumption : ∀ a b c d : Tok, IntsAre [.int _ a, .int _ b, .int _ c, .int _ d] _) _ _ _ _) | (first | assumption | exact IntsAre.nil | exact IntsAre.cons _ _ .nil)))) ((by assumption : ∀ w mean mg mb, Ct w mean mg mb 62 1 (R1 _) (OInt _)) _ _ _ _) (by ktr_room) (by ktr_units) ?_; (intro t'z h'z tk'z F'z N'z; (try dsimp only); (try k_fold)))) | (k_here; (with_reducible show wpAny _ _ (call (Value.ref 86) _) _ _ _); k_dflt (refine Ct.usePolyR (R := R2 _ _) (below_caller _) (by k_asm) (by k_asm) (by k_asm) (by k_asm) (by first | exact rfl | assumption) (r2 (by k_mem) (by (first | (first | assumption | exact (by assumption : ∀ a b : Tok, IntsAre [.int _ a, .int _ b] _) _ _ | exact (by assumption : ∀ a b c : Tok, IntsAre [.int _ a, .int _ b, .int _ c] _) _ _ _ | exact (by assumption : ∀ a b c d : Tok, IntsAre [.int _ a, .int _ b, .int _ c, .int _ d] _) _ _ _ _) | (first | assumption | exact IntsAre.nil | exact IntsAre.cons _ _ .nil))) (by k_mem) (by (first | (first | assumption | exact (by assumption : ∀ a b : Tok, IntsAre [.int _ a, .int _ b] _) _ _ | exact (by assumption : ∀ a b c : Tok, IntsAre [.int _ a, .int _ b, .int _ c] _) _ _ _ | exact (by assumption : ∀ a b c d : Tok, IntsAre [.int _ a, .int _ b, .int _ c, .int _ d] _) _ _ _ _) | (first | assumption | exact IntsAre.nil | exact IntsAre.cons _ _ .nil)))) ((by assumption : ∀ w mean mg mb, Ct w mean mg mb 86 3 (R2 _ _) (OPoly _)) _ _ _ _) (by ktr_room) (by ktr_units) ?_; (intro D'z us'z n'z h'z tk'z F'z N'z I'z J'z K'z; (try dsimp only); (try k_fold)))) | (k_here; (with_reducible show wpAny _ _ (call (Value.ref 105) _) _ _ _); k_dflt (refine Ct.usePolyR (R := R2 _ _) (below_caller _) (by k_asm) (by k_asm) (by k_asm) (by k_asm) (by first | exact rfl | assumption) (r2 (by k_mem) (by (first | (first | assumption | exact (by assumption : ∀ a b : Tok, IntsAre [.int _ a, .int _ b] _) _ _ | exact (by assumption : ∀ a b c : Tok, IntsAre [.int _ a, .int _ b, .int _ c] _) _ _ _ | exact (by assumption : ∀ a b c d : Tok, IntsAre [.int _ a, .int _ b, .int _ c, .int _ d] _) _ _ _ _) | (first | assumption | exact IntsAre.nil | exact IntsAre.cons _ _ .nil))) (by k_mem) (by (first | (first | assumption | exact (by assumption : ∀ a b : Tok, IntsAre [.int _ a, .int _ b] _) _ _ | exact (by assumption : ∀ a b c : Tok, IntsAre [.int _ a, .int _ b, .int _ c] _) _ _ _ | exact (by assumption : ∀ a b c d : Tok, IntsAre [.int _ a, .int _ b, .int _ c, .int _ d] _) _ _ _ _) | (first | assumption | exact IntsAre.nil | exact IntsAre.cons _ _ .nil)))) ((by assumption : ∀ w mean mg mb, Ct w mean mg mb 105 1 (R2 _ _) (OPoly _)) _ _ _ _) (by ktr_room) (by ktr_units) ?_; (intro D'z us'z n'z h'z tk'z F'z N'z I'z J'z K'z; (try dsimp only); (try k_fold))))) | walk1)) | (leave1; walk_say "STEP leave1"; try dsimp only) | fail "no step")))
    refine Ct.useR (R := RDraw _ _ _ _ _) (below_caller _) (by k_asm) (by k_asm) (by k_asm) (by k_asm) rfl (rdraw (List.Mem.head _) hx2 (fun q hq => List.Mem.tail _ (hq)) hne) (t_draw _ _ _ _ _ _ _ _ _ hl20 (by decide) (by decide) (by decide) (by decide)) (by ktr_room) (by ktr_units) ?_
    intro r3 news3 h3' tk3 F3 N3 O3
    obtain ⟨t3, rfl, t3', n3, rest3, N3, hx3, hoff3, hkeep3⟩ := draw_back O3 hne N3
    clear O3
    dsimp only [Int.reduceAdd] at N3
    have hp1 := poly_keep hp1 (fun q hq => List.Mem.tail _ hq) hn1 hkeep3
    have hp2 := poly_keep hp2 (fun q hq => List.Mem.tail _ hq) hn2 hkeep3
    clear hkeep3 hx2 hoff2
    ((try dsimp only); (try k_fold))
    (repeat' ((fail_if_success (with_reducible show wpAny _ _ (call (Value.ref 206) _) _ _ _)); (fail_if_success (with_reducible show wpAny _ _ (call (Value.ref 199) _) _ _ _)); (fail_if_success (with_reducible show wpAny _ _ (call (Value.ref 211) _) _ _ _)); (fail_if_success (with_reducible show wpAny _ _ (call (Value.ref 79) _) _ _ _)); (fail_if_success (with_reducible show wpAny _ _ (call (Value.ref 105) _) _ _ _)); (fail_if_success (with_reducible show wpAny _ _ (call (Value.ref 86) _) _ _ _)); (fail_if_success (with_reducible show wpAny _ _ (call (Value.ref 62) _) _ _ _)); (first | (k_unfold; (try dsimp only)) | (k_end; wrow_close) | (first | ((with_reducible show wpAny _ _ (call (Value.ref _) _) _ _ _); first | (k_here; (with_reducible show wpAny _ _ (call (Value.ref 62) _) _ _ _); k_dflt (refine Ct.useIntR (R := R1 _) (below_caller _) (by k_asm) (by k_asm) (by k_asm) (by k_asm) (by first | exact rfl | assumption) (r1 (by k_mem) (by (first | (first | assumption | exact (by assumption : ∀ a b : Tok, IntsAre [.int _ a, .int _ b] _) _ _ | exact (by assumption : ∀ a b c : Tok, IntsAre [.int _ a, .int _ b, .int _ c] _) _ _ _ | exact (by assumption : ∀ a b c d : Tok, IntsAre [.int _ a, .int _ b, .int _ c, .int _ d] _) _ _ _ _) | (first | assumption | exact IntsAre.nil | exact IntsAre.cons _ _ .nil)))) ((by assumption : ∀ w mean mg mb, Ct w mean mg mb 62 1 (R1 _) (OInt _)) _ _ _ _) (by ktr_room) (by ktr_units) ?_; (intro t'z h'z tk'z F'z N'z; (try dsimp only); (try k_fold)))) | (k_here; (with_reducible show wpAny _ _ (call (Value.ref 86) _) _ _ _); k_dflt (refine Ct.usePolyR (R := R2 _ _) (below_caller _) (by k_asm) (by k_asm) (by k_asm) (by k_asm) (by first | exact rfl | assumption) (r2 (by k_mem) (by (first | (first | assumption | exact (by assumption : ∀ a b : Tok, IntsAre [.int _ a, .int _ b] _) _ _ | exact (by assumption : ∀ a b c : Tok, IntsAre [.int _ a, .int _ b, .int _ c] _) _ _ _ | exact (by assumption : ∀ a b c d : Tok, IntsAre [.int _ a, .int _ b, .int _ c, .int _ d] _) _ _ _ _) | (first | assumption | exact IntsAre.nil | exact IntsAre.cons _ _ .nil))) (by k_mem) (by (first | (first | assumption | exact (by assumption : ∀ a b : Tok, IntsAre [.int _ a, .int _ b] _) _ _ | exact (by assumption : ∀ a b c : Tok, IntsAre [.int _ a, .int _ b, .int _ c] _) _ _ _ | exact (by assumption : ∀ a b c d : Tok, IntsAre [.int _ a, .int _ b, .int _ c, .int _ d] _) _ _ _ _) | (first | assumption | exact IntsAre.nil | exact IntsAre.cons _ _ .nil)))) ((by assumption : ∀ w mean mg mb, Ct w mean mg mb 86 3 (R2 _ _) (OPoly _)) _ _ _ _) (by ktr_room) (by ktr_units) ?_; (intro D'z us'z n'z h'z tk'z F'z N'z I'z J'z K'z; (try dsimp only); (try k_fold)))) | (k_here; (with_reducible show wpAny _ _ (call (Value.ref 105) _) _ _ _); k_dflt (refine Ct.usePolyR (R := R2 _ _) (below_caller _) (by k_asm) (by k_asm) (by k_asm) (by k_asm) (by first | exact rfl | assumption) (r2 (by k_mem) (by (first | (first | assumption | exact (by assumption : ∀ a b : Tok, IntsAre [.int _ a, .int _ b] _) _ _ | exact (by assumption : ∀ a b c : Tok, IntsAre [.int _ a, .int _ b, .int _ c] _) _ _ _ | exact (by assumption : ∀ a b c d : Tok, IntsAre [.int _ a, .int _ b, .int _ c, .int _ d] _) _ _ _ _) | (first | assumption | exact IntsAre.nil | exact IntsAre.cons _ _ .nil))) (by k_mem) (by (first | (first | assumption | exact (by assumption : ∀ a b : Tok, IntsAre [.int _ a, .int _ b] _) _ _ | exact (by assumption : ∀ a b c : Tok, IntsAre [.int _ a, .int _ b, .int _ c] _) _ _ _ | exact (by assumption : ∀ a b c d : Tok, IntsAre [.int _ a, .int _ b, .int _ c, .int _ d] _) _ _ _ _) | (first | assumption | exact IntsAre.nil | exact IntsAre.cons _ _ .nil)))) ((by assumption : ∀ w mean mg mb, Ct w mean mg mb 105 1 (R2 _ _) (OPoly _)) _ _ _ _) (by ktr_room) (by ktr_units) ?_; (intro D'z us'z n'z h'z tk'z F'z N'z I'z J'z K'z; (try dsimp only); (try k_fold))))) | walk1) | (dsimp only; (first | ((with_reducible show wpAny _ _ (call (Value.ref _) _) _ _ _); first | (k_here; (with_reducible show wpAny _ _ (call (Value.ref 62) _) _ _ _); k_dflt (refine Ct.useIntR (R := R1 _) (below_caller _) (by k_asm) (by k_asm) (by k_asm) (by k_asm) (by first | exact rfl | assumption) (r1 (by k_mem) (by (first | (first | assumption | exact (by assumption : ∀ a b : Tok, IntsAre [.int _ a, .int _ b] _) _ _ | exact (by assumption : ∀ a b c : Tok, IntsAre [.int _ a, .int _ b, .int _ c] _) _ _ _ | exact (by assumption : ∀ a b c d : Tok, IntsAre [.int _ a, .int _ b, .int _ c, .int _ d] _) _ _ _ _) | (first | assumption | exact IntsAre.nil | exact IntsAre.cons _ _ .nil)))) ((by assumption : ∀ w mean mg mb, Ct w mean mg mb 62 1 (R1 _) (OInt _)) _ _ _ _) (by ktr_room) (by ktr_units) ?_; (intro t'z h'z tk'z F'z N'z; (try dsimp only); (try k_fold)))) | (k_here; (with_reducible show wpAny _ _ (call (Value.ref 86) _) _ _ _); k_dflt (refine Ct.usePolyR (R := R2 _ _) (below_caller _) (by k_asm) (by k_asm) (by k_asm) (by k_asm) (by first | exact rfl | assumption) (r2 (by k_mem) (by (first | (first | assumption | exact (by assumption : ∀ a b : Tok, IntsAre [.int _ a, .int _ b] _) _ _ | exact (by assumption : ∀ a b c : Tok, IntsAre [.int _ a, .int _ b, .int _ c] _) _ _ _ | exact (by assumption : ∀ a b c d : Tok, IntsAre [.int _ a, .int _ b, .int _ c, .int _ d] _) _ _ _ _) | (first | assumption | exact IntsAre.nil | exact IntsAre.cons _ _ .nil))) (by k_mem) (by (first | (first | assumption | exact (by assumption : ∀ a b : Tok, IntsAre [.int _ a, .int _ b] _) _ _ | exact (by assumption : ∀ a b c : Tok, IntsAre [.int _ a, .int _ b, .int _ c] _) _ _ _ | exact (by assumption : ∀ a b c d : Tok, IntsAre [.int _ a, .int _ b, .int _ c, .int _ d] _) _ _ _ _) | (first | assumption | exact IntsAre.nil | exact IntsAre.cons _ _ .nil)))) ((by assumption : ∀ w mean mg mb, Ct w mean mg mb 86 3 (R2 _ _) (OPoly _)) _ _ _ _) (by ktr_room) (by ktr_units) ?_; (intro D'z us'z n'z h'z tk'z F'z N'z I'z J'z K'z; (try dsimp only); (try k_fold)))) | (k_here; (with_reducible show wpAny _ _ (call (Value.ref 105) _) _ _ _); k_dflt (refine Ct.usePolyR (R := R2 _ _) (below_caller _) (by k_asm) (by k_asm) (by k_asm) (by k_asm) (by first | exact rfl | assumption) (r2 (by k_mem) (by (first | (first | assumption | exact (by assumption : ∀ a b : Tok, IntsAre [.int _ a, .int _ b] _) _ _ | exact (by assumption : ∀ a b c : Tok, IntsAre [.int _ a, .int _ b, .int _ c] _) _ _ _ | exact (by assumption : ∀ a b c d : Tok, IntsAre [.int _ a, .int _ b, .int _ c, .int _ d] _) _ _ _ _) | (first | assumption | exact IntsAre.nil | exact IntsAre.cons _ _ .nil))) (by k_mem) (by (first | (first | assumption | exact (by assumption : ∀ a b : Tok, IntsAre [.int _ a, .int _ b] _) _ _ | exact (by assumption : ∀ a b c : Tok, IntsAre [.int _ a, .int _ b, .int _ c] _) _ _ _ | exact (by assumption : ∀ a b c d : Tok, IntsAre [.int _ a, .int _ b, .int _ c, .int _ d] _) _ _ _ _) | (first | assumption | exact IntsAre.nil | exact IntsAre.cons _ _ .nil)))) ((by assumption : ∀ w mean mg mb, Ct w mean mg mb 105 1 (R2 _ _) (OPoly _)) _ _ _ _) (by ktr_room) (by ktr_units) ?_; (intro D'z us'z n'z h'z tk'z F'z N'z I'z J'z K'z; (try dsimp only); (try k_fold))))) | walk1)) | (leave1; walk_say "STEP leave1"; try dsimp only) | fail "no step")))
    all_goals first
      | (have hs : drawP xs 10 2 = 1 := (by assumption);
         have esg : signed xs g = g.map fun x => -x := (by rw [signed, if_pos hs]);
         refine Ct.usePolyR (R := R1 _) (below_caller _) (by k_asm) (by k_asm) (by k_asm) (by k_asm) rfl (r1p hp2 (fun q hq => List.Mem.tail _ hq)) (t_zneg _ _ _ _ _ hgl) (by ktr_room) (by ktr_units) ?_;
         intro D4 us4 n4 h4 tk4 F4 N4 I4 J4 K4;
         ((try dsimp only); (try k_fold));
         exact (⟨D4, h4, tk4, _, _, _, rfl, rfl, F4, news_swap N4, poly_up hp1 (fun q hq => List.Mem.tail _ hq), by rw [esg]; exact ⟨_, _, List.Mem.head _, I4⟩, poly_up hx3 (fun q hq => List.Mem.tail _ hq)⟩ : JSign _ _ _ _ pp pl pf1 xs f (signed xs g) _ _))
      | (have hs : ¬ drawP xs 10 2 = 1 := (by assumption);
         have esg : signed xs g = g := (by rw [signed, if_neg hs]);
         exact (⟨pf2, _, _, _, _, _, rfl, rfl, by k_asm, by k_asm, hp1, by rw [esg]; exact hp2, hx3⟩ : JSign _ _ _ _ pp pl pf1 xs f (signed xs g) _ _))
  · intro pg h3' tk3 rest3 t3 n3 F3 N3 hp1 hp2 hx3
    clear N2
    ((try dsimp only); (try k_fold))
    (repeat' ((fail_if_success (with_reducible show wpAny _ _ (eval (Expr.IfExp _ _ _ _) _) _ _ _)); (fail_if_success (with_reducible show wpAny _ _ (call (Value.ref 199) _) _ _ _)); (fail_if_success (with_reducible show wpAny _ _ (call (Value.ref 211) _) _ _ _)); (first | (k_unfold; (try dsimp only)) | (first | ((with_reducible show wpAny _ _ (call (Value.ref _) _) _ _ _); first | (k_here; (with_reducible show wpAny _ _ (call (Value.ref 62) _) _ _ _); k_dflt (refine Ct.useIntR (R := R1 _) (below_caller _) (by k_asm) (by k_asm) (by k_asm) (by k_asm) (by first | exact rfl | assumption) (r1 (by k_mem) (by (first | (first | assumption | exact (by assumption : ∀ a b : Tok, IntsAre [.int _ a, .int _ b] _) _ _ | exact (by assumption : ∀ a b c : Tok, IntsAre [.int _ a, .int _ b, .int _ c] _) _ _ _ | exact (by assumption : ∀ a b c d : Tok, IntsAre [.int _ a, .int _ b, .int _ c, .int _ d] _) _ _ _ _) | (first | assumption | exact IntsAre.nil | exact IntsAre.cons _ _ .nil)))) ((by assumption : ∀ w mean mg mb, Ct w mean mg mb 62 1 (R1 _) (OInt _)) _ _ _ _) (by ktr_room) (by ktr_units) ?_; (intro t'z h'z tk'z F'z N'z; (try dsimp only); (try k_fold)))) | (k_here; (with_reducible show wpAny _ _ (call (Value.ref 86) _) _ _ _); k_dflt (refine Ct.usePolyR (R := R2 _ _) (below_caller _) (by k_asm) (by k_asm) (by k_asm) (by k_asm) (by first | exact rfl | assumption) (r2 (by k_mem) (by (first | (first | assumption | exact (by assumption : ∀ a b : Tok, IntsAre [.int _ a, .int _ b] _) _ _ | exact (by assumption : ∀ a b c : Tok, IntsAre [.int _ a, .int _ b, .int _ c] _) _ _ _ | exact (by assumption : ∀ a b c d : Tok, IntsAre [.int _ a, .int _ b, .int _ c, .int _ d] _) _ _ _ _) | (first | assumption | exact IntsAre.nil | exact IntsAre.cons _ _ .nil))) (by k_mem) (by (first | (first | assumption | exact (by assumption : ∀ a b : Tok, IntsAre [.int _ a, .int _ b] _) _ _ | exact (by assumption : ∀ a b c : Tok, IntsAre [.int _ a, .int _ b, .int _ c] _) _ _ _ | exact (by assumption : ∀ a b c d : Tok, IntsAre [.int _ a, .int _ b, .int _ c, .int _ d] _) _ _ _ _) | (first | assumption | exact IntsAre.nil | exact IntsAre.cons _ _ .nil)))) ((by assumption : ∀ w mean mg mb, Ct w mean mg mb 86 3 (R2 _ _) (OPoly _)) _ _ _ _) (by ktr_room) (by ktr_units) ?_; (intro D'z us'z n'z h'z tk'z F'z N'z I'z J'z K'z; (try dsimp only); (try k_fold)))) | (k_here; (with_reducible show wpAny _ _ (call (Value.ref 105) _) _ _ _); k_dflt (refine Ct.usePolyR (R := R2 _ _) (below_caller _) (by k_asm) (by k_asm) (by k_asm) (by k_asm) (by first | exact rfl | assumption) (r2 (by k_mem) (by (first | (first | assumption | exact (by assumption : ∀ a b : Tok, IntsAre [.int _ a, .int _ b] _) _ _ | exact (by assumption : ∀ a b c : Tok, IntsAre [.int _ a, .int _ b, .int _ c] _) _ _ _ | exact (by assumption : ∀ a b c d : Tok, IntsAre [.int _ a, .int _ b, .int _ c, .int _ d] _) _ _ _ _) | (first | assumption | exact IntsAre.nil | exact IntsAre.cons _ _ .nil))) (by k_mem) (by (first | (first | assumption | exact (by assumption : ∀ a b : Tok, IntsAre [.int _ a, .int _ b] _) _ _ | exact (by assumption : ∀ a b c : Tok, IntsAre [.int _ a, .int _ b, .int _ c] _) _ _ _ | exact (by assumption : ∀ a b c d : Tok, IntsAre [.int _ a, .int _ b, .int _ c, .int _ d] _) _ _ _ _) | (first | assumption | exact IntsAre.nil | exact IntsAre.cons _ _ .nil)))) ((by assumption : ∀ w mean mg mb, Ct w mean mg mb 105 1 (R2 _ _) (OPoly _)) _ _ _ _) (by ktr_room) (by ktr_units) ?_; (intro D'z us'z n'z h'z tk'z F'z N'z I'z J'z K'z; (try dsimp only); (try k_fold))))) | walk1) | (dsimp only; (first | ((with_reducible show wpAny _ _ (call (Value.ref _) _) _ _ _); first | (k_here; (with_reducible show wpAny _ _ (call (Value.ref 62) _) _ _ _); k_dflt (refine Ct.useIntR (R := R1 _) (below_caller _) (by k_asm) (by k_asm) (by k_asm) (by k_asm) (by first | exact rfl | assumption) (r1 (by k_mem) (by (first | (first | assumption | exact (by assumption : ∀ a b : Tok, IntsAre [.int _ a, .int _ b] _) _ _ | exact (by assumption : ∀ a b c : Tok, IntsAre [.int _ a, .int _ b, .int _ c] _) _ _ _ | exact (by assumption : ∀ a b c d : Tok, IntsAre [.int _ a, .int _ b, .int _ c, .int _ d] _) _ _ _ _) | (first | assumption | exact IntsAre.nil | exact IntsAre.cons _ _ .nil)))) ((by assumption : ∀ w mean mg mb, Ct w mean mg mb 62 1 (R1 _) (OInt _)) _ _ _ _) (by ktr_room) (by ktr_units) ?_; (intro t'z h'z tk'z F'z N'z; (try dsimp only); (try k_fold)))) | (k_here; (with_reducible show wpAny _ _ (call (Value.ref 86) _) _ _ _); k_dflt (refine Ct.usePolyR (R := R2 _ _) (below_caller _) (by k_asm) (by k_asm) (by k_asm) (by k_asm) (by first | exact rfl | assumption) (r2 (by k_mem) (by (first | (first | assumption | exact (by assumption : ∀ a b : Tok, IntsAre [.int _ a, .int _ b] _) _ _ | exact (by assumption : ∀ a b c : Tok, IntsAre [.int _ a, .int _ b, .int _ c] _) _ _ _ | exact (by assumption : ∀ a b c d : Tok, IntsAre [.int _ a, .int _ b, .int _ c, .int _ d] _) _ _ _ _) | (first | assumption | exact IntsAre.nil | exact IntsAre.cons _ _ .nil))) (by k_mem) (by (first | (first | assumption | exact (by assumption : ∀ a b : Tok, IntsAre [.int _ a, .int _ b] _) _ _ | exact (by assumption : ∀ a b c : Tok, IntsAre [.int _ a, .int _ b, .int _ c] _) _ _ _ | exact (by assumption : ∀ a b c d : Tok, IntsAre [.int _ a, .int _ b, .int _ c, .int _ d] _) _ _ _ _) | (first | assumption | exact IntsAre.nil | exact IntsAre.cons _ _ .nil)))) ((by assumption : ∀ w mean mg mb, Ct w mean mg mb 86 3 (R2 _ _) (OPoly _)) _ _ _ _) (by ktr_room) (by ktr_units) ?_; (intro D'z us'z n'z h'z tk'z F'z N'z I'z J'z K'z; (try dsimp only); (try k_fold)))) | (k_here; (with_reducible show wpAny _ _ (call (Value.ref 105) _) _ _ _); k_dflt (refine Ct.usePolyR (R := R2 _ _) (below_caller _) (by k_asm) (by k_asm) (by k_asm) (by k_asm) (by first | exact rfl | assumption) (r2 (by k_mem) (by (first | (first | assumption | exact (by assumption : ∀ a b : Tok, IntsAre [.int _ a, .int _ b] _) _ _ | exact (by assumption : ∀ a b c : Tok, IntsAre [.int _ a, .int _ b, .int _ c] _) _ _ _ | exact (by assumption : ∀ a b c d : Tok, IntsAre [.int _ a, .int _ b, .int _ c, .int _ d] _) _ _ _ _) | (first | assumption | exact IntsAre.nil | exact IntsAre.cons _ _ .nil))) (by k_mem) (by (first | (first | assumption | exact (by assumption : ∀ a b : Tok, IntsAre [.int _ a, .int _ b] _) _ _ | exact (by assumption : ∀ a b c : Tok, IntsAre [.int _ a, .int _ b, .int _ c] _) _ _ _ | exact (by assumption : ∀ a b c d : Tok, IntsAre [.int _ a, .int _ b, .int _ c, .int _ d] _) _ _ _ _) | (first | assumption | exact IntsAre.nil | exact IntsAre.cons _ _ .nil)))) ((by assumption : ∀ w mean mg mb, Ct w mean mg mb 105 1 (R2 _ _) (OPoly _)) _ _ _ _) (by ktr_room) (by ktr_units) ?_; (intro D'z us'z n'z h'z tk'z F'z N'z I'z J'z K'z; (try dsimp only); (try k_fold))))) | walk1)) | (leave1; walk_say "STEP leave1"; try dsimp only) | fail "no step")))
    refine Ct.useR (R := R2 _ _) (below_caller _) (by k_asm) (by k_asm) (by k_asm) (by k_asm) rfl (r2p hp1 (fun q hq => List.Mem.tail _ hq) hp2 (fun q hq => List.Mem.tail _ hq)) (t_three _ _ _ _ _ _ hfl hsl h3) (by ktr_room) (by ktr_units) ?_
    rintro r5 news5 h5 tk5 F5 N5 ⟨hs5, rfl⟩
    have N5 := news_sub N5 hs5
    clear hs5 hp1 hp2 h3 hsl hfl hgl hss hf hg N3
    ((try dsimp only); (try k_fold))
    (repeat' ((fail_if_success (with_reducible show wpAny _ _ (call (Value.ref 206) _) _ _ _)); (fail_if_success (with_reducible show wpAny _ _ (call (Value.ref 199) _) _ _ _)); (fail_if_success (with_reducible show wpAny _ _ (call (Value.ref 211) _) _ _ _)); (fail_if_success (with_reducible show wpAny _ _ (call (Value.ref 79) _) _ _ _)); (fail_if_success (with_reducible show wpAny _ _ (call (Value.ref 105) _) _ _ _)); (fail_if_success (with_reducible show wpAny _ _ (call (Value.ref 86) _) _ _ _)); (fail_if_success (with_reducible show wpAny _ _ (call (Value.ref 62) _) _ _ _)); (first | (k_unfold; (try dsimp only)) | (k_end; wrow_close) | (first | ((with_reducible show wpAny _ _ (call (Value.ref _) _) _ _ _); first | (k_here; (with_reducible show wpAny _ _ (call (Value.ref 62) _) _ _ _); k_dflt (refine Ct.useIntR (R := R1 _) (below_caller _) (by k_asm) (by k_asm) (by k_asm) (by k_asm) (by first | exact rfl | assumption) (r1 (by k_mem) (by (first | (first | assumption | exact (by assumption : ∀ a b : Tok, IntsAre [.int _ a, .int _ b] _) _ _ | exact (by assumption : ∀ a b c : Tok, IntsAre [.int _ a, .int _ b, .int _ c] _) _ _ _ | exact (by assumption : ∀ a b c d : Tok, IntsAre [.int _ a, .int _ b, .int _ c, .int _ d] _) _ _ _ _) | (first | assumption | exact IntsAre.nil | exact IntsAre.cons _ _ .nil)))) ((by assumption : ∀ w mean mg mb, Ct w mean mg mb 62 1 (R1 _) (OInt _)) _ _ _ _) (by ktr_room) (by ktr_units) ?_; (intro t'z h'z tk'z F'z N'z; (try dsimp only); (try k_fold)))) | (k_here; (with_reducible show wpAny _ _ (call (Value.ref 86) _) _ _ _); k_dflt (refine Ct.usePolyR (R := R2 _ _) (below_caller _) (by k_asm) (by k_asm) (by k_asm) (by k_asm) (by first | exact rfl | assumption) (r2 (by k_mem) (by (first | (first | assumption | exact (by assumption : ∀ a b : Tok, IntsAre [.int _ a, .int _ b] _) _ _ | exact (by assumption : ∀ a b c : Tok, IntsAre [.int _ a, .int _ b, .int _ c] _) _ _ _ | exact (by assumption : ∀ a b c d : Tok, IntsAre [.int _ a, .int _ b, .int _ c, .int _ d] _) _ _ _ _) | (first | assumption | exact IntsAre.nil | exact IntsAre.cons _ _ .nil))) (by k_mem) (by (first | (first | assumption | exact (by assumption : ∀ a b : Tok, IntsAre [.int _ a, .int _ b] _) _ _ | exact (by assumption : ∀ a b c : Tok, IntsAre [.int _ a, .int _ b, .int _ c] _) _ _ _ | exact (by assumption : ∀ a b c d : Tok, IntsAre [.int _ a, .int _ b, .int _ c, .int _ d] _) _ _ _ _) | (first | assumption | exact IntsAre.nil | exact IntsAre.cons _ _ .nil)))) ((by assumption : ∀ w mean mg mb, Ct w mean mg mb 86 3 (R2 _ _) (OPoly _)) _ _ _ _) (by ktr_room) (by ktr_units) ?_; (intro D'z us'z n'z h'z tk'z F'z N'z I'z J'z K'z; (try dsimp only); (try k_fold)))) | (k_here; (with_reducible show wpAny _ _ (call (Value.ref 105) _) _ _ _); k_dflt (refine Ct.usePolyR (R := R2 _ _) (below_caller _) (by k_asm) (by k_asm) (by k_asm) (by k_asm) (by first | exact rfl | assumption) (r2 (by k_mem) (by (first | (first | assumption | exact (by assumption : ∀ a b : Tok, IntsAre [.int _ a, .int _ b] _) _ _ | exact (by assumption : ∀ a b c : Tok, IntsAre [.int _ a, .int _ b, .int _ c] _) _ _ _ | exact (by assumption : ∀ a b c d : Tok, IntsAre [.int _ a, .int _ b, .int _ c, .int _ d] _) _ _ _ _) | (first | assumption | exact IntsAre.nil | exact IntsAre.cons _ _ .nil))) (by k_mem) (by (first | (first | assumption | exact (by assumption : ∀ a b : Tok, IntsAre [.int _ a, .int _ b] _) _ _ | exact (by assumption : ∀ a b c : Tok, IntsAre [.int _ a, .int _ b, .int _ c] _) _ _ _ | exact (by assumption : ∀ a b c d : Tok, IntsAre [.int _ a, .int _ b, .int _ c, .int _ d] _) _ _ _ _) | (first | assumption | exact IntsAre.nil | exact IntsAre.cons _ _ .nil)))) ((by assumption : ∀ w mean mg mb, Ct w mean mg mb 105 1 (R2 _ _) (OPoly _)) _ _ _ _) (by ktr_room) (by ktr_units) ?_; (intro D'z us'z n'z h'z tk'z F'z N'z I'z J'z K'z; (try dsimp only); (try k_fold))))) | walk1) | (dsimp only; (first | ((with_reducible show wpAny _ _ (call (Value.ref _) _) _ _ _); first | (k_here; (with_reducible show wpAny _ _ (call (Value.ref 62) _) _ _ _); k_dflt (refine Ct.useIntR (R := R1 _) (below_caller _) (by k_asm) (by k_asm) (by k_asm) (by k_asm) (by first | exact rfl | assumption) (r1 (by k_mem) (by (first | (first | assumption | exact (by assumption : ∀ a b : Tok, IntsAre [.int _ a, .int _ b] _) _ _ | exact (by assumption : ∀ a b c : Tok, IntsAre [.int _ a, .int _ b, .int _ c] _) _ _ _ | exact (by assumption : ∀ a b c d : Tok, IntsAre [.int _ a, .int _ b, .int _ c, .int _ d] _) _ _ _ _) | (first | assumption | exact IntsAre.nil | exact IntsAre.cons _ _ .nil)))) ((by assumption : ∀ w mean mg mb, Ct w mean mg mb 62 1 (R1 _) (OInt _)) _ _ _ _) (by ktr_room) (by ktr_units) ?_; (intro t'z h'z tk'z F'z N'z; (try dsimp only); (try k_fold)))) | (k_here; (with_reducible show wpAny _ _ (call (Value.ref 86) _) _ _ _); k_dflt (refine Ct.usePolyR (R := R2 _ _) (below_caller _) (by k_asm) (by k_asm) (by k_asm) (by k_asm) (by first | exact rfl | assumption) (r2 (by k_mem) (by (first | (first | assumption | exact (by assumption : ∀ a b : Tok, IntsAre [.int _ a, .int _ b] _) _ _ | exact (by assumption : ∀ a b c : Tok, IntsAre [.int _ a, .int _ b, .int _ c] _) _ _ _ | exact (by assumption : ∀ a b c d : Tok, IntsAre [.int _ a, .int _ b, .int _ c, .int _ d] _) _ _ _ _) | (first | assumption | exact IntsAre.nil | exact IntsAre.cons _ _ .nil))) (by k_mem) (by (first | (first | assumption | exact (by assumption : ∀ a b : Tok, IntsAre [.int _ a, .int _ b] _) _ _ | exact (by assumption : ∀ a b c : Tok, IntsAre [.int _ a, .int _ b, .int _ c] _) _ _ _ | exact (by assumption : ∀ a b c d : Tok, IntsAre [.int _ a, .int _ b, .int _ c, .int _ d] _) _ _ _ _) | (first | assumption | exact IntsAre.nil | exact IntsAre.cons _ _ .nil)))) ((by assumption : ∀ w mean mg mb, Ct w mean mg mb 86 3 (R2 _ _) (OPoly _)) _ _ _ _) (by ktr_room) (by ktr_units) ?_; (intro D'z us'z n'z h'z tk'z F'z N'z I'z J'z K'z; (try dsimp only); (try k_fold)))) | (k_here; (with_reducible show wpAny _ _ (call (Value.ref 105) _) _ _ _); k_dflt (refine Ct.usePolyR (R := R2 _ _) (below_caller _) (by k_asm) (by k_asm) (by k_asm) (by k_asm) (by first | exact rfl | assumption) (r2 (by k_mem) (by (first | (first | assumption | exact (by assumption : ∀ a b : Tok, IntsAre [.int _ a, .int _ b] _) _ _ | exact (by assumption : ∀ a b c : Tok, IntsAre [.int _ a, .int _ b, .int _ c] _) _ _ _ | exact (by assumption : ∀ a b c d : Tok, IntsAre [.int _ a, .int _ b, .int _ c, .int _ d] _) _ _ _ _) | (first | assumption | exact IntsAre.nil | exact IntsAre.cons _ _ .nil))) (by k_mem) (by (first | (first | assumption | exact (by assumption : ∀ a b : Tok, IntsAre [.int _ a, .int _ b] _) _ _ | exact (by assumption : ∀ a b c : Tok, IntsAre [.int _ a, .int _ b, .int _ c] _) _ _ _ | exact (by assumption : ∀ a b c d : Tok, IntsAre [.int _ a, .int _ b, .int _ c, .int _ d] _) _ _ _ _) | (first | assumption | exact IntsAre.nil | exact IntsAre.cons _ _ .nil)))) ((by assumption : ∀ w mean mg mb, Ct w mean mg mb 105 1 (R2 _ _) (OPoly _)) _ _ _ _) (by ktr_room) (by ktr_units) ?_; (intro D'z us'z n'z h'z tk'z F'z N'z I'z J'z K'z; (try dsimp only); (try k_fold))))) | walk1)) | (leave1; walk_say "STEP leave1"; try dsimp only) | fail "no step")))
    refine Ct.useR (R := RDraw _ _ _ _ _) (below_caller _) (by k_asm) (by k_asm) (by k_asm) (by k_asm) rfl (rdraw (List.Mem.head _) hx3 (fun q hq => List.Mem.tail _ (hq)) hne) (t_draw _ _ _ _ _ _ _ _ _ hl20 (by decide) (by decide) (by decide) (by decide)) (by ktr_room) (by ktr_units) ?_
    intro r6 news6 h6' tk6 F6 N6 O6
    obtain ⟨t6, rfl, t6', n6, rest6, N6, hx6, hoff6, hkeep6⟩ := draw_back O6 hne N6
    clear O6
    dsimp only [Int.reduceAdd] at N6
    clear hkeep6 hx3
    ((try dsimp only); (try k_fold))
    (repeat' ((fail_if_success (with_reducible show wpAny _ _ (exec (Stmt.If _ _ _ _) _) _ _ _)); (first | (k_unfold; (try dsimp only)) | (first | ((with_reducible show wpAny _ _ (call (Value.ref _) _) _ _ _); first | (k_here; (with_reducible show wpAny _ _ (call (Value.ref 62) _) _ _ _); k_dflt (refine Ct.useIntR (R := R1 _) (below_caller _) (by k_asm) (by k_asm) (by k_asm) (by k_asm) (by first | exact rfl | assumption) (r1 (by k_mem) (by (first | (first | assumption | exact (by assumption : ∀ a b : Tok, IntsAre [.int _ a, .int _ b] _) _ _ | exact (by assumption : ∀ a b c : Tok, IntsAre [.int _ a, .int _ b, .int _ c] _) _ _ _ | exact (by assumption : ∀ a b c d : Tok, IntsAre [.int _ a, .int _ b, .int _ c, .int _ d] _) _ _ _ _) | (first | assumption | exact IntsAre.nil | exact IntsAre.cons _ _ .nil)))) ((by assumption : ∀ w mean mg mb, Ct w mean mg mb 62 1 (R1 _) (OInt _)) _ _ _ _) (by ktr_room) (by ktr_units) ?_; (intro t'z h'z tk'z F'z N'z; (try dsimp only); (try k_fold)))) | (k_here; (with_reducible show wpAny _ _ (call (Value.ref 86) _) _ _ _); k_dflt (refine Ct.usePolyR (R := R2 _ _) (below_caller _) (by k_asm) (by k_asm) (by k_asm) (by k_asm) (by first | exact rfl | assumption) (r2 (by k_mem) (by (first | (first | assumption | exact (by assumption : ∀ a b : Tok, IntsAre [.int _ a, .int _ b] _) _ _ | exact (by assumption : ∀ a b c : Tok, IntsAre [.int _ a, .int _ b, .int _ c] _) _ _ _ | exact (by assumption : ∀ a b c d : Tok, IntsAre [.int _ a, .int _ b, .int _ c, .int _ d] _) _ _ _ _) | (first | assumption | exact IntsAre.nil | exact IntsAre.cons _ _ .nil))) (by k_mem) (by (first | (first | assumption | exact (by assumption : ∀ a b : Tok, IntsAre [.int _ a, .int _ b] _) _ _ | exact (by assumption : ∀ a b c : Tok, IntsAre [.int _ a, .int _ b, .int _ c] _) _ _ _ | exact (by assumption : ∀ a b c d : Tok, IntsAre [.int _ a, .int _ b, .int _ c, .int _ d] _) _ _ _ _) | (first | assumption | exact IntsAre.nil | exact IntsAre.cons _ _ .nil)))) ((by assumption : ∀ w mean mg mb, Ct w mean mg mb 86 3 (R2 _ _) (OPoly _)) _ _ _ _) (by ktr_room) (by ktr_units) ?_; (intro D'z us'z n'z h'z tk'z F'z N'z I'z J'z K'z; (try dsimp only); (try k_fold)))) | (k_here; (with_reducible show wpAny _ _ (call (Value.ref 105) _) _ _ _); k_dflt (refine Ct.usePolyR (R := R2 _ _) (below_caller _) (by k_asm) (by k_asm) (by k_asm) (by k_asm) (by first | exact rfl | assumption) (r2 (by k_mem) (by (first | (first | assumption | exact (by assumption : ∀ a b : Tok, IntsAre [.int _ a, .int _ b] _) _ _ | exact (by assumption : ∀ a b c : Tok, IntsAre [.int _ a, .int _ b, .int _ c] _) _ _ _ | exact (by assumption : ∀ a b c d : Tok, IntsAre [.int _ a, .int _ b, .int _ c, .int _ d] _) _ _ _ _) | (first | assumption | exact IntsAre.nil | exact IntsAre.cons _ _ .nil))) (by k_mem) (by (first | (first | assumption | exact (by assumption : ∀ a b : Tok, IntsAre [.int _ a, .int _ b] _) _ _ | exact (by assumption : ∀ a b c : Tok, IntsAre [.int _ a, .int _ b, .int _ c] _) _ _ _ | exact (by assumption : ∀ a b c d : Tok, IntsAre [.int _ a, .int _ b, .int _ c, .int _ d] _) _ _ _ _) | (first | assumption | exact IntsAre.nil | exact IntsAre.cons _ _ .nil)))) ((by assumption : ∀ w mean mg mb, Ct w mean mg mb 105 1 (R2 _ _) (OPoly _)) _ _ _ _) (by ktr_room) (by ktr_units) ?_; (intro D'z us'z n'z h'z tk'z F'z N'z I'z J'z K'z; (try dsimp only); (try k_fold))))) | walk1) | (dsimp only; (first | ((with_reducible show wpAny _ _ (call (Value.ref _) _) _ _ _); first | (k_here; (with_reducible show wpAny _ _ (call (Value.ref 62) _) _ _ _); k_dflt (refine Ct.useIntR (R := R1 _) (below_caller _) (by k_asm) (by k_asm) (by k_asm) (by k_asm) (by first | exact rfl | assumption) (r1 (by k_mem) (by (first | (first | assumption | exact (by assumption : ∀ a b : Tok, IntsAre [.int _ a, .int _ b] _) _ _ | exact (by assumption : ∀ a b c : Tok, IntsAre [.int _ a, .int _ b, .int _ c] _) _ _ _ | exact (by assumption : ∀ a b c d : Tok, IntsAre [.int _ a, .int _ b, .int _ c, .int _ d] _) _ _ _ _) | (first | assumption | exact IntsAre.nil | exact IntsAre.cons _ _ .nil)))) ((by assumption : ∀ w mean mg mb, Ct w mean mg mb 62 1 (R1 _) (OInt _)) _ _ _ _) (by ktr_room) (by ktr_units) ?_; (intro t'z h'z tk'z F'z N'z; (try dsimp only); (try k_fold)))) | (k_here; (with_reducible show wpAny _ _ (call (Value.ref 86) _) _ _ _); k_dflt (refine Ct.usePolyR (R := R2 _ _) (below_caller _) (by k_asm) (by k_asm) (by k_asm) (by k_asm) (by first | exact rfl | assumption) (r2 (by k_mem) (by (first | (first | assumption | exact (by assumption : ∀ a b : Tok, IntsAre [.int _ a, .int _ b] _) _ _ | exact (by assumption : ∀ a b c : Tok, IntsAre [.int _ a, .int _ b, .int _ c] _) _ _ _ | exact (by assumption : ∀ a b c d : Tok, IntsAre [.int _ a, .int _ b, .int _ c, .int _ d] _) _ _ _ _) | (first | assumption | exact IntsAre.nil | exact IntsAre.cons _ _ .nil))) (by k_mem) (by (first | (first | assumption | exact (by assumption : ∀ a b : Tok, IntsAre [.int _ a, .int _ b] _) _ _ | exact (by assumption : ∀ a b c : Tok, IntsAre [.int _ a, .int _ b, .int _ c] _) _ _ _ | exact (by assumption : ∀ a b c d : Tok, IntsAre [.int _ a, .int _ b, .int _ c, .int _ d] _) _ _ _ _) | (first | assumption | exact IntsAre.nil | exact IntsAre.cons _ _ .nil)))) ((by assumption : ∀ w mean mg mb, Ct w mean mg mb 86 3 (R2 _ _) (OPoly _)) _ _ _ _) (by ktr_room) (by ktr_units) ?_; (intro D'z us'z n'z h'z tk'z F'z N'z I'z J'z K'z; (try dsimp only); (try k_fold)))) | (k_here; (with_reducible show wpAny _ _ (call (Value.ref 105) _) _ _ _); k_dflt (refine Ct.usePolyR (R := R2 _ _) (below_caller _) (by k_asm) (by k_asm) (by k_asm) (by k_asm) (by first | exact rfl | assumption) (r2 (by k_mem) (by (first | (first | assumption | exact (by assumption : ∀ a b : Tok, IntsAre [.int _ a, .int _ b] _) _ _ | exact (by assumption : ∀ a b c : Tok, IntsAre [.int _ a, .int _ b, .int _ c] _) _ _ _ | exact (by assumption : ∀ a b c d : Tok, IntsAre [.int _ a, .int _ b, .int _ c, .int _ d] _) _ _ _ _) | (first | assumption | exact IntsAre.nil | exact IntsAre.cons _ _ .nil))) (by k_mem) (by (first | (first | assumption | exact (by assumption : ∀ a b : Tok, IntsAre [.int _ a, .int _ b] _) _ _ | exact (by assumption : ∀ a b c : Tok, IntsAre [.int _ a, .int _ b, .int _ c] _) _ _ _ | exact (by assumption : ∀ a b c d : Tok, IntsAre [.int _ a, .int _ b, .int _ c, .int _ d] _) _ _ _ _) | (first | assumption | exact IntsAre.nil | exact IntsAre.cons _ _ .nil)))) ((by assumption : ∀ w mean mg mb, Ct w mean mg mb 105 1 (R2 _ _) (OPoly _)) _ _ _ _) (by ktr_room) (by ktr_units) ?_; (intro D'z us'z n'z h'z tk'z F'z N'z I'z J'z K'z; (try dsimp only); (try k_fold))))) | walk1)) | (leave1; walk_say "STEP leave1"; try dsimp only) | fail "no step")))
    refine mono_half (drawP xs 11 3 - 1) (by k_asm) ?_ ?_
    · (repeat' ((fail_if_success (with_reducible show wpAny _ _ (call (Value.ref 199) _) _ _ _)); (first | (k_unfold; (try dsimp only)) | (first | ((with_reducible show wpAny _ _ (call (Value.ref _) _) _ _ _); first | (k_here; (with_reducible show wpAny _ _ (call (Value.ref 62) _) _ _ _); k_dflt (refine Ct.useIntR (R := R1 _) (below_caller _) (by k_asm) (by k_asm) (by k_asm) (by k_asm) (by first | exact rfl | assumption) (r1 (by k_mem) (by (first | (first | assumption | exact (by assumption : ∀ a b : Tok, IntsAre [.int _ a, .int _ b] _) _ _ | exact (by assumption : ∀ a b c : Tok, IntsAre [.int _ a, .int _ b, .int _ c] _) _ _ _ | exact (by assumption : ∀ a b c d : Tok, IntsAre [.int _ a, .int _ b, .int _ c, .int _ d] _) _ _ _ _) | (first | assumption | exact IntsAre.nil | exact IntsAre.cons _ _ .nil)))) ((by assumption : ∀ w mean mg mb, Ct w mean mg mb 62 1 (R1 _) (OInt _)) _ _ _ _) (by ktr_room) (by ktr_units) ?_; (intro t'z h'z tk'z F'z N'z; (try dsimp only); (try k_fold)))) | (k_here; (with_reducible show wpAny _ _ (call (Value.ref 86) _) _ _ _); k_dflt (refine Ct.usePolyR (R := R2 _ _) (below_caller _) (by k_asm) (by k_asm) (by k_asm) (by k_asm) (by first | exact rfl | assumption) (r2 (by k_mem) (by (first | (first | assumption | exact (by assumption : ∀ a b : Tok, IntsAre [.int _ a, .int _ b] _) _ _ | exact (by assumption : ∀ a b c : Tok, IntsAre [.int _ a, .int _ b, .int _ c] _) _ _ _ | exact (by assumption : ∀ a b c d : Tok, IntsAre [.int _ a, .int _ b, .int _ c, .int _ d] _) _ _ _ _) | (first | assumption | exact IntsAre.nil | exact IntsAre.cons _ _ .nil))) (by k_mem) (by (first | (first | assumption | exact (by assumption : ∀ a b : Tok, IntsAre [.int _ a, .int _ b] _) _ _ | exact (by assumption : ∀ a b c : Tok, IntsAre [.int _ a, .int _ b, .int _ c] _) _ _ _ | exact (by assumption : ∀ a b c d : Tok, IntsAre [.int _ a, .int _ b, .int _ c, .int _ d] _) _ _ _ _) | (first | assumption | exact IntsAre.nil | exact IntsAre.cons _ _ .nil)))) ((by assumption : ∀ w mean mg mb, Ct w mean mg mb 86 3 (R2 _ _) (OPoly _)) _ _ _ _) (by ktr_room) (by ktr_units) ?_; (intro D'z us'z n'z h'z tk'z F'z N'z I'z J'z K'z; (try dsimp only); (try k_fold)))) | (k_here; (with_reducible show wpAny _ _ (call (Value.ref 105) _) _ _ _); k_dflt (refine Ct.usePolyR (R := R2 _ _) (below_caller _) (by k_asm) (by k_asm) (by k_asm) (by k_asm) (by first | exact rfl | assumption) (r2 (by k_mem) (by (first | (first | assumption | exact (by assumption : ∀ a b : Tok, IntsAre [.int _ a, .int _ b] _) _ _ | exact (by assumption : ∀ a b c : Tok, IntsAre [.int _ a, .int _ b, .int _ c] _) _ _ _ | exact (by assumption : ∀ a b c d : Tok, IntsAre [.int _ a, .int _ b, .int _ c, .int _ d] _) _ _ _ _) | (first | assumption | exact IntsAre.nil | exact IntsAre.cons _ _ .nil))) (by k_mem) (by (first | (first | assumption | exact (by assumption : ∀ a b : Tok, IntsAre [.int _ a, .int _ b] _) _ _ | exact (by assumption : ∀ a b c : Tok, IntsAre [.int _ a, .int _ b, .int _ c] _) _ _ _ | exact (by assumption : ∀ a b c d : Tok, IntsAre [.int _ a, .int _ b, .int _ c, .int _ d] _) _ _ _ _) | (first | assumption | exact IntsAre.nil | exact IntsAre.cons _ _ .nil)))) ((by assumption : ∀ w mean mg mb, Ct w mean mg mb 105 1 (R2 _ _) (OPoly _)) _ _ _ _) (by ktr_room) (by ktr_units) ?_; (intro D'z us'z n'z h'z tk'z F'z N'z I'z J'z K'z; (try dsimp only); (try k_fold))))) | walk1) | (dsimp only; (first | ((with_reducible show wpAny _ _ (call (Value.ref _) _) _ _ _); first | (k_here; (with_reducible show wpAny _ _ (call (Value.ref 62) _) _ _ _); k_dflt (refine Ct.useIntR (R := R1 _) (below_caller _) (by k_asm) (by k_asm) (by k_asm) (by k_asm) (by first | exact rfl | assumption) (r1 (by k_mem) (by (first | (first | assumption | exact (by assumption : ∀ a b : Tok, IntsAre [.int _ a, .int _ b] _) _ _ | exact (by assumption : ∀ a b c : Tok, IntsAre [.int _ a, .int _ b, .int _ c] _) _ _ _ | exact (by assumption : ∀ a b c d : Tok, IntsAre [.int _ a, .int _ b, .int _ c, .int _ d] _) _ _ _ _) | (first | assumption | exact IntsAre.nil | exact IntsAre.cons _ _ .nil)))) ((by assumption : ∀ w mean mg mb, Ct w mean mg mb 62 1 (R1 _) (OInt _)) _ _ _ _) (by ktr_room) (by ktr_units) ?_; (intro t'z h'z tk'z F'z N'z; (try dsimp only); (try k_fold)))) | (k_here; (with_reducible show wpAny _ _ (call (Value.ref 86) _) _ _ _); k_dflt (refine Ct.usePolyR (R := R2 _ _) (below_caller _) (by k_asm) (by k_asm) (by k_asm) (by k_asm) (by first | exact rfl | assumption) (r2 (by k_mem) (by (first | (first | assumption | exact (by assumption : ∀ a b : Tok, IntsAre [.int _ a, .int _ b] _) _ _ | exact (by assumption : ∀ a b c : Tok, IntsAre [.int _ a, .int _ b, .int _ c] _) _ _ _ | exact (by assumption : ∀ a b c d : Tok, IntsAre [.int _ a, .int _ b, .int _ c, .int _ d] _) _ _ _ _) | (first | assumption | exact IntsAre.nil | exact IntsAre.cons _ _ .nil))) (by k_mem) (by (first | (first | assumption | exact (by assumption : ∀ a b : Tok, IntsAre [.int _ a, .int _ b] _) _ _ | exact (by assumption : ∀ a b c : Tok, IntsAre [.int _ a, .int _ b, .int _ c] _) _ _ _ | exact (by assumption : ∀ a b c d : Tok, IntsAre [.int _ a, .int _ b, .int _ c, .int _ d] _) _ _ _ _) | (first | assumption | exact IntsAre.nil | exact IntsAre.cons _ _ .nil)))) ((by assumption : ∀ w mean mg mb, Ct w mean mg mb 86 3 (R2 _ _) (OPoly _)) _ _ _ _) (by ktr_room) (by ktr_units) ?_; (intro D'z us'z n'z h'z tk'z F'z N'z I'z J'z K'z; (try dsimp only); (try k_fold)))) | (k_here; (with_reducible show wpAny _ _ (call (Value.ref 105) _) _ _ _); k_dflt (refine Ct.usePolyR (R := R2 _ _) (below_caller _) (by k_asm) (by k_asm) (by k_asm) (by k_asm) (by first | exact rfl | assumption) (r2 (by k_mem) (by (first | (first | assumption | exact (by assumption : ∀ a b : Tok, IntsAre [.int _ a, .int _ b] _) _ _ | exact (by assumption : ∀ a b c : Tok, IntsAre [.int _ a, .int _ b, .int _ c] _) _ _ _ | exact (by assumption : ∀ a b c d : Tok, IntsAre [.int _ a, .int _ b, .int _ c, .int _ d] _) _ _ _ _) | (first | assumption | exact IntsAre.nil | exact IntsAre.cons _ _ .nil))) (by k_mem) (by (first | (first | assumption | exact (by assumption : ∀ a b : Tok, IntsAre [.int _ a, .int _ b] _) _ _ | exact (by assumption : ∀ a b c : Tok, IntsAre [.int _ a, .int _ b, .int _ c] _) _ _ _ | exact (by assumption : ∀ a b c d : Tok, IntsAre [.int _ a, .int _ b, .int _ c, .int _ d] _) _ _ _ _) | (first | assumption | exact IntsAre.nil | exact IntsAre.cons _ _ .nil)))) ((by assumption : ∀ w mean mg mb, Ct w mean mg mb 105 1 (R2 _ _) (OPoly _)) _ _ _ _) (by ktr_room) (by ktr_units) ?_; (intro D'z us'z n'z h'z tk'z F'z N'z I'z J'z K'z; (try dsimp only); (try k_fold))))) | walk1)) | (leave1; walk_say "STEP leave1"; try dsimp only) | fail "no step")))
      all_goals first
        | (have hz : drawP xs 11 3 - 1 ≠ 0 := (by assumption);
            have hc := nearC (hnear hz);
            exact JHalf.intro (by k_asm) (by exact rfl) (by exact rfl) (by exact rfl) (by k_asm) (by k_mem) (by k_mem) farI (fun _ => hc.1) (fun h => absurd h (by decide)) (fun _ => ⟨by decide, hc.2⟩) rfl)
        | (have hz : drawP xs 11 3 - 1 = 0 := (by assumption);
            have hc := farC hfar hz;
            clear hnear hfar;
            refine Ct.useR (R := RDraw _ _ _ _ _) (below_caller _) (by k_asm) (by k_asm) (by k_asm) (by k_asm) rfl (rdraw (List.Mem.head _) hx6 (fun q hq => List.Mem.tail _ (hq)) hne) (t_draw _ _ _ _ _ _ _ _ _ hl20 (by decide) (by decide) (by decide) (by decide)) (by ktr_room) (by ktr_units) ?_;
            intro r12 news12 h12' tk12 F12 N12 O12;
            obtain ⟨t12, rfl, t12', n12, rest12, N12, hx12, hoff12, hkeep12⟩ := draw_back O12 hne N12;
            clear O12;
            dsimp only [Int.reduceAdd] at N12;
            clear hkeep12;
            ((try dsimp only); (try k_fold));
            (repeat' ((fail_if_success (with_reducible show wpAny _ _ (call (Value.ref 199) _) _ _ _)); (first | (k_unfold; (try dsimp only)) | (first | ((with_reducible show wpAny _ _ (call (Value.ref _) _) _ _ _); first | (k_here; (with_reducible show wpAny _ _ (call (Value.ref 62) _) _ _ _); k_dflt (refine Ct.useIntR (R := R1 _) (below_caller _) (by k_asm) (by k_asm) (by k_asm) (by k_asm) (by first | exact rfl | assumption) (r1 (by k_mem) (by (first | (first | assumption | exact (by assumption : ∀ a b : Tok, IntsAre [.int _ a, .int _ b] _) _ _ | exact (by assumption : ∀ a b c : Tok, IntsAre [.int _ a, .int _ b, .int _ c] _) _ _ _ | exact (by assumption : ∀ a b c d : Tok, IntsAre [.int _ a, .int _ b, .int _ c, .int _ d] _) _ _ _ _) | (first | assumption | exact IntsAre.nil | exact IntsAre.cons _ _ .nil)))) ((by assumption : ∀ w mean mg mb, Ct w mean mg mb 62 1 (R1 _) (OInt _)) _ _ _ _) (by ktr_room) (by ktr_units) ?_; (intro t'z h'z tk'z F'z N'z; (try dsimp only); (try k_fold)))) | (k_here; (with_reducible show wpAny _ _ (call (Value.ref 86) _) _ _ _); k_dflt (refine Ct.usePolyR (R := R2 _ _) (below_caller _) (by k_asm) (by k_asm) (by k_asm) (by k_asm) (by first | exact rfl | assumption) (r2 (by k_mem) (by (first | (first | assumption | exact (by assumption : ∀ a b : Tok, IntsAre [.int _ a, .int _ b] _) _ _ | exact (by assumption : ∀ a b c : Tok, IntsAre [.int _ a, .int _ b, .int _ c] _) _ _ _ | exact (by assumption : ∀ a b c d : Tok, IntsAre [.int _ a, .int _ b, .int _ c, .int _ d] _) _ _ _ _) | (first | assumption | exact IntsAre.nil | exact IntsAre.cons _ _ .nil))) (by k_mem) (by (first | (first | assumption | exact (by assumption : ∀ a b : Tok, IntsAre [.int _ a, .int _ b] _) _ _ | exact (by assumption : ∀ a b c : Tok, IntsAre [.int _ a, .int _ b, .int _ c] _) _ _ _ | exact (by assumption : ∀ a b c d : Tok, IntsAre [.int _ a, .int _ b, .int _ c, .int _ d] _) _ _ _ _) | (first | assumption | exact IntsAre.nil | exact IntsAre.cons _ _ .nil)))) ((by assumption : ∀ w mean mg mb, Ct w mean mg mb 86 3 (R2 _ _) (OPoly _)) _ _ _ _) (by ktr_room) (by ktr_units) ?_; (intro D'z us'z n'z h'z tk'z F'z N'z I'z J'z K'z; (try dsimp only); (try k_fold)))) | (k_here; (with_reducible show wpAny _ _ (call (Value.ref 105) _) _ _ _); k_dflt (refine Ct.usePolyR (R := R2 _ _) (below_caller _) (by k_asm) (by k_asm) (by k_asm) (by k_asm) (by first | exact rfl | assumption) (r2 (by k_mem) (by (first | (first | assumption | exact (by assumption : ∀ a b : Tok, IntsAre [.int _ a, .int _ b] _) _ _ | exact (by assumption : ∀ a b c : Tok, IntsAre [.int _ a, .int _ b, .int _ c] _) _ _ _ | exact (by assumption : ∀ a b c d : Tok, IntsAre [.int _ a, .int _ b, .int _ c, .int _ d] _) _ _ _ _) | (first | assumption | exact IntsAre.nil | exact IntsAre.cons _ _ .nil))) (by k_mem) (by (first | (first | assumption | exact (by assumption : ∀ a b : Tok, IntsAre [.int _ a, .int _ b] _) _ _ | exact (by assumption : ∀ a b c : Tok, IntsAre [.int _ a, .int _ b, .int _ c] _) _ _ _ | exact (by assumption : ∀ a b c d : Tok, IntsAre [.int _ a, .int _ b, .int _ c, .int _ d] _) _ _ _ _) | (first | assumption | exact IntsAre.nil | exact IntsAre.cons _ _ .nil)))) ((by assumption : ∀ w mean mg mb, Ct w mean mg mb 105 1 (R2 _ _) (OPoly _)) _ _ _ _) (by ktr_room) (by ktr_units) ?_; (intro D'z us'z n'z h'z tk'z F'z N'z I'z J'z K'z; (try dsimp only); (try k_fold))))) | walk1) | (dsimp only; (first | ((with_reducible show wpAny _ _ (call (Value.ref _) _) _ _ _); first | (k_here; (with_reducible show wpAny _ _ (call (Value.ref 62) _) _ _ _); k_dflt (refine Ct.useIntR (R := R1 _) (below_caller _) (by k_asm) (by k_asm) (by k_asm) (by k_asm) (by first | exact rfl | assumption) (r1 (by k_mem) (by (first | (first | assumption | exact (by assumption : ∀ a b : Tok, IntsAre [.int _ a, .int _ b] _) _ _ | exact (by assumption : ∀ a b c : Tok, IntsAre [.int _ a, .int _ b, .int _ c] _) _ _ _ | exact (by assumption : ∀ a b c d : Tok, IntsAre [.int _ a, .int _ b, .int _ c, .int _ d] _) _ _ _ _) | (first | assumption | exact IntsAre.nil | exact IntsAre.cons _ _ .nil)))) ((by assumption : ∀ w mean mg mb, Ct w mean mg mb 62 1 (R1 _) (OInt _)) _ _ _ _) (by ktr_room) (by ktr_units) ?_; (intro t'z h'z tk'z F'z N'z; (try dsimp only); (try k_fold)))) | (k_here; (with_reducible show wpAny _ _ (call (Value.ref 86) _) _ _ _); k_dflt (refine Ct.usePolyR (R := R2 _ _) (below_caller _) (by k_asm) (by k_asm) (by k_asm) (by k_asm) (by first | exact rfl | assumption) (r2 (by k_mem) (by (first | (first | assumption | exact (by assumption : ∀ a b : Tok, IntsAre [.int _ a, .int _ b] _) _ _ | exact (by assumption : ∀ a b c : Tok, IntsAre [.int _ a, .int _ b, .int _ c] _) _ _ _ | exact (by assumption : ∀ a b c d : Tok, IntsAre [.int _ a, .int _ b, .int _ c, .int _ d] _) _ _ _ _) | (first | assumption | exact IntsAre.nil | exact IntsAre.cons _ _ .nil))) (by k_mem) (by (first | (first | assumption | exact (by assumption : ∀ a b : Tok, IntsAre [.int _ a, .int _ b] _) _ _ | exact (by assumption : ∀ a b c : Tok, IntsAre [.int _ a, .int _ b, .int _ c] _) _ _ _ | exact (by assumption : ∀ a b c d : Tok, IntsAre [.int _ a, .int _ b, .int _ c, .int _ d] _) _ _ _ _) | (first | assumption | exact IntsAre.nil | exact IntsAre.cons _ _ .nil)))) ((by assumption : ∀ w mean mg mb, Ct w mean mg mb 86 3 (R2 _ _) (OPoly _)) _ _ _ _) (by ktr_room) (by ktr_units) ?_; (intro D'z us'z n'z h'z tk'z F'z N'z I'z J'z K'z; (try dsimp only); (try k_fold)))) | (k_here; (with_reducible show wpAny _ _ (call (Value.ref 105) _) _ _ _); k_dflt (refine Ct.usePolyR (R := R2 _ _) (below_caller _) (by k_asm) (by k_asm) (by k_asm) (by k_asm) (by first | exact rfl | assumption) (r2 (by k_mem) (by (first | (first | assumption | exact (by assumption : ∀ a b : Tok, IntsAre [.int _ a, .int _ b] _) _ _ | exact (by assumption : ∀ a b c : Tok, IntsAre [.int _ a, .int _ b, .int _ c] _) _ _ _ | exact (by assumption : ∀ a b c d : Tok, IntsAre [.int _ a, .int _ b, .int _ c, .int _ d] _) _ _ _ _) | (first | assumption | exact IntsAre.nil | exact IntsAre.cons _ _ .nil))) (by k_mem) (by (first | (first | assumption | exact (by assumption : ∀ a b : Tok, IntsAre [.int _ a, .int _ b] _) _ _ | exact (by assumption : ∀ a b c : Tok, IntsAre [.int _ a, .int _ b, .int _ c] _) _ _ _ | exact (by assumption : ∀ a b c d : Tok, IntsAre [.int _ a, .int _ b, .int _ c, .int _ d] _) _ _ _ _) | (first | assumption | exact IntsAre.nil | exact IntsAre.cons _ _ .nil)))) ((by assumption : ∀ w mean mg mb, Ct w mean mg mb 105 1 (R2 _ _) (OPoly _)) _ _ _ _) (by ktr_room) (by ktr_units) ?_; (intro D'z us'z n'z h'z tk'z F'z N'z I'z J'z K'z; (try dsimp only); (try k_fold))))) | walk1)) | (leave1; walk_say "STEP leave1"; try dsimp only) | fail "no step")));
            refine Ct.useR (R := RDraw _ _ _ _ _) (below_caller _) (by k_asm) (by k_asm) (by k_asm) (by k_asm) rfl (rdraw (List.Mem.head _) hx12 (fun q hq => List.Mem.tail _ (hq)) hne) (t_draw _ _ _ _ _ _ _ _ _ hl20 (by decide) (by decide) (by decide) (by decide)) (by ktr_room) (by ktr_units) ?_;
            intro r13 news13 h13' tk13 F13 N13 O13;
            obtain ⟨t13, rfl, t13', n13, rest13, N13, hx13, hoff13, hkeep13⟩ := draw_back O13 hne N13;
            clear O13;
            dsimp only [Int.reduceAdd] at N13;
            clear hkeep13;
            ((try dsimp only); (try k_fold));
            (repeat' ((fail_if_success (with_reducible show wpAny _ _ (call (Value.ref 199) _) _ _ _)); (first | (k_unfold; (try dsimp only)) | (first | ((with_reducible show wpAny _ _ (call (Value.ref _) _) _ _ _); first | (k_here; (with_reducible show wpAny _ _ (call (Value.ref 62) _) _ _ _); k_dflt (refine Ct.useIntR (R := R1 _) (below_caller _) (by k_asm) (by k_asm) (by k_asm) (by k_asm) (by first | exact rfl | assumption) (r1 (by k_mem) (by (first | (first | assumption | exact (by assumption : ∀ a b : Tok, IntsAre [.int _ a, .int _ b] _) _ _ | exact (by assumption : ∀ a b c : Tok, IntsAre [.int _ a, .int _ b, .int _ c] _) _ _ _ | exact (by assumption : ∀ a b c d : Tok, IntsAre [.int _ a, .int _ b, .int _ c, .int _ d] _) _ _ _ _) | (first | assumption | exact IntsAre.nil | exact IntsAre.cons _ _ .nil)))) ((by assumption : ∀ w mean mg mb, Ct w mean mg mb 62 1 (R1 _) (OInt _)) _ _ _ _) (by ktr_room) (by ktr_units) ?_; (intro t'z h'z tk'z F'z N'z; (try dsimp only); (try k_fold)))) | (k_here; (with_reducible show wpAny _ _ (call (Value.ref 86) _) _ _ _); k_dflt (refine Ct.usePolyR (R := R2 _ _) (below_caller _) (by k_asm) (by k_asm) (by k_asm) (by k_asm) (by first | exact rfl | assumption) (r2 (by k_mem) (by (first | (first | assumption | exact (by assumption : ∀ a b : Tok, IntsAre [.int _ a, .int _ b] _) _ _ | exact (by assumption : ∀ a b c : Tok, IntsAre [.int _ a, .int _ b, .int _ c] _) _ _ _ | exact (by assumption : ∀ a b c d : Tok, IntsAre [.int _ a, .int _ b, .int _ c, .int _ d] _) _ _ _ _) | (first | assumption | exact IntsAre.nil | exact IntsAre.cons _ _ .nil))) (by k_mem) (by (first | (first | assumption | exact (by assumption : ∀ a b : Tok, IntsAre [.int _ a, .int _ b] _) _ _ | exact (by assumption : ∀ a b c : Tok, IntsAre [.int _ a, .int _ b, .int _ c] _) _ _ _ | exact (by assumption : ∀ a b c d : Tok, IntsAre [.int _ a, .int _ b, .int _ c, .int _ d] _) _ _ _ _) | (first | assumption | exact IntsAre.nil | exact IntsAre.cons _ _ .nil)))) ((by assumption : ∀ w mean mg mb, Ct w mean mg mb 86 3 (R2 _ _) (OPoly _)) _ _ _ _) (by ktr_room) (by ktr_units) ?_; (intro D'z us'z n'z h'z tk'z F'z N'z I'z J'z K'z; (try dsimp only); (try k_fold)))) | (k_here; (with_reducible show wpAny _ _ (call (Value.ref 105) _) _ _ _); k_dflt (refine Ct.usePolyR (R := R2 _ _) (below_caller _) (by k_asm) (by k_asm) (by k_asm) (by k_asm) (by first | exact rfl | assumption) (r2 (by k_mem) (by (first | (first | assumption | exact (by assumption : ∀ a b : Tok, IntsAre [.int _ a, .int _ b] _) _ _ | exact (by assumption : ∀ a b c : Tok, IntsAre [.int _ a, .int _ b, .int _ c] _) _ _ _ | exact (by assumption : ∀ a b c d : Tok, IntsAre [.int _ a, .int _ b, .int _ c, .int _ d] _) _ _ _ _) | (first | assumption | exact IntsAre.nil | exact IntsAre.cons _ _ .nil))) (by k_mem) (by (first | (first | assumption | exact (by assumption : ∀ a b : Tok, IntsAre [.int _ a, .int _ b] _) _ _ | exact (by assumption : ∀ a b c : Tok, IntsAre [.int _ a, .int _ b, .int _ c] _) _ _ _ | exact (by assumption : ∀ a b c d : Tok, IntsAre [.int _ a, .int _ b, .int _ c, .int _ d] _) _ _ _ _) | (first | assumption | exact IntsAre.nil | exact IntsAre.cons _ _ .nil)))) ((by assumption : ∀ w mean mg mb, Ct w mean mg mb 105 1 (R2 _ _) (OPoly _)) _ _ _ _) (by ktr_room) (by ktr_units) ?_; (intro D'z us'z n'z h'z tk'z F'z N'z I'z J'z K'z; (try dsimp only); (try k_fold))))) | walk1) | (dsimp only; (first | ((with_reducible show wpAny _ _ (call (Value.ref _) _) _ _ _); first | (k_here; (with_reducible show wpAny _ _ (call (Value.ref 62) _) _ _ _); k_dflt (refine Ct.useIntR (R := R1 _) (below_caller _) (by k_asm) (by k_asm) (by k_asm) (by k_asm) (by first | exact rfl | assumption) (r1 (by k_mem) (by (first | (first | assumption | exact (by assumption : ∀ a b : Tok, IntsAre [.int _ a, .int _ b] _) _ _ | exact (by assumption : ∀ a b c : Tok, IntsAre [.int _ a, .int _ b, .int _ c] _) _ _ _ | exact (by assumption : ∀ a b c d : Tok, IntsAre [.int _ a, .int _ b, .int _ c, .int _ d] _) _ _ _ _) | (first | assumption | exact IntsAre.nil | exact IntsAre.cons _ _ .nil)))) ((by assumption : ∀ w mean mg mb, Ct w mean mg mb 62 1 (R1 _) (OInt _)) _ _ _ _) (by ktr_room) (by ktr_units) ?_; (intro t'z h'z tk'z F'z N'z; (try dsimp only); (try k_fold)))) | (k_here; (with_reducible show wpAny _ _ (call (Value.ref 86) _) _ _ _); k_dflt (refine Ct.usePolyR (R := R2 _ _) (below_caller _) (by k_asm) (by k_asm) (by k_asm) (by k_asm) (by first | exact rfl | assumption) (r2 (by k_mem) (by (first | (first | assumption | exact (by assumption : ∀ a b : Tok, IntsAre [.int _ a, .int _ b] _) _ _ | exact (by assumption : ∀ a b c : Tok, IntsAre [.int _ a, .int _ b, .int _ c] _) _ _ _ | exact (by assumption : ∀ a b c d : Tok, IntsAre [.int _ a, .int _ b, .int _ c, .int _ d] _) _ _ _ _) | (first | assumption | exact IntsAre.nil | exact IntsAre.cons _ _ .nil))) (by k_mem) (by (first | (first | assumption | exact (by assumption : ∀ a b : Tok, IntsAre [.int _ a, .int _ b] _) _ _ | exact (by assumption : ∀ a b c : Tok, IntsAre [.int _ a, .int _ b, .int _ c] _) _ _ _ | exact (by assumption : ∀ a b c d : Tok, IntsAre [.int _ a, .int _ b, .int _ c, .int _ d] _) _ _ _ _) | (first | assumption | exact IntsAre.nil | exact IntsAre.cons _ _ .nil)))) ((by assumption : ∀ w mean mg mb, Ct w mean mg mb 86 3 (R2 _ _) (OPoly _)) _ _ _ _) (by ktr_room) (by ktr_units) ?_; (intro D'z us'z n'z h'z tk'z F'z N'z I'z J'z K'z; (try dsimp only); (try k_fold)))) | (k_here; (with_reducible show wpAny _ _ (call (Value.ref 105) _) _ _ _); k_dflt (refine Ct.usePolyR (R := R2 _ _) (below_caller _) (by k_asm) (by k_asm) (by k_asm) (by k_asm) (by first | exact rfl | assumption) (r2 (by k_mem) (by (first | (first | assumption | exact (by assumption : ∀ a b : Tok, IntsAre [.int _ a, .int _ b] _) _ _ | exact (by assumption : ∀ a b c : Tok, IntsAre [.int _ a, .int _ b, .int _ c] _) _ _ _ | exact (by assumption : ∀ a b c d : Tok, IntsAre [.int _ a, .int _ b, .int _ c, .int _ d] _) _ _ _ _) | (first | assumption | exact IntsAre.nil | exact IntsAre.cons _ _ .nil))) (by k_mem) (by (first | (first | assumption | exact (by assumption : ∀ a b : Tok, IntsAre [.int _ a, .int _ b] _) _ _ | exact (by assumption : ∀ a b c : Tok, IntsAre [.int _ a, .int _ b, .int _ c] _) _ _ _ | exact (by assumption : ∀ a b c d : Tok, IntsAre [.int _ a, .int _ b, .int _ c, .int _ d] _) _ _ _ _) | (first | assumption | exact IntsAre.nil | exact IntsAre.cons _ _ .nil)))) ((by assumption : ∀ w mean mg mb, Ct w mean mg mb 105 1 (R2 _ _) (OPoly _)) _ _ _ _) (by ktr_room) (by ktr_units) ?_; (intro D'z us'z n'z h'z tk'z F'z N'z I'z J'z K'z; (try dsimp only); (try k_fold))))) | walk1)) | (leave1; walk_say "STEP leave1"; try dsimp only) | fail "no step")));
            refine Ct.useR (R := RDraw _ _ _ _ _) (below_caller _) (by k_asm) (by k_asm) (by k_asm) (by k_asm) rfl (rdraw (List.Mem.head _) hx13 (fun q hq => List.Mem.tail _ (hq)) hne) (t_draw _ _ _ _ _ _ _ _ _ hl20 (by decide) (by decide) (by decide) (by decide)) (by ktr_room) (by ktr_units) ?_;
            intro r14 news14 h14' tk14 F14 N14 O14;
            obtain ⟨t14, rfl, t14', n14, rest14, N14, hx14, hoff14, hkeep14⟩ := draw_back O14 hne N14;
            clear O14;
            dsimp only [Int.reduceAdd] at N14;
            clear hkeep14;
            ((try dsimp only); (try k_fold));
            (repeat' ((fail_if_success (with_reducible show wpAny _ _ (call (Value.ref 199) _) _ _ _)); (first | (k_unfold; (try dsimp only)) | (first | ((with_reducible show wpAny _ _ (call (Value.ref _) _) _ _ _); first | (k_here; (with_reducible show wpAny _ _ (call (Value.ref 62) _) _ _ _); k_dflt (refine Ct.useIntR (R := R1 _) (below_caller _) (by k_asm) (by k_asm) (by k_asm) (by k_asm) (by first | exact rfl | assumption) (r1 (by k_mem) (by (first | (first | assumption | exact (by assumption : ∀ a b : Tok, IntsAre [.int _ a, .int _ b] _) _ _ | exact (by assumption : ∀ a b c : Tok, IntsAre [.int _ a, .int _ b, .int _ c] _) _ _ _ | exact (by assumption : ∀ a b c d : Tok, IntsAre [.int _ a, .int _ b, .int _ c, .int _ d] _) _ _ _ _) | (first | assumption | exact IntsAre.nil | exact IntsAre.cons _ _ .nil)))) ((by assumption : ∀ w mean mg mb, Ct w mean mg mb 62 1 (R1 _) (OInt _)) _ _ _ _) (by ktr_room) (by ktr_units) ?_; (intro t'z h'z tk'z F'z N'z; (try dsimp only); (try k_fold)))) | (k_here; (with_reducible show wpAny _ _ (call (Value.ref 86) _) _ _ _); k_dflt (refine Ct.usePolyR (R := R2 _ _) (below_caller _) (by k_asm) (by k_asm) (by k_asm) (by k_asm) (by first | exact rfl | assumption) (r2 (by k_mem) (by (first | (first | assumption | exact (by assumption : ∀ a b : Tok, IntsAre [.int _ a, .int _ b] _) _ _ | exact (by assumption : ∀ a b c : Tok, IntsAre [.int _ a, .int _ b, .int _ c] _) _ _ _ | exact (by assumption : ∀ a b c d : Tok, IntsAre [.int _ a, .int _ b, .int _ c, .int _ d] _) _ _ _ _) | (first | assumption | exact IntsAre.nil | exact IntsAre.cons _ _ .nil))) (by k_mem) (by (first | (first | assumption | exact (by assumption : ∀ a b : Tok, IntsAre [.int _ a, .int _ b] _) _ _ | exact (by assumption : ∀ a b c : Tok, IntsAre [.int _ a, .int _ b, .int _ c] _) _ _ _ | exact (by assumption : ∀ a b c d : Tok, IntsAre [.int _ a, .int _ b, .int _ c, .int _ d] _) _ _ _ _) | (first | assumption | exact IntsAre.nil | exact IntsAre.cons _ _ .nil)))) ((by assumption : ∀ w mean mg mb, Ct w mean mg mb 86 3 (R2 _ _) (OPoly _)) _ _ _ _) (by ktr_room) (by ktr_units) ?_; (intro D'z us'z n'z h'z tk'z F'z N'z I'z J'z K'z; (try dsimp only); (try k_fold)))) | (k_here; (with_reducible show wpAny _ _ (call (Value.ref 105) _) _ _ _); k_dflt (refine Ct.usePolyR (R := R2 _ _) (below_caller _) (by k_asm) (by k_asm) (by k_asm) (by k_asm) (by first | exact rfl | assumption) (r2 (by k_mem) (by (first | (first | assumption | exact (by assumption : ∀ a b : Tok, IntsAre [.int _ a, .int _ b] _) _ _ | exact (by assumption : ∀ a b c : Tok, IntsAre [.int _ a, .int _ b, .int _ c] _) _ _ _ | exact (by assumption : ∀ a b c d : Tok, IntsAre [.int _ a, .int _ b, .int _ c, .int _ d] _) _ _ _ _) | (first | assumption | exact IntsAre.nil | exact IntsAre.cons _ _ .nil))) (by k_mem) (by (first | (first | assumption | exact (by assumption : ∀ a b : Tok, IntsAre [.int _ a, .int _ b] _) _ _ | exact (by assumption : ∀ a b c : Tok, IntsAre [.int _ a, .int _ b, .int _ c] _) _ _ _ | exact (by assumption : ∀ a b c d : Tok, IntsAre [.int _ a, .int _ b, .int _ c, .int _ d] _) _ _ _ _) | (first | assumption | exact IntsAre.nil | exact IntsAre.cons _ _ .nil)))) ((by assumption : ∀ w mean mg mb, Ct w mean mg mb 105 1 (R2 _ _) (OPoly _)) _ _ _ _) (by ktr_room) (by ktr_units) ?_; (intro D'z us'z n'z h'z tk'z F'z N'z I'z J'z K'z; (try dsimp only); (try k_fold))))) | walk1) | (dsimp only; (first | ((with_reducible show wpAny _ _ (call (Value.ref _) _) _ _ _); first | (k_here; (with_reducible show wpAny _ _ (call (Value.ref 62) _) _ _ _); k_dflt (refine Ct.useIntR (R := R1 _) (below_caller _) (by k_asm) (by k_asm) (by k_asm) (by k_asm) (by first | exact rfl | assumption) (r1 (by k_mem) (by (first | (first | assumption | exact (by assumption : ∀ a b : Tok, IntsAre [.int _ a, .int _ b] _) _ _ | exact (by assumption : ∀ a b c : Tok, IntsAre [.int _ a, .int _ b, .int _ c] _) _ _ _ | exact (by assumption : ∀ a b c d : Tok, IntsAre [.int _ a, .int _ b, .int _ c, .int _ d] _) _ _ _ _) | (first | assumption | exact IntsAre.nil | exact IntsAre.cons _ _ .nil)))) ((by assumption : ∀ w mean mg mb, Ct w mean mg mb 62 1 (R1 _) (OInt _)) _ _ _ _) (by ktr_room) (by ktr_units) ?_; (intro t'z h'z tk'z F'z N'z; (try dsimp only); (try k_fold)))) | (k_here; (with_reducible show wpAny _ _ (call (Value.ref 86) _) _ _ _); k_dflt (refine Ct.usePolyR (R := R2 _ _) (below_caller _) (by k_asm) (by k_asm) (by k_asm) (by k_asm) (by first | exact rfl | assumption) (r2 (by k_mem) (by (first | (first | assumption | exact (by assumption : ∀ a b : Tok, IntsAre [.int _ a, .int _ b] _) _ _ | exact (by assumption : ∀ a b c : Tok, IntsAre [.int _ a, .int _ b, .int _ c] _) _ _ _ | exact (by assumption : ∀ a b c d : Tok, IntsAre [.int _ a, .int _ b, .int _ c, .int _ d] _) _ _ _ _) | (first | assumption | exact IntsAre.nil | exact IntsAre.cons _ _ .nil))) (by k_mem) (by (first | (first | assumption | exact (by assumption : ∀ a b : Tok, IntsAre [.int _ a, .int _ b] _) _ _ | exact (by assumption : ∀ a b c : Tok, IntsAre [.int _ a, .int _ b, .int _ c] _) _ _ _ | exact (by assumption : ∀ a b c d : Tok, IntsAre [.int _ a, .int _ b, .int _ c, .int _ d] _) _ _ _ _) | (first | assumption | exact IntsAre.nil | exact IntsAre.cons _ _ .nil)))) ((by assumption : ∀ w mean mg mb, Ct w mean mg mb 86 3 (R2 _ _) (OPoly _)) _ _ _ _) (by ktr_room) (by ktr_units) ?_; (intro D'z us'z n'z h'z tk'z F'z N'z I'z J'z K'z; (try dsimp only); (try k_fold)))) | (k_here; (with_reducible show wpAny _ _ (call (Value.ref 105) _) _ _ _); k_dflt (refine Ct.usePolyR (R := R2 _ _) (below_caller _) (by k_asm) (by k_asm) (by k_asm) (by k_asm) (by first | exact rfl | assumption) (r2 (by k_mem) (by (first | (first | assumption | exact (by assumption : ∀ a b : Tok, IntsAre [.int _ a, .int _ b] _) _ _ | exact (by assumption : ∀ a b c : Tok, IntsAre [.int _ a, .int _ b, .int _ c] _) _ _ _ | exact (by assumption : ∀ a b c d : Tok, IntsAre [.int _ a, .int _ b, .int _ c, .int _ d] _) _ _ _ _) | (first | assumption | exact IntsAre.nil | exact IntsAre.cons _ _ .nil))) (by k_mem) (by (first | (first | assumption | exact (by assumption : ∀ a b : Tok, IntsAre [.int _ a, .int _ b] _) _ _ | exact (by assumption : ∀ a b c : Tok, IntsAre [.int _ a, .int _ b, .int _ c] _) _ _ _ | exact (by assumption : ∀ a b c d : Tok, IntsAre [.int _ a, .int _ b, .int _ c, .int _ d] _) _ _ _ _) | (first | assumption | exact IntsAre.nil | exact IntsAre.cons _ _ .nil)))) ((by assumption : ∀ w mean mg mb, Ct w mean mg mb 105 1 (R2 _ _) (OPoly _)) _ _ _ _) (by ktr_room) (by ktr_units) ?_; (intro D'z us'z n'z h'z tk'z F'z N'z I'z J'z K'z; (try dsimp only); (try k_fold))))) | walk1)) | (leave1; walk_say "STEP leave1"; try dsimp only) | fail "no step")));
            have hDf := Nat.ne_of_gt (And.left (by assumption : _ < _ ∧ AllLt _ rest14));
            refine Ct.useR (R := RDraw _ _ _ _ _) (below_caller _) (by k_asm) (by k_asm) (by k_asm) (by k_asm) rfl (rdraw (List.Mem.tail _ (List.Mem.head _)) hx14 (fun q hq => List.Mem.tail _ (List.Mem.tail _ (hq))) hne) (t_draw _ _ _ _ _ _ _ _ _ hl20 (by decide) (by decide) (by decide) (by decide)) (by ktr_room) (by ktr_units) ?_;
            intro r15 news15 h15' tk15 F15 N15 O15;
            obtain ⟨t15, rfl, t15', n15, rest15, N15, hx15, hoff15, hkeep15⟩ := draw_back O15 hne N15;
            clear O15;
            dsimp only [Int.reduceAdd] at N15;
            have hm15 := hkeep15 _ (List.Mem.head _) hDf;
            clear hkeep15;
            ((try dsimp only); (try k_fold));
            (repeat' ((fail_if_success (with_reducible show wpAny _ _ (call (Value.ref 199) _) _ _ _)); (first | (k_unfold; (try dsimp only)) | (first | ((with_reducible show wpAny _ _ (call (Value.ref _) _) _ _ _); first | (k_here; (with_reducible show wpAny _ _ (call (Value.ref 62) _) _ _ _); k_dflt (refine Ct.useIntR (R := R1 _) (below_caller _) (by k_asm) (by k_asm) (by k_asm) (by k_asm) (by first | exact rfl | assumption) (r1 (by k_mem) (by (first | (first | assumption | exact (by assumption : ∀ a b : Tok, IntsAre [.int _ a, .int _ b] _) _ _ | exact (by assumption : ∀ a b c : Tok, IntsAre [.int _ a, .int _ b, .int _ c] _) _ _ _ | exact (by assumption : ∀ a b c d : Tok, IntsAre [.int _ a, .int _ b, .int _ c, .int _ d] _) _ _ _ _) | (first | assumption | exact IntsAre.nil | exact IntsAre.cons _ _ .nil)))) ((by assumption : ∀ w mean mg mb, Ct w mean mg mb 62 1 (R1 _) (OInt _)) _ _ _ _) (by ktr_room) (by ktr_units) ?_; (intro t'z h'z tk'z F'z N'z; (try dsimp only); (try k_fold)))) | (k_here; (with_reducible show wpAny _ _ (call (Value.ref 86) _) _ _ _); k_dflt (refine Ct.usePolyR (R := R2 _ _) (below_caller _) (by k_asm) (by k_asm) (by k_asm) (by k_asm) (by first | exact rfl | assumption) (r2 (by k_mem) (by (first | (first | assumption | exact (by assumption : ∀ a b : Tok, IntsAre [.int _ a, .int _ b] _) _ _ | exact (by assumption : ∀ a b c : Tok, IntsAre [.int _ a, .int _ b, .int _ c] _) _ _ _ | exact (by assumption : ∀ a b c d : Tok, IntsAre [.int _ a, .int _ b, .int _ c, .int _ d] _) _ _ _ _) | (first | assumption | exact IntsAre.nil | exact IntsAre.cons _ _ .nil))) (by k_mem) (by (first | (first | assumption | exact (by assumption : ∀ a b : Tok, IntsAre [.int _ a, .int _ b] _) _ _ | exact (by assumption : ∀ a b c : Tok, IntsAre [.int _ a, .int _ b, .int _ c] _) _ _ _ | exact (by assumption : ∀ a b c d : Tok, IntsAre [.int _ a, .int _ b, .int _ c, .int _ d] _) _ _ _ _) | (first | assumption | exact IntsAre.nil | exact IntsAre.cons _ _ .nil)))) ((by assumption : ∀ w mean mg mb, Ct w mean mg mb 86 3 (R2 _ _) (OPoly _)) _ _ _ _) (by ktr_room) (by ktr_units) ?_; (intro D'z us'z n'z h'z tk'z F'z N'z I'z J'z K'z; (try dsimp only); (try k_fold)))) | (k_here; (with_reducible show wpAny _ _ (call (Value.ref 105) _) _ _ _); k_dflt (refine Ct.usePolyR (R := R2 _ _) (below_caller _) (by k_asm) (by k_asm) (by k_asm) (by k_asm) (by first | exact rfl | assumption) (r2 (by k_mem) (by (first | (first | assumption | exact (by assumption : ∀ a b : Tok, IntsAre [.int _ a, .int _ b] _) _ _ | exact (by assumption : ∀ a b c : Tok, IntsAre [.int _ a, .int _ b, .int _ c] _) _ _ _ | exact (by assumption : ∀ a b c d : Tok, IntsAre [.int _ a, .int _ b, .int _ c, .int _ d] _) _ _ _ _) | (first | assumption | exact IntsAre.nil | exact IntsAre.cons _ _ .nil))) (by k_mem) (by (first | (first | assumption | exact (by assumption : ∀ a b : Tok, IntsAre [.int _ a, .int _ b] _) _ _ | exact (by assumption : ∀ a b c : Tok, IntsAre [.int _ a, .int _ b, .int _ c] _) _ _ _ | exact (by assumption : ∀ a b c d : Tok, IntsAre [.int _ a, .int _ b, .int _ c, .int _ d] _) _ _ _ _) | (first | assumption | exact IntsAre.nil | exact IntsAre.cons _ _ .nil)))) ((by assumption : ∀ w mean mg mb, Ct w mean mg mb 105 1 (R2 _ _) (OPoly _)) _ _ _ _) (by ktr_room) (by ktr_units) ?_; (intro D'z us'z n'z h'z tk'z F'z N'z I'z J'z K'z; (try dsimp only); (try k_fold))))) | walk1) | (dsimp only; (first | ((with_reducible show wpAny _ _ (call (Value.ref _) _) _ _ _); first | (k_here; (with_reducible show wpAny _ _ (call (Value.ref 62) _) _ _ _); k_dflt (refine Ct.useIntR (R := R1 _) (below_caller _) (by k_asm) (by k_asm) (by k_asm) (by k_asm) (by first | exact rfl | assumption) (r1 (by k_mem) (by (first | (first | assumption | exact (by assumption : ∀ a b : Tok, IntsAre [.int _ a, .int _ b] _) _ _ | exact (by assumption : ∀ a b c : Tok, IntsAre [.int _ a, .int _ b, .int _ c] _) _ _ _ | exact (by assumption : ∀ a b c d : Tok, IntsAre [.int _ a, .int _ b, .int _ c, .int _ d] _) _ _ _ _) | (first | assumption | exact IntsAre.nil | exact IntsAre.cons _ _ .nil)))) ((by assumption : ∀ w mean mg mb, Ct w mean mg mb 62 1 (R1 _) (OInt _)) _ _ _ _) (by ktr_room) (by ktr_units) ?_; (intro t'z h'z tk'z F'z N'z; (try dsimp only); (try k_fold)))) | (k_here; (with_reducible show wpAny _ _ (call (Value.ref 86) _) _ _ _); k_dflt (refine Ct.usePolyR (R := R2 _ _) (below_caller _) (by k_asm) (by k_asm) (by k_asm) (by k_asm) (by first | exact rfl | assumption) (r2 (by k_mem) (by (first | (first | assumption | exact (by assumption : ∀ a b : Tok, IntsAre [.int _ a, .int _ b] _) _ _ | exact (by assumption : ∀ a b c : Tok, IntsAre [.int _ a, .int _ b, .int _ c] _) _ _ _ | exact (by assumption : ∀ a b c d : Tok, IntsAre [.int _ a, .int _ b, .int _ c, .int _ d] _) _ _ _ _) | (first | assumption | exact IntsAre.nil | exact IntsAre.cons _ _ .nil))) (by k_mem) (by (first | (first | assumption | exact (by assumption : ∀ a b : Tok, IntsAre [.int _ a, .int _ b] _) _ _ | exact (by assumption : ∀ a b c : Tok, IntsAre [.int _ a, .int _ b, .int _ c] _) _ _ _ | exact (by assumption : ∀ a b c d : Tok, IntsAre [.int _ a, .int _ b, .int _ c, .int _ d] _) _ _ _ _) | (first | assumption | exact IntsAre.nil | exact IntsAre.cons _ _ .nil)))) ((by assumption : ∀ w mean mg mb, Ct w mean mg mb 86 3 (R2 _ _) (OPoly _)) _ _ _ _) (by ktr_room) (by ktr_units) ?_; (intro D'z us'z n'z h'z tk'z F'z N'z I'z J'z K'z; (try dsimp only); (try k_fold)))) | (k_here; (with_reducible show wpAny _ _ (call (Value.ref 105) _) _ _ _); k_dflt (refine Ct.usePolyR (R := R2 _ _) (below_caller _) (by k_asm) (by k_asm) (by k_asm) (by k_asm) (by first | exact rfl | assumption) (r2 (by k_mem) (by (first | (first | assumption | exact (by assumption : ∀ a b : Tok, IntsAre [.int _ a, .int _ b] _) _ _ | exact (by assumption : ∀ a b c : Tok, IntsAre [.int _ a, .int _ b, .int _ c] _) _ _ _ | exact (by assumption : ∀ a b c d : Tok, IntsAre [.int _ a, .int _ b, .int _ c, .int _ d] _) _ _ _ _) | (first | assumption | exact IntsAre.nil | exact IntsAre.cons _ _ .nil))) (by k_mem) (by (first | (first | assumption | exact (by assumption : ∀ a b : Tok, IntsAre [.int _ a, .int _ b] _) _ _ | exact (by assumption : ∀ a b c : Tok, IntsAre [.int _ a, .int _ b, .int _ c] _) _ _ _ | exact (by assumption : ∀ a b c d : Tok, IntsAre [.int _ a, .int _ b, .int _ c, .int _ d] _) _ _ _ _) | (first | assumption | exact IntsAre.nil | exact IntsAre.cons _ _ .nil)))) ((by assumption : ∀ w mean mg mb, Ct w mean mg mb 105 1 (R2 _ _) (OPoly _)) _ _ _ _) (by ktr_room) (by ktr_units) ?_; (intro D'z us'z n'z h'z tk'z F'z N'z I'z J'z K'z; (try dsimp only); (try k_fold))))) | walk1)) | (leave1; walk_say "STEP leave1"; try dsimp only) | fail "no step")));
            refine Ct.useR (R := RDraw _ _ _ _ _) (below_caller _) (by k_asm) (by k_asm) (by k_asm) (by k_asm) rfl (rdraw (List.Mem.head _) hx15 (fun q hq => List.Mem.tail _ (hq)) hne) (t_draw _ _ _ _ _ _ _ _ _ hl20 (by decide) (by decide) (by decide) (by decide)) (by ktr_room) (by ktr_units) ?_;
            intro r16 news16 h16' tk16 F16 N16 O16;
            obtain ⟨t16, rfl, t16', n16, rest16, N16, hx16, hoff16, hkeep16⟩ := draw_back O16 hne N16;
            clear O16;
            dsimp only [Int.reduceAdd] at N16;
            have hm16 := hkeep16 _ (List.Mem.tail _ hm15) hDf;
            clear hkeep16;
            ((try dsimp only); (try k_fold));
            (repeat' ((fail_if_success (with_reducible show wpAny _ _ (call (Value.ref 199) _) _ _ _)); (first | (k_unfold; (try dsimp only)) | (first | ((with_reducible show wpAny _ _ (call (Value.ref _) _) _ _ _); first | (k_here; (with_reducible show wpAny _ _ (call (Value.ref 62) _) _ _ _); k_dflt (refine Ct.useIntR (R := R1 _) (below_caller _) (by k_asm) (by k_asm) (by k_asm) (by k_asm) (by first | exact rfl | assumption) (r1 (by k_mem) (by (first | (first | assumption | exact (by assumption : ∀ a b : Tok, IntsAre [.int _ a, .int _ b] _) _ _ | exact (by assumption : ∀ a b c : Tok, IntsAre [.int _ a, .int _ b, .int _ c] _) _ _ _ | exact (by assumption : ∀ a b c d : Tok, IntsAre [.int _ a, .int _ b, .int _ c, .int _ d] _) _ _ _ _) | (first | assumption | exact IntsAre.nil | exact IntsAre.cons _ _ .nil)))) ((by assumption : ∀ w mean mg mb, Ct w mean mg mb 62 1 (R1 _) (OInt _)) _ _ _ _) (by ktr_room) (by ktr_units) ?_; (intro t'z h'z tk'z F'z N'z; (try dsimp only); (try k_fold)))) | (k_here; (with_reducible show wpAny _ _ (call (Value.ref 86) _) _ _ _); k_dflt (refine Ct.usePolyR (R := R2 _ _) (below_caller _) (by k_asm) (by k_asm) (by k_asm) (by k_asm) (by first | exact rfl | assumption) (r2 (by k_mem) (by (first | (first | assumption | exact (by assumption : ∀ a b : Tok, IntsAre [.int _ a, .int _ b] _) _ _ | exact (by assumption : ∀ a b c : Tok, IntsAre [.int _ a, .int _ b, .int _ c] _) _ _ _ | exact (by assumption : ∀ a b c d : Tok, IntsAre [.int _ a, .int _ b, .int _ c, .int _ d] _) _ _ _ _) | (first | assumption | exact IntsAre.nil | exact IntsAre.cons _ _ .nil))) (by k_mem) (by (first | (first | assumption | exact (by assumption : ∀ a b : Tok, IntsAre [.int _ a, .int _ b] _) _ _ | exact (by assumption : ∀ a b c : Tok, IntsAre [.int _ a, .int _ b, .int _ c] _) _ _ _ | exact (by assumption : ∀ a b c d : Tok, IntsAre [.int _ a, .int _ b, .int _ c, .int _ d] _) _ _ _ _) | (first | assumption | exact IntsAre.nil | exact IntsAre.cons _ _ .nil)))) ((by assumption : ∀ w mean mg mb, Ct w mean mg mb 86 3 (R2 _ _) (OPoly _)) _ _ _ _) (by ktr_room) (by ktr_units) ?_; (intro D'z us'z n'z h'z tk'z F'z N'z I'z J'z K'z; (try dsimp only); (try k_fold)))) | (k_here; (with_reducible show wpAny _ _ (call (Value.ref 105) _) _ _ _); k_dflt (refine Ct.usePolyR (R := R2 _ _) (below_caller _) (by k_asm) (by k_asm) (by k_asm) (by k_asm) (by first | exact rfl | assumption) (r2 (by k_mem) (by (first | (first | assumption | exact (by assumption : ∀ a b : Tok, IntsAre [.int _ a, .int _ b] _) _ _ | exact (by assumption : ∀ a b c : Tok, IntsAre [.int _ a, .int _ b, .int _ c] _) _ _ _ | exact (by assumption : ∀ a b c d : Tok, IntsAre [.int _ a, .int _ b, .int _ c, .int _ d] _) _ _ _ _) | (first | assumption | exact IntsAre.nil | exact IntsAre.cons _ _ .nil))) (by k_mem) (by (first | (first | assumption | exact (by assumption : ∀ a b : Tok, IntsAre [.int _ a, .int _ b] _) _ _ | exact (by assumption : ∀ a b c : Tok, IntsAre [.int _ a, .int _ b, .int _ c] _) _ _ _ | exact (by assumption : ∀ a b c d : Tok, IntsAre [.int _ a, .int _ b, .int _ c, .int _ d] _) _ _ _ _) | (first | assumption | exact IntsAre.nil | exact IntsAre.cons _ _ .nil)))) ((by assumption : ∀ w mean mg mb, Ct w mean mg mb 105 1 (R2 _ _) (OPoly _)) _ _ _ _) (by ktr_room) (by ktr_units) ?_; (intro D'z us'z n'z h'z tk'z F'z N'z I'z J'z K'z; (try dsimp only); (try k_fold))))) | walk1) | (dsimp only; (first | ((with_reducible show wpAny _ _ (call (Value.ref _) _) _ _ _); first | (k_here; (with_reducible show wpAny _ _ (call (Value.ref 62) _) _ _ _); k_dflt (refine Ct.useIntR (R := R1 _) (below_caller _) (by k_asm) (by k_asm) (by k_asm) (by k_asm) (by first | exact rfl | assumption) (r1 (by k_mem) (by (first | (first | assumption | exact (by assumption : ∀ a b : Tok, IntsAre [.int _ a, .int _ b] _) _ _ | exact (by assumption : ∀ a b c : Tok, IntsAre [.int _ a, .int _ b, .int _ c] _) _ _ _ | exact (by assumption : ∀ a b c d : Tok, IntsAre [.int _ a, .int _ b, .int _ c, .int _ d] _) _ _ _ _) | (first | assumption | exact IntsAre.nil | exact IntsAre.cons _ _ .nil)))) ((by assumption : ∀ w mean mg mb, Ct w mean mg mb 62 1 (R1 _) (OInt _)) _ _ _ _) (by ktr_room) (by ktr_units) ?_; (intro t'z h'z tk'z F'z N'z; (try dsimp only); (try k_fold)))) | (k_here; (with_reducible show wpAny _ _ (call (Value.ref 86) _) _ _ _); k_dflt (refine Ct.usePolyR (R := R2 _ _) (below_caller _) (by k_asm) (by k_asm) (by k_asm) (by k_asm) (by first | exact rfl | assumption) (r2 (by k_mem) (by (first | (first | assumption | exact (by assumption : ∀ a b : Tok, IntsAre [.int _ a, .int _ b] _) _ _ | exact (by assumption : ∀ a b c : Tok, IntsAre [.int _ a, .int _ b, .int _ c] _) _ _ _ | exact (by assumption : ∀ a b c d : Tok, IntsAre [.int _ a, .int _ b, .int _ c, .int _ d] _) _ _ _ _) | (first | assumption | exact IntsAre.nil | exact IntsAre.cons _ _ .nil))) (by k_mem) (by (first | (first | assumption | exact (by assumption : ∀ a b : Tok, IntsAre [.int _ a, .int _ b] _) _ _ | exact (by assumption : ∀ a b c : Tok, IntsAre [.int _ a, .int _ b, .int _ c] _) _ _ _ | exact (by assumption : ∀ a b c d : Tok, IntsAre [.int _ a, .int _ b, .int _ c, .int _ d] _) _ _ _ _) | (first | assumption | exact IntsAre.nil | exact IntsAre.cons _ _ .nil)))) ((by assumption : ∀ w mean mg mb, Ct w mean mg mb 86 3 (R2 _ _) (OPoly _)) _ _ _ _) (by ktr_room) (by ktr_units) ?_; (intro D'z us'z n'z h'z tk'z F'z N'z I'z J'z K'z; (try dsimp only); (try k_fold)))) | (k_here; (with_reducible show wpAny _ _ (call (Value.ref 105) _) _ _ _); k_dflt (refine Ct.usePolyR (R := R2 _ _) (below_caller _) (by k_asm) (by k_asm) (by k_asm) (by k_asm) (by first | exact rfl | assumption) (r2 (by k_mem) (by (first | (first | assumption | exact (by assumption : ∀ a b : Tok, IntsAre [.int _ a, .int _ b] _) _ _ | exact (by assumption : ∀ a b c : Tok, IntsAre [.int _ a, .int _ b, .int _ c] _) _ _ _ | exact (by assumption : ∀ a b c d : Tok, IntsAre [.int _ a, .int _ b, .int _ c, .int _ d] _) _ _ _ _) | (first | assumption | exact IntsAre.nil | exact IntsAre.cons _ _ .nil))) (by k_mem) (by (first | (first | assumption | exact (by assumption : ∀ a b : Tok, IntsAre [.int _ a, .int _ b] _) _ _ | exact (by assumption : ∀ a b c : Tok, IntsAre [.int _ a, .int _ b, .int _ c] _) _ _ _ | exact (by assumption : ∀ a b c d : Tok, IntsAre [.int _ a, .int _ b, .int _ c, .int _ d] _) _ _ _ _) | (first | assumption | exact IntsAre.nil | exact IntsAre.cons _ _ .nil)))) ((by assumption : ∀ w mean mg mb, Ct w mean mg mb 105 1 (R2 _ _) (OPoly _)) _ _ _ _) (by ktr_room) (by ktr_units) ?_; (intro D'z us'z n'z h'z tk'z F'z N'z I'z J'z K'z; (try dsimp only); (try k_fold))))) | walk1)) | (leave1; walk_say "STEP leave1"; try dsimp only) | fail "no step")));
            refine Ct.useR (R := RDraw _ _ _ _ _) (below_caller _) (by k_asm) (by k_asm) (by k_asm) (by k_asm) rfl (rdraw (List.Mem.head _) hx16 (fun q hq => List.Mem.tail _ (hq)) hne) (t_draw _ _ _ _ _ _ _ _ _ hl20 (by decide) (by decide) (by decide) (by decide)) (by ktr_room) (by ktr_units) ?_;
            intro r17 news17 h17' tk17 F17 N17 O17;
            obtain ⟨t17, rfl, t17', n17, rest17, N17, hx17, hoff17, hkeep17⟩ := draw_back O17 hne N17;
            clear O17;
            dsimp only [Int.reduceAdd] at N17;
            have hm17 := hkeep17 _ (List.Mem.tail _ hm16) hDf;
            clear hkeep17;
            have N17 := news_sub N17 (List.forall_mem_singleton.mpr (List.Mem.tail _ hm17) : Sub [_] _);
            ((try dsimp only); (try k_fold));
            (repeat' ((fail_if_success (with_reducible show wpAny _ _ (call (Value.ref 199) _) _ _ _)); (first | (k_unfold; (try dsimp only)) | (first | ((with_reducible show wpAny _ _ (call (Value.ref _) _) _ _ _); first | (k_here; (with_reducible show wpAny _ _ (call (Value.ref 62) _) _ _ _); k_dflt (refine Ct.useIntR (R := R1 _) (below_caller _) (by k_asm) (by k_asm) (by k_asm) (by k_asm) (by first | exact rfl | assumption) (r1 (by k_mem) (by (first | (first | assumption | exact (by assumption : ∀ a b : Tok, IntsAre [.int _ a, .int _ b] _) _ _ | exact (by assumption : ∀ a b c : Tok, IntsAre [.int _ a, .int _ b, .int _ c] _) _ _ _ | exact (by assumption : ∀ a b c d : Tok, IntsAre [.int _ a, .int _ b, .int _ c, .int _ d] _) _ _ _ _) | (first | assumption | exact IntsAre.nil | exact IntsAre.cons _ _ .nil)))) ((by assumption : ∀ w mean mg mb, Ct w mean mg mb 62 1 (R1 _) (OInt _)) _ _ _ _) (by ktr_room) (by ktr_units) ?_; (intro t'z h'z tk'z F'z N'z; (try dsimp only); (try k_fold)))) | (k_here; (with_reducible show wpAny _ _ (call (Value.ref 86) _) _ _ _); k_dflt (refine Ct.usePolyR (R := R2 _ _) (below_caller _) (by k_asm) (by k_asm) (by k_asm) (by k_asm) (by first | exact rfl | assumption) (r2 (by k_mem) (by (first | (first | assumption | exact (by assumption : ∀ a b : Tok, IntsAre [.int _ a, .int _ b] _) _ _ | exact (by assumption : ∀ a b c : Tok, IntsAre [.int _ a, .int _ b, .int _ c] _) _ _ _ | exact (by assumption : ∀ a b c d : Tok, IntsAre [.int _ a, .int _ b, .int _ c, .int _ d] _) _ _ _ _) | (first | assumption | exact IntsAre.nil | exact IntsAre.cons _ _ .nil))) (by k_mem) (by (first | (first | assumption | exact (by assumption : ∀ a b : Tok, IntsAre [.int _ a, .int _ b] _) _ _ | exact (by assumption : ∀ a b c : Tok, IntsAre [.int _ a, .int _ b, .int _ c] _) _ _ _ | exact (by assumption : ∀ a b c d : Tok, IntsAre [.int _ a, .int _ b, .int _ c, .int _ d] _) _ _ _ _) | (first | assumption | exact IntsAre.nil | exact IntsAre.cons _ _ .nil)))) ((by assumption : ∀ w mean mg mb, Ct w mean mg mb 86 3 (R2 _ _) (OPoly _)) _ _ _ _) (by ktr_room) (by ktr_units) ?_; (intro D'z us'z n'z h'z tk'z F'z N'z I'z J'z K'z; (try dsimp only); (try k_fold)))) | (k_here; (with_reducible show wpAny _ _ (call (Value.ref 105) _) _ _ _); k_dflt (refine Ct.usePolyR (R := R2 _ _) (below_caller _) (by k_asm) (by k_asm) (by k_asm) (by k_asm) (by first | exact rfl | assumption) (r2 (by k_mem) (by (first | (first | assumption | exact (by assumption : ∀ a b : Tok, IntsAre [.int _ a, .int _ b] _) _ _ | exact (by assumption : ∀ a b c : Tok, IntsAre [.int _ a, .int _ b, .int _ c] _) _ _ _ | exact (by assumption : ∀ a b c d : Tok, IntsAre [.int _ a, .int _ b, .int _ c, .int _ d] _) _ _ _ _) | (first | assumption | exact IntsAre.nil | exact IntsAre.cons _ _ .nil))) (by k_mem) (by (first | (first | assumption | exact (by assumption : ∀ a b : Tok, IntsAre [.int _ a, .int _ b] _) _ _ | exact (by assumption : ∀ a b c : Tok, IntsAre [.int _ a, .int _ b, .int _ c] _) _ _ _ | exact (by assumption : ∀ a b c d : Tok, IntsAre [.int _ a, .int _ b, .int _ c, .int _ d] _) _ _ _ _) | (first | assumption | exact IntsAre.nil | exact IntsAre.cons _ _ .nil)))) ((by assumption : ∀ w mean mg mb, Ct w mean mg mb 105 1 (R2 _ _) (OPoly _)) _ _ _ _) (by ktr_room) (by ktr_units) ?_; (intro D'z us'z n'z h'z tk'z F'z N'z I'z J'z K'z; (try dsimp only); (try k_fold))))) | walk1) | (dsimp only; (first | ((with_reducible show wpAny _ _ (call (Value.ref _) _) _ _ _); first | (k_here; (with_reducible show wpAny _ _ (call (Value.ref 62) _) _ _ _); k_dflt (refine Ct.useIntR (R := R1 _) (below_caller _) (by k_asm) (by k_asm) (by k_asm) (by k_asm) (by first | exact rfl | assumption) (r1 (by k_mem) (by (first | (first | assumption | exact (by assumption : ∀ a b : Tok, IntsAre [.int _ a, .int _ b] _) _ _ | exact (by assumption : ∀ a b c : Tok, IntsAre [.int _ a, .int _ b, .int _ c] _) _ _ _ | exact (by assumption : ∀ a b c d : Tok, IntsAre [.int _ a, .int _ b, .int _ c, .int _ d] _) _ _ _ _) | (first | assumption | exact IntsAre.nil | exact IntsAre.cons _ _ .nil)))) ((by assumption : ∀ w mean mg mb, Ct w mean mg mb 62 1 (R1 _) (OInt _)) _ _ _ _) (by ktr_room) (by ktr_units) ?_; (intro t'z h'z tk'z F'z N'z; (try dsimp only); (try k_fold)))) | (k_here; (with_reducible show wpAny _ _ (call (Value.ref 86) _) _ _ _); k_dflt (refine Ct.usePolyR (R := R2 _ _) (below_caller _) (by k_asm) (by k_asm) (by k_asm) (by k_asm) (by first | exact rfl | assumption) (r2 (by k_mem) (by (first | (first | assumption | exact (by assumption : ∀ a b : Tok, IntsAre [.int _ a, .int _ b] _) _ _ | exact (by assumption : ∀ a b c : Tok, IntsAre [.int _ a, .int _ b, .int _ c] _) _ _ _ | exact (by assumption : ∀ a b c d : Tok, IntsAre [.int _ a, .int _ b, .int _ c, .int _ d] _) _ _ _ _) | (first | assumption | exact IntsAre.nil | exact IntsAre.cons _ _ .nil))) (by k_mem) (by (first | (first | assumption | exact (by assumption : ∀ a b : Tok, IntsAre [.int _ a, .int _ b] _) _ _ | exact (by assumption : ∀ a b c : Tok, IntsAre [.int _ a, .int _ b, .int _ c] _) _ _ _ | exact (by assumption : ∀ a b c d : Tok, IntsAre [.int _ a, .int _ b, .int _ c, .int _ d] _) _ _ _ _) | (first | assumption | exact IntsAre.nil | exact IntsAre.cons _ _ .nil)))) ((by assumption : ∀ w mean mg mb, Ct w mean mg mb 86 3 (R2 _ _) (OPoly _)) _ _ _ _) (by ktr_room) (by ktr_units) ?_; (intro D'z us'z n'z h'z tk'z F'z N'z I'z J'z K'z; (try dsimp only); (try k_fold)))) | (k_here; (with_reducible show wpAny _ _ (call (Value.ref 105) _) _ _ _); k_dflt (refine Ct.usePolyR (R := R2 _ _) (below_caller _) (by k_asm) (by k_asm) (by k_asm) (by k_asm) (by first | exact rfl | assumption) (r2 (by k_mem) (by (first | (first | assumption | exact (by assumption : ∀ a b : Tok, IntsAre [.int _ a, .int _ b] _) _ _ | exact (by assumption : ∀ a b c : Tok, IntsAre [.int _ a, .int _ b, .int _ c] _) _ _ _ | exact (by assumption : ∀ a b c d : Tok, IntsAre [.int _ a, .int _ b, .int _ c, .int _ d] _) _ _ _ _) | (first | assumption | exact IntsAre.nil | exact IntsAre.cons _ _ .nil))) (by k_mem) (by (first | (first | assumption | exact (by assumption : ∀ a b : Tok, IntsAre [.int _ a, .int _ b] _) _ _ | exact (by assumption : ∀ a b c : Tok, IntsAre [.int _ a, .int _ b, .int _ c] _) _ _ _ | exact (by assumption : ∀ a b c d : Tok, IntsAre [.int _ a, .int _ b, .int _ c, .int _ d] _) _ _ _ _) | (first | assumption | exact IntsAre.nil | exact IntsAre.cons _ _ .nil)))) ((by assumption : ∀ w mean mg mb, Ct w mean mg mb 105 1 (R2 _ _) (OPoly _)) _ _ _ _) (by ktr_room) (by ktr_units) ?_; (intro D'z us'z n'z h'z tk'z F'z N'z I'z J'z K'z; (try dsimp only); (try k_fold))))) | walk1)) | (leave1; walk_say "STEP leave1"; try dsimp only) | fail "no step")));
            exact JHalf.intro (by k_asm) (by exact rfl) (by exact rfl) (by exact rfl) (by k_asm) (by k_mem) (by k_mem) farI hc.1 hc.2 (fun h => absurd hz h) rfl)
    · clear hnear hfar hx6
      intro h7 tk7 m7 pf pg a b c t7 u7 v7 t7' vs7 n7 n7' G hf7 hg7 hn7 F7 N7 I7 x1 x2 x3
      generalize drawP xs 11 3 - 1 = nz at hn7 x3
      ((try dsimp only); (try k_fold))
      (repeat' ((fail_if_success (with_reducible show wpAny _ _ (eval (Expr.IfExp _ _ _ _) _) _ _ _)); (fail_if_success (with_reducible show wpAny _ _ (call (Value.ref 199) _) _ _ _)); (fail_if_success (with_reducible show wpAny _ _ (call (Value.ref 211) _) _ _ _)); (first | (k_unfold; (try dsimp only)) | (first | ((with_reducible show wpAny _ _ (call (Value.ref _) _) _ _ _); first | (k_here; (with_reducible show wpAny _ _ (call (Value.ref 62) _) _ _ _); k_dflt (refine Ct.useIntR (R := R1 _) (below_caller _) (by k_asm) (by k_asm) (by k_asm) (by k_asm) (by first | exact rfl | assumption) (r1 (by k_mem) (by (first | (first | assumption | exact (by assumption : ∀ a b : Tok, IntsAre [.int _ a, .int _ b] _) _ _ | exact (by assumption : ∀ a b c : Tok, IntsAre [.int _ a, .int _ b, .int _ c] _) _ _ _ | exact (by assumption : ∀ a b c d : Tok, IntsAre [.int _ a, .int _ b, .int _ c, .int _ d] _) _ _ _ _) | (first | assumption | exact IntsAre.nil | exact IntsAre.cons _ _ .nil)))) ((by assumption : ∀ w mean mg mb, Ct w mean mg mb 62 1 (R1 _) (OInt _)) _ _ _ _) (by ktr_room) (by ktr_units) ?_; (intro t'z h'z tk'z F'z N'z; (try dsimp only); (try k_fold)))) | (k_here; (with_reducible show wpAny _ _ (call (Value.ref 86) _) _ _ _); k_dflt (refine Ct.usePolyR (R := R2 _ _) (below_caller _) (by k_asm) (by k_asm) (by k_asm) (by k_asm) (by first | exact rfl | assumption) (r2 (by k_mem) (by (first | (first | assumption | exact (by assumption : ∀ a b : Tok, IntsAre [.int _ a, .int _ b] _) _ _ | exact (by assumption : ∀ a b c : Tok, IntsAre [.int _ a, .int _ b, .int _ c] _) _ _ _ | exact (by assumption : ∀ a b c d : Tok, IntsAre [.int _ a, .int _ b, .int _ c, .int _ d] _) _ _ _ _) | (first | assumption | exact IntsAre.nil | exact IntsAre.cons _ _ .nil))) (by k_mem) (by (first | (first | assumption | exact (by assumption : ∀ a b : Tok, IntsAre [.int _ a, .int _ b] _) _ _ | exact (by assumption : ∀ a b c : Tok, IntsAre [.int _ a, .int _ b, .int _ c] _) _ _ _ | exact (by assumption : ∀ a b c d : Tok, IntsAre [.int _ a, .int _ b, .int _ c, .int _ d] _) _ _ _ _) | (first | assumption | exact IntsAre.nil | exact IntsAre.cons _ _ .nil)))) ((by assumption : ∀ w mean mg mb, Ct w mean mg mb 86 3 (R2 _ _) (OPoly _)) _ _ _ _) (by ktr_room) (by ktr_units) ?_; (intro D'z us'z n'z h'z tk'z F'z N'z I'z J'z K'z; (try dsimp only); (try k_fold)))) | (k_here; (with_reducible show wpAny _ _ (call (Value.ref 105) _) _ _ _); k_dflt (refine Ct.usePolyR (R := R2 _ _) (below_caller _) (by k_asm) (by k_asm) (by k_asm) (by k_asm) (by first | exact rfl | assumption) (r2 (by k_mem) (by (first | (first | assumption | exact (by assumption : ∀ a b : Tok, IntsAre [.int _ a, .int _ b] _) _ _ | exact (by assumption : ∀ a b c : Tok, IntsAre [.int _ a, .int _ b, .int _ c] _) _ _ _ | exact (by assumption : ∀ a b c d : Tok, IntsAre [.int _ a, .int _ b, .int _ c, .int _ d] _) _ _ _ _) | (first | assumption | exact IntsAre.nil | exact IntsAre.cons _ _ .nil))) (by k_mem) (by (first | (first | assumption | exact (by assumption : ∀ a b : Tok, IntsAre [.int _ a, .int _ b] _) _ _ | exact (by assumption : ∀ a b c : Tok, IntsAre [.int _ a, .int _ b, .int _ c] _) _ _ _ | exact (by assumption : ∀ a b c d : Tok, IntsAre [.int _ a, .int _ b, .int _ c, .int _ d] _) _ _ _ _) | (first | assumption | exact IntsAre.nil | exact IntsAre.cons _ _ .nil)))) ((by assumption : ∀ w mean mg mb, Ct w mean mg mb 105 1 (R2 _ _) (OPoly _)) _ _ _ _) (by ktr_room) (by ktr_units) ?_; (intro D'z us'z n'z h'z tk'z F'z N'z I'z J'z K'z; (try dsimp only); (try k_fold))))) | walk1) | (dsimp only; (first | ((with_reducible show wpAny _ _ (call (Value.ref _) _) _ _ _); first | (k_here; (with_reducible show wpAny _ _ (call (Value.ref 62) _) _ _ _); k_dflt (refine Ct.useIntR (R := R1 _) (below_caller _) (by k_asm) (by k_asm) (by k_asm) (by k_asm) (by first | exact rfl | assumption) (r1 (by k_mem) (by (first | (first | assumption | exact (by assumption : ∀ a b : Tok, IntsAre [.int _ a, .int _ b] _) _ _ | exact (by assumption : ∀ a b c : Tok, IntsAre [.int _ a, .int _ b, .int _ c] _) _ _ _ | exact (by assumption : ∀ a b c d : Tok, IntsAre [.int _ a, .int _ b, .int _ c, .int _ d] _) _ _ _ _) | (first | assumption | exact IntsAre.nil | exact IntsAre.cons _ _ .nil)))) ((by assumption : ∀ w mean mg mb, Ct w mean mg mb 62 1 (R1 _) (OInt _)) _ _ _ _) (by ktr_room) (by ktr_units) ?_; (intro t'z h'z tk'z F'z N'z; (try dsimp only); (try k_fold)))) | (k_here; (with_reducible show wpAny _ _ (call (Value.ref 86) _) _ _ _); k_dflt (refine Ct.usePolyR (R := R2 _ _) (below_caller _) (by k_asm) (by k_asm) (by k_asm) (by k_asm) (by first | exact rfl | assumption) (r2 (by k_mem) (by (first | (first | assumption | exact (by assumption : ∀ a b : Tok, IntsAre [.int _ a, .int _ b] _) _ _ | exact (by assumption : ∀ a b c : Tok, IntsAre [.int _ a, .int _ b, .int _ c] _) _ _ _ | exact (by assumption : ∀ a b c d : Tok, IntsAre [.int _ a, .int _ b, .int _ c, .int _ d] _) _ _ _ _) | (first | assumption | exact IntsAre.nil | exact IntsAre.cons _ _ .nil))) (by k_mem) (by (first | (first | assumption | exact (by assumption : ∀ a b : Tok, IntsAre [.int _ a, .int _ b] _) _ _ | exact (by assumption : ∀ a b c : Tok, IntsAre [.int _ a, .int _ b, .int _ c] _) _ _ _ | exact (by assumption : ∀ a b c d : Tok, IntsAre [.int _ a, .int _ b, .int _ c, .int _ d] _) _ _ _ _) | (first | assumption | exact IntsAre.nil | exact IntsAre.cons _ _ .nil)))) ((by assumption : ∀ w mean mg mb, Ct w mean mg mb 86 3 (R2 _ _) (OPoly _)) _ _ _ _) (by ktr_room) (by ktr_units) ?_; (intro D'z us'z n'z h'z tk'z F'z N'z I'z J'z K'z; (try dsimp only); (try k_fold)))) | (k_here; (with_reducible show wpAny _ _ (call (Value.ref 105) _) _ _ _); k_dflt (refine Ct.usePolyR (R := R2 _ _) (below_caller _) (by k_asm) (by k_asm) (by k_asm) (by k_asm) (by first | exact rfl | assumption) (r2 (by k_mem) (by (first | (first | assumption | exact (by assumption : ∀ a b : Tok, IntsAre [.int _ a, .int _ b] _) _ _ | exact (by assumption : ∀ a b c : Tok, IntsAre [.int _ a, .int _ b, .int _ c] _) _ _ _ | exact (by assumption : ∀ a b c d : Tok, IntsAre [.int _ a, .int _ b, .int _ c, .int _ d] _) _ _ _ _) | (first | assumption | exact IntsAre.nil | exact IntsAre.cons _ _ .nil))) (by k_mem) (by (first | (first | assumption | exact (by assumption : ∀ a b : Tok, IntsAre [.int _ a, .int _ b] _) _ _ | exact (by assumption : ∀ a b c : Tok, IntsAre [.int _ a, .int _ b, .int _ c] _) _ _ _ | exact (by assumption : ∀ a b c d : Tok, IntsAre [.int _ a, .int _ b, .int _ c, .int _ d] _) _ _ _ _) | (first | assumption | exact IntsAre.nil | exact IntsAre.cons _ _ .nil)))) ((by assumption : ∀ w mean mg mb, Ct w mean mg mb 105 1 (R2 _ _) (OPoly _)) _ _ _ _) (by ktr_room) (by ktr_units) ?_; (intro D'z us'z n'z h'z tk'z F'z N'z I'z J'z K'z; (try dsimp only); (try k_fold))))) | walk1)) | (leave1; walk_say "STEP leave1"; try dsimp only) | fail "no step")))
      refine mono_f nz pg (by k_asm) ?_ ?_
      · (repeat' ((fail_if_success (with_reducible show wpAny _ _ (call (Value.ref 199) _) _ _ _)); (first | (k_unfold; (try dsimp only)) | (first | ((with_reducible show wpAny _ _ (call (Value.ref _) _) _ _ _); first | (k_here; (with_reducible show wpAny _ _ (call (Value.ref 62) _) _ _ _); k_dflt (refine Ct.useIntR (R := R1 _) (below_caller _) (by k_asm) (by k_asm) (by k_asm) (by k_asm) (by first | exact rfl | assumption) (r1 (by k_mem) (by (first | (first | assumption | exact (by assumption : ∀ a b : Tok, IntsAre [.int _ a, .int _ b] _) _ _ | exact (by assumption : ∀ a b c : Tok, IntsAre [.int _ a, .int _ b, .int _ c] _) _ _ _ | exact (by assumption : ∀ a b c d : Tok, IntsAre [.int _ a, .int _ b, .int _ c, .int _ d] _) _ _ _ _) | (first | assumption | exact IntsAre.nil | exact IntsAre.cons _ _ .nil)))) ((by assumption : ∀ w mean mg mb, Ct w mean mg mb 62 1 (R1 _) (OInt _)) _ _ _ _) (by ktr_room) (by ktr_units) ?_; (intro t'z h'z tk'z F'z N'z; (try dsimp only); (try k_fold)))) | (k_here; (with_reducible show wpAny _ _ (call (Value.ref 86) _) _ _ _); k_dflt (refine Ct.usePolyR (R := R2 _ _) (below_caller _) (by k_asm) (by k_asm) (by k_asm) (by k_asm) (by first | exact rfl | assumption) (r2 (by k_mem) (by (first | (first | assumption | exact (by assumption : ∀ a b : Tok, IntsAre [.int _ a, .int _ b] _) _ _ | exact (by assumption : ∀ a b c : Tok, IntsAre [.int _ a, .int _ b, .int _ c] _) _ _ _ | exact (by assumption : ∀ a b c d : Tok, IntsAre [.int _ a, .int _ b, .int _ c, .int _ d] _) _ _ _ _) | (first | assumption | exact IntsAre.nil | exact IntsAre.cons _ _ .nil))) (by k_mem) (by (first | (first | assumption | exact (by assumption : ∀ a b : Tok, IntsAre [.int _ a, .int _ b] _) _ _ | exact (by assumption : ∀ a b c : Tok, IntsAre [.int _ a, .int _ b, .int _ c] _) _ _ _ | exact (by assumption : ∀ a b c d : Tok, IntsAre [.int _ a, .int _ b, .int _ c, .int _ d] _) _ _ _ _) | (first | assumption | exact IntsAre.nil | exact IntsAre.cons _ _ .nil)))) ((by assumption : ∀ w mean mg mb, Ct w mean mg mb 86 3 (R2 _ _) (OPoly _)) _ _ _ _) (by ktr_room) (by ktr_units) ?_; (intro D'z us'z n'z h'z tk'z F'z N'z I'z J'z K'z; (try dsimp only); (try k_fold)))) | (k_here; (with_reducible show wpAny _ _ (call (Value.ref 105) _) _ _ _); k_dflt (refine Ct.usePolyR (R := R2 _ _) (below_caller _) (by k_asm) (by k_asm) (by k_asm) (by k_asm) (by first | exact rfl | assumption) (r2 (by k_mem) (by (first | (first | assumption | exact (by assumption : ∀ a b : Tok, IntsAre [.int _ a, .int _ b] _) _ _ | exact (by assumption : ∀ a b c : Tok, IntsAre [.int _ a, .int _ b, .int _ c] _) _ _ _ | exact (by assumption : ∀ a b c d : Tok, IntsAre [.int _ a, .int _ b, .int _ c, .int _ d] _) _ _ _ _) | (first | assumption | exact IntsAre.nil | exact IntsAre.cons _ _ .nil))) (by k_mem) (by (first | (first | assumption | exact (by assumption : ∀ a b : Tok, IntsAre [.int _ a, .int _ b] _) _ _ | exact (by assumption : ∀ a b c : Tok, IntsAre [.int _ a, .int _ b, .int _ c] _) _ _ _ | exact (by assumption : ∀ a b c d : Tok, IntsAre [.int _ a, .int _ b, .int _ c, .int _ d] _) _ _ _ _) | (first | assumption | exact IntsAre.nil | exact IntsAre.cons _ _ .nil)))) ((by assumption : ∀ w mean mg mb, Ct w mean mg mb 105 1 (R2 _ _) (OPoly _)) _ _ _ _) (by ktr_room) (by ktr_units) ?_; (intro D'z us'z n'z h'z tk'z F'z N'z I'z J'z K'z; (try dsimp only); (try k_fold))))) | walk1) | (dsimp only; (first | ((with_reducible show wpAny _ _ (call (Value.ref _) _) _ _ _); first | (k_here; (with_reducible show wpAny _ _ (call (Value.ref 62) _) _ _ _); k_dflt (refine Ct.useIntR (R := R1 _) (below_caller _) (by k_asm) (by k_asm) (by k_asm) (by k_asm) (by first | exact rfl | assumption) (r1 (by k_mem) (by (first | (first | assumption | exact (by assumption : ∀ a b : Tok, IntsAre [.int _ a, .int _ b] _) _ _ | exact (by assumption : ∀ a b c : Tok, IntsAre [.int _ a, .int _ b, .int _ c] _) _ _ _ | exact (by assumption : ∀ a b c d : Tok, IntsAre [.int _ a, .int _ b, .int _ c, .int _ d] _) _ _ _ _) | (first | assumption | exact IntsAre.nil | exact IntsAre.cons _ _ .nil)))) ((by assumption : ∀ w mean mg mb, Ct w mean mg mb 62 1 (R1 _) (OInt _)) _ _ _ _) (by ktr_room) (by ktr_units) ?_; (intro t'z h'z tk'z F'z N'z; (try dsimp only); (try k_fold)))) | (k_here; (with_reducible show wpAny _ _ (call (Value.ref 86) _) _ _ _); k_dflt (refine Ct.usePolyR (R := R2 _ _) (below_caller _) (by k_asm) (by k_asm) (by k_asm) (by k_asm) (by first | exact rfl | assumption) (r2 (by k_mem) (by (first | (first | assumption | exact (by assumption : ∀ a b : Tok, IntsAre [.int _ a, .int _ b] _) _ _ | exact (by assumption : ∀ a b c : Tok, IntsAre [.int _ a, .int _ b, .int _ c] _) _ _ _ | exact (by assumption : ∀ a b c d : Tok, IntsAre [.int _ a, .int _ b, .int _ c, .int _ d] _) _ _ _ _) | (first | assumption | exact IntsAre.nil | exact IntsAre.cons _ _ .nil))) (by k_mem) (by (first | (first | assumption | exact (by assumption : ∀ a b : Tok, IntsAre [.int _ a, .int _ b] _) _ _ | exact (by assumption : ∀ a b c : Tok, IntsAre [.int _ a, .int _ b, .int _ c] _) _ _ _ | exact (by assumption : ∀ a b c d : Tok, IntsAre [.int _ a, .int _ b, .int _ c, .int _ d] _) _ _ _ _) | (first | assumption | exact IntsAre.nil | exact IntsAre.cons _ _ .nil)))) ((by assumption : ∀ w mean mg mb, Ct w mean mg mb 86 3 (R2 _ _) (OPoly _)) _ _ _ _) (by ktr_room) (by ktr_units) ?_; (intro D'z us'z n'z h'z tk'z F'z N'z I'z J'z K'z; (try dsimp only); (try k_fold)))) | (k_here; (with_reducible show wpAny _ _ (call (Value.ref 105) _) _ _ _); k_dflt (refine Ct.usePolyR (R := R2 _ _) (below_caller _) (by k_asm) (by k_asm) (by k_asm) (by k_asm) (by first | exact rfl | assumption) (r2 (by k_mem) (by (first | (first | assumption | exact (by assumption : ∀ a b : Tok, IntsAre [.int _ a, .int _ b] _) _ _ | exact (by assumption : ∀ a b c : Tok, IntsAre [.int _ a, .int _ b, .int _ c] _) _ _ _ | exact (by assumption : ∀ a b c d : Tok, IntsAre [.int _ a, .int _ b, .int _ c, .int _ d] _) _ _ _ _) | (first | assumption | exact IntsAre.nil | exact IntsAre.cons _ _ .nil))) (by k_mem) (by (first | (first | assumption | exact (by assumption : ∀ a b : Tok, IntsAre [.int _ a, .int _ b] _) _ _ | exact (by assumption : ∀ a b c : Tok, IntsAre [.int _ a, .int _ b, .int _ c] _) _ _ _ | exact (by assumption : ∀ a b c d : Tok, IntsAre [.int _ a, .int _ b, .int _ c, .int _ d] _) _ _ _ _) | (first | assumption | exact IntsAre.nil | exact IntsAre.cons _ _ .nil)))) ((by assumption : ∀ w mean mg mb, Ct w mean mg mb 105 1 (R2 _ _) (OPoly _)) _ _ _ _) (by ktr_room) (by ktr_units) ?_; (intro D'z us'z n'z h'z tk'z F'z N'z I'z J'z K'z; (try dsimp only); (try k_fold))))) | walk1)) | (leave1; walk_say "STEP leave1"; try dsimp only) | fail "no step")))
        all_goals first
          | (have hc : List.getD [a, b, c] (Int.toNat 2) 0 ≠ 0 := (by assumption);
              exact JF.three hc x1 x3 I7 (by k_asm) (by k_asm) rfl)
          | (have hc : List.getD [a, b, c] (Int.toNat 2) 0 = 0 := (by assumption);
              exact JF.two hc x2 x3 I7 (by k_asm) (by k_asm) (by k_mem) (by k_mem) rfl)
      · clear x1 x2 x3 hf7 N7 I7
        rintro p8 h8 tk8 F8 G8 P2 P3 Q2 D dD dF vs8 n8 vs9 n9 FF8 N8 IF8 IG8 ⟨c1, c2, c3, c4, c5, c6, c7⟩ c8
        ((try dsimp only); (try k_fold))
        (repeat' ((fail_if_success (with_reducible show wpAny _ _ (call (Value.ref 199) _) _ _ _)); (first | exact absurd ((by assumption : (_ : Int) ≠ 0 → (2 : Int) * _ = _ + 2) (by assumption)) (by assumption) | (k_unfold; (try dsimp only)) | (first | ((with_reducible show wpAny _ _ (call (Value.ref _) _) _ _ _); first | (k_here; (with_reducible show wpAny _ _ (call (Value.ref 62) _) _ _ _); k_dflt (refine Ct.useIntR (R := R1 _) (below_caller _) (by k_asm) (by k_asm) (by k_asm) (by k_asm) (by first | exact rfl | assumption) (r1 (by k_mem) (by (first | (first | assumption | exact (by assumption : ∀ a b : Tok, IntsAre [.int _ a, .int _ b] _) _ _ | exact (by assumption : ∀ a b c : Tok, IntsAre [.int _ a, .int _ b, .int _ c] _) _ _ _ | exact (by assumption : ∀ a b c d : Tok, IntsAre [.int _ a, .int _ b, .int _ c, .int _ d] _) _ _ _ _) | (first | assumption | exact IntsAre.nil | exact IntsAre.cons _ _ .nil)))) ((by assumption : ∀ w mean mg mb, Ct w mean mg mb 62 1 (R1 _) (OInt _)) _ _ _ _) (by ktr_room) (by ktr_units) ?_; (intro t'z h'z tk'z F'z N'z; (try dsimp only); (try k_fold)))) | (k_here; (with_reducible show wpAny _ _ (call (Value.ref 86) _) _ _ _); k_dflt (refine Ct.usePolyR (R := R2 _ _) (below_caller _) (by k_asm) (by k_asm) (by k_asm) (by k_asm) (by first | exact rfl | assumption) (r2 (by k_mem) (by (first | (first | assumption | exact (by assumption : ∀ a b : Tok, IntsAre [.int _ a, .int _ b] _) _ _ | exact (by assumption : ∀ a b c : Tok, IntsAre [.int _ a, .int _ b, .int _ c] _) _ _ _ | exact (by assumption : ∀ a b c d : Tok, IntsAre [.int _ a, .int _ b, .int _ c, .int _ d] _) _ _ _ _) | (first | assumption | exact IntsAre.nil | exact IntsAre.cons _ _ .nil))) (by k_mem) (by (first | (first | assumption | exact (by assumption : ∀ a b : Tok, IntsAre [.int _ a, .int _ b] _) _ _ | exact (by assumption : ∀ a b c : Tok, IntsAre [.int _ a, .int _ b, .int _ c] _) _ _ _ | exact (by assumption : ∀ a b c d : Tok, IntsAre [.int _ a, .int _ b, .int _ c, .int _ d] _) _ _ _ _) | (first | assumption | exact IntsAre.nil | exact IntsAre.cons _ _ .nil)))) ((by assumption : ∀ w mean mg mb, Ct w mean mg mb 86 3 (R2 _ _) (OPoly _)) _ _ _ _) (by ktr_room) (by ktr_units) ?_; (intro D'z us'z n'z h'z tk'z F'z N'z I'z J'z K'z; (try dsimp only); (try k_fold)))) | (k_here; (with_reducible show wpAny _ _ (call (Value.ref 105) _) _ _ _); k_dflt (refine Ct.usePolyR (R := R2 _ _) (below_caller _) (by k_asm) (by k_asm) (by k_asm) (by k_asm) (by first | exact rfl | assumption) (r2 (by k_mem) (by (first | (first | assumption | exact (by assumption : ∀ a b : Tok, IntsAre [.int _ a, .int _ b] _) _ _ | exact (by assumption : ∀ a b c : Tok, IntsAre [.int _ a, .int _ b, .int _ c] _) _ _ _ | exact (by assumption : ∀ a b c d : Tok, IntsAre [.int _ a, .int _ b, .int _ c, .int _ d] _) _ _ _ _) | (first | assumption | exact IntsAre.nil | exact IntsAre.cons _ _ .nil))) (by k_mem) (by (first | (first | assumption | exact (by assumption : ∀ a b : Tok, IntsAre [.int _ a, .int _ b] _) _ _ | exact (by assumption : ∀ a b c : Tok, IntsAre [.int _ a, .int _ b, .int _ c] _) _ _ _ | exact (by assumption : ∀ a b c d : Tok, IntsAre [.int _ a, .int _ b, .int _ c, .int _ d] _) _ _ _ _) | (first | assumption | exact IntsAre.nil | exact IntsAre.cons _ _ .nil)))) ((by assumption : ∀ w mean mg mb, Ct w mean mg mb 105 1 (R2 _ _) (OPoly _)) _ _ _ _) (by ktr_room) (by ktr_units) ?_; (intro D'z us'z n'z h'z tk'z F'z N'z I'z J'z K'z; (try dsimp only); (try k_fold))))) | walk1) | (dsimp only; (first | ((with_reducible show wpAny _ _ (call (Value.ref _) _) _ _ _); first | (k_here; (with_reducible show wpAny _ _ (call (Value.ref 62) _) _ _ _); k_dflt (refine Ct.useIntR (R := R1 _) (below_caller _) (by k_asm) (by k_asm) (by k_asm) (by k_asm) (by first | exact rfl | assumption) (r1 (by k_mem) (by (first | (first | assumption | exact (by assumption : ∀ a b : Tok, IntsAre [.int _ a, .int _ b] _) _ _ | exact (by assumption : ∀ a b c : Tok, IntsAre [.int _ a, .int _ b, .int _ c] _) _ _ _ | exact (by assumption : ∀ a b c d : Tok, IntsAre [.int _ a, .int _ b, .int _ c, .int _ d] _) _ _ _ _) | (first | assumption | exact IntsAre.nil | exact IntsAre.cons _ _ .nil)))) ((by assumption : ∀ w mean mg mb, Ct w mean mg mb 62 1 (R1 _) (OInt _)) _ _ _ _) (by ktr_room) (by ktr_units) ?_; (intro t'z h'z tk'z F'z N'z; (try dsimp only); (try k_fold)))) | (k_here; (with_reducible show wpAny _ _ (call (Value.ref 86) _) _ _ _); k_dflt (refine Ct.usePolyR (R := R2 _ _) (below_caller _) (by k_asm) (by k_asm) (by k_asm) (by k_asm) (by first | exact rfl | assumption) (r2 (by k_mem) (by (first | (first | assumption | exact (by assumption : ∀ a b : Tok, IntsAre [.int _ a, .int _ b] _) _ _ | exact (by assumption : ∀ a b c : Tok, IntsAre [.int _ a, .int _ b, .int _ c] _) _ _ _ | exact (by assumption : ∀ a b c d : Tok, IntsAre [.int _ a, .int _ b, .int _ c, .int _ d] _) _ _ _ _) | (first | assumption | exact IntsAre.nil | exact IntsAre.cons _ _ .nil))) (by k_mem) (by (first | (first | assumption | exact (by assumption : ∀ a b : Tok, IntsAre [.int _ a, .int _ b] _) _ _ | exact (by assumption : ∀ a b c : Tok, IntsAre [.int _ a, .int _ b, .int _ c] _) _ _ _ | exact (by assumption : ∀ a b c d : Tok, IntsAre [.int _ a, .int _ b, .int _ c, .int _ d] _) _ _ _ _) | (first | assumption | exact IntsAre.nil | exact IntsAre.cons _ _ .nil)))) ((by assumption : ∀ w mean mg mb, Ct w mean mg mb 86 3 (R2 _ _) (OPoly _)) _ _ _ _) (by ktr_room) (by ktr_units) ?_; (intro D'z us'z n'z h'z tk'z F'z N'z I'z J'z K'z; (try dsimp only); (try k_fold)))) | (k_here; (with_reducible show wpAny _ _ (call (Value.ref 105) _) _ _ _); k_dflt (refine Ct.usePolyR (R := R2 _ _) (below_caller _) (by k_asm) (by k_asm) (by k_asm) (by k_asm) (by first | exact rfl | assumption) (r2 (by k_mem) (by (first | (first | assumption | exact (by assumption : ∀ a b : Tok, IntsAre [.int _ a, .int _ b] _) _ _ | exact (by assumption : ∀ a b c : Tok, IntsAre [.int _ a, .int _ b, .int _ c] _) _ _ _ | exact (by assumption : ∀ a b c d : Tok, IntsAre [.int _ a, .int _ b, .int _ c, .int _ d] _) _ _ _ _) | (first | assumption | exact IntsAre.nil | exact IntsAre.cons _ _ .nil))) (by k_mem) (by (first | (first | assumption | exact (by assumption : ∀ a b : Tok, IntsAre [.int _ a, .int _ b] _) _ _ | exact (by assumption : ∀ a b c : Tok, IntsAre [.int _ a, .int _ b, .int _ c] _) _ _ _ | exact (by assumption : ∀ a b c d : Tok, IntsAre [.int _ a, .int _ b, .int _ c, .int _ d] _) _ _ _ _) | (first | assumption | exact IntsAre.nil | exact IntsAre.cons _ _ .nil)))) ((by assumption : ∀ w mean mg mb, Ct w mean mg mb 105 1 (R2 _ _) (OPoly _)) _ _ _ _) (by ktr_room) (by ktr_units) ?_; (intro D'z us'z n'z h'z tk'z F'z N'z I'z J'z K'z; (try dsimp only); (try k_fold))))) | walk1)) | (leave1; walk_say "STEP leave1"; try dsimp only) | fail "no step")))
        all_goals first
          | (rw [(by assumption : decide (_ = ([] : List Int)) = true)]; exact good_true (by assumption) (by assumption) rfl)
          | (rw [decide_eq_true (c7 (of_decide_eq_false (by assumption : decide (_ = ([] : List Int)) = false)))]; exact good_true (by assumption) (by assumption) rfl))

end
end Mine
theorem PySem.Challenge.cw_tg0006_01_holds : PySem.Challenge.rw_tg0006_01.Holds :=
  Mine.law_holds
