import PyProof.Rows.All
import Wide.All
import OpenK.AllK
import Wide.FinOn
import HandS.ForMost
import HandS.Style
import HandS.IsInst
import HandS.Walk
import HandS.Zip
import HandS.Codes
import PySem.Challenge.RW_layerask_k63_whole_linear_work
set_option Elab.async false
set_option linter.unusedVariables false
set_option maxRecDepth 100000
set_option maxHeartbeats 4000000
namespace LK
open PySem L2 PyProof.Rows
open C8 (Cal Met Mak pe_c pe_mk pe_mt pe_mt0)
/-! ## LK0 -/
/-! ### the text by places -/
def top (i : Nat) : Stmt := PySem.Challenge.pw_layerask_k63_whole_linear_work.main.body.getD i (.Pass ⟨0, 0, 0, 0⟩)

/-! ### defs and methods by their bodies -/
section
variable {P : Program} {w : World} {K : PySem.W.Frag} {mg : Str → Option Value} {base : Heap}
structure DefAt (K : PySem.W.Frag) (mg : Str → Option Value) (x : Str) (st : Stmt) (ps : List Str) : Prop where
  ex : ∃ (f : Addr) (fd : FuncData), Fun K x x st f fd ∧ mg x = some (.ref f) ∧ Binds K fd ps []
theorem cal_of {x : Str} {st : Stmt} {N ps : List Str} {k : Nat} {sp : Sp} (D : DefAt K mg x st ps) (S : FnScope N ps (defScope st)) (len : ∀ vs H Q E, sp vs H Q E → vs.length = ps.length)
    (hbody : ∀ (f : Addr) (cdv : Value) (A : Around) (outer : List Env) (s : Shared) (H : Hp) (vs : List V) (Q : VK) (E : XK), Room k (A.deeper (envOfC x (defScope st) s.heap.objs.size f cdv)) → sp vs H Q E →
      ∃ t, PSs (cxOf CX0 P w K mg base N x (defScope st) f cdv A outer s H E).nox (defBody st) t ∧ t { nx := fun _ H' => Q .non H', rt := Q } (start N vs) H) : Cal P w K mg base (k + 1) x sp [] := by
  obtain ⟨f, fd, F, m, b⟩ := D.ex
  exact ⟨f, fd, ps, [], F.ok S len (hbody f), m, F.kp, b, .nil⟩
structure MetAt (K : PySem.W.Frag) (C : Addr) (m qual : Str) (st : Stmt) (ps : List Str) : Prop where
  ex : ∃ (f : Addr) (fd : FuncData), Cls K C ∧ Meth K C m f ∧ Fun K m qual st f fd ∧ Binds K fd ps []
theorem met_of {C : Addr} {m qual : Str} {st : Stmt} {N ps : List Str} {k : Nat} {sp : Sp} (D : MetAt K C m qual st ps) (S : FnScope N ps (defScope st)) (len : ∀ vs H Q E, sp vs H Q E → vs.length = ps.length)
    (hbody : ∀ (f : Addr) (cdv : Value) (A : Around) (outer : List Env) (s : Shared) (H : Hp) (vs : List V) (Q : VK) (E : XK), Room k (A.deeper (envOfC qual (defScope st) s.heap.objs.size f cdv)) → sp vs H Q E →
      ∃ t, PSs (cxOf CX0 P w K mg base N qual (defScope st) f cdv A outer s H E).nox (defBody st) t ∧ t { nx := fun _ H' => Q .non H', rt := Q } (start N vs) H) : Met P w K mg base (k + 1) C m sp [] := by
  obtain ⟨f, fd, c, me, F, b⟩ := D.ex
  exact ⟨f, fd, ps, [], c, me, F.ok S len (hbody f), b, .nil⟩
structure MakAt (K : PySem.W.Frag) (mg : Str → Option Value) (x : Str) (C : Addr) (qual : Str) (st : Stmt) (ps : List Str) : Prop where
  ex : ∃ (f : Addr) (fd : FuncData), Mk K C f ∧ mg x = some (.ref C) ∧ Fun K "__init__" qual st f fd ∧ Binds K fd ps []
theorem mak_of {C : Addr} {x qual : Str} {st : Stmt} {N ps : List Str} {k : Nat} {sp : Sp} (D : MakAt K mg x C qual st ps) (S : FnScope N ps (defScope st)) (len : ∀ vs H Q E, sp vs H Q E → vs.length = ps.length)
    (hbody : ∀ (f : Addr) (cdv : Value) (A : Around) (outer : List Env) (s : Shared) (H : Hp) (vs : List V) (Q : VK) (E : XK), Room k (A.deeper (envOfC qual (defScope st) s.heap.objs.size f cdv)) → sp vs H Q E →
      ∃ t, PSs (cxOf CX0 P w K mg base N qual (defScope st) f cdv A outer s H E).nox (defBody st) t ∧ t { nx := fun _ H' => Q .non H', rt := Q } (start N vs) H) : Mak P w K mg base (k + 1) x C sp [] := by
  obtain ⟨f, fd, M, hm, F, b⟩ := D.ex
  exact ⟨f, fd, ps, [], M, F.ok S len (hbody f), hm, b, .nil⟩
end
/-- the built-in names and the constants of the top -/
structure Txt (mg : Str → Option Value) : Prop where
  len : mg "len" = none
  range : mg "range" = none
  zip : mg "zip" = none
  enumerate : mg "enumerate" = none
  isinstance : mg "isinstance" = none
  int : mg "int" = none
  bool : mg "bool" = none
  list : mg "list" = none
  tuple : mg "tuple" = none
  all : mg "all" = none
  sum : mg "sum" = none
  max : mg "max" = none
  abs : mg "abs" = none
  MOST : ∃ t, mg "MOST" = some (.int 2147483647 t)
  MAX_WIDTH : ∃ t, mg "MAX_WIDTH" = some (.int 8 t)
  MAX_LAYERS : ∃ t, mg "MAX_LAYERS" = some (.int 64 t)
  MAX_GATES : ∃ t, mg "MAX_GATES" = some (.int 4096 t)
  MAX_ROWS : ∃ t, mg "MAX_ROWS" = some (.int 1024 t)
section
variable {X : Cx}
/-- a module's int -/
theorem pe_const {x : Str} {i : Int} {pos : Pos} (hg : Gl X x) (hm : ∃ t, X.mg x = some (.int i t)) (hd : (x == ("__debug__" : Str)) = false := by decide) : PE X (.Name x pos) (tC (.int i)) :=
  hm.elim fun t e => pe_glob hg e ⟨t, rfl⟩ hd
theorem pe_fldK {K : PySem.W.Frag} {e : Expr} {f : Str} {pos : Pos} {ta : TE} (he : PE X e ta) (hb : attributeBase e f X.env (eval e X.env) = eval e X.env) (hK : X.K = K := by rfl) : PE X (.Attribute e f pos) (tFld K ta f) := by
  subst hK
  exact pe_fld he hb
/-- an attribute as a target -/
def gFld (K : PySem.W.Frag) (ta : TE) (f : Str) : TG := fun y σ H Q => ta σ H fun x H2 => ∃ a C dx fs, x = .ref a ∧ H2 a = some (.ins C dx fs) ∧ Cls K C ∧ NoAttr K C f ∧ fs.length < 1000 ∧ Q σ (upd H2 a (.ins C dx (putF f y fs)))
theorem pg_fld {o : Expr} {f : Str} {pos : Pos} {ta : TE} (ha : PE X o ta) : PG X (.Attribute o f pos) (gFld X.K ta f) := by
  refine ⟨fun pins s σ H v u Q I r h => ?_⟩
  refine PySem.W.kas_attr (thn (ha.run pins s σ H _ I h) fun ov s1 ⟨x, H1, I1, rx, a, C, dx, fs, ex, ea, c, n, l, q⟩ => ?_)
  subst ex
  obtain rfl : ov = Value.ref a := rx
  exact setattr_ok I1 ea c n l r fun s2 I2 => ⟨σ, _, I2, q⟩
end

/-! ### heaps -/
abbrev Mu := Addr → Prop
abbrev M0 : Mu := fun _ => False
abbrev M1 (x : Addr) : Mu := fun b => b = x
/-- all but M is as it was -/
def Kp (M : Mu) (H H' : Hp) : Prop := ∀ b o, ¬ M b → H b = some o → H' b = some o
/-- what M says stands -/
def Dom (M : Mu) (H : Hp) : Prop := ∀ b, M b → H b ≠ none
section
variable {M M' : Mu} {H H' H1 H2 : Hp} {a b p x : Addr} {o : HO}
theorem Kp.refl (M : Mu) (H : Hp) : Kp M H H := fun _ _ _ h => h
theorem Kp.trans (a : Kp M H H1) (b : Kp M H1 H2) : Kp M H H2 := fun c o n h => b c o n (a c o n h)
theorem Kp.le (k : Kp M H H') (h : ∀ b, M b → M' b) : Kp M' H H' := fun b o n e => k b o (fun z => n (h b z)) e
theorem Kp.zero (k : Kp M0 H H') : Kp M H H' := k.le fun _ z => z.elim
theorem Kp.same (k : Kp M0 H H') : Same H H' := fun b o e => k b o id e
theorem Kp.of (k : Same H H') : Kp M H H' := fun b o _ e => k b o e
theorem Kp.at (k : Kp M0 H H') (e : H b = some o) : H' b = some o := k b o id e
theorem Kp.free (k : Kp M0 H H') (e : H' b = none) : H b = none := k.same.free e
theorem Kp.new (k : Kp M H H') (e : H' p = none) : Kp M H (upd H' p o) := fun b u n h => by
  have q := k b u n h
  rw [upd_ne (ne_of_none q e)]
  exact q
theorem Kp.mut (k : Kp M H H') (e : H p = none) : Kp M H (upd H' p o) := fun b u n h => by
  rw [upd_ne (ne_of_none h e)]
  exact k b u n h
theorem Kp.own (k : Kp M H H') (m : M p) : Kp M H (upd H' p o) := fun b u n h => by
  rw [upd_ne (fun z => n (by rw [z]; exact m))]
  exact k b u n h
theorem Dom.fresh (d : Dom M H) (e : H p = none) : ¬ M p := fun m => d p m e
theorem Dom.upd (d : Dom M H) : Dom M (upd H p o) := fun b m => by
  by_cases h : b = p
  · rw [h, upd_same]; exact fun z => nomatch z
  · rw [upd_ne h]; exact d b m
theorem Dom.kp (d : Dom M H) (k : Kp M0 H H') : Dom M H' := fun b m => by
  cases e : H b with
  | none => exact (d b m e).elim
  | some u => rw [k b u id e]; exact fun z => nomatch z
theorem Dom.kp1 (d : Dom M H) (k : Kp (M1 x) H H') (hx : H' x ≠ none) : Dom M H' := fun b m => by
  by_cases h : b = x
  · rw [h]; exact hx
  · cases e : H b with
    | none => exact (d b m e).elim
    | some u => rw [k b u h e]; exact fun z => nomatch z
theorem Dom.zero : Dom M0 H := fun _ z => z.elim
end
theorem some_ne {α : Type} {o : Option α} {x : α} (h : o = some x) : o ≠ none := fun e => by rw [h] at e; cases e

/-! ### lists of things -/
/-- v is a list (outside M) of n things, each with F -/
def Lst (M : Mu) (H : Hp) (v : V) (n : Nat) (F : V → Prop) : Prop := ∃ l xs, v = .ref l ∧ H l = some (.lst xs) ∧ ¬ M l ∧ xs.length = n ∧ ∀ x ∈ xs, F x
/-- an int in the range -/
def IsI (lo hi : Int) (v : V) : Prop := ∃ i, v = .int i ∧ lo ≤ i ∧ i < hi
/-- a list of n ints from 0 to p - 1 -/
abbrev IL (M : Mu) (H : Hp) (v : V) (n : Nat) (p : Int) : Prop := Lst M H v n (IsI 0 p)
/-- a list of n lists of m ints -/
abbrev IL2 (M : Mu) (H : Hp) (v : V) (n m : Nat) (p : Int) : Prop := Lst M H v n fun x => IL M H x m p
section
variable {M M' : Mu} {H H' : Hp} {v : V} {n m : Nat} {p : Int} {F F' : V → Prop} {N : Mu}
theorem Lst.mono (h : Lst M H v n F) (k : Kp N H H') (hN : ∀ b, N b → M b) (hF : ∀ x, F x → F' x) : Lst M H' v n F' :=
  let ⟨l, xs, e, hl, nl, hn, hx⟩ := h
  ⟨l, xs, e, k l _ (fun z => nl (hN l z)) hl, nl, hn, fun x z => hF x (hx x z)⟩
theorem IL.mono (h : IL M H v n p) (k : Kp N H H') (hN : ∀ b, N b → M b) : IL M H' v n p := Lst.mono h k hN fun _ z => z
theorem IL2.mono (h : IL2 M H v n m p) (k : Kp N H H') (hN : ∀ b, N b → M b) : IL2 M H' v n m p := Lst.mono h k hN fun _ z => IL.mono z k hN
theorem Lst.kp (h : Lst M H v n F) (k : Kp M0 H H') : Lst M H' v n F := h.mono k (fun _ z => z.elim) fun _ z => z
theorem IL.kp (h : IL M H v n p) (k : Kp M0 H H') : IL M H' v n p := IL.mono h k fun _ z => z.elim
theorem IL2.kp (h : IL2 M H v n m p) (k : Kp M0 H H') : IL2 M H' v n m p := IL2.mono h k fun _ z => z.elim
theorem Lst.le (h : Lst M H v n F) (hM : ∀ b, M' b → M b) (hF : ∀ x, F x → F' x) : Lst M' H v n F' :=
  let ⟨l, xs, e, hl, nl, hn, hx⟩ := h
  ⟨l, xs, e, hl, fun z => nl (hM l z), hn, fun x z => hF x (hx x z)⟩
theorem IL.le (h : IL M H v n p) (hM : ∀ b, M' b → M b) : IL M' H v n p := Lst.le h hM fun _ z => z
/-- the ints of such a list -/
theorem IL.ints (h : IL M H v n p) : ∃ (l : Addr) (ns : List Int), v = .ref l ∧ H l = some (.lst (ns.map V.int)) ∧ ¬ M l ∧ ns.length = n ∧ ∀ i ∈ ns, 0 ≤ i ∧ i < p := by
  obtain ⟨l, xs, e, hl, nl, hn, hx⟩ := h
  have : ∃ ns : List Int, xs = ns.map V.int ∧ ∀ i ∈ ns, 0 ≤ i ∧ i < p := by
    clear hl hn
    induction xs with
    | nil => exact ⟨[], rfl, fun _ z => nomatch z⟩
    | cons x r ih =>
      obtain ⟨ns, e1, h1⟩ := ih fun y z => hx y (List.mem_cons_of_mem _ z)
      obtain ⟨i, e2, h2⟩ := hx x List.mem_cons_self
      refine ⟨i :: ns, by rw [e1, e2]; rfl, fun j z => ?_⟩
      rcases List.mem_cons.mp z with z | z
      · rw [z]; exact h2
      · exact h1 j z
  obtain ⟨ns, e1, h1⟩ := this
  subst e1
  exact ⟨l, ns, e, hl, nl, by rw [← hn, List.length_map], h1⟩
theorem IsI.get {xs : List V} {lo hi : Int} (h : ∀ x ∈ xs, IsI lo hi x) {i : Int} (h0 : 0 ≤ i) (h1 : i < xs.length) : ∃ j, atI xs i = some (.int j) ∧ lo ≤ j ∧ j < hi := by
  have hl : i.toNat < xs.length := by omega
  obtain ⟨j, e, b⟩ := h _ (List.getElem_mem hl)
  refine ⟨j, ?_, b⟩
  refine at_of (j := i.toNat) (by omega) ?_
  rw [← e]
  exact List.getElem?_eq_getElem hl
theorem all_get {xs : List V} (h : ∀ x ∈ xs, F x) {i : Int} (h0 : 0 ≤ i) (h1 : i < xs.length) : ∃ v, atI xs i = some v ∧ F v := by
  have hl : i.toNat < xs.length := by omega
  exact ⟨_, at_of (j := i.toNat) (by omega) (List.getElem?_eq_getElem hl), h _ (List.getElem_mem hl)⟩
theorem all_at {xs : List V} (h : ∀ x ∈ xs, F x) {i : Nat} {v : V} (e : xs[i]? = some v) : F v := h v (List.mem_of_getElem? e)
theorem all_app {xs : List V} {y : V} (h : ∀ x ∈ xs, F x) (hy : F y) : ∀ x ∈ xs ++ [y], F x := fun x z => by
  rcases List.mem_append.mp z with z | z
  · exact h x z
  · rw [List.mem_singleton.mp z]; exact hy
theorem all_set {xs : List V} {y : V} {j : Nat} (h : ∀ x ∈ xs, F x) (hy : F y) : ∀ x ∈ xs.set j y, F x := fun x z => by
  rcases List.mem_or_eq_of_mem_set z with z | z
  · exact h x z
  · rw [z]; exact hy
end
theorem sz {n : Nat} (h : n ≤ 100000) : n ≤ sizeLine := Nat.le_trans h (by decide)
theorem szl {n : Nat} (h : n < 100000) : n < sizeLine := Nat.lt_of_lt_of_le h (by decide)
theorem emod_b {a p : Int} (h : 0 < p) : 0 ≤ a % p ∧ a % p < p := ⟨Int.emod_nonneg _ (by omega), Int.emod_lt_of_pos _ h⟩
theorem isI_mod {a p : Int} (h : 0 < p) : IsI 0 p (.int (a % p)) := ⟨_, rfl, emod_b h⟩
/-- a product of two small ints -/
theorem mul_small {a b : Int} {A B : Nat} (h1 : -(A : Int) ≤ a) (h2 : a ≤ A) (h3 : -(B : Int) ≤ b) (h4 : b ≤ B) : -((A * B : Nat) : Int) ≤ a * b ∧ a * b ≤ ((A * B : Nat) : Int) := by
  have ha : a.natAbs ≤ A := by omega
  have hb : b.natAbs ≤ B := by omega
  have h := Nat.mul_le_mul ha hb
  rw [← Int.natAbs_mul] at h
  omega

/-! ### comprehensions -/
section
variable {J : It} {n : Nat} {G : Hp → Prop} {Y : Nat → Hp → V → Hp → Prop} {g : TG} {te : TE} {vs : List Nat} {σ : L2.St} {H1 : Hp} {D : Addr} {Qd : Hp → Prop}
/-- behind i turns of a comprehension: R, what holds of the heap; F, of each thing made -/
def CP (D : Addr) (R : Nat → Hp → Prop) (F : Hp → V → Prop) (i : Nat) (H : Hp) : Prop := R i H ∧ ∃ acc, H D = some (.lst acc) ∧ acc.length = i ∧ ∀ x ∈ acc, F H x
theorem CP.next {R : Nat → Hp → Prop} {F : Hp → V → Prop} {i : Nat} {H H4 : Hp} {y : V} (q : CP D R F i H) (hi : i < 100000) (hD : ∀ o, H D = some o → H4 D = some o) (hR : R (i + 1) H4) (hR' : ∀ o, R (i + 1) H4 → R (i + 1) (upd H4 D o)) (hF : ∀ x, F H x → F H4 x) (hy : F H4 y)
    (hF' : ∀ x o, F H4 x → F (upd H4 D o) x) : ∃ acc, H4 D = some (.lst acc) ∧ acc.length < sizeLine ∧ CP D R F (i + 1) (upd H4 D (.lst (acc ++ [y]))) := by
  obtain ⟨q1, acc, h1, h2, h3⟩ := q
  refine ⟨acc, hD _ h1, szl (by omega), hR' _ hR, _, upd_same, by rw [List.length_append, List.length_singleton, h2], fun z hz => ?_⟩
  exact hF' _ _ (all_app (F := F H4) (fun z hz => hF z (h3 z hz)) hy z hz)
theorem lc_all (w : Walk J n G Y) (R : Nat → Hp → Prop) (F : Hp → V → Prop) (r0 : R 0 (upd H1 D (.lst []))) (hG : ∀ i H, i ≤ n → R i H → G H)
    (hs : ∀ i x H H', i < n → CP D R F i H → Y i H x H' → g x (wipe σ vs) H' fun σ2 H2 => wipe σ2 vs = wipe σ vs ∧ te σ2 H2 fun y H4 => ∃ acc, H4 D = some (.lst acc) ∧ acc.length < sizeLine ∧ CP D R F (i + 1) (upd H4 D (.lst (acc ++ [y]))))
    (hd : ∀ H acc, R n H → H D = some (.lst acc) → acc.length = n → (∀ x ∈ acc, F H x) → Qd H) :
    ∃ W : Nat → Nat → Hp → Prop, (∃ m, W 0 m (upd H1 D (.lst []))) ∧ ∀ i m H, W i m H →
      (J.stop i H ∧ Qd H) ∨ (J.go i H ∧ ∃ Nx : Hp → Prop, (∀ H', Nx H' → ∃ m', m' < m ∧ W (i + 1) m' H') ∧ ∀ x H', J.yld i H x H' → g x (wipe σ vs) H' fun σ2 H2 => wipe σ2 vs = wipe σ vs ∧ tYes σ2 H2 fun b H3 =>
        if b = true then te σ2 H3 fun y H4 => ∃ acc, H4 D = some (.lst acc) ∧ acc.length < sizeLine ∧ Nx (upd H4 D (.lst (acc ++ [y]))) else Nx H3) := by
  refine lc_it w (CP D R F) ⟨r0, [], upd_same, rfl, fun _ z => nomatch z⟩ (fun i H hi q => hG i H hi q.1) (fun i x H H' hi q hy => hs i x H H' hi q hy) (fun H q => ?_)
  obtain ⟨q1, acc, h1, h2, h3⟩ := q
  exact hd H acc q1 h1 h2 h3
/-- .. of plain things, nothing else changed -/
theorem lc_pure {M : Mu} (F : V → Prop) (w : Walk J n G Y) (hz : n ≤ 100000) (dM : Dom M H1) (nD : H1 D = none) (hG : ∀ H, Kp M0 H1 H → G H)
    (hs : ∀ i x H H' (C : V → Hp → Prop), i < n → Kp M0 H1 H → Y i H x H' → (∀ y H4, Kp M0 H H4 → F y → C y H4) → g x (wipe σ vs) H' fun σ2 H2 => wipe σ2 vs = wipe σ vs ∧ te σ2 H2 C)
    (hd : ∀ H, Kp M0 H1 H → Lst M H (.ref D) n F → Qd H) :
    ∃ W : Nat → Nat → Hp → Prop, (∃ m, W 0 m (upd H1 D (.lst []))) ∧ ∀ i m H, W i m H →
      (J.stop i H ∧ Qd H) ∨ (J.go i H ∧ ∃ Nx : Hp → Prop, (∀ H', Nx H' → ∃ m', m' < m ∧ W (i + 1) m' H') ∧ ∀ x H', J.yld i H x H' → g x (wipe σ vs) H' fun σ2 H2 => wipe σ2 vs = wipe σ vs ∧ tYes σ2 H2 fun b H3 =>
        if b = true then te σ2 H3 fun y H4 => ∃ acc, H4 D = some (.lst acc) ∧ acc.length < sizeLine ∧ Nx (upd H4 D (.lst (acc ++ [y]))) else Nx H3) := by
  refine lc_all w (fun _ H => Kp M0 H1 H) (fun _ v => F v) ((Kp.refl _ _).new nD) (fun _ H _ k => hG H k) (fun i x H H' hi q hy => hs i x H H' _ hi q.1 hy fun y H4 k hyy => ?_) (fun H acc k h1 h2 h3 => ?_)
  · exact q.next (by omega) (fun o h => k.at h) (q.1.trans k) (fun o z => z.mut nD) (fun _ z => z) hyy (fun _ _ z => z)
  · exact hd H k ⟨D, acc, rfl, h1, dM.fresh nD, h2, h3⟩
/-- .. of ints -/
theorem lc_ints {M : Mu} {p : Int} (w : Walk J n G Y) (hz : n ≤ 100000) (dM : Dom M H1) (nD : H1 D = none) (hG : ∀ H, Kp M0 H1 H → G H)
    (hs : ∀ i x H H' (C : V → Hp → Prop), i < n → Kp M0 H1 H → Y i H x H' → (∀ y H4, Kp M0 H H4 → IsI 0 p y → C y H4) → g x (wipe σ vs) H' fun σ2 H2 => wipe σ2 vs = wipe σ vs ∧ te σ2 H2 C)
    (hd : ∀ H, Kp M0 H1 H → IL M H (.ref D) n p → Qd H) :
    ∃ W : Nat → Nat → Hp → Prop, (∃ m, W 0 m (upd H1 D (.lst []))) ∧ ∀ i m H, W i m H →
      (J.stop i H ∧ Qd H) ∨ (J.go i H ∧ ∃ Nx : Hp → Prop, (∀ H', Nx H' → ∃ m', m' < m ∧ W (i + 1) m' H') ∧ ∀ x H', J.yld i H x H' → g x (wipe σ vs) H' fun σ2 H2 => wipe σ2 vs = wipe σ vs ∧ tYes σ2 H2 fun b H3 =>
        if b = true then te σ2 H3 fun y H4 => ∃ acc, H4 D = some (.lst acc) ∧ acc.length < sizeLine ∧ Nx (upd H4 D (.lst (acc ++ [y]))) else Nx H3) := lc_pure (IsI 0 p) w hz dM nD hG hs hd
end
/-! ### readings, step by step -/
section
variable {σ : L2.St} {H : Hp} {Q : VK} {K : PySem.W.Frag} {ta tb te : TE} {i : Nat} {v x y : V} {a b p : Int} {l : Addr} {xs : List V} {D : Ends}
theorem r_var (h : σ[i]? = some (some v)) (q : Q v H) : tVar i σ H Q := ⟨v, h, q⟩
theorem r_c (q : Q v H) : tC v σ H Q := q
theorem r_op {r : R2} (q : ta σ H fun x H1 => tb σ H1 fun y H2 => r x y H2 Q) : tOp r ta tb σ H Q := q
theorem r_un {r : V → Hp → VK → Prop} (q : ta σ H fun x H1 => r x H1 Q) : tUn r ta σ H Q := q
theorem r_I0 {g : Int → Int → V} (q : Q (g a b) H) : rI0 g (.int a) (.int b) H Q := ⟨a, b, rfl, rfl, q⟩
theorem r_U {g : Int → V} (q : Q (g a) H) : rU g (.int a) H Q := ⟨a, rfl, q⟩
theorem r_mod (h : 0 < b) (q : Q (.int (a % b)) H) : rI (fun _ j => 0 < j) (fun i j => .int (i % j)) (.int a) (.int b) H Q := ⟨a, b, rfl, rfl, h, q⟩
theorem r_mul (h : -1000000 < a ∧ a < 1000000) (q : Q (.int (a * b)) H) : rI CMul (fun i j => .int (i * j)) (.int a) (.int b) H Q := ⟨a, b, rfl, rfl, .inl ⟨by omega, by omega⟩, q⟩
theorem r_mulr (h : -1000000 < b ∧ b < 1000000) (q : Q (.int (a * b)) H) : rI CMul (fun i j => .int (i * j)) (.int a) (.int b) H Q := ⟨a, b, rfl, rfl, .inr ⟨by omega, by omega⟩, q⟩
theorem r_fdiv (h : 0 < b ∧ b < 1000000) (q : Q (.int (a / b)) H) : rI CDiv (fun i j => .int (i / j)) (.int a) (.int b) H Q := ⟨a, b, rfl, rfl, ⟨h.1, by omega⟩, q⟩
theorem r_shl {n : Nat} (h : n ≤ 1000) (q : Q (.int ((2 ^ n : Nat) : Int)) H) : rI CPow (fun i j => .int (i * 2 ^ j.toNat)) (.int 1) (.int (n : Int)) H Q := by
  refine ⟨1, (n : Int), rfl, rfl, ⟨by omega, by omega, by decide⟩, ?_⟩
  show Q (.int (1 * 2 ^ ((n : Int)).toNat)) H
  rw [Int.one_mul, Int.toNat_natCast]
  rw [Int.natCast_pow] at q
  exact q
theorem r_ixL (h : H l = some (.lst xs)) (e : atI xs a = some v) (q : Q v H) : rIxL K (.ref l) (.int a) H Q := ⟨l, xs, a, v, rfl, rfl, SqL.of h, e, q⟩
theorem r_ixT (h : H l = some (.tup xs)) (e : atI xs a = some v) (q : Q v H) : rIxT K (.ref l) (.int a) H Q := ⟨l, xs, a, v, rfl, rfl, SqT.of h, e, q⟩
theorem r_eq (h : scal x y = true) (q : Q (.bl (decide (x = y))) H) : rEq x y H Q := ⟨h, q⟩
theorem r_ne (h : scal x y = true) (q : Q (.bl (!decide (x = y))) H) : rNe x y H Q := ⟨h, q⟩
/-- len of a list or a tuple; list(..); int(..); abs(..): with names -/
def rLen (K : PySem.W.Frag) : List V → Hp → VK → Prop := fun xs H Q => ∃ p ys, xs = [.ref p] ∧ (SqL K H p ys ∨ SqT K H p ys) ∧ Q (.int (ys.length : Nat)) H
theorem call_lenS {X : Cx} : CallR X (.builtin "len") (rLen X.K) := call_len_seq
theorem r_lenL (h : H l = some (.lst xs)) (q : Q (.int (xs.length : Nat)) H) : rLen K [V.ref l] H Q := ⟨l, xs, rfl, .inl (SqL.of h), q⟩
theorem r_lenT (h : H l = some (.tup xs)) (q : Q (.int (xs.length : Nat)) H) : rLen K [V.ref l] H Q := ⟨l, xs, rfl, .inr (SqT.of h), q⟩
theorem r_lenTn {n : Nat} (h : H l = some (.tup xs)) (hn : xs.length = n) (q : Q (.int (n : Int)) H) : rLen K [V.ref l] H Q := r_lenT h (by rw [hn]; exact q)
def rList (K : PySem.W.Frag) : List V → Hp → VK → Prop := fun xs H Q => ∃ p ys, xs = [.ref p] ∧ (SqL K H p ys ∨ SqT K H p ys) ∧ ∀ l, H l = none → Q (.ref l) (upd H l (.lst ys))
theorem call_listS {X : Cx} : CallR X (.type "list") (rList X.K) := call_list_of
theorem r_list (h : H l = some (.lst xs)) (q : ∀ p, H p = none → Q (.ref p) (upd H p (.lst xs))) : rList K [V.ref l] H Q := ⟨l, xs, rfl, .inl (SqL.of h), q⟩
def rIntC : List V → Hp → VK → Prop := fun xs H Q => (∃ i, xs = [.int i] ∧ Q (.int i) H) ∨ ∃ k, xs = [.bl k] ∧ Q (.int (if k then 1 else 0)) H
theorem call_intS {X : Cx} : CallR X (.type "int") rIntC := call_int1
theorem r_intC (q : Q (.int a) H) : rIntC [V.int a] H Q := .inl ⟨a, rfl, q⟩
def rAbs : List V → Hp → VK → Prop := fun xs H Q => ∃ i, xs = [.int i] ∧ Q (.int (if i < 0 then -i else i)) H
theorem call_absS {X : Cx} : CallR X (.builtin "abs") rAbs := call_abs
theorem r_abs (q : ∀ j : Int, 0 ≤ j → Q (.int j) H) : rAbs [V.int a] H Q := ⟨a, rfl, q _ (by split <;> omega)⟩
theorem r_cb {r : List V → Hp → VK → Prop} {t : TA} (q : t σ H fun vs H1 => r vs H1 Q) : tCB r t σ H Q := q
theorem r_call {sp : Sp} {E : XK} {t : TA} (q : t σ H fun vs H1 => sp vs H1 Q E) : tCall sp [] E t σ H Q := by
  have e : (fun (vs : List V) (H1 : Hp) => sp (vs ++ []) H1 Q E) = fun vs H1 => sp vs H1 Q E := by
    funext vs H1
    rw [List.append_nil]
  show t σ H (fun vs H1 => sp (vs ++ []) H1 Q E)
  rw [e]
  exact q
theorem r_nil {Q : List V → Hp → Prop} (q : Q [] H) : tNil σ H Q := q
theorem r_cons {Q : List V → Hp → Prop} {tr : TA} (q : ta σ H fun x H1 => tr σ H1 fun xs H2 => Q (x :: xs) H2) : tCons ta tr σ H Q := q
theorem r_test {Q : Bool → Hp → Prop} (q : te σ H fun x H' => ∃ k, x = .bl k ∧ Q k H') : tTest te σ H Q := q
theorem r_tB {Q : Bool → Hp → Prop} (q : te σ H fun x H' => ∃ k, x = .bl k ∧ Q k H') : tB te σ H Q := q
theorem r_tAnd {t u : TT} {Q : Bool → Hp → Prop} (q : t σ H fun c H1 => if c = true then u σ H1 Q else Q false H1) : tAnd t u σ H Q := q
theorem r_tOr {t u : TT} {Q : Bool → Hp → Prop} (q : t σ H fun c H1 => if c = true then Q true H1 else u σ H1 Q) : tOr t u σ H Q := q
theorem r_tNot {t : TT} {Q : Bool → Hp → Prop} (q : t σ H fun c H1 => Q (!c) H1) : tNot t σ H Q := q
theorem r_bl {k : Bool} {Q : Bool → Prop} (q : Q k) : ∃ k', V.bl k = V.bl k' ∧ Q k' := ⟨k, rfl, q⟩
theorem r_notV (q : ta σ H fun x H1 => ∃ c, x = .bl c ∧ Q (.bl (!c)) H1) : tNotV ta σ H Q := q
theorem r_andV (q : ta σ H fun x H1 => ∃ c, x = .bl c ∧ if c = true then tb σ H1 Q else Q (.bl false) H1) : tAndV ta tb σ H Q := q
theorem r_chain {r r' : R2} {tc : TE} (q : ta σ H fun x H1 => tb σ H1 fun y H2 => r x y H2 fun z H3 => ∃ k, z = .bl k ∧ (if k = true then tc σ H3 fun w' H4 => r' y w' H4 Q else Q (.bl false) H3)) : tChain r r' ta tb tc σ H Q := q
theorem r_tup {t : TA} (q : t σ H fun xs H1 => xs.length ≤ sizeLine ∧ ∀ p, H1 p = none → Q (.ref p) (upd H1 p (.tup xs))) : tTup t σ H Q := q
theorem r_lst {t : TA} (q : t σ H fun xs H1 => xs.length ≤ sizeLine ∧ ∀ p, H1 p = none → Q (.ref p) (upd H1 p (.lst xs))) : tLst t σ H Q := q
theorem r_seq {t u : TS} (q : t { D with nx := u D } σ H) : tSeq t u D σ H := q
theorem r_next (q : D.nx σ H) : tNext D σ H := q
theorem r_asg {g : TG} (q : te σ H fun x H1 => g x σ H1 D.nx) : tAsg te g D σ H := q
theorem r_gN {Q : L2.St → Hp → Prop} (q : Q (σ.set i (some v)) H) : gName i v σ H Q := q
theorem r_drop (q : te σ H fun _ H1 => D.nx σ H1) : tDrop te D σ H := q
theorem r_ret (q : te σ H D.rt) : tRet te D σ H := q
theorem r_if {c : TT} {t u : TS} (q : c σ H fun b H1 => if b = true then t D σ H1 else u D σ H1) : tIfS c t u D σ H := q
theorem r_aug {ti : TIp} (h : σ[i]? = some (some x)) (q : te σ H fun y H1 => ti x y H1 fun z H2 => D.nx (σ.set i (some z)) H2) : tAug i te ti D σ H := ⟨x, h, q⟩
theorem r_ip {f : Int → Int → Int} (q : Q (.int (f a b)) H) : ipI f (.int a) (.int b) H Q := ⟨a, b, rfl, rfl, q⟩
theorem ifT {A B : Prop} {c : Bool} (h : c = true) (q : A) : if c = true then A else B := by rw [if_pos h]; exact q
theorem ifF {A B : Prop} {c : Bool} (h : c = false) (q : B) : if c = true then A else B := by rw [h, if_neg Bool.false_ne_true]; exact q
end

/-! tests whose answer is known -/
section
variable {A B : Prop} {p q : Prop} [Decidable p] {a b : Int} {s u : Str}
theorem if_dT (h : p) (x : A) : if decide p = true then A else B := ifT (decide_eq_true h) x
theorem if_dF (h : ¬ p) (x : B) : if decide p = true then A else B := ifF (decide_eq_false h) x
theorem if_ndT (h : ¬ p) (x : A) : if (!decide p) = true then A else B := ifT (by rw [decide_eq_false h]; rfl) x
theorem if_ndF (h : p) (x : B) : if (!decide p) = true then A else B := ifF (by rw [decide_eq_true h]; rfl) x
theorem if_eT (h : a = b) (x : A) : if decide (V.int a = V.int b) = true then A else B := if_dT (by rw [h]) x
theorem if_eF (h : a ≠ b) (x : B) : if decide (V.int a = V.int b) = true then A else B := if_dF (fun z => h (V.int.inj z)) x
theorem if_neT (h : a ≠ b) (x : A) : if (!decide (V.int a = V.int b)) = true then A else B := if_ndT (fun z => h (V.int.inj z)) x
theorem if_neF (h : a = b) (x : B) : if (!decide (V.int a = V.int b)) = true then A else B := if_ndF (by rw [h]) x
theorem if_sT (x : A) : if decide (V.str s = V.str s) = true then A else B := if_dT rfl x
theorem if_sF (h : ¬ s = u) (x : B) : if decide (V.str s = V.str u) = true then A else B := if_dF (fun z => h (V.str.inj z)) x
theorem if_nsF (x : B) : if (!decide (V.str s = V.str s)) = true then A else B := if_ndF rfl x
theorem if_1 (x : A) : if true = true then A else B := iteT x
theorem if_0 (x : B) : if false = true then A else B := iteF x
theorem if_n1 (x : B) : if (!true) = true then A else B := iteF x
theorem if_n0 (x : A) : if (!false) = true then A else B := iteT x
end
section
variable {σ : L2.St} {H : Hp} {Q : VK} {K : PySem.W.Frag} {ta : TE} {l : Addr} {xs : List V} {i : Int} {D : Ends}
theorem r_isII (q : Q (.bl true) H) : rIsi K [.int i, .ty "int"] H Q := ⟨_, _, _, _, true, rfl, .ty "int", .base (.int i), kit_ty (by decide +kernel), q⟩
theorem r_isIB (q : Q (.bl false) H) : rIsi K [.int i, .ty "bool"] H Q := ⟨_, _, _, _, false, rfl, .ty "bool", .base (.int i), kit_ty (by decide +kernel), q⟩
theorem r_isL (h : H l = some (.lst xs)) (q : Q (.bl true) H) : rIsi K [.ref l, .ty "list"] H Q := ⟨_, _, _, _, true, rfl, .ty "list", .base (.lst h), kit_ty (by decide +kernel), q⟩
theorem r_isT (h : H l = some (.tup xs)) (q : Q (.bl true) H) : rIsi K [.ref l, .ty "tuple"] H Q := ⟨_, _, _, _, true, rfl, .ty "tuple", .base (.tup h), kit_ty (by decide +kernel), q⟩
def rRng (R : It → Hp → Prop) : List V → Hp → Prop := fun vs H1 => ∃ j : Int, vs = [.int j] ∧ -(2 ^ 62) ≤ j ∧ j < 2 ^ 62 ∧ R (Itr 0 j.toNat) H1
theorem r_rng {ta : TA} {R : It → Hp → Prop} (q : ta σ H (rRng R)) : iRng1 ta σ H R := q
theorem r_rng1 {R : It → Hp → Prop} (n : Nat) (h : i = (n : Int)) (hn : n ≤ 100000) (q : R (Itr 0 n) H) : rRng R [V.int i] H := by
  refine ⟨i, rfl, by omega, by omega, ?_⟩
  rw [h, Int.toNat_natCast]
  exact q
def rIl (K : PySem.W.Frag) (R : It → Hp → Prop) : V → Hp → Prop := fun x H1 => ∃ a, x = .ref a ∧ (∃ xs, SqL K H1 a xs) ∧ R (Itl K a) H1
theorem r_iL {R : It → Hp → Prop} (q : ta σ H (rIl K R)) : iList K ta σ H R := q
theorem r_iL1 {R : It → Hp → Prop} (h : H l = some (.lst xs)) (q : R (Itl K l) H) : rIl K R (V.ref l) H := ⟨l, rfl, ⟨_, SqL.of h⟩, q⟩
def rIe (K : PySem.W.Frag) (R : It → Hp → Prop) : List V → Hp → Prop := fun vs H1 => ∃ a xs, vs = [.ref a] ∧ SqL K H1 a xs ∧ R (Ite K a) H1
theorem r_iE {ta : TA} {R : It → Hp → Prop} (q : ta σ H (rIe K R)) : iEnum K ta σ H R := q
theorem r_iE1 {R : It → Hp → Prop} (h : H l = some (.lst xs)) (q : R (Ite K l) H) : rIe K R [V.ref l] H := ⟨l, _, rfl, SqL.of h, q⟩
def rIz (K : PySem.W.Frag) (R : It → Hp → Prop) : List V → Hp → Prop := fun vs H1 => ∃ a b xs ys, vs = [.ref a, .ref b] ∧ SqL K H1 a xs ∧ SqL K H1 b ys ∧ R (Itz K a b) H1
theorem r_iZ {ta : TA} {R : It → Hp → Prop} (q : ta σ H (rIz K R)) : iZip K ta σ H R := q
theorem r_iZ1 {l2 : Addr} {ys : List V} {R : It → Hp → Prop} (h : H l = some (.lst xs)) (h2 : H l2 = some (.lst ys)) (q : R (Itz K l l2) H) : rIz K R [V.ref l, V.ref l2] H := ⟨l, l2, _, _, rfl, SqL.of h, SqL.of h2, q⟩
theorem r_for {wi : TI} {g : TG} {tb : TS} (q : wi σ H fun J H1 => ∃ W : Nat → Nat → L2.St → Hp → Prop, (∃ m, W 0 m σ H1) ∧ ∀ i m σ H, W i m σ H →
      (J.stop i H ∧ D.nx σ H) ∨ (J.go i H ∧ ∃ N : L2.St → Hp → Prop, (∀ σ' H', N σ' H' → ∃ m', m' < m ∧ W (i + 1) m' σ' H') ∧ ∀ x H', J.yld i H x H' → g x σ H' fun σ2 H2 => tb { D with nx := N, ct := N, bk := D.nx } σ2 H2)) : tFor wi g tb D σ H := q
theorem r_lc {wi : TI} {g : TG} {tt : TT} {te : TE} {vs : List Nat} (q : wi σ H fun J H1 => ∀ D, H1 D = none → ∃ W : Nat → Nat → Hp → Prop, (∃ m, W 0 m (upd H1 D (.lst []))) ∧ ∀ i m H, W i m H →
      (J.stop i H ∧ Q (.ref D) H) ∨ (J.go i H ∧ ∃ Nx : Hp → Prop, (∀ H', Nx H' → ∃ m', m' < m ∧ W (i + 1) m' H') ∧ ∀ x H', J.yld i H x H' → g x (wipe σ vs) H' fun σ2 H2 => wipe σ2 vs = wipe σ vs ∧ tt σ2 H2 fun b H3 =>
        if b = true then te σ2 H3 fun y H4 => ∃ acc, H4 D = some (.lst acc) ∧ acc.length < sizeLine ∧ Nx (upd H4 D (.lst (acc ++ [y]))) else Nx H3)) : tLc wi g tt te vs σ H Q := q
end
section
variable {σ : L2.St} {H : Hp} {Q : VK} {K : PySem.W.Frag} {ta te : TE} {l : Addr} {xs : List V} {i j : Int} {n : Nat} {x : V}
theorem r_gT {t : TGs} {Q : L2.St → Hp → Prop} (h : H l = some (.tup xs)) (hn : xs.length = n) (q : t xs σ H Q) : gTup K n t (.ref l) σ H Q := ⟨l, xs, rfl, SqT.of h, hn, q⟩
theorem r_gC {t : TG} {u : TGs} {Q : L2.St → Hp → Prop} (q : t x σ H fun σ' H' => u xs σ' H' Q) : gCons t u (x :: xs) σ H Q := ⟨x, xs, rfl, q⟩
theorem r_g0 {Q : L2.St → Hp → Prop} (q : Q σ H) : gNil [] σ H Q := ⟨rfl, q⟩
theorem r_allT (h : H l = some (.lst xs)) (hx : ∀ x ∈ xs, x = .bl true) (q : Q (.bl true) H) : rAll K [.ref l] H Q := by
  have e : xs = (List.replicate xs.length true).map V.bl := by
    rw [List.map_replicate]
    exact List.eq_replicate_iff.mpr ⟨rfl, hx⟩
  refine ⟨l, List.replicate xs.length true, rfl, by rw [← e]; exact SqL.of h, ?_⟩
  have e2 : (List.replicate xs.length true).all id = true := List.all_eq_true.mpr fun b hb => by rw [(List.mem_replicate.mp hb).2]; rfl
  rw [e2]
  exact q
theorem r_max {ns : List Int} (h : H l = some (.lst (ns.map V.int))) (hn : 0 < ns.length) (q : ∀ m, m ∈ ns → Q (.int m) H) : rMax K [.ref l] H Q := ⟨l, ns, rfl, SqL.of h, hn, fun m hm _ => q m hm⟩
theorem r_sum {ns : List Int} (h : H l = some (.lst (ns.map V.int))) (q : Q (.int ns.sum) H) : rSum K [.ref l] H Q := ⟨l, ns, rfl, SqL.of h, q⟩
/-- slices -/
theorem r_sl {r : V → Option Int → Option Int → Hp → VK → Prop} {tl th : TO} (q : te σ H fun x H1 => tl σ H1 fun l H2 => th σ H2 fun u H3 => r x l u H3 Q) : tSl r te tl th σ H Q := q
theorem r_po0 {Q : Option Int → Hp → Prop} (q : Q none H) : tNoPart σ H Q := q
def rPart (Q : Option Int → Hp → Prop) : V → Hp → Prop := fun x H1 => ∃ i, x = .int i ∧ Q (some i) H1
theorem r_po {Q : Option Int → Hp → Prop} (q : te σ H (rPart Q)) : tPart te σ H Q := q
theorem r_po1 {Q : Option Int → Hp → Prop} (q : Q (some i) H) : rPart Q (.int i) H := ⟨i, rfl, q⟩
theorem r_slL {lo hi : Option Int} (h : H l = some (.lst xs)) (q : ∀ p, H p = none → Q (.ref p) (upd H p (.lst (cutV xs lo hi)))) : rSlL K (.ref l) lo hi H Q := ⟨l, xs, rfl, SqL.of h, q⟩
/-- [::-1] -/
def rRev (K : PySem.W.Frag) (Q : VK) : V → Hp → Prop := fun x H1 => ∃ a xs, x = .ref a ∧ SqL K H1 a xs ∧ ∀ p, H1 p = none → Q (.ref p) (upd H1 p (.lst xs.reverse))
theorem r_rev (q : te σ H (rRev K Q)) : tRevL K te σ H Q := q
theorem r_rev1 (h : H l = some (.lst xs)) (q : ∀ p, H p = none → Q (.ref p) (upd H p (.lst xs.reverse))) : rRev K Q (.ref l) H := ⟨l, xs, rfl, SqL.of h, q⟩
/-- methods of lists -/
theorem r_bm {t : TA} {r : V → List V → Hp → VK → Prop} (q : te σ H fun x H1 => tyV K "list" x H1 ∧ t σ H1 fun xs H2 => r x xs H2 Q) : tBM K "list" r te t σ H Q := q
theorem r_ty {A : Prop} (h : H l = some (.lst xs)) (q : A) : tyV K "list" (.ref l) H ∧ A := ⟨.inl ⟨rfl, _, SqL.of h⟩, q⟩
theorem r_app {y : V} (h : H l = some (.lst xs)) (hn : xs.length < 100000) (q : Q .non (upd H l (.lst (xs ++ [y])))) : rAppend (.ref l) [y] H Q := ⟨l, xs, y, rfl, rfl, h, szl hn, q⟩
theorem r_ext {l2 : Addr} {ys : List V} (h : H l = some (.lst xs)) (h2 : H l2 = some (.lst ys)) (hn : xs.length + ys.length ≤ 100000) (q : Q .non (upd H l (.lst (xs ++ ys)))) : rExtend (.ref l) [.ref l2] H Q := ⟨l, l2, xs, ys, rfl, rfl, h, h2, sz hn, q⟩
end
theorem sum_le {B : Int} : ∀ {ns : List Int}, (∀ i ∈ ns, i ≤ B) → ns.sum ≤ B * (ns.length : Int)
  | [], _ => by simp
  | a :: r, h => by
    have ih := sum_le (ns := r) fun i hi => h i (List.mem_cons_of_mem _ hi)
    have h1 := h a List.mem_cons_self
    rw [List.sum_cons, List.length_cons, Int.natCast_add, Int.mul_add, Int.mul_comm B ((1 : Nat) : Int)]
    show a + r.sum ≤ B * (r.length : Int) + 1 * B
    omega
theorem cut_mem {xs : List V} {lo hi : Option Int} {x : V} (h : x ∈ cutV xs lo hi) : x ∈ xs := List.mem_of_mem_drop (List.mem_of_mem_take h)
theorem atI_lastN {xs : List V} {n : Nat} {v : V} (h : xs.length = n + 1) (e : xs[n]? = some v) : atI xs (-1) = some v := by
  have h0 : xs ≠ [] := fun z => by rw [z] at h; cases h
  have e1 : xs.getLast h0 = v := by
    rw [List.getLast_eq_getElem]
    have e2 := (List.getElem?_eq_some_iff.mp e).2
    simp only [h, Nat.add_sub_cancel]
    exact e2
  have e3 := List.dropLast_concat_getLast h0
  rw [← e3, e1]
  exact atI_last _ _

/-! ## LK1 -/
local macro_rules | `(tactic| walk_at "r1") => `(tactic| first
  | ((with_reducible refine' r_var ?hv ?hq); (case hv => exact rfl))
  | with_reducible refine' r_c ?_
  | with_reducible refine' r_op ?_
  | with_reducible refine' r_un ?_
  | with_reducible refine' r_I0 ?_
  | with_reducible refine' r_U ?_
  | ((with_reducible refine' r_mod ?hv ?hq); (case hv => omega))
  | ((with_reducible refine' r_mul ?hv ?hq); (case hv => omega))
  | ((with_reducible refine' r_mulr ?hv ?hq); (case hv => omega))
  | ((with_reducible refine' r_ixL ?h1 ?h2 ?hq); (case h1 => assumption); (case h2 => assumption))
  | ((with_reducible refine' r_ixT ?h1 ?h2 ?hq); (case h1 => assumption); (case h2 => first | assumption | exact rfl))
  | ((with_reducible refine' r_shl ?hv ?hq); (case hv => omega))
  | ((with_reducible refine' r_fdiv ?hv ?hq); (case hv => omega))
  | ((with_reducible refine' r_eq ?hv ?hq); (case hv => exact rfl))
  | ((with_reducible refine' r_ne ?hv ?hq); (case hv => exact rfl))
  | ((with_reducible refine' r_lenL ?hv ?hq); (case hv => assumption))
  | ((with_reducible refine' r_lenTn ?hv ?hn ?hq); (case hv => assumption); (case hn => (simp only [List.length_cons, List.length_nil]; exact rfl)))
  | with_reducible refine' r_cb ?_
  | with_reducible refine' r_call ?_
  | with_reducible refine' r_nil ?_
  | with_reducible refine' r_cons ?_
  | with_reducible refine' r_test ?_
  | with_reducible refine' r_tB ?_
  | with_reducible refine' r_tAnd ?_
  | with_reducible refine' r_tOr ?_
  | with_reducible refine' r_tNot ?_
  | with_reducible refine' r_bl ?_
  | with_reducible refine' r_notV ?_
  | with_reducible refine' r_andV ?_
  | with_reducible refine' r_chain ?_
  | with_reducible refine' r_tup ?_
  | with_reducible refine' r_lst ?_
  | with_reducible refine' r_seq ?_
  | with_reducible refine' r_next ?_
  | with_reducible refine' r_asg ?_
  | with_reducible refine' r_gN ?_
  | with_reducible refine' r_drop ?_
  | with_reducible refine' r_ret ?_
  | with_reducible refine' r_if ?_
  | with_reducible refine' r_ip ?_
  | ((with_reducible refine' r_aug ?hv ?hq); (case hv => exact rfl))
  | with_reducible refine' if_1 ?_
  | with_reducible refine' if_0 ?_
  | with_reducible refine' if_n1 ?_
  | with_reducible refine' if_n0 ?_
  | with_reducible refine' if_sT ?_
  | with_reducible refine' if_nsF ?_
  | ((with_reducible refine' if_sF ?hv ?hq); (case hv => decide +kernel))
  | ((with_reducible refine' if_eT ?hv ?hq); (case hv => omega))
  | ((with_reducible refine' if_eF ?hv ?hq); (case hv => omega))
  | ((with_reducible refine' if_neT ?hv ?hq); (case hv => omega))
  | ((with_reducible refine' if_neF ?hv ?hq); (case hv => omega))
  | ((with_reducible refine' if_dT ?hv ?hq); (case hv => omega))
  | ((with_reducible refine' if_dF ?hv ?hq); (case hv => omega))
  | ((with_reducible refine' if_ndT ?hv ?hq); (case hv => omega))
  | ((with_reducible refine' if_ndF ?hv ?hq); (case hv => omega))
  | with_reducible refine' r_isII ?_
  | with_reducible refine' r_isIB ?_
  | ((with_reducible refine' r_isL ?hv ?hq); (case hv => assumption))
  | ((with_reducible refine' r_isT ?hv ?hq); (case hv => assumption))
  | with_reducible refine' r_intC ?_
  | ((with_reducible refine' r_gT ?hv ?hn ?hq); (case hv => assumption); (case hn => exact rfl))
  | with_reducible refine' r_gC ?_
  | with_reducible refine' r_g0 ?_
  | with_reducible refine' r_sl ?_
  | with_reducible refine' r_po0 ?_
  | with_reducible refine' r_po ?_
  | with_reducible refine' r_po1 ?_
  | ((with_reducible refine' r_slL ?hv ?hq); (case hv => assumption))
  | with_reducible refine' r_rev ?_
  | ((with_reducible refine' r_rev1 ?hv ?hq); (case hv => assumption))
  | ((with_reducible refine' r_list ?hv ?hq); (case hv => assumption))
  | with_reducible refine' r_bm ?_
  | ((with_reducible refine' r_ty ?hv ?hq); (case hv => assumption))
  | ((with_reducible refine' r_app ?hv ?hw ?hq); (case hv => assumption); (case hw => omega))
  | ((with_reducible refine' r_ext ?hv ?hw ?hn ?hq); (case hv => assumption); (case hw => assumption); (case hn => omega))
  | with_reducible refine' r_for ?_
  | with_reducible refine' r_lc ?_
  | with_reducible refine' r_rng ?_
  | with_reducible refine' r_iL ?_
  | with_reducible refine' r_iE ?_
  | ((with_reducible refine' r_iE1 ?hv ?hq); (case hv => assumption))
  | with_reducible refine' r_iZ ?_
  | ((with_reducible refine' r_iZ1 ?hv ?hw ?hq); (case hv => assumption); (case hw => assumption))
  | ((with_reducible refine' r_iL1 ?hv ?hq); (case hv => assumption)))
local macro_rules | `(tactic| walk_at "rd") => `(tactic| repeat (walk_at "r1"))

/-! ### circuits -/
/-- the moduli that the law draws -/
def Pm (p : Int) : Prop := p = 5 ∨ p = 7 ∨ p = 11 ∨ p = 13 ∨ p = 53
theorem Pm.b {p : Int} (h : Pm p) : 5 ≤ p ∧ p ≤ 53 := by unfold Pm at h; omega
/-- a gate over m columns -/
def Gate (M : Mu) (H : Hp) (p : Int) (m : Nat) (g : V) : Prop := ∃ a, g = .ref a ∧ ¬ M a ∧
  ((∃ c1 x c2 y : Int, H a = some (.tup [.str "lin", .int c1, .int x, .int c2, .int y]) ∧ (0 ≤ c1 ∧ c1 < p) ∧ (0 ≤ x ∧ x < m) ∧ (0 ≤ c2 ∧ c2 < p) ∧ (0 ≤ y ∧ y < m)) ∨
   (∃ c x y : Int, H a = some (.tup [.str "mul", .int c, .int x, .int y]) ∧ (0 ≤ c ∧ c < p) ∧ (0 ≤ x ∧ x < m) ∧ (0 ≤ y ∧ y < m)))
theorem Gate.mono {M N : Mu} {H H' : Hp} {p : Int} {m : Nat} {g : V} (h : Gate M H p m g) (k : Kp N H H') (hN : ∀ b, N b → M b) : Gate M H' p m g := by
  obtain ⟨a, e, na, h⟩ := h
  refine ⟨a, e, na, ?_⟩
  rcases h with ⟨c1, x, c2, y, h, r⟩ | ⟨c, x, y, h, r⟩
  · exact .inl ⟨c1, x, c2, y, k _ _ (fun z => na (hN _ z)) h, r⟩
  · exact .inr ⟨c, x, y, k _ _ (fun z => na (hN _ z)) h, r⟩
/-- a list of n gates over m columns -/
abbrev GL (M : Mu) (H : Hp) (v : V) (n : Nat) (p : Int) (m : Nat) : Prop := Lst M H v n (Gate M H p m)
theorem GL.mono {M N : Mu} {H H' : Hp} {p : Int} {n m : Nat} {v : V} (h : GL M H v n p m) (k : Kp N H H') (hN : ∀ b, N b → M b) : GL M H' v n p m := Lst.mono h k hN fun _ z => z.mono k hN
/-- the width of a layer -/
def wd (ws : List Nat) (i : Nat) : Nat := ws.getD i 0
theorem wd_get {ws : List Nat} {i : Nat} (h : i < ws.length) : ws[i]? = some (wd ws i) := by
  unfold wd
  rw [List.getD_eq_getElem?_getD, List.getElem?_eq_getElem h]
  rfl
/-- a circuit with these widths -/
structure CircO (M : Mu) (H : Hp) (c : V) (p : Int) (ws : List Nat) (a wl ll : Addr) (ls : List V) : Prop where
  ec : c = .ref a
  ha : H a = some (.tup [.str "circuit", .int p, .ref wl, .ref ll])
  na : ¬ M a
  hw : H wl = some (.lst (ws.map fun w => V.int (w : Nat)))
  nw : ¬ M wl
  hl : H ll = some (.lst ls)
  nl : ¬ M ll
  len : ws.length = ls.length + 1
  pos : 0 < ls.length
  le : ls.length ≤ 3
  small : ∀ i, wd ws i ≤ 3
  layers : ∀ (i : Nat) (v : V), ls[i]? = some v → GL M H v (2 ^ wd ws i) p (2 ^ wd ws (i + 1))
def Circ (M : Mu) (H : Hp) (c : V) (p : Int) (ws : List Nat) : Prop := ∃ a wl ll ls, CircO M H c p ws a wl ll ls
theorem Circ.mono {M N : Mu} {H H' : Hp} {p : Int} {ws : List Nat} {c : V} (h : Circ M H c p ws) (k : Kp N H H') (hN : ∀ b, N b → M b) : Circ M H' c p ws := by
  obtain ⟨a, wl, ll, ls, h⟩ := h
  exact ⟨a, wl, ll, ls, h.ec, k _ _ (fun z => h.na (hN _ z)) h.ha, h.na, k _ _ (fun z => h.nw (hN _ z)) h.hw, h.nw, k _ _ (fun z => h.nl (hN _ z)) h.hl, h.nl, h.len, h.pos, h.le, h.small, fun i v e1 => (h.layers i v e1).mono k hN⟩
theorem Circ.kp {M : Mu} {H H' : Hp} {p : Int} {ws : List Nat} {c : V} (h : Circ M H c p ws) (k : Kp M0 H H') : Circ M H' c p ws := h.mono k fun _ z => z.elim
theorem map_at {ws : List Nat} {i w : Nat} (h : ws[i]? = some w) : atI (ws.map fun w => V.int (w : Nat)) (i : Nat) = some (.int (w : Nat)) := atI_nat (by rw [List.getElem?_map, h]; rfl)

/-- a list of n lists of ints; the i-th has f i of them -/
def LT (M : Mu) (H : Hp) (v : V) (n : Nat) (f : Nat → Nat) (p : Int) : Prop := ∃ l xs, v = .ref l ∧ H l = some (.lst xs) ∧ ¬ M l ∧ xs.length = n ∧ ∀ (i : Nat) (x : V), xs[i]? = some x → IL M H x (f i) p
theorem LT.mono {M N : Mu} {H H' : Hp} {v : V} {n : Nat} {f : Nat → Nat} {p : Int} (h : LT M H v n f p) (k : Kp N H H') (hN : ∀ b, N b → M b) : LT M H' v n f p := by
  obtain ⟨l, xs, e, hl, nl, hn, hx⟩ := h
  exact ⟨l, xs, e, k _ _ (fun z => nl (hN _ z)) hl, nl, hn, fun i x z => (hx i x z).mono k hN⟩
theorem LT.kp {M : Mu} {H H' : Hp} {v : V} {n : Nat} {f : Nat → Nat} {p : Int} (h : LT M H v n f p) (k : Kp M0 H H') : LT M H' v n f p := h.mono k fun _ z => z.elim
theorem LT.le {M M' : Mu} {H : Hp} {v : V} {n : Nat} {f : Nat → Nat} {p : Int} (h : LT M H v n f p) (hM : ∀ b, M' b → M b) : LT M' H v n f p := by
  obtain ⟨l, xs, e, hl, nl, hn, hx⟩ := h
  exact ⟨l, xs, e, hl, fun z => nl (hM _ z), hn, fun i x z => (hx i x z).le hM⟩

section
variable {P : Program} {w : World} {K : PySem.W.Frag} {mg : Str → Option Value} {base : Heap}
/-! ### at_number -/
abbrev s_at_number : Stmt := top 35
abbrev N_at_number : List Str := ["table", "k", "number"]
abbrev P_at_number : List Str := ["table", "k", "number"]
theorem sc_at_number : FnScope N_at_number P_at_number (defScope s_at_number) := ⟨rfl, rfl, rfl, by decide +kernel, rfl, by decide +kernel, by decide +kernel⟩
def spAtNumber : Sp := fun vs H Q _ => ∃ (l : Addr) (xs : List V) (k n a b : Int), vs = [.ref l, .int k, .int n] ∧ H l = some (.lst xs) ∧ atI xs (2 * k) = some (.int a) ∧ atI xs (2 * k + 1) = some (.int b) ∧ 0 ≤ n ∧ n ≤ 60 ∧ Q (.int (a + n * (b - a))) H
theorem cal_at_number (D : DefAt K mg "at_number" s_at_number P_at_number) : Cal P w K mg base 1 "at_number" spAtNumber [] := by
  refine cal_of D sc_at_number (fun vs H Q E h => ?_) (fun f cdv A outer s H vs Q E hr h => ?_)
  · obtain ⟨_, _, _, _, _, _, rfl, _⟩ := h; rfl
  · obtain ⟨l, xs, k, n, a, b, rfl, hl, ha, hb, h0, h1, q⟩ := h
    refine ⟨_, (pss_one (ps_ret (pe_op op_add (pe_ix (r := rIxL K) ix_list (pv 0) (pe_op op_mul pe_int (pv 1)) (fun _ _ => rfl)) (pe_op op_mul (pv 2) (pe_op op_sub (pe_ix (r := rIxL K) ix_list (pv 0) (pe_op op_add (pe_op op_mul pe_int (pv 1)) pe_int) (fun _ _ => rfl)) (pe_ix (r := rIxL K) ix_list (pv 0) (pe_op op_mul pe_int (pv 1)) (fun _ _ => rfl))))))), ?_⟩
    walk_at "rd"
    exact q
/-! ### modulus, depth, width -/
abbrev s_modulus : Stmt := top 18
abbrev N_modulus : List Str := ["circuit"]
abbrev P_modulus : List Str := ["circuit"]
theorem sc_modulus : FnScope N_modulus P_modulus (defScope s_modulus) := ⟨rfl, rfl, rfl, by decide +kernel, rfl, by decide +kernel, by decide +kernel⟩
def spModulus : Sp := fun vs H Q _ => ∃ (c : V) (p : Int) (ws : List Nat), vs = [c] ∧ Circ M0 H c p ws ∧ Q (.int p) H
theorem cal_modulus (D : DefAt K mg "modulus" s_modulus P_modulus) : Cal P w K mg base 1 "modulus" spModulus [] := by
  refine cal_of D sc_modulus (fun vs H Q E h => ?_) (fun f cdv A outer s H vs Q E hr h => ?_)
  · obtain ⟨_, _, _, rfl, _⟩ := h; rfl
  · obtain ⟨c, p, ws, rfl, ⟨a, wl, ll, ls, hc⟩, q⟩ := h
    obtain rfl := hc.ec
    have h1 := hc.ha
    refine ⟨_, (pss_one (ps_ret (pe_ix (r := rIxT K) ix_tup (pv 0) pe_int (fun _ _ => rfl)))), ?_⟩
    walk_at "rd"
    exact q
abbrev s_depth : Stmt := top 19
abbrev N_depth : List Str := ["circuit"]
abbrev P_depth : List Str := ["circuit"]
theorem sc_depth : FnScope N_depth P_depth (defScope s_depth) := ⟨rfl, rfl, rfl, by decide +kernel, rfl, by decide +kernel, by decide +kernel⟩
def spDepth : Sp := fun vs H Q _ => ∃ (c : V) (p : Int) (ws : List Nat), vs = [c] ∧ Circ M0 H c p ws ∧ ∀ n : Nat, ws.length = n + 1 → Q (.int (n : Int)) H
theorem cal_depth (D : DefAt K mg "depth" s_depth P_depth) (T : Txt mg) : Cal P w K mg base 1 "depth" spDepth [] := by
  refine cal_of D sc_depth (fun vs H Q E h => ?_) (fun f cdv A outer s H vs Q E hr h => ?_)
  · obtain ⟨_, _, _, rfl, _⟩ := h; rfl
  · obtain ⟨c, p, ws, rfl, ⟨a, wl, ll, ls, hc⟩, q⟩ := h
    obtain rfl := hc.ec
    have h1 := hc.ha
    have h2 := hc.hl
    refine ⟨_, (pss_one (ps_ret (pe_callB (r := rLen K) call_lenS (by rfl) T.len PySem.boot_len (pa_cons (pe_ix (r := rIxT K) ix_tup (pv 0) pe_int (fun _ _ => rfl)) pa_nil)))), ?_⟩
    walk_at "rd"
    exact q _ hc.len
abbrev s_width : Stmt := top 20
abbrev N_width : List Str := ["circuit", "layer"]
abbrev P_width : List Str := ["circuit", "layer"]
theorem sc_width : FnScope N_width P_width (defScope s_width) := ⟨rfl, rfl, rfl, by decide +kernel, rfl, by decide +kernel, by decide +kernel⟩
def spWidth : Sp := fun vs H Q _ => ∃ (c : V) (p : Int) (ws : List Nat) (i : Nat), vs = [c, .int (i : Int)] ∧ Circ M0 H c p ws ∧ i < ws.length ∧ Q (.int (wd ws i : Int)) H
theorem cal_width (D : DefAt K mg "width" s_width P_width) : Cal P w K mg base 1 "width" spWidth [] := by
  refine cal_of D sc_width (fun vs H Q E h => ?_) (fun f cdv A outer s H vs Q E hr h => ?_)
  · obtain ⟨_, _, _, _, rfl, _⟩ := h; rfl
  · obtain ⟨c, p, ws, i, rfl, ⟨a, wl, ll, ls, hc⟩, hi, q⟩ := h
    obtain rfl := hc.ec
    have h1 := hc.ha
    have h2 := hc.hw
    have h3 := map_at (wd_get hi)
    refine ⟨_, (pss_one (ps_ret (pe_ix (r := rIxL K) ix_list (pe_ix (r := rIxT K) ix_tup (pv 0) pe_int (fun _ _ => rfl)) (pv 1) (fun _ _ => rfl)))), ?_⟩
    walk_at "rd"
    exact q
/-! ### fits, is_gate -/
abbrev s_fits : Stmt := top 14
abbrev N_fits : List Str := ["thing", "most"]
abbrev P_fits : List Str := ["thing", "most"]
theorem sc_fits : FnScope N_fits P_fits (defScope s_fits) := ⟨rfl, rfl, rfl, by decide +kernel, rfl, by decide +kernel, by decide +kernel⟩
def spFits : Sp := fun vs H Q _ => ∃ (i m : Int), vs = [.int i, .int m] ∧ 0 ≤ i ∧ i ≤ m ∧ Q (.bl true) H
theorem cal_fits (D : DefAt K mg "fits" s_fits P_fits) (T : Txt mg) : Cal P w K mg base 1 "fits" spFits [] := by
  refine cal_of D sc_fits (fun vs H Q E h => ?_) (fun f cdv A outer s H vs Q E hr h => ?_)
  · obtain ⟨_, _, rfl, _⟩ := h; rfl
  · obtain ⟨i, m, rfl, h0, h1, q⟩ := h
    refine ⟨_, (pss_one (ps_ret (pe_and (pe_callB (r := rIsi K) call_isi (by rfl) T.isinstance (by decide +kernel) (pa_cons (pv 0) (pa_cons (pe_bltn (v := .ty "int") (by rfl) T.int (by decide +kernel) rfl) pa_nil))) (pe_and (pe_not (pe_callB (r := rIsi K) call_isi (by rfl) T.isinstance (by decide +kernel) (pa_cons (pv 0) (pa_cons (pe_bltn (v := .ty "bool") (by rfl) T.bool (by decide +kernel) rfl) pa_nil)))) (pe_one (pe_chain op_le op_le pe_int (pv 0) (pv 1))))))), ?_⟩
    walk_at "rd"
    rw [decide_eq_true h1]
    exact q
theorem r_fits {H : Hp} {Q : VK} {E : XK} {i m : Int} (h : 0 ≤ i ∧ i ≤ m) (q : Q (.bl true) H) : spFits [.int i, .int m] H Q E := ⟨i, m, rfl, h.1, h.2, q⟩
local macro_rules | `(tactic| walk_at "r1") => `(tactic| ((with_reducible refine' r_fits ?hv ?hq); (case hv => omega)))
abbrev s_is_gate : Stmt := top 15
abbrev N_is_gate : List Str := ["gate", "p", "columns", "numbers"]
abbrev P_is_gate : List Str := ["gate", "p", "columns"]
theorem sc_is_gate : FnScope N_is_gate P_is_gate (defScope s_is_gate) := ⟨rfl, rfl, rfl, by decide +kernel, rfl, by decide +kernel, by decide +kernel⟩
def spIsGate : Sp := fun vs H Q _ => ∃ (g : V) (p : Int) (m : Nat), vs = [g, .int p, .int (m : Int)] ∧ Gate M0 H p m g ∧ Q (.bl true) H
theorem cal_is_gate (D : DefAt K mg "is_gate" s_is_gate P_is_gate) (T : Txt mg) (c_fits : Cal P w K mg base 1 "fits" spFits []) : Cal P w K mg base 2 "is_gate" spIsGate [] := by
  refine cal_of D sc_is_gate (fun vs H Q E h => ?_) (fun f cdv A outer s H vs Q E hr h => ?_)
  · obtain ⟨_, _, _, rfl, _⟩ := h; rfl
  · obtain ⟨g, p, m, rfl, ⟨a, rfl, na, hg⟩, q⟩ := h
    refine ⟨_, (pss_cons (ps_if (PW.pt (pw_or (pt_not (pt_val (pe_callB (r := rIsi K) call_isi (by rfl) T.isinstance (by decide +kernel) (pa_cons (pv 0) (pa_cons (pe_bltn (v := .ty "tuple") (by rfl) T.tuple (by decide +kernel) rfl) pa_nil))))) (pw_or1 (pt_cmpR op_eq (pe_callB (r := rLen K) call_lenS (by rfl) T.len PySem.boot_len (pa_cons (pv 0) pa_nil)) pe_int (nomark _)))))
      (pss_one (ps_ret pe_bl))
      pss_nil)
    (pss_cons (ps_if (PW.pt (pw_and (pt_cmpR op_eq (pe_ix (r := rIxT K) ix_tup (pv 0) pe_int (fun _ _ => rfl)) pe_str (nomark _)) (pw_and1 (pt_cmpR op_eq (pe_callB (r := rLen K) call_lenS (by rfl) T.len PySem.boot_len (pa_cons (pv 0) pa_nil)) pe_int (nomark _)))))
      (pss_cons (ps_set (i := 3) sc_is_gate.nd rfl (Or.inl rfl) (pe_and (pe_c c_fits hr (by decide) (by rfl) (pa_cons (pe_ix (r := rIxT K) ix_tup (pv 0) pe_int (fun _ _ => rfl)) (pa_cons (pe_op op_sub (pv 1) pe_int) pa_nil))) (pe_one (pe_c c_fits hr (by decide) (by rfl) (pa_cons (pe_ix (r := rIxT K) ix_tup (pv 0) pe_int (fun _ _ => rfl)) (pa_cons (pe_op op_sub (pv 1) pe_int) pa_nil))))))
    (pss_one (ps_ret (pe_and (pv 3) (pe_and (pe_c c_fits hr (by decide) (by rfl) (pa_cons (pe_ix (r := rIxT K) ix_tup (pv 0) pe_int (fun _ _ => rfl)) (pa_cons (pe_op op_sub (pv 2) pe_int) pa_nil))) (pe_one (pe_c c_fits hr (by decide) (by rfl) (pa_cons (pe_ix (r := rIxT K) ix_tup (pv 0) pe_int (fun _ _ => rfl)) (pa_cons (pe_op op_sub (pv 2) pe_int) pa_nil)))))))))
      pss_nil)
    (pss_cons (ps_if (PW.pt (pw_and (pt_cmpR op_eq (pe_ix (r := rIxT K) ix_tup (pv 0) pe_int (fun _ _ => rfl)) pe_str (nomark _)) (pw_and1 (pt_cmpR op_eq (pe_callB (r := rLen K) call_lenS (by rfl) T.len PySem.boot_len (pa_cons (pv 0) pa_nil)) pe_int (nomark _)))))
      (pss_one (ps_ret (pe_and (pe_c c_fits hr (by decide) (by rfl) (pa_cons (pe_ix (r := rIxT K) ix_tup (pv 0) pe_int (fun _ _ => rfl)) (pa_cons (pe_op op_sub (pv 1) pe_int) pa_nil))) (pe_and (pe_c c_fits hr (by decide) (by rfl) (pa_cons (pe_ix (r := rIxT K) ix_tup (pv 0) pe_int (fun _ _ => rfl)) (pa_cons (pe_op op_sub (pv 2) pe_int) pa_nil))) (pe_one (pe_c c_fits hr (by decide) (by rfl) (pa_cons (pe_ix (r := rIxT K) ix_tup (pv 0) pe_int (fun _ _ => rfl)) (pa_cons (pe_op op_sub (pv 2) pe_int) pa_nil))))))))
      pss_nil)
    (pss_one (ps_ret pe_bl))))), ?_⟩
    rcases hg with ⟨c1, x, c2, y, h, b1, b2, b3, b4⟩ | ⟨c, x, y, h, b1, b2, b3⟩
    · walk_at "rd"
      exact q
    · walk_at "rd"
      exact q
theorem r_isGate {H : Hp} {Q : VK} {E : XK} {g : V} {p : Int} {m : Nat} (h : Gate M0 H p m g) (q : Q (.bl true) H) : spIsGate [g, .int p, .int (m : Int)] H Q E := ⟨g, p, m, rfl, h, q⟩
theorem r_modulus {H : Hp} {Q : VK} {E : XK} {c : V} {p : Int} {ws : List Nat} (h : Circ M0 H c p ws) (q : Q (.int p) H) : spModulus [c] H Q E := ⟨c, p, ws, rfl, h, q⟩
theorem r_depth {H : Hp} {Q : VK} {E : XK} {c : V} {p : Int} {ws : List Nat} {n : Nat} (h : Circ M0 H c p ws) (hn : ws.length = n + 1) (q : Q (.int (n : Int)) H) : spDepth [c] H Q E := ⟨c, p, ws, rfl, h, fun m hm => by rw [show m = n by omega]; exact q⟩
theorem r_width {H : Hp} {Q : VK} {E : XK} {c : V} {p i : Int} {ws : List Nat} (n : Nat) (h : Circ M0 H c p ws) (hn : i = (n : Int)) (hi : n < ws.length) (q : Q (.int (wd ws n : Int)) H) : spWidth [c, .int i] H Q E := ⟨c, p, ws, n, by rw [hn], h, hi, q⟩
/-! ### is_prime, check_modulus, row_bits -/
abbrev s_is_prime : Stmt := top 7
abbrev N_is_prime : List Str := ["number", "k"]
abbrev P_is_prime : List Str := ["number"]
theorem sc_is_prime : FnScope N_is_prime P_is_prime (defScope s_is_prime) := ⟨rfl, rfl, rfl, by decide +kernel, rfl, by decide +kernel, by decide +kernel⟩
def spIsPrime : Sp := fun vs H Q _ => ∃ p : Int, vs = [.int p] ∧ Pm p ∧ Q (.bl true) H
theorem cal_is_prime (D : DefAt K mg "is_prime" s_is_prime P_is_prime) : Cal P w K mg base 1 "is_prime" spIsPrime [] := by
  refine cal_of D sc_is_prime (fun vs H Q E h => ?_) (fun f cdv A outer s H vs Q E hr h => ?_)
  · obtain ⟨_, rfl, _⟩ := h; rfl
  · obtain ⟨p, rfl, hp, q⟩ := h
    refine ⟨_, (pss_cons (ps_if (pt_cmpR op_lt (pv 0) pe_int (nomark _))
      (pss_one (ps_ret (pe_cmpR op_gt (pv 0) pe_int (nomark _))))
      pss_nil)
    (pss_cons (ps_if (pt_cmpR op_eq (pe_op op_mod (pv 0) pe_int) pe_int (nomark _))
      (pss_one (ps_ret pe_bl))
      pss_nil)
    (pss_cons (ps_set (i := 1) sc_is_prime.nd rfl (Or.inl rfl) pe_int)
    (pss_cons (ps_while PassesOwn.never (pt_cmpR op_le (pe_op op_mul (pv 1) (pv 1)) (pv 0) (nomark _))
      (pss_cons (ps_if (pt_cmpR op_eq (pe_op op_mod (pv 0) (pv 1)) pe_int (nomark _))
      (pss_one (ps_ret pe_bl))
      pss_nil)
    (pss_one (ps_aug (i := 1) sc_is_prime.nd rfl (Or.inl rfl) pe_int ip_add))))
    (pss_one (ps_ret pe_bl)))))), ?_⟩
    have hb := hp.b
    have h2 : p % 2 ≠ 0 := by unfold Pm at hp; omega
    walk_at "rd"
    refine while_by (fun σ H' => H' = H ∧ ∃ k : Int, σ = [some (.int p), some (.int k)] ∧ (k = 3 ∨ (k = 5 ∧ 11 ≤ p) ∨ (k = 7 ∧ p = 53) ∨ (k = 9 ∧ p = 53))) (fun σ _ => match σ with | [_, some (.int k)] => (10 - k).toNat | _ => 0) ⟨rfl, 3, rfl, .inl rfl⟩ ?_ ?_
    · rintro σ H' ⟨rfl, k, rfl, hk⟩
      have k1 : 0 < k ∧ k < 10 := by omega
      have hn : k * k ≤ p → p % k ≠ 0 ∧ (k + 2 = 3 ∨ (k + 2 = 5 ∧ 11 ≤ p) ∨ (k + 2 = 7 ∧ p = 53) ∨ (k + 2 = 9 ∧ p = 53)) := by
        unfold Pm at hp
        rcases hk with rfl | ⟨rfl, _⟩ | ⟨rfl, _⟩ | ⟨rfl, _⟩ <;> omega
      walk_at "rd"
      refine ite2 (fun c => ?_) (fun _ => ?_)
      · have hm := hn (of_decide_eq_true c)
        have h3 := hm.1
        walk_at "rd"
        exact ⟨⟨rfl, k + 2, rfl, hm.2⟩, (show (10 - (k + 2)).toNat < (10 - k).toNat by omega)⟩
      · walk_at "rd"
        exact q
    · intro σ H' Q1 Q2 m h
      obtain ⟨v1, e1, v2, e2, i, j, e3, e4, c, v3, e5, i', j', e6, e7, k, e8, q⟩ := h
      exact ⟨v1, e1, v2, e2, i, j, e3, e4, c, v3, e5, i', j', e6, e7, k, e8, m _ _ q⟩
theorem r_isPrime {H : Hp} {Q : VK} {E : XK} {p : Int} (h : Pm p) (q : Q (.bl true) H) : spIsPrime [.int p] H Q E := ⟨p, rfl, h, q⟩
abbrev s_check_modulus : Stmt := top 8
abbrev N_check_modulus : List Str := ["p"]
abbrev P_check_modulus : List Str := ["p"]
theorem sc_check_modulus : FnScope N_check_modulus P_check_modulus (defScope s_check_modulus) := ⟨rfl, rfl, rfl, by decide +kernel, rfl, by decide +kernel, by decide +kernel⟩
def spCheckModulus : Sp := fun vs H Q _ => ∃ p : Int, vs = [.int p] ∧ Pm p ∧ Q .non H
theorem cal_check_modulus (D : DefAt K mg "check_modulus" s_check_modulus P_check_modulus) (T : Txt mg) (c_is_prime : Cal P w K mg base 1 "is_prime" spIsPrime []) : Cal P w K mg base 2 "check_modulus" spCheckModulus [] := by
  refine cal_of D sc_check_modulus (fun vs H Q E h => ?_) (fun f cdv A outer s H vs Q E hr h => ?_)
  · obtain ⟨_, rfl, _⟩ := h; rfl
  · obtain ⟨p, rfl, hp, q⟩ := h
    refine ⟨_, (pss_one (ps_if (PW.pt (pw_or (pt_not (pt_chain op_le op_le pe_int (pv 0) (pe_const (by rfl) T.MOST))) (pw_or1 (pt_not (pt_val (pe_c c_is_prime hr (by decide) (by rfl) (pa_cons (pv 0) pa_nil)))))))
      (pss_one ps_never)
      pss_nil)), ?_⟩
    have hb := hp.b
    walk_at "rd"
    refine r_isPrime hp ?_
    walk_at "rd"
    exact q
theorem r_checkModulus {H : Hp} {Q : VK} {E : XK} {p : Int} (h : Pm p) (q : Q .non H) : spCheckModulus [.int p] H Q E := ⟨p, rfl, h, q⟩
abbrev s_row_bits : Stmt := top 21
abbrev N_row_bits : List Str := ["rows", "bits"]
abbrev P_row_bits : List Str := ["rows"]
theorem sc_row_bits : FnScope N_row_bits P_row_bits (defScope s_row_bits) := ⟨rfl, rfl, rfl, by decide +kernel, rfl, by decide +kernel, by decide +kernel⟩
def spRowBits : Sp := fun vs H Q _ => ∃ (l : Addr) (xs : List V) (n : Nat), vs = [.ref l] ∧ H l = some (.lst xs) ∧ xs.length = 2 ^ n ∧ n ≤ 10 ∧ Q (.int (n : Int)) H
theorem cal_row_bits (D : DefAt K mg "row_bits" s_row_bits P_row_bits) (T : Txt mg) : Cal P w K mg base 1 "row_bits" spRowBits [] := by
  refine cal_of D sc_row_bits (fun vs H Q E h => ?_) (fun f cdv A outer s H vs Q E hr h => ?_)
  · obtain ⟨_, _, _, rfl, _⟩ := h; rfl
  · obtain ⟨l, xs, n, rfl, hl, hn, hs, q⟩ := h
    refine ⟨_, (pss_cons (ps_set (i := 1) sc_row_bits.nd rfl (Or.inl rfl) pe_int)
    (pss_cons (ps_while PassesOwn.never (pt_cmpR op_lt (pe_op op_shl pe_int (pv 1)) (pe_callB (r := rLen K) call_lenS (by rfl) T.len PySem.boot_len (pa_cons (pv 0) pa_nil)) (nomark _))
      (pss_one (ps_aug (i := 1) sc_row_bits.nd rfl (Or.inl rfl) pe_int ip_add)))
    (pss_one (ps_ret (pv 1))))), ?_⟩
    walk_at "rd"
    refine while_by (fun σ H' => H' = H ∧ ∃ k : Nat, σ = [some (.ref l), some (.int (k : Int))] ∧ k ≤ n) (fun σ _ => match σ with | [_, some (.int k)] => (20 - k).toNat | _ => 0) ⟨rfl, 0, rfl, Nat.zero_le _⟩ ?_ ?_
    · rintro σ H' ⟨rfl, k, rfl, hk⟩
      walk_at "rd"
      refine ite2 (fun c => ?_) (fun c => ?_)
      · have c := of_decide_eq_true c
        have hk2 : k < n := by
          rcases Nat.lt_or_ge k n with h | h
          · exact h
          · have e : k = n := by omega
            subst e
            omega
        walk_at "rd"
        exact ⟨⟨rfl, k + 1, rfl, hk2⟩, (show (20 - ((k : Int) + 1)).toNat < (20 - (k : Int)).toNat by omega)⟩
      · have c : ¬ ((2 ^ k : Nat) : Int) < (xs.length : Int) := fun z => c (decide_eq_true z)
        have e : k = n := by
          rcases Nat.lt_or_ge k n with h | h
          · have := Nat.pow_lt_pow_right (a := 2) (by decide) h
            omega
          · omega
        subst e
        walk_at "rd"
        exact q
    · intro σ H' Q1 Q2 m h
      obtain ⟨v1, e1, i, j, ei, ej, c, v2, e2, p, ys, ep, hs, i2, j2, e3, e4, k, e5, q⟩ := h
      exact ⟨v1, e1, i, j, ei, ej, c, v2, e2, p, ys, ep, hs, i2, j2, e3, e4, k, e5, m _ _ q⟩
theorem r_rowBits {H : Hp} {Q : VK} {E : XK} {l : Addr} {xs : List V} {n : Nat} (h : H l = some (.lst xs)) (hn : xs.length = 2 ^ n) (hs : n ≤ 10) (q : Q (.int (n : Int)) H) : spRowBits [.ref l] H Q E := ⟨l, xs, n, rfl, h, hn, hs, q⟩
end

/-! ## LK2 -/
local macro_rules | `(tactic| walk_at "r1") => `(tactic| ((with_reducible refine' r_fits ?hv ?hq); (case hv => omega)))
theorem two_le {n : Nat} (h : n ≤ 3) : 2 ^ n ≤ 8 := Nat.le_trans (Nat.pow_le_pow_right (by decide) h) (by decide)
theorem two_b {n : Nat} (h : n ≤ 3) : 0 ≤ ((2 ^ n : Nat) : Int) ∧ ((2 ^ n : Nat) : Int) < 9 := ⟨Int.natCast_nonneg _, by have := two_le h; exact Int.ofNat_lt.mpr (by omega : 2 ^ n < 9)⟩
theorem two_pos {n : Nat} : 0 < 2 ^ n := Nat.pow_pos (by decide)
section
variable {P : Program} {w : World} {K : PySem.W.Frag} {mg : Str → Option Value} {base : Heap}
theorem ws_ints (ws : List Nat) : (ws.map fun w => V.int (w : Nat)) = (ws.map fun w => ((w : Nat) : Int)).map V.int := by rw [List.map_map]; rfl
theorem ws_isI {M : Mu} {H : Hp} {c : V} {p : Int} {ws : List Nat} {a wl ll : Addr} {ls : List V} (hc : CircO M H c p ws a wl ll ls) : ∀ x ∈ ws.map (fun w => V.int (w : Nat)), ∃ n : Nat, x = .int (n : Int) ∧ n ≤ 3 := fun x hx => by
  obtain ⟨n, hn, rfl⟩ := List.mem_map.mp hx
  obtain ⟨i, hi⟩ := List.getElem?_of_mem hn
  have h1 : i < ws.length := (List.getElem?_eq_some_iff.mp hi).1
  have h2 := wd_get h1
  rw [hi] at h2
  cases h2
  exact ⟨_, rfl, hc.small i⟩
/-! ### is_shaped -/
abbrev s_is_shaped : Stmt := top 16
abbrev N_is_shaped : List Str := ["circuit", "kind", "p", "widths", "layers", "bits"]
abbrev P_is_shaped : List Str := ["circuit"]
theorem sc_is_shaped : FnScope N_is_shaped P_is_shaped (defScope s_is_shaped) := ⟨rfl, rfl, rfl, by decide +kernel, rfl, by decide +kernel, by decide +kernel⟩
def spIsShaped : Sp := fun vs H Q _ => ∃ (c : V) (p : Int) (ws : List Nat), vs = [c] ∧ Circ M0 H c p ws ∧ ∀ H', Kp M0 H H' → Q (.bl true) H'
theorem cal_is_shaped (D : DefAt K mg "is_shaped" s_is_shaped P_is_shaped) (T : Txt mg) : Cal P w K mg base 1 "is_shaped" spIsShaped [] := by
  refine cal_of D sc_is_shaped (fun vs H Q E h => ?_) (fun f cdv A outer s H vs Q E hr h => ?_)
  · obtain ⟨_, _, _, rfl, _⟩ := h; rfl
  · obtain ⟨c, p, ws, rfl, ⟨a, wl, ll, ls, hc⟩, q⟩ := h
    obtain rfl := hc.ec
    have h1 := hc.ha
    have h2 := hc.hw
    have h3 := hc.hl
    have h4 := hc.len
    have h5 := hc.pos
    have h6 := hc.le
    have h7 : (ws.map fun w => V.int (w : Nat)).length = ws.length := List.length_map ..
    refine ⟨_, (pss_cons (ps_if (PW.pt (pw_or (pt_not (pt_val (pe_callB (r := rIsi K) call_isi (by rfl) T.isinstance (by decide +kernel) (pa_cons (pv 0) (pa_cons (pe_bltn (v := .ty "tuple") (by rfl) T.tuple (by decide +kernel) rfl) pa_nil))))) (pw_or (pt_cmpR op_ne (pe_callB (r := rLen K) call_lenS (by rfl) T.len PySem.boot_len (pa_cons (pv 0) pa_nil)) pe_int (nomark _)) (pw_or1 (pt_cmpR op_ne (pe_ix (r := rIxT K) ix_tup (pv 0) pe_int (fun _ _ => rfl)) pe_str (nomark _))))))
      (pss_one (ps_ret pe_bl))
      pss_nil)
    (pss_cons (ps_asg (pv 0) (pg_tup rfl (pgs_cons (pg_name (i := 1) sc_is_shaped.nd rfl (Or.inl rfl)) (pgs_cons (pg_name (i := 2) sc_is_shaped.nd rfl (Or.inl rfl)) (pgs_cons (pg_name (i := 3) sc_is_shaped.nd rfl (Or.inl rfl)) (pgs_cons (pg_name (i := 4) sc_is_shaped.nd rfl (Or.inl rfl)) pgs_nil))))))
    (pss_cons (ps_if (PW.pt (pw_or (pt_not (pt_val (pe_callB (r := rIsi K) call_isi (by rfl) T.isinstance (by decide +kernel) (pa_cons (pv 2) (pa_cons (pe_bltn (v := .ty "int") (by rfl) T.int (by decide +kernel) rfl) pa_nil))))) (pw_or (pt_val (pe_callB (r := rIsi K) call_isi (by rfl) T.isinstance (by decide +kernel) (pa_cons (pv 2) (pa_cons (pe_bltn (v := .ty "bool") (by rfl) T.bool (by decide +kernel) rfl) pa_nil)))) (pw_or (pt_not (pt_val (pe_callB (r := rIsi K) call_isi (by rfl) T.isinstance (by decide +kernel) (pa_cons (pv 3) (pa_cons (pe_bltn (v := .ty "list") (by rfl) T.list (by decide +kernel) rfl) pa_nil))))) (pw_or1 (pt_not (pt_val (pe_callB (r := rIsi K) call_isi (by rfl) T.isinstance (by decide +kernel) (pa_cons (pv 4) (pa_cons (pe_bltn (v := .ty "list") (by rfl) T.list (by decide +kernel) rfl) pa_nil))))))))))
      (pss_one (ps_ret pe_bl))
      pss_nil)
    (pss_cons (ps_if (PW.pt (pw_or (pt_cmpR op_eq (pe_callB (r := rLen K) call_lenS (by rfl) T.len PySem.boot_len (pa_cons (pv 4) pa_nil)) pe_int (nomark _)) (pw_or1 (pt_cmpR op_ne (pe_callB (r := rLen K) call_lenS (by rfl) T.len PySem.boot_len (pa_cons (pv 3) pa_nil)) (pe_op op_add (pe_callB (r := rLen K) call_lenS (by rfl) T.len PySem.boot_len (pa_cons (pv 4) pa_nil)) pe_int) (nomark _)))))
      (pss_one (ps_ret pe_bl))
      pss_nil)
    (pss_one (ps_ret (pe_callB (cr_all rfl) (by rfl) T.all (by decide +kernel) (pa_cons (pe_lc (own := [("bits", 5)]) (g := gName 5) (tt := tYes) rfl sc_is_shaped.nd (pi_list (pv 3)) (blkOk_by (own := [("bits", 5)]) (N := N_is_shaped) (sc := defScope s_is_shaped) (by decide +kernel)) (fun _ _ _ _ _ => (pg_name (i := 5) sc_is_shaped.nd rfl (Or.inl rfl))) (fun _ _ _ _ _ => pts_nil) (fun _ _ _ _ _ => (pe_and (pe_callB (r := rIsi K) call_isi (by rfl) T.isinstance (by decide +kernel) (pa_cons (pv 5) (pa_cons (pe_bltn (v := .ty "int") (by rfl) T.int (by decide +kernel) rfl) pa_nil))) (pe_and (pe_not (pe_callB (r := rIsi K) call_isi (by rfl) T.isinstance (by decide +kernel) (pa_cons (pv 5) (pa_cons (pe_bltn (v := .ty "bool") (by rfl) T.bool (by decide +kernel) rfl) pa_nil)))) (pe_one (pe_cmpR op_ge (pv 5) pe_int (nomark _))))))) pa_nil)))))))), ?_⟩
    walk_at "rd"
    intro D nD
    refine lc_pure (M := M0) (fun v => v = .bl true) walk_list (by omega) Dom.zero nD (fun H4 k4 => SqL.of (k4.at h2)) ?_ ?_
    · rintro j x H1 H2 C hj k1 ⟨rfl, hy⟩ hC
      obtain ⟨u, rfl, hu⟩ := all_at (ws_isI hc) hy
      walk_at "rd"
      refine ⟨rfl, ?_⟩
      walk_at "rd"
      refine hC _ _ (Kp.refl _ _) ?_
      rw [decide_eq_true (by omega)]
    · rintro H3 k3 ⟨l, xs, e, hl, _, _, hx⟩
      cases e
      walk_at "rd"
      refine r_allT hl hx ?_
      walk_at "rd"
      exact q _ k3
theorem r_isShaped {H : Hp} {Q : VK} {E : XK} {c : V} {p : Int} {ws : List Nat} (h : Circ M0 H c p ws) (q : ∀ H', Kp M0 H H' → Q (.bl true) H') : spIsShaped [c] H Q E := ⟨c, p, ws, rfl, h, q⟩
/-! ### checked -/
abbrev s_checked : Stmt := top 17
abbrev N_checked : List Str := ["circuit", "kind", "p", "widths", "layers", "i", "bits", "gate"]
abbrev P_checked : List Str := ["circuit"]
theorem sc_checked : FnScope N_checked P_checked (defScope s_checked) := ⟨rfl, rfl, rfl, by decide +kernel, rfl, by decide +kernel, by decide +kernel⟩
def spChecked : Sp := fun vs H Q _ => ∃ (c : V) (p : Int) (ws : List Nat), vs = [c] ∧ Circ M0 H c p ws ∧ Pm p ∧ ∀ H', Kp M0 H H' → Q c H'
theorem cal_checked (D : DefAt K mg "checked" s_checked P_checked) (T : Txt mg) (c_is_shaped : Cal P w K mg base 1 "is_shaped" spIsShaped []) (c_check_modulus : Cal P w K mg base 2 "check_modulus" spCheckModulus []) (c_is_gate : Cal P w K mg base 2 "is_gate" spIsGate []) : Cal P w K mg base 3 "checked" spChecked [] := by
  refine cal_of D sc_checked (fun vs H Q E h => ?_) (fun f cdv A outer s H vs Q E hr h => ?_)
  · obtain ⟨_, _, _, rfl, _⟩ := h; rfl
  · obtain ⟨c, p, ws, rfl, hC, hp, q⟩ := h
    refine ⟨_, (pss_cons (ps_if (pt_not (pt_val (pe_c c_is_shaped hr (by decide) (by rfl) (pa_cons (pv 0) pa_nil))))
      (pss_one ps_never)
      pss_nil)
    (pss_cons (ps_asg (pv 0) (pg_tup rfl (pgs_cons (pg_name (i := 1) sc_checked.nd rfl (Or.inl rfl)) (pgs_cons (pg_name (i := 2) sc_checked.nd rfl (Or.inr rfl)) (pgs_cons (pg_name (i := 3) sc_checked.nd rfl (Or.inr rfl)) (pgs_cons (pg_name (i := 4) sc_checked.nd rfl (Or.inl rfl)) pgs_nil))))))
    (pss_cons (ps_expr (pe_c c_check_modulus hr (by decide) (by rfl) (pa_cons (pv 2) pa_nil)))
    (pss_cons (ps_if (pt_cmpR op_gt (pe_callB (r := rLen K) call_lenS (by rfl) T.len PySem.boot_len (pa_cons (pv 4) pa_nil)) (pe_const (by rfl) T.MAX_LAYERS) (nomark _))
      (pss_one ps_never)
      pss_nil)
    (pss_cons (ps_if (pt_cmpR op_gt (pe_callB (cr_max rfl) (by rfl) T.max (by decide +kernel) (pa_cons (pv 3) pa_nil)) (pe_const (by rfl) T.MAX_WIDTH) (nomark _))
      (pss_one ps_never)
      pss_nil)
    (pss_cons (ps_if (pt_cmpR op_gt (pe_callB (cr_sum rfl) (by rfl) T.sum (by decide +kernel) (pa_cons (pe_lc (own := [("bits", 6)]) (g := gName 6) (tt := tYes) rfl sc_checked.nd (pi_list (pe_slice (r := rSlL K) sl_list (pv 3) po_none (po_some (pe_un un_neg pe_int)))) (blkOk_by (own := [("bits", 6)]) (N := N_checked) (sc := defScope s_checked) (by decide +kernel)) (fun _ _ _ _ _ => (pg_name (i := 6) sc_checked.nd rfl (Or.inl rfl))) (fun _ _ _ _ _ => pts_nil) (fun _ _ _ _ _ => (pe_op op_shl pe_int (pv 6)))) pa_nil)) (pe_const (by rfl) T.MAX_GATES) (nomark _))
      (pss_one ps_never)
      pss_nil)
    (pss_cons (ps_for PassesOwn.never rfl (pi_range1 (by rfl) T.range (pa_cons (pe_callB (r := rLen K) call_lenS (by rfl) T.len PySem.boot_len (pa_cons (pv 4) pa_nil)) pa_nil)) (pg_name (i := 5) sc_checked.nd rfl (Or.inr rfl))
      (pss_cons (ps_if (PW.pt (pw_or (pt_not (pt_val (pe_callB (r := rIsi K) call_isi (by rfl) T.isinstance (by decide +kernel) (pa_cons (pe_ix (r := rIxL K) ix_list (pv 4) (pv 5) (fun _ _ => rfl)) (pa_cons (pe_bltn (v := .ty "list") (by rfl) T.list (by decide +kernel) rfl) pa_nil))))) (pw_or1 (pt_cmpR op_ne (pe_callB (r := rLen K) call_lenS (by rfl) T.len PySem.boot_len (pa_cons (pe_ix (r := rIxL K) ix_list (pv 4) (pv 5) (fun _ _ => rfl)) pa_nil)) (pe_op op_shl pe_int (pe_ix (r := rIxL K) ix_list (pv 3) (pv 5) (fun _ _ => rfl))) (nomark _)))))
      (pss_one ps_never)
      pss_nil)
    (pss_one (ps_if (pt_not (pt_val (pe_callB (cr_all rfl) (by rfl) T.all (by decide +kernel) (pa_cons (pe_lc (own := [("gate", 7)]) (g := gName 7) (tt := tYes) rfl sc_checked.nd (pi_list (pe_ix (r := rIxL K) ix_list (pv 4) (pv 5) (fun _ _ => rfl))) (blkOk_by (own := [("gate", 7)]) (N := N_checked) (sc := defScope s_checked) (by decide +kernel)) (fun _ _ _ _ _ => (pg_name (i := 7) sc_checked.nd rfl (Or.inl rfl))) (fun _ _ _ _ _ => pts_nil) (fun _ _ _ _ _ => (pe_c c_is_gate hr (by decide) (by rfl) (pa_cons (pv 7) (pa_cons (pv 2) (pa_cons (pe_op op_shl pe_int (pe_ix (r := rIxL K) ix_list (pv 3) (pe_op op_add (pv 5) pe_int) (fun _ _ => rfl))) pa_nil)))))) pa_nil))))
      (pss_one ps_never)
      pss_nil))))
    (pss_one (ps_ret (pv 0)))))))))), ?_⟩
    walk_at "rd"
    refine r_isShaped hC fun H1 k1 => ?_
    obtain ⟨a, wl, ll, ls, hc⟩ := hC.kp k1
    obtain rfl := hc.ec
    have h1 := hc.ha
    have h2 := hc.hw
    have h3 := hc.hl
    have h4 := hc.len
    have h5 := hc.pos
    have h6 := hc.le
    have h7 : (ws.map fun w => V.int (w : Nat)).length = ws.length := List.length_map ..
    walk_at "rd"
    refine r_checkModulus hp ?_
    walk_at "rd"
    refine r_max (by rw [← ws_ints]; exact h2) (by rw [List.length_map]; omega) fun m hm => ?_
    have hm3 : m ≤ 3 := by
      obtain ⟨n, e, hn⟩ := ws_isI hc (.int m) (by rw [ws_ints]; exact List.mem_map_of_mem hm)
      cases e
      omega
    walk_at "rd"
    intro p1 n1
    have k2 : Kp M0 H1 (upd H1 p1 (.lst (cutV (ws.map fun w => V.int (w : Nat)) none (some (-1))))) := (Kp.refl _ _).new n1
    have g1 : (upd H1 p1 (.lst (cutV (ws.map fun w => V.int (w : Nat)) none (some (-1))))) p1 = some (.lst (cutV (ws.map fun w => V.int (w : Nat)) none (some (-1)))) := upd_same
    have z1 := cutV_length (ws.map fun w => V.int (w : Nat)) none (some (-1))
    walk_at "rd"
    intro D1 nD1
    refine lc_ints (M := M0) (p := 9) walk_list (by omega) Dom.zero nD1 (fun H4 k4 => SqL.of (k4.at g1)) ?_ ?_
    · rintro j x H2 H3 C hj k3 ⟨rfl, hy⟩ hC'
      obtain ⟨u, rfl, hu⟩ := ws_isI hc x (cut_mem (List.mem_of_getElem? hy))
      walk_at "rd"
      refine ⟨rfl, ?_⟩
      walk_at "rd"
      exact hC' _ _ (Kp.refl _ _) ⟨_, rfl, two_b hu⟩
    intro H4 k4 hI4
    obtain ⟨a2, ns2, e2, g2, _, z2, f2⟩ := hI4.ints
    cases e2
    have hs := sum_le (B := 8) (ns := ns2) fun i hi => by have := f2 i hi; omega
    walk_at "rd"
    refine r_sum g2 ?_
    walk_at "rd"
    have kA := (k1.trans k2).trans k4
    have g3 := (k2.trans k4).at h3
    walk_at "rd"
    refine r_rng1 ls.length rfl (by omega) ?_
    refine for_range (fun i σ H' => Kp M0 H4 H' ∧ ∃ (v5 v6 v7 : Option V), σ = [some (.ref a), some (.str "circuit"), some (.int p), some (.ref wl), some (.ref ll), v5, v6, v7])
      ⟨Kp.refl _ _, _, _, _, rfl⟩ ?_ ?_
    · rintro i σ H5 hi ⟨k5, v5, v6, v7, rfl⟩
      have q3 := k5.at g3
      have q2 := k5.at ((k2.trans k4).at h2)
      have hv : ls[i]? = some ls[i] := List.getElem?_eq_getElem hi
      obtain ⟨al, gs, e5, g5, _, z5, f5⟩ := ((hc.layers i _ hv).mono (k2.trans k4) fun _ z => z.elim).mono k5 fun _ z => z.elim
      have a1 : atI ls (0 + (i : Int)) = some (.ref al) := by rw [← e5]; exact at_of (by omega) hv
      have a2 : atI (ws.map fun w => V.int (w : Nat)) (0 + (i : Int)) = some (.int ((wd ws i : Nat) : Int)) := by
        rw [Int.zero_add]; exact map_at (wd_get (by omega))
      have a3 : atI (ws.map fun w => V.int (w : Nat)) (0 + (i : Int) + 1) = some (.int ((wd ws (i + 1) : Nat) : Int)) := by
        rw [Int.zero_add]; exact map_at (i := i + 1) (wd_get (by omega))
      have s1 := hc.small i
      have s2 := hc.small (i + 1)
      have s3 := two_le s1
      walk_at "rd"
      intro D nD
      refine lc_pure (M := M0) (fun v => v = .bl true) walk_list (by omega) Dom.zero nD (fun H6 k6 => SqL.of (k6.at g5)) ?_ ?_
      · rintro j x H6 H7 C hj k6 ⟨rfl, hy⟩ hC'
        have hG := ((all_at f5 hy).mono k6 fun _ z => z.elim)
        have b2 := k6.at q2
        walk_at "rd"
        refine ⟨rfl, ?_⟩
        walk_at "rd"
        refine r_isGate hG ?_
        exact hC' _ _ (Kp.refl _ _) rfl
      · rintro H6 k6 ⟨l6, xs6, e6, g6, _, _, f6⟩
        cases e6
        walk_at "rd"
        refine r_allT g6 f6 ?_
        walk_at "rd"
        exact ⟨k5.trans k6, _, _, _, rfl⟩
    · rintro σ H5 ⟨k5, v5, v6, v7, rfl⟩
      walk_at "rd"
      exact q _ (kA.trans k5)
theorem r_checked {H : Hp} {Q : VK} {E : XK} {c : V} {p : Int} {ws : List Nat} (h : Circ M0 H c p ws) (hp : Pm p) (q : ∀ H', Kp M0 H H' → Q c H') : spChecked [c] H Q E := ⟨c, p, ws, rfl, h, hp, q⟩
/-! ### checked_rows -/
abbrev s_checked_rows : Stmt := top 22
abbrev N_checked_rows : List Str := ["circuit", "rows", "p", "many", "row", "part"]
abbrev P_checked_rows : List Str := ["circuit", "rows"]
theorem sc_checked_rows : FnScope N_checked_rows P_checked_rows (defScope s_checked_rows) := ⟨rfl, rfl, rfl, by decide +kernel, rfl, by decide +kernel, by decide +kernel⟩
def spCheckedRows : Sp := fun vs H Q _ => ∃ (c r : V) (p : Int) (ws : List Nat) (n d : Nat), vs = [c, r] ∧ Circ M0 H c p ws ∧ Pm p ∧ n ≤ 3 ∧ ws.length = d + 1 ∧ IL2 M0 H r (2 ^ n) (2 ^ wd ws d) p ∧ ∀ H', Kp M0 H H' → Q r H'
theorem cal_checked_rows (D : DefAt K mg "checked_rows" s_checked_rows P_checked_rows) (T : Txt mg) (c_modulus : Cal P w K mg base 1 "modulus" spModulus []) (c_width : Cal P w K mg base 1 "width" spWidth []) (c_depth : Cal P w K mg base 1 "depth" spDepth [])
    (c_row_bits : Cal P w K mg base 1 "row_bits" spRowBits []) (c_fits : Cal P w K mg base 1 "fits" spFits []) : Cal P w K mg base 2 "checked_rows" spCheckedRows [] := by
  refine cal_of D sc_checked_rows (fun vs H Q E h => ?_) (fun f cdv A outer s H vs Q E hr h => ?_)
  · obtain ⟨_, _, _, _, _, _, rfl, _⟩ := h; rfl
  · obtain ⟨c, r, p, ws, n, d, rfl, hC, hp, hn, hd, ⟨lr, rs, rfl, hl, _, hx, hF⟩, q⟩ := h
    obtain ⟨a, wl, ll, ls, hc⟩ := id hC
    have hb := hp.b
    have s1 := hc.small d
    have s2 := two_le hn
    have s3 := two_le s1
    have s4 : 0 < 2 ^ n := two_pos
    refine ⟨_, (pss_cons (ps_set (i := 2) sc_checked_rows.nd rfl (Or.inr rfl) (pe_c c_modulus hr (by decide) (by rfl) (pa_cons (pv 0) pa_nil)))
    (pss_cons (ps_set (i := 3) sc_checked_rows.nd rfl (Or.inl rfl) (pe_op op_shl pe_int (pe_c c_width hr (by decide) (by rfl) (pa_cons (pv 0) (pa_cons (pe_c c_depth hr (by decide) (by rfl) (pa_cons (pv 0) pa_nil)) pa_nil)))))
    (pss_cons (ps_if (PW.pt (pw_or (pt_not (pt_val (pe_callB (r := rIsi K) call_isi (by rfl) T.isinstance (by decide +kernel) (pa_cons (pv 1) (pa_cons (pe_bltn (v := .ty "list") (by rfl) T.list (by decide +kernel) rfl) pa_nil))))) (pw_or (pt_cmpR op_eq (pe_callB (r := rLen K) call_lenS (by rfl) T.len PySem.boot_len (pa_cons (pv 1) pa_nil)) pe_int (nomark _)) (pw_or1 (pt_cmpR op_ne (pe_callB (r := rLen K) call_lenS (by rfl) T.len PySem.boot_len (pa_cons (pv 1) pa_nil)) (pe_op op_shl pe_int (pe_c c_row_bits hr (by decide) (by rfl) (pa_cons (pv 1) pa_nil))) (nomark _))))))
      (pss_one ps_never)
      pss_nil)
    (pss_cons (ps_if (pt_cmpR op_gt (pe_callB (r := rLen K) call_lenS (by rfl) T.len PySem.boot_len (pa_cons (pv 1) pa_nil)) (pe_const (by rfl) T.MAX_ROWS) (nomark _))
      (pss_one ps_never)
      pss_nil)
    (pss_cons (ps_for PassesOwn.never rfl (pi_list (pv 1)) (pg_name (i := 4) sc_checked_rows.nd rfl (Or.inl rfl))
      (pss_one (ps_if (PW.pt (pw_or (pt_not (pt_val (pe_callB (r := rIsi K) call_isi (by rfl) T.isinstance (by decide +kernel) (pa_cons (pv 4) (pa_cons (pe_bltn (v := .ty "list") (by rfl) T.list (by decide +kernel) rfl) pa_nil))))) (pw_or (pt_cmpR op_ne (pe_callB (r := rLen K) call_lenS (by rfl) T.len PySem.boot_len (pa_cons (pv 4) pa_nil)) (pv 3) (nomark _)) (pw_or1 (pt_not (pt_val (pe_callB (cr_all rfl) (by rfl) T.all (by decide +kernel) (pa_cons (pe_lc (own := [("part", 5)]) (g := gName 5) (tt := tYes) rfl sc_checked_rows.nd (pi_list (pv 4)) (blkOk_by (own := [("part", 5)]) (N := N_checked_rows) (sc := defScope s_checked_rows) (by decide +kernel)) (fun _ _ _ _ _ => (pg_name (i := 5) sc_checked_rows.nd rfl (Or.inl rfl))) (fun _ _ _ _ _ => pts_nil) (fun _ _ _ _ _ => (pe_c c_fits hr (by decide) (by rfl) (pa_cons (pv 5) (pa_cons (pe_op op_sub (pv 2) pe_int) pa_nil))))) pa_nil))))))))
      (pss_one ps_never)
      pss_nil)))
    (pss_one (ps_ret (pv 1)))))))), ?_⟩
    walk_at "rd"
    refine r_modulus hC ?_
    walk_at "rd"
    refine r_depth hC hd ?_
    walk_at "rd"
    refine r_width d hC rfl (by omega) ?_
    walk_at "rd"
    refine r_rowBits hl hx (by omega) ?_
    walk_at "rd"
    refine for_list (K := K) (a := lr) (xs := rs) (fun i σ H' => Kp M0 H H' ∧ ∃ (v4 v5 : Option V), σ = [some c, some (.ref lr), some (.int p), some (.int ((2 ^ wd ws d : Nat) : Int)), v4, v5])
      ⟨Kp.refl _ _, _, _, rfl⟩ (fun i σ H' _ h => SqL.of (h.1.at hl)) ?_ ?_
    · rintro i x σ H5 hi ⟨k5, v5, v6, rfl⟩
      obtain ⟨al, ys, rfl, g5, _, z5, f5⟩ := (all_at hF hi).kp k5
      walk_at "rd"
      intro D nD
      refine lc_pure (M := M0) (fun v => v = .bl true) walk_list (by omega) Dom.zero nD (fun H6 k6 => SqL.of (k6.at g5)) ?_ ?_
      · rintro j x H6 H7 C hj k6 ⟨rfl, hy⟩ hC'
        obtain ⟨u, rfl, hu⟩ := all_at f5 hy
        walk_at "rd"
        refine ⟨rfl, ?_⟩
        walk_at "rd"
        exact hC' _ _ (Kp.refl _ _) rfl
      · rintro H6 k6 ⟨l6, xs6, e6, g6, _, _, f6⟩
        cases e6
        walk_at "rd"
        refine r_allT g6 f6 ?_
        walk_at "rd"
        exact ⟨k5.trans k6, _, _, rfl⟩
    · rintro σ H5 ⟨k5, v5, v6, rfl⟩
      walk_at "rd"
      exact q _ k5
theorem r_checkedRows {H : Hp} {Q : VK} {E : XK} {c r : V} {p : Int} {ws : List Nat} {n d : Nat} (h : Circ M0 H c p ws) (hp : Pm p) (hn : n ≤ 3) (hd : ws.length = d + 1) (hr : IL2 M0 H r (2 ^ n) (2 ^ wd ws d) p) (q : ∀ H', Kp M0 H H' → Q r H') : spCheckedRows [c, r] H Q E :=
  ⟨c, r, p, ws, n, d, rfl, h, hp, hn, hd, hr, q⟩
end

/-! ## LK3 -/
section
variable {P : Program} {w : World} {K : PySem.W.Frag} {mg : Str → Option Value} {base : Heap}
/-! ### fold -/
abbrev s_fold : Stmt := top 29
abbrev N_fold : List Str := ["table", "number", "p", "half", "k"]
abbrev P_fold : List Str := ["table", "number", "p"]
theorem sc_fold : FnScope N_fold P_fold (defScope s_fold) := ⟨rfl, rfl, rfl, by decide +kernel, rfl, by decide +kernel, by decide +kernel⟩
def spFold : Sp := fun vs H Q _ => ∃ (M : Mu) (t : V) (n : Nat) (k p : Int), vs = [t, .int k, .int p] ∧ Dom M H ∧ IL M H t (2 * n) p ∧ n ≤ 1000 ∧ (0 ≤ k ∧ k ≤ 60) ∧ Pm p ∧ ∀ H' v, Kp M0 H H' → IL M H' v n p → Q v H'
theorem cal_fold (D : DefAt K mg "fold" s_fold P_fold) (T : Txt mg) : Cal P w K mg base 1 "fold" spFold [] := by
  refine cal_of D sc_fold (fun vs H Q E h => ?_) (fun f cdv A outer s H vs Q E hr h => ?_)
  · obtain ⟨_, _, _, _, _, rfl, _⟩ := h; rfl
  · obtain ⟨M, t, n, k, p, rfl, dM, ⟨l, xs, rfl, hl, nl, hx, hF⟩, hn, hk, hp, q⟩ := h
    have hb := hp.b
    refine ⟨_, (pss_cons (ps_set (i := 3) sc_fold.nd rfl (Or.inl rfl) (pe_op op_fdiv (pe_callB (r := rLen K) call_lenS (by rfl) T.len PySem.boot_len (pa_cons (pv 0) pa_nil)) pe_int))
    (pss_one (ps_ret (pe_lc (own := [("k", 4)]) (g := gName 4) (tt := tYes) rfl sc_fold.nd (pi_range1 (by rfl) T.range (pa_cons (pv 3) pa_nil)) (blkOk_by (own := [("k", 4)]) (N := N_fold) (sc := defScope s_fold) (by decide +kernel)) (fun _ _ _ _ _ => (pg_name (i := 4) sc_fold.nd rfl (Or.inl rfl))) (fun _ _ _ _ _ => pts_nil) (fun _ _ _ _ _ => (pe_op op_mod (pe_op op_add (pe_ix (r := rIxL K) ix_list (pv 0) (pe_op op_mul pe_int (pv 4)) (fun _ _ => rfl)) (pe_op op_mul (pv 1) (pe_op op_sub (pe_ix (r := rIxL K) ix_list (pv 0) (pe_op op_add (pe_op op_mul pe_int (pv 4)) pe_int) (fun _ _ => rfl)) (pe_ix (r := rIxL K) ix_list (pv 0) (pe_op op_mul pe_int (pv 4)) (fun _ _ => rfl))))) (pv 2))))))), ?_⟩
    walk_at "rd"
    refine r_rng1 n (by omega) (by omega) ?_
    intro D nD
    refine lc_ints (M := M) (p := p) walk_range (by omega) dM nD (fun _ _ => trivial) ?_ (fun H' k' h' => q H' _ k' h')
    rintro i x H1 H2 C hi k1 ⟨rfl, rfl⟩ hC
    have hl' := k1.at hl
    obtain ⟨a, ha, a0⟩ := IsI.get hF (i := 2 * (0 + (i : Int))) (by omega) (by omega)
    obtain ⟨b, hb', b0⟩ := IsI.get hF (i := 2 * (0 + (i : Int)) + 1) (by omega) (by omega)
    walk_at "rd"
    refine ⟨rfl, ?_⟩
    walk_at "rd"
    exact hC _ _ (Kp.refl _ _) (isI_mod (by omega))
theorem r_fold {H : Hp} {Q : VK} {E : XK} {M : Mu} {t : V} {n : Nat} {k p : Int} (d : Dom M H) (h : IL M H t (2 * n) p) (hn : n ≤ 1000) (hk : 0 ≤ k ∧ k ≤ 60) (hp : Pm p) (q : ∀ H' v, Kp M0 H H' → IL M H' v n p → Q v H') : spFold [t, .int k, .int p] H Q E :=
  ⟨M, t, n, k, p, rfl, d, h, hn, hk, hp, q⟩
/-! ### point_table -/
abbrev s_point_table : Stmt := top 27
abbrev N_point_table : List Str := ["point", "p", "table", "number", "low", "high", "entry"]
abbrev P_point_table : List Str := ["point", "p"]
theorem sc_point_table : FnScope N_point_table P_point_table (defScope s_point_table) := ⟨rfl, rfl, rfl, by decide +kernel, rfl, by decide +kernel, by decide +kernel⟩
def spPointTable : Sp := fun vs H Q _ => ∃ (M : Mu) (t : V) (m : Nat) (p : Int), vs = [t, .int p] ∧ Dom M H ∧ IL M H t m p ∧ m ≤ 8 ∧ Pm p ∧ ∀ H' v, Kp M0 H H' → IL M H' v (2 ^ m) p → Q v H'
theorem cal_point_table (D : DefAt K mg "point_table" s_point_table P_point_table) (T : Txt mg) : Cal P w K mg base 1 "point_table" spPointTable [] := by
  refine cal_of D sc_point_table (fun vs H Q E h => ?_) (fun f cdv A outer s H vs Q E hr h => ?_)
  · obtain ⟨_, _, _, _, rfl, _⟩ := h; rfl
  · obtain ⟨M, t, m, p, rfl, dM, ⟨l, xs, rfl, hl, nl, hx, hF⟩, hm, hp, q⟩ := h
    have hb := hp.b
    refine ⟨_, (pss_cons (ps_set (i := 2) sc_point_table.nd rfl (Or.inl rfl) (pe_lst (pa_cons (pe_op op_mod pe_int (pv 1)) pa_nil)))
    (pss_cons (ps_for PassesOwn.never rfl (pi_list (pv 0)) (pg_name (i := 3) sc_point_table.nd rfl (Or.inr rfl))
      (pss_cons (ps_setLc (i := 4) (own := [("entry", 6)]) (g := gName 6) (tt := tYes) rfl sc_point_table.nd rfl rfl (sw_true rfl rfl rfl (by decide +kernel)) (pi_list (pv 2)) (blkOk_by (own := [("entry", 6)]) (N := N_point_table) (sc := defScope s_point_table) (by decide +kernel)) (fun _ _ _ _ _ => (pg_name (i := 6) sc_point_table.nd rfl (Or.inl rfl))) (fun _ _ _ _ _ => pts_nil) (fun _ _ _ _ _ => (pe_op op_mod (pe_op op_mul (pe_op op_sub pe_int (pv 3)) (pv 6)) (pv 1))))
    (pss_cons (ps_setLc (i := 5) (own := [("entry", 6)]) (g := gName 6) (tt := tYes) rfl sc_point_table.nd rfl rfl (sw_true rfl rfl rfl (by decide +kernel)) (pi_list (pv 2)) (blkOk_by (own := [("entry", 6)]) (N := N_point_table) (sc := defScope s_point_table) (by decide +kernel)) (fun _ _ _ _ _ => (pg_name (i := 6) sc_point_table.nd rfl (Or.inl rfl))) (fun _ _ _ _ _ => pts_nil) (fun _ _ _ _ _ => (pe_op op_mod (pe_op op_mul (pv 3) (pv 6)) (pv 1))))
    (pss_one (ps_set (i := 2) sc_point_table.nd rfl (Or.inl rfl) (pe_op op_cat (pv 4) (pv 5)))))))
    (pss_one (ps_ret (pv 2))))), ?_⟩
    walk_at "rd"
    refine ⟨sz (show 1 ≤ 100000 by decide), fun L nL => ?_⟩
    have k0 : Kp M0 H (upd H L (.lst [.int (1 % p)])) := (Kp.refl _ _).new nL
    have hl0 := k0.at hl
    walk_at "rd"
    refine for_list (K := K) (a := l) (xs := xs) (fun i σ H' => Kp M0 H H' ∧ ∃ (tb : V) (v3 v4 v5 v6 : Option V), σ = [some (.ref l), some (.int p), some tb, v3, v4, v5, v6] ∧ IL M H' tb (2 ^ i) p)
      ⟨k0, _, _, _, _, _, rfl, L, _, rfl, upd_same, dM.fresh nL, rfl, ?_⟩ (fun i σ H' _ h => SqL.of (h.1.at hl)) ?_ ?_
    · intro x hx
      rw [List.mem_singleton.mp hx]
      exact isI_mod (by omega)
    · rintro i x σ H' hi ⟨kk, tb, v3, v4, v5, v6, rfl, l2, xs2, rfl, hl2, nl2, hx2, hF2⟩
      obtain ⟨v, rfl, hv⟩ := all_at hF hi
      have hi2 : i < xs.length := (List.getElem?_eq_some_iff.mp hi).1
      have hpow : 2 ^ i ≤ 2 ^ 8 := Nat.pow_le_pow_right (by decide) (by omega)
      have dM' := dM.kp kk
      walk_at "rd"
      intro D1 nD1
      refine lc_ints (M := M) (p := p) walk_list (by omega) dM' nD1 (fun H4 k4 => SqL.of (k4.at hl2)) ?_ ?_
      · rintro j x H1 H2 C hj k1 ⟨rfl, hy⟩ hC
        obtain ⟨u, rfl, hu⟩ := all_at hF2 hy
        walk_at "rd"
        refine ⟨rfl, ?_⟩
        walk_at "rd"
        exact hC _ _ (Kp.refl _ _) (isI_mod (by omega))
      intro H3 k3 hI3
      have hl3 := k3.at hl2
      walk_at "rd"
      intro D2 nD2
      refine lc_ints (M := M) (p := p) walk_list (by omega) (dM'.kp k3) nD2 (fun H4 k4 => SqL.of (k4.at hl3)) ?_ ?_
      · rintro j x H1 H2 C hj k1 ⟨rfl, hy⟩ hC
        obtain ⟨u, rfl, hu⟩ := all_at hF2 hy
        walk_at "rd"
        refine ⟨rfl, ?_⟩
        walk_at "rd"
        exact hC _ _ (Kp.refl _ _) (isI_mod (by omega))
      intro H4 k4 hI4
      obtain ⟨a1, y1, e1, g1, n1, z1, f1⟩ := hI3.kp k4
      obtain ⟨a2, y2, e2, g2, n2, z2, f2⟩ := hI4
      cases e1
      cases e2
      walk_at "rd"
      refine ⟨D1, D2, y1, y2, rfl, rfl, g1, g2, sz (by omega), fun L5 nL5 => ?_⟩
      walk_at "rd"
      have k5 : Kp M0 H (upd H4 L5 (.lst (y1 ++ y2))) := ((kk.trans k3).trans k4).new nL5
      refine ⟨k5, _, _, _, _, _, rfl, L5, _, rfl, upd_same, ((dM'.kp k3).kp k4).fresh nL5, ?_, fun z hz => ?_⟩
      · rw [List.length_append, z1, z2, hx2, Nat.pow_succ]; omega
      · rcases List.mem_append.mp hz with hz | hz
        · exact f1 z hz
        · exact f2 z hz
    · rintro σ H' ⟨kk, tb, v3, v4, v5, v6, rfl, hT⟩
      walk_at "rd"
      exact q _ _ kk (by rw [hx] at hT; exact hT)
theorem r_pointTable {H : Hp} {Q : VK} {E : XK} {M : Mu} {t : V} {m : Nat} {p : Int} (d : Dom M H) (h : IL M H t m p) (hm : m ≤ 8) (hp : Pm p) (q : ∀ H' v, Kp M0 H H' → IL M H' v (2 ^ m) p → Q v H') : spPointTable [t, .int p] H Q E :=
  ⟨M, t, m, p, rfl, d, h, hm, hp, q⟩
/-! ### value_at, between, line_values -/
abbrev s_value_at : Stmt := top 28
abbrev N_value_at : List Str := ["table", "point", "p", "number"]
abbrev P_value_at : List Str := ["table", "point", "p"]
theorem sc_value_at : FnScope N_value_at P_value_at (defScope s_value_at) := ⟨rfl, rfl, rfl, by decide +kernel, rfl, by decide +kernel, by decide +kernel⟩
def spValueAt : Sp := fun vs H Q _ => ∃ (M : Mu) (t u : V) (m : Nat) (p : Int), vs = [t, u, .int p] ∧ Dom M H ∧ IL M H t (2 ^ m) p ∧ IL M H u m p ∧ m ≤ 8 ∧ Pm p ∧ ∀ H' i, Kp M0 H H' → 0 ≤ i ∧ i < p → Q (.int i) H'
theorem cal_value_at (D : DefAt K mg "value_at" s_value_at P_value_at) (T : Txt mg) (c_fold : Cal P w K mg base 1 "fold" spFold []) : Cal P w K mg base 2 "value_at" spValueAt [] := by
  refine cal_of D sc_value_at (fun vs H Q E h => ?_) (fun f cdv A outer s H vs Q E hr h => ?_)
  · obtain ⟨_, _, _, _, _, rfl, _⟩ := h; rfl
  · obtain ⟨M, t, u, m, p, rfl, dM, hT, ⟨l, xs, rfl, hl, nl, hx, hF⟩, hm, hp, q⟩ := h
    have hb := hp.b
    refine ⟨_, (pss_cons (ps_for PassesOwn.never rfl (pi_list (pv 1)) (pg_name (i := 3) sc_value_at.nd rfl (Or.inl rfl))
      (pss_one (ps_set (i := 0) sc_value_at.nd rfl (Or.inl rfl) (pe_c c_fold hr (by decide) (by rfl) (pa_cons (pv 0) (pa_cons (pv 3) (pa_cons (pv 2) pa_nil)))))))
    (pss_one (ps_ret (pe_op op_mod (pe_ix (r := rIxL K) ix_list (pv 0) pe_int (fun _ _ => rfl)) (pv 2))))), ?_⟩
    walk_at "rd"
    refine for_list (K := K) (a := l) (xs := xs) (fun i σ H' => Kp M0 H H' ∧ ∃ (tb : V) (v3 : Option V), σ = [some tb, some (.ref l), some (.int p), v3] ∧ IL M H' tb (2 ^ (m - i)) p)
      ⟨Kp.refl _ _, _, _, rfl, hT⟩ (fun i σ H' _ h => SqL.of (h.1.at hl)) ?_ ?_
    · rintro i x σ H' hi ⟨kk, tb, v3, rfl, hT⟩
      obtain ⟨v, rfl, hv⟩ := all_at hF hi
      have hi2 : i < xs.length := (List.getElem?_eq_some_iff.mp hi).1
      have e : 2 ^ (m - i) = 2 * 2 ^ (m - (i + 1)) := by
        rw [show m - i = (m - (i + 1)) + 1 by omega, Nat.pow_succ]; omega
      have hpow : 2 ^ (m - (i + 1)) ≤ 2 ^ 8 := Nat.pow_le_pow_right (by decide) (by omega)
      rw [e] at hT
      walk_at "rd"
      refine r_fold (dM.kp kk) hT (by omega) (by omega) hp fun H4 v4 k4 h4 => ?_
      walk_at "rd"
      exact ⟨kk.trans k4, _, _, rfl, h4⟩
    · rintro σ H' ⟨kk, tb, v3, rfl, l2, xs2, rfl, hl2, nl2, hx2, hF2⟩
      have h1 : xs2.length = 1 := by rw [hx2, hx, Nat.sub_self]
      obtain ⟨a, ha, a0⟩ := IsI.get hF2 (i := 0) (by omega) (by omega)
      walk_at "rd"
      exact q _ _ kk (emod_b (by omega))
theorem r_valueAt {H : Hp} {Q : VK} {E : XK} {M : Mu} {t u : V} {m : Nat} {p : Int} (d : Dom M H) (h : IL M H t (2 ^ m) p) (hu : IL M H u m p) (hm : m ≤ 8) (hp : Pm p) (q : ∀ H' i, Kp M0 H H' → 0 ≤ i ∧ i < p → Q (.int i) H') : spValueAt [t, u, .int p] H Q E :=
  ⟨M, t, u, m, p, rfl, d, h, hu, hm, hp, q⟩
abbrev s_between : Stmt := top 30
abbrev N_between : List Str := ["point", "other", "t", "p", "k", "number"]
abbrev P_between : List Str := ["point", "other", "t", "p"]
theorem sc_between : FnScope N_between P_between (defScope s_between) := ⟨rfl, rfl, rfl, by decide +kernel, rfl, by decide +kernel, by decide +kernel⟩
def spBetween : Sp := fun vs H Q _ => ∃ (M : Mu) (t u : V) (m : Nat) (n p : Int), vs = [t, u, .int n, .int p] ∧ Dom M H ∧ IL M H t m p ∧ IL M H u m p ∧ m ≤ 8 ∧ (0 ≤ n ∧ n ≤ 60) ∧ Pm p ∧ ∀ H' v, Kp M0 H H' → IL M H' v m p → Q v H'
theorem cal_between (D : DefAt K mg "between" s_between P_between) (T : Txt mg) : Cal P w K mg base 1 "between" spBetween [] := by
  refine cal_of D sc_between (fun vs H Q E h => ?_) (fun f cdv A outer s H vs Q E hr h => ?_)
  · obtain ⟨_, _, _, _, _, _, rfl, _⟩ := h; rfl
  · obtain ⟨M, t, u, m, n, p, rfl, dM, ⟨l, xs, rfl, hl, nl, hx, hF⟩, ⟨l2, xs2, rfl, hl2, nl2, hx2, hF2⟩, hm, hn, hp, q⟩ := h
    have hb := hp.b
    refine ⟨_, (pss_one (ps_ret (pe_lc (own := [("k", 4), ("number", 5)]) (g := gTup K 2 (gCons (gName 4) (gCons (gName 5) (gNil)))) (tt := tYes) rfl sc_between.nd (pi_enum (by rfl) T.enumerate (pa_cons (pv 0) pa_nil)) (blkOk_by (own := [("k", 4), ("number", 5)]) (N := N_between) (sc := defScope s_between) (by decide +kernel)) (fun _ _ _ _ _ => (pg_tup rfl (pgs_cons (pg_name (i := 4) sc_between.nd rfl (Or.inl rfl)) (pgs_cons (pg_name (i := 5) sc_between.nd rfl (Or.inl rfl)) pgs_nil)))) (fun _ _ _ _ _ => pts_nil) (fun _ _ _ _ _ => (pe_op op_mod (pe_op op_add (pv 5) (pe_op op_mul (pv 2) (pe_op op_sub (pe_ix (r := rIxL K) ix_list (pv 1) (pv 4) (fun _ _ => rfl)) (pv 5)))) (pv 3)))))), ?_⟩
    walk_at "rd"
    intro D nD
    refine lc_ints (M := M) (p := p) walk_enum (by omega) dM nD (fun H4 k4 => SqL.of (k4.at hl)) ?_ (fun H' k' h' => q H' _ k' (hx ▸ h'))
    rintro i x H1 H2 C hi k1 ⟨T1, y1, y2, rfl, nT, rfl, e1, e2⟩ hC
    cases e1
    obtain ⟨v, rfl, hv⟩ := all_at hF e2
    have k2 : Kp M0 H1 (upd H1 T1 (.tup [.int (i : Nat), .int v])) := (Kp.refl _ _).new nT
    refine ⟨T1, _, rfl, SqT.of upd_same, rfl, ?_⟩
    have hl3 := (k1.trans k2).at hl2
    obtain ⟨b, hb', b0⟩ := IsI.get hF2 (i := (i : Int)) (by omega) (by omega)
    refine ⟨_, _, rfl, _, _, rfl, rfl, rfl, ?_⟩
    walk_at "rd"
    exact hC _ _ k2 (isI_mod (by omega))
theorem r_between {H : Hp} {Q : VK} {E : XK} {M : Mu} {t u : V} {m : Nat} {n p : Int} (d : Dom M H) (h : IL M H t m p) (hu : IL M H u m p) (hm : m ≤ 8) (hn : 0 ≤ n ∧ n ≤ 60) (hp : Pm p) (q : ∀ H' v, Kp M0 H H' → IL M H' v m p → Q v H') : spBetween [t, u, .int n, .int p] H Q E :=
  ⟨M, t, u, m, n, p, rfl, d, h, hu, hm, hn, hp, q⟩
abbrev s_line_values : Stmt := top 31
abbrev N_line_values : List Str := ["table", "point", "other", "p", "t"]
abbrev P_line_values : List Str := ["table", "point", "other", "p"]
theorem sc_line_values : FnScope N_line_values P_line_values (defScope s_line_values) := ⟨rfl, rfl, rfl, by decide +kernel, rfl, by decide +kernel, by decide +kernel⟩
def spLineValues : Sp := fun vs H Q _ => ∃ (M : Mu) (b t u : V) (m : Nat) (p : Int), vs = [b, t, u, .int p] ∧ Dom M H ∧ IL M H b (2 ^ m) p ∧ IL M H t m p ∧ IL M H u m p ∧ m ≤ 8 ∧ Pm p ∧ ∀ H' v, Kp M0 H H' → IL M H' v (m + 1) p → Q v H'
theorem cal_line_values (D : DefAt K mg "line_values" s_line_values P_line_values) (T : Txt mg) (c_value_at : Cal P w K mg base 2 "value_at" spValueAt []) (c_between : Cal P w K mg base 1 "between" spBetween []) : Cal P w K mg base 3 "line_values" spLineValues [] := by
  refine cal_of D sc_line_values (fun vs H Q E h => ?_) (fun f cdv A outer s H vs Q E hr h => ?_)
  · obtain ⟨_, _, _, _, _, _, rfl, _⟩ := h; rfl
  · obtain ⟨M, b, t, u, m, p, rfl, dM, hB, hT, hU, hm, hp, q⟩ := h
    have hb := hp.b
    obtain ⟨l, xs, rfl, hl, nl, hx, hF⟩ := id hT
    refine ⟨_, (pss_one (ps_ret (pe_lc (own := [("t", 4)]) (g := gName 4) (tt := tYes) rfl sc_line_values.nd (pi_range1 (by rfl) T.range (pa_cons (pe_op op_add (pe_callB (r := rLen K) call_lenS (by rfl) T.len PySem.boot_len (pa_cons (pv 1) pa_nil)) pe_int) pa_nil)) (blkOk_by (own := [("t", 4)]) (N := N_line_values) (sc := defScope s_line_values) (by decide +kernel)) (fun _ _ _ _ _ => (pg_name (i := 4) sc_line_values.nd rfl (Or.inl rfl))) (fun _ _ _ _ _ => pts_nil) (fun _ _ _ _ _ => (pe_c c_value_at hr (by decide) (by rfl) (pa_cons (pv 0) (pa_cons (pe_c c_between hr (by decide) (by rfl) (pa_cons (pv 1) (pa_cons (pv 2) (pa_cons (pv 4) (pa_cons (pv 3) pa_nil))))) (pa_cons (pv 3) pa_nil)))))))), ?_⟩
    walk_at "rd"
    refine r_rng1 (m + 1) (by omega) (by omega) ?_
    intro D nD
    refine lc_ints (M := M) (p := p) walk_range (by omega) dM nD (fun _ _ => trivial) ?_ (fun H' k' h' => q H' _ k' h')
    rintro i x H1 H2 C hi k1 ⟨rfl, rfl⟩ hC
    walk_at "rd"
    refine ⟨rfl, ?_⟩
    walk_at "rd"
    refine r_between (dM.kp k1) (hT.kp k1) (hU.kp k1) hm (by omega) hp fun H4 v4 k4 h4 => ?_
    walk_at "rd"
    refine r_valueAt ((dM.kp k1).kp k4) ((hB.kp k1).kp k4) h4 hm hp fun H5 i5 k5 h5 => ?_
    exact hC _ _ (k4.trans k5) ⟨_, rfl, h5⟩
theorem r_lineValues {H : Hp} {Q : VK} {E : XK} {M : Mu} {b t u : V} {m : Nat} {p : Int} (d : Dom M H) (hb : IL M H b (2 ^ m) p) (h : IL M H t m p) (hu : IL M H u m p) (hm : m ≤ 8) (hp : Pm p) (q : ∀ H' v, Kp M0 H H' → IL M H' v (m + 1) p → Q v H') : spLineValues [b, t, u, .int p] H Q E :=
  ⟨M, b, t, u, m, p, rfl, d, hb, h, hu, hm, hp, q⟩
end

/-! ## LK2b -/
section
variable {P : Program} {w : World} {K : PySem.W.Frag} {mg : Str → Option Value} {base : Heap}
/-! ### gate_value -/
abbrev s_gate_value : Stmt := top 23
abbrev N_gate_value : List Str := ["gate", "below", "p"]
abbrev P_gate_value : List Str := ["gate", "below", "p"]
theorem sc_gate_value : FnScope N_gate_value P_gate_value (defScope s_gate_value) := ⟨rfl, rfl, rfl, by decide +kernel, rfl, by decide +kernel, by decide +kernel⟩
def spGateValue : Sp := fun vs H Q _ => ∃ (M : Mu) (g b : V) (p : Int) (m : Nat), vs = [g, b, .int p] ∧ Gate M H p m g ∧ IL M H b m p ∧ Pm p ∧ ∀ i : Int, 0 ≤ i ∧ i < p → Q (.int i) H
theorem cal_gate_value (D : DefAt K mg "gate_value" s_gate_value P_gate_value) : Cal P w K mg base 1 "gate_value" spGateValue [] := by
  refine cal_of D sc_gate_value (fun vs H Q E h => ?_) (fun f cdv A outer s H vs Q E hr h => ?_)
  · obtain ⟨_, _, _, _, _, rfl, _⟩ := h; rfl
  · obtain ⟨M, g, b, p, m, rfl, ⟨a, rfl, na, hg⟩, ⟨l, xs, rfl, hl, _, hx, hF⟩, hp, q⟩ := h
    have hb := hp.b
    refine ⟨_, (pss_cons (ps_if (pt_cmpR op_eq (pe_ix (r := rIxT K) ix_tup (pv 0) pe_int (fun _ _ => rfl)) pe_str (nomark _))
      (pss_one (ps_ret (pe_op op_mod (pe_op op_add (pe_op op_mul (pe_ix (r := rIxT K) ix_tup (pv 0) pe_int (fun _ _ => rfl)) (pe_ix (r := rIxL K) ix_list (pv 1) (pe_ix (r := rIxT K) ix_tup (pv 0) pe_int (fun _ _ => rfl)) (fun _ _ => rfl))) (pe_op op_mul (pe_ix (r := rIxT K) ix_tup (pv 0) pe_int (fun _ _ => rfl)) (pe_ix (r := rIxL K) ix_list (pv 1) (pe_ix (r := rIxT K) ix_tup (pv 0) pe_int (fun _ _ => rfl)) (fun _ _ => rfl)))) (pv 2))))
      pss_nil)
    (pss_one (ps_ret (pe_op op_mod (pe_op op_mul (pe_op op_mul (pe_ix (r := rIxT K) ix_tup (pv 0) pe_int (fun _ _ => rfl)) (pe_ix (r := rIxL K) ix_list (pv 1) (pe_ix (r := rIxT K) ix_tup (pv 0) pe_int (fun _ _ => rfl)) (fun _ _ => rfl))) (pe_ix (r := rIxL K) ix_list (pv 1) (pe_ix (r := rIxT K) ix_tup (pv 0) pe_int (fun _ _ => rfl)) (fun _ _ => rfl))) (pv 2))))), ?_⟩
    rcases hg with ⟨c1, x, c2, y, h, b1, b2, b3, b4⟩ | ⟨c, x, y, h, b1, b2, b3⟩
    · obtain ⟨u, hu, u0⟩ := IsI.get hF (i := x) (by omega) (by omega)
      obtain ⟨v, hv, v0⟩ := IsI.get hF (i := y) (by omega) (by omega)
      walk_at "rd"
      exact q _ (emod_b (by omega))
    · obtain ⟨u, hu, u0⟩ := IsI.get hF (i := x) (by omega) (by omega)
      obtain ⟨v, hv, v0⟩ := IsI.get hF (i := y) (by omega) (by omega)
      walk_at "rd"
      exact q _ (emod_b (by omega))
theorem r_gateValue {H : Hp} {Q : VK} {E : XK} {M : Mu} {g b : V} {p : Int} {m : Nat} (h : Gate M H p m g) (hb : IL M H b m p) (hp : Pm p) (q : ∀ i : Int, 0 ≤ i ∧ i < p → Q (.int i) H) : spGateValue [g, b, .int p] H Q E := ⟨M, g, b, p, m, rfl, h, hb, hp, q⟩
/-! ### run_row -/
abbrev Mo (M : Mu) (L : Addr) : Mu := fun b => M b ∨ b = L
theorem Kp.drop {H HB H' : Hp} {L : Addr} (k : Kp M0 H HB) (k' : Kp (M1 L) HB H') (n : H L = none) : Kp M0 H H' := fun b o _ e => k' b o (ne_of_none e n) (k b o id e)
theorem Kp.dropM {M : Mu} {H HB H' : Hp} {L : Addr} (k : Kp M H HB) (k' : Kp (M1 L) HB H') (n : H L = none) : Kp M H H' := fun b o m e => k' b o (ne_of_none e n) (k b o m e)
theorem Mo.up {M : Mu} {H : Hp} {L a : Addr} {o : HO} (n : H L = none) (na : ¬ M a) (e : H a = some o) : ¬ Mo M L a := fun z => z.elim na fun q => ne_of_none e n q
theorem IL.up {M : Mu} {H : Hp} {L : Addr} {v : V} {n : Nat} {p : Int} (h : IL M H v n p) (z : H L = none) : IL (Mo M L) H v n p := by
  obtain ⟨l, xs, e, hl, nl, hn, hx⟩ := h
  exact ⟨l, xs, e, hl, Mo.up z nl hl, hn, hx⟩
theorem Gate.up {M : Mu} {H : Hp} {L : Addr} {p : Int} {m : Nat} {g : V} (h : Gate M H p m g) (z : H L = none) : Gate (Mo M L) H p m g := by
  obtain ⟨a, e, na, h⟩ := h
  refine ⟨a, e, ?_, h⟩
  rcases h with ⟨_, _, _, _, h, _⟩ | ⟨_, _, _, h, _⟩ <;> exact Mo.up z na h
theorem GL.up {M : Mu} {H : Hp} {L : Addr} {v : V} {n m : Nat} {p : Int} (h : GL M H v n p m) (z : H L = none) : GL (Mo M L) H v n p m := by
  obtain ⟨l, xs, e, hl, nl, hn, hx⟩ := h
  exact ⟨l, xs, e, hl, Mo.up z nl hl, hn, fun x y => (hx x y).up z⟩
theorem LT.up {M : Mu} {H : Hp} {L : Addr} {v : V} {n : Nat} {f : Nat → Nat} {p : Int} (h : LT M H v n f p) (z : H L = none) : LT (Mo M L) H v n f p := by
  obtain ⟨l, xs, e, hl, nl, hn, hx⟩ := h
  exact ⟨l, xs, e, hl, Mo.up z nl hl, hn, fun i x y => (hx i x y).up z⟩
theorem Dom.mo {M : Mu} {H : Hp} {L : Addr} {o : HO} (d : Dom M H) (e : H L = some o) : Dom (Mo M L) H := fun b m => by
  rcases m with m | m
  · exact d b m
  · rw [m, e]; exact fun z => nomatch z
theorem app_get {α : Type} {xs : List α} {y x : α} {j : Nat} (h : (xs ++ [y])[j]? = some x) : xs[j]? = some x ∨ (j = xs.length ∧ x = y) := by
  by_cases hj : j < xs.length
  · rw [List.getElem?_append_left hj] at h
    exact .inl h
  · rw [List.getElem?_append_right (by omega)] at h
    have : j - xs.length = 0 := by
      rcases Nat.eq_zero_or_pos (j - xs.length) with z | z
      · exact z
      · rw [List.getElem?_eq_none (by rw [List.length_singleton]; omega)] at h
        cases h
    rw [this] at h
    cases h
    exact .inr ⟨by omega, rfl⟩
abbrev s_run_row : Stmt := top 24
abbrev N_run_row : List Str := ["circuit", "inputs", "p", "found", "gates", "gate"]
abbrev P_run_row : List Str := ["circuit", "inputs"]
theorem sc_run_row : FnScope N_run_row P_run_row (defScope s_run_row) := ⟨rfl, rfl, rfl, by decide +kernel, rfl, by decide +kernel, by decide +kernel⟩
def spRunRow : Sp := fun vs H Q _ => ∃ (M : Mu) (c r : V) (p : Int) (ws : List Nat) (d : Nat), vs = [c, r] ∧ Dom M H ∧ Circ M0 H c p ws ∧ Pm p ∧ ws.length = d + 1 ∧ IL M0 H r (2 ^ wd ws d) p ∧ ∀ H' v, Kp M0 H H' → LT M H' v (d + 1) (fun i => 2 ^ wd ws i) p → Q v H'
theorem cal_run_row (D : DefAt K mg "run_row" s_run_row P_run_row) (T : Txt mg) (c_modulus : Cal P w K mg base 1 "modulus" spModulus []) (c_gate_value : Cal P w K mg base 1 "gate_value" spGateValue []) : Cal P w K mg base 2 "run_row" spRunRow [] := by
  refine cal_of D sc_run_row (fun vs H Q E h => ?_) (fun f cdv A outer s H vs Q E hr h => ?_)
  · obtain ⟨_, _, _, _, _, _, rfl, _⟩ := h; rfl
  · obtain ⟨M, c, r, p, ws, d, rfl, dM, hC, hp, hd, ⟨lr, rs, rfl, hl, _, hx, hF⟩, q⟩ := h
    obtain ⟨a, wl, ll, ls, hc⟩ := id hC
    obtain rfl := hc.ec
    have h1 := hc.ha
    have h3 := hc.hl
    have h4 := hc.len
    have h5 := hc.pos
    have h6 := hc.le
    have hb := hp.b
    refine ⟨_, (pss_cons (ps_set (i := 2) sc_run_row.nd rfl (Or.inr rfl) (pe_c c_modulus hr (by decide) (by rfl) (pa_cons (pv 0) pa_nil)))
    (pss_cons (ps_set (i := 3) sc_run_row.nd rfl (Or.inr rfl) (pe_lst (pa_cons (pe_callTy (r := rList K) call_listS (by rfl) T.list (by decide +kernel) (pa_cons (pv 1) pa_nil)) pa_nil)))
    (pss_cons (ps_for PassesOwn.never rfl (pi_list (pe_revL (pe_ix (r := rIxT K) ix_tup (pv 0) pe_int (fun _ _ => rfl)))) (pg_name (i := 4) sc_run_row.nd rfl (Or.inl rfl))
      (pss_one (ps_expr (pe_bm PySem.F.plainAttrs_list PySem.F.slot_list_append PySem.F.type_list_append mt_append (pv 3) (pa_cons (pe_lc (own := [("gate", 5)]) (g := gName 5) (tt := tYes) rfl sc_run_row.nd (pi_list (pv 4)) (blkOk_by (own := [("gate", 5)]) (N := N_run_row) (sc := defScope s_run_row) (by decide +kernel)) (fun _ _ _ _ _ => (pg_name (i := 5) sc_run_row.nd rfl (Or.inl rfl))) (fun _ _ _ _ _ => pts_nil) (fun _ _ _ _ _ => (pe_c c_gate_value hr (by decide) (by rfl) (pa_cons (pv 5) (pa_cons (pe_ix (r := rIxL K) ix_list (pv 3) (pe_un un_neg pe_int) (fun _ _ => rfl)) (pa_cons (pv 2) pa_nil)))))) pa_nil)))))
    (pss_one (ps_ret (pe_revL (pv 3))))))), ?_⟩
    walk_at "rd"
    refine r_modulus hC ?_
    walk_at "rd"
    intro p1 n1
    have k1 : Kp M0 H (upd H p1 (.lst rs)) := (Kp.refl _ _).new n1
    walk_at "rd"
    refine ⟨sz (show 1 ≤ 100000 by decide), fun L nL => ?_⟩
    have k2 : Kp M0 (upd H p1 (.lst rs)) (upd (upd H p1 (.lst rs)) L (.lst [.ref p1])) := (Kp.refl _ _).new nL
    have g1 := (k1.trans k2).at h1
    have g3 := (k1.trans k2).at h3
    walk_at "rd"
    intro L2 nL2
    have k3 : Kp M0 (upd (upd H p1 (.lst rs)) L (.lst [.ref p1])) (upd (upd (upd H p1 (.lst rs)) L (.lst [.ref p1])) L2 (.lst ls.reverse)) := (Kp.refl _ _).new nL2
    have e2 : upd (upd (upd H p1 (.lst rs)) L (.lst [.ref p1])) L2 (.lst ls.reverse) L2 = some (.lst ls.reverse) := upd_same
    walk_at "rd"
    have nLH : H L = none := k1.free nL
    have dL : Dom M (upd (upd (upd H p1 (.lst rs)) L (.lst [.ref p1])) L2 (.lst ls.reverse)) := ((dM.kp k1).kp k2).kp k3
    have k13 := (k1.trans k2).trans k3
    have eL : (upd (upd (upd H p1 (.lst rs)) L (.lst [.ref p1])) L2 (.lst ls.reverse)) L = some (.lst [.ref p1]) := k3.at upd_same
    have ep : (upd (upd (upd H p1 (.lst rs)) L (.lst [.ref p1])) L2 (.lst ls.reverse)) p1 = some (.lst rs) := (k2.trans k3).at upd_same
    have np : p1 ≠ L := ne_of_none upd_same nL
    have nL2L : L2 ≠ L := fun z => by
      rw [z, upd_same] at nL2
      cases nL2
    generalize (upd (upd (upd H p1 (.lst rs)) L (.lst [.ref p1])) L2 (.lst ls.reverse)) = HB at *
    refine for_list (K := K) (a := L2) (xs := ls.reverse) (fun i σ H' => Kp (M1 L) HB H' ∧ ∃ (xs : List V) (v4 v5 : Option V), σ = [some (.ref a), some (.ref lr), some (.int p), some (.ref L), v4, v5] ∧ H' L = some (.lst xs) ∧ xs.length = i + 1 ∧
        ∀ (j : Nat) (x : V), xs[j]? = some x → IL (Mo M L) H' x (2 ^ wd ws (d - j)) p)
      ⟨Kp.refl _ _, _, _, _, rfl, eL, rfl, ?_⟩ (fun i σ H' _ h => SqL.of (h.1 _ _ nL2L e2)) ?_ ?_
    · intro j x hj
      have h0 : j = 0 := by
        rcases Nat.eq_zero_or_pos j with z | z
        · exact z
        · rw [List.getElem?_eq_none (by rw [List.length_singleton]; omega)] at hj
          cases hj
      subst h0
      cases hj
      exact ⟨p1, rs, rfl, ep, fun z => z.elim (fun z => dM _ z n1) np, by rw [hx]; rfl, hF⟩
    · rintro i x σ H' hi ⟨kk, xs, v4, v5, rfl, eX, zX, fX⟩
      have hi2 : i < ls.length := by
        have := (List.getElem?_eq_some_iff.mp hi).1
        rw [List.length_reverse] at this
        exact this
      rw [List.getElem?_reverse hi2] at hi
      have hG := (((hc.layers _ _ hi).up nLH).mono k13 fun _ z => z.elim).mono kk fun b z => .inr z
      rw [show ls.length - 1 - i + 1 = d - i by omega, show ls.length - 1 - i = d - (i + 1) by omega] at hG
      obtain ⟨al, gs, rfl, g5, _, z5, f5⟩ := hG
      have hlast : xs[i]? = some xs[i] := List.getElem?_eq_getElem (by omega)
      have hB := fX i _ hlast
      have aL := atI_lastN zX hlast
      have dM' : Dom (Mo M L) H' := (dL.kp1 kk (some_ne eX)).mo eX
      have s2 := two_le (hc.small (d - (i + 1)))
      walk_at "rd"
      intro D nD
      refine lc_ints (M := Mo M L) (p := p) walk_list (by omega) dM' nD (fun H6 k6 => SqL.of (k6.at g5)) ?_ ?_
      · rintro j x H6 H7 C hj k6 ⟨rfl, hy⟩ hC'
        have hg := (all_at f5 hy).mono k6 fun _ z => z.elim
        have eX' := k6.at eX
        walk_at "rd"
        refine ⟨rfl, ?_⟩
        walk_at "rd"
        refine r_gateValue hg ((hB.kp k6).le fun b z => z.elim (fun q => q.elim) .inr) hp fun i hi => ?_
        exact hC' _ _ (Kp.refl _ _) ⟨_, rfl, hi⟩
      · intro H6 k6 hI6
        have eX' := k6.at eX
        walk_at "rd"
        refine ⟨(kk.trans k6.zero).own rfl, _, _, _, rfl, upd_same, by rw [List.length_append, zX]; rfl, fun j x hj => ?_⟩
        have kL : Kp (M1 L) H6 (upd H6 L (.lst (xs ++ [.ref D]))) := (Kp.refl _ _).own rfl
        rcases app_get hj with h | ⟨h, rfl⟩
        · exact ((fX j x h).kp k6).mono kL fun b z => .inr z
        · rw [h, zX, ← z5]
          exact hI6.mono kL fun b z => .inr z
    · rintro σ H' ⟨kk, xs, v4, v5, rfl, eX, zX, fX⟩
      rw [List.length_reverse] at zX
      walk_at "rd"
      intro p5 n5
      have k5 : Kp M0 H' (upd H' p5 (.lst xs.reverse)) := (Kp.refl _ _).new n5
      refine q _ _ ((k13.drop kk nLH).trans k5) ⟨p5, _, rfl, upd_same, (dL.kp1 kk (some_ne eX)).fresh n5, by rw [List.length_reverse, zX]; omega, fun i x hi => ?_⟩
      have hi2 : i < xs.length := by
        have := (List.getElem?_eq_some_iff.mp hi).1
        rw [List.length_reverse] at this
        exact this
      rw [List.getElem?_reverse hi2] at hi
      have h := (fX _ _ hi).kp k5
      rw [show d - (xs.length - 1 - i) = i by omega] at h
      exact h.le fun b z => .inl z
theorem r_runRow {H : Hp} {Q : VK} {E : XK} {M : Mu} {c r : V} {p : Int} {ws : List Nat} {d : Nat} (dM : Dom M H) (h : Circ M0 H c p ws) (hp : Pm p) (hd : ws.length = d + 1) (hr : IL M0 H r (2 ^ wd ws d) p) (q : ∀ H' v, Kp M0 H H' → LT M H' v (d + 1) (fun i => 2 ^ wd ws i) p → Q v H') : spRunRow [c, r] H Q E :=
  ⟨M, c, r, p, ws, d, rfl, dM, h, hp, hd, hr, q⟩
end

/-! ## LK2c -/
section
variable {P : Program} {w : World} {K : PySem.W.Frag} {mg : Str → Option Value} {base : Heap}
/-! ### run -/
abbrev s_run : Stmt := top 25
abbrev N_run : List Str := ["circuit", "rows", "found", "tables", "layer", "table", "column", "row", "columns"]
abbrev P_run : List Str := ["circuit", "rows"]
theorem sc_run : FnScope N_run P_run (defScope s_run) := ⟨rfl, rfl, rfl, by decide +kernel, rfl, by decide +kernel, by decide +kernel⟩
def spRun : Sp := fun vs H Q _ => ∃ (M : Mu) (c r : V) (p : Int) (ws : List Nat) (n d : Nat), vs = [c, r] ∧ Dom M H ∧ Circ M0 H c p ws ∧ Pm p ∧ n ≤ 3 ∧ ws.length = d + 1 ∧ IL2 M0 H r (2 ^ n) (2 ^ wd ws d) p ∧ ∀ H' v, Kp M0 H H' → LT M H' v (d + 1) (fun i => 2 ^ (n + wd ws i)) p → Q v H'
theorem cal_run (D : DefAt K mg "run" s_run P_run) (T : Txt mg) (c_checked : Cal P w K mg base 3 "checked" spChecked []) (c_checked_rows : Cal P w K mg base 2 "checked_rows" spCheckedRows []) (c_run_row : Cal P w K mg base 2 "run_row" spRunRow [])
    (c_depth : Cal P w K mg base 1 "depth" spDepth []) (c_width : Cal P w K mg base 1 "width" spWidth []) : Cal P w K mg base 4 "run" spRun [] := by
  refine cal_of D sc_run (fun vs H Q E h => ?_) (fun f cdv A outer s H vs Q E hr h => ?_)
  · obtain ⟨_, _, _, _, _, _, _, rfl, _⟩ := h; rfl
  · obtain ⟨M, c, r, p, ws, n, d, rfl, dM, hC, hp, hn, hd, hR, q⟩ := h
    obtain ⟨lr, rs, rfl, hl, _, hx, hF⟩ := id hR
    obtain ⟨a, wl, ll, ls, hc⟩ := id hC
    have hb := hp.b
    have h4 := hc.len
    have h6 := hc.le
    have s2 := two_le hn
    refine ⟨_, (pss_cons (ps_expr (pe_c c_checked hr (by decide) (by rfl) (pa_cons (pv 0) pa_nil)))
    (pss_cons (ps_setLc (i := 2) (own := [("row", 7)]) (g := gName 7) (tt := tYes) rfl sc_run.nd rfl rfl (sw_true rfl rfl rfl (by decide +kernel)) (pi_list (pe_c c_checked_rows hr (by decide) (by rfl) (pa_cons (pv 0) (pa_cons (pv 1) pa_nil)))) (blkOk_by (own := [("row", 7)]) (N := N_run) (sc := defScope s_run) (by decide +kernel)) (fun _ _ _ _ _ => (pg_name (i := 7) sc_run.nd rfl (Or.inl rfl))) (fun _ _ _ _ _ => pts_nil) (fun _ _ _ _ _ => (pe_c c_run_row hr (by decide) (by rfl) (pa_cons (pv 0) (pa_cons (pv 7) pa_nil)))))
    (pss_cons (ps_set (i := 3) sc_run.nd rfl (Or.inl rfl) (pe_lst pa_nil))
    (pss_cons (ps_for PassesOwn.never rfl (pi_range1 (by rfl) T.range (pa_cons (pe_op op_add (pe_c c_depth hr (by decide) (by rfl) (pa_cons (pv 0) pa_nil)) pe_int) pa_nil)) (pg_name (i := 4) sc_run.nd rfl (Or.inr rfl))
      (pss_cons (ps_set (i := 5) sc_run.nd rfl (Or.inl rfl) (pe_lst pa_nil))
    (pss_cons (ps_for PassesOwn.never rfl (pi_range1 (by rfl) T.range (pa_cons (pe_op op_shl pe_int (pe_c c_width hr (by decide) (by rfl) (pa_cons (pv 0) (pa_cons (pv 4) pa_nil)))) pa_nil)) (pg_name (i := 6) sc_run.nd rfl (Or.inr rfl))
      (pss_one (ps_expr (pe_bm PySem.F.plainAttrs_list PySem.F.slot_list_extend PySem.F.type_list_extend mt_extend (pv 5) (pa_cons (pe_lc (own := [("columns", 8)]) (g := gName 8) (tt := tYes) rfl sc_run.nd (pi_list (pv 2)) (blkOk_by (own := [("columns", 8)]) (N := N_run) (sc := defScope s_run) (by decide +kernel)) (fun _ _ _ _ _ => (pg_name (i := 8) sc_run.nd rfl (Or.inl rfl))) (fun _ _ _ _ _ => pts_nil) (fun _ _ _ _ _ => (pe_ix (r := rIxL K) ix_list (pe_ix (r := rIxL K) ix_list (pv 8) (pv 4) (fun _ _ => rfl)) (pv 6) (fun _ _ => rfl)))) pa_nil)))))
    (pss_one (ps_expr (pe_bm PySem.F.plainAttrs_list PySem.F.slot_list_append PySem.F.type_list_append mt_append (pv 3) (pa_cons (pv 5) pa_nil)))))))
    (pss_one (ps_ret (pv 3))))))), ?_⟩
    walk_at "rd"
    refine r_checked hC hp fun H1 k1 => ?_
    walk_at "rd"
    refine r_checkedRows (hC.kp k1) hp hn hd (hR.kp k1) fun H2 k2 => ?_
    have k12 := k1.trans k2
    have g2 := k12.at hl
    walk_at "rd"
    intro D nD
    refine lc_all walk_list (fun _ H' => Kp M0 H2 H') (fun H' v => LT (Mo M D) H' v (d + 1) (fun i => 2 ^ wd ws i) p) ((Kp.refl _ _).new nD) (fun _ H' _ k => SqL.of (k.at g2)) ?_ ?_
    · rintro j x H3 H4 hj hq ⟨rfl, hy⟩
      obtain ⟨k3, acc, e3, _, _⟩ := id hq
      have hI := (all_at hF hy).kp (k12.trans k3)
      have dD : Dom (Mo M D) H4 := ((dM.kp k12).kp k3).mo e3
      walk_at "rd"
      refine ⟨rfl, ?_⟩
      walk_at "rd"
      refine r_runRow dD (hC.kp (k12.trans k3)) hp hd hI fun H5 v5 k5 h5 => ?_
      exact hq.next (by omega) (fun o e => k5.at e) (k3.trans k5) (fun o k => k.mut nD) (fun x h => h.kp k5) h5 (fun x o h => h.mono ((Kp.refl (M1 D) _).own rfl) fun b z => .inr z)
    · rintro H3 acc k3 e3 z3 f3
      walk_at "rd"
      refine ⟨Nat.zero_le _, fun L nL => ?_⟩
      have k4 : Kp M0 H3 (upd H3 L (.lst [])) := (Kp.refl _ _).new nL
      have eL : (upd H3 L (.lst [])) L = some (.lst []) := upd_same
      have k14 := (k12.trans k3).trans k4
      generalize (upd H3 L (.lst [])) = HB at *
      walk_at "rd"
      refine r_depth (hC.kp k14) hd ?_
      walk_at "rd"
      refine r_rng1 (d + 1) (by omega) (by omega) ?_
      have eD := k4.at e3
      have nDL : D ≠ L := ne_of_none e3 nL
      have nLH : H L = none := (k12.trans k3).free nL
      refine for_range (fun i σ H' => Kp (M1 L) HB H' ∧ ∃ (xs : List V) (v4 v5 v6 v7 v8 : Option V), σ = [some c, some (.ref lr), some (.ref D), some (.ref L), v4, v5, v6, v7, v8] ∧ H' L = some (.lst xs) ∧ xs.length = i ∧
          ∀ (j : Nat) (x : V), xs[j]? = some x → IL (Mo M L) H' x (2 ^ (n + wd ws j)) p)
        ⟨Kp.refl _ _, _, _, _, _, _, _, rfl, eL, rfl, fun j x h => by cases h⟩ ?_ ?_
      · rintro i σ H' hi ⟨kk, xs, v4, v5, v6, v7, v8, rfl, eX, zX, fX⟩
        have dM' : Dom M H' := (dM.kp k14).kp1 kk (some_ne eX)
        walk_at "rd"
        refine ⟨Nat.zero_le _, fun L5 nL5 => ?_⟩
        have k5 : Kp M0 H' (upd H' L5 (.lst [])) := (Kp.refl _ _).new nL5
        have eL5 : (upd H' L5 (.lst [])) L5 = some (.lst []) := upd_same
        generalize (upd H' L5 (.lst [])) = HC at *
        have hCC : Circ M0 HC c p ws := (hC.kp (k14.drop kk nLH)).kp k5
        walk_at "rd"
        refine r_width i hCC (by omega) (by omega) ?_
        walk_at "rd"
        have s1 := hc.small i
        have s3 := two_le s1
        walk_at "rd"
        refine r_rng1 (2 ^ wd ws i) rfl (by omega) ?_
        have eD' : H' D = some (.lst acc) := kk _ _ nDL eD
        have nD5 : D ≠ L5 := ne_of_none eD' nL5
        have nLL5 : L ≠ L5 := ne_of_none eX nL5
        have f5 : ∀ x ∈ acc, LT (Mo (Mo (Mo M D) L) L5) HC x (d + 1) (fun i => 2 ^ wd ws i) p := fun x hx =>
          (((((f3 x hx).up nL).kp k4).mono kk fun b z => .inr z).up nL5).kp k5
        refine for_range (fun j σ H'' => Kp (M1 L5) HC H'' ∧ ∃ (ys : List V) (v6 v7 v8 : Option V), σ = [some c, some (.ref lr), some (.ref D), some (.ref L), some (.int (0 + (i : Int))), some (.ref L5), v6, v7, v8] ∧ H'' L5 = some (.lst ys) ∧ ys.length = 2 ^ n * j ∧ ∀ x ∈ ys, IsI 0 p x)
          ⟨Kp.refl _ _, _, _, _, _, rfl, eL5, rfl, fun x z => nomatch z⟩ ?_ ?_
        · rintro j σ H'' hj ⟨kj, ys, v6, v7, v8, rfl, eY, zY, fY⟩
          have eD'' : H'' D = some (.lst acc) := kj _ _ nD5 (k5.at eD')
          have dM'' : Dom M H'' := (dM'.kp k5).kp1 kj (some_ne eY)
          walk_at "rd"
          intro D5 nD5'
          refine lc_ints (M := M) (p := p) walk_list (by omega) dM'' nD5' (fun H6 k6 => SqL.of (k6.at eD'')) ?_ ?_
          · rintro m x H6 H7 C hm k6 ⟨rfl, hy⟩ hC'
            obtain ⟨l7, x7, rfl, g7, _, z7, f7⟩ := ((f5 x (List.mem_of_getElem? hy)).mono kj fun b z => .inr z).kp k6
            have hv : x7[i]? = some x7[i] := List.getElem?_eq_getElem (by omega)
            obtain ⟨l8, x8, e8, g8, _, z8, f8⟩ := f7 i _ hv
            have a1 : atI x7 (0 + (i : Int)) = some (.ref l8) := by rw [← e8]; exact at_of (by omega) hv
            have z8 : x8.length = 2 ^ wd ws i := z8
            obtain ⟨u, hu, u0⟩ := IsI.get f8 (i := 0 + (j : Int)) (by omega) (by omega)
            walk_at "rd"
            refine ⟨rfl, ?_⟩
            walk_at "rd"
            exact hC' _ _ (Kp.refl _ _) ⟨_, rfl, u0⟩
          · rintro H6 k6 ⟨l6, x6, e6, g6, _, z6, f6⟩
            cases e6
            have eY' := k6.at eY
            have hm : 2 ^ n * j ≤ 8 * 8 := Nat.mul_le_mul s2 (by omega)
            walk_at "rd"
            refine ⟨(kj.trans k6.zero).own rfl, _, _, _, _, rfl, upd_same, by rw [List.length_append, zY, z6, z3, hx, Nat.mul_succ], fun x hx' => ?_⟩
            rcases List.mem_append.mp hx' with h | h
            · exact fY x h
            · exact f6 x h
        · rintro σ H'' ⟨kj, ys, v6, v7, v8, rfl, eY, zY, fY⟩
          have eX'' : H'' L = some (.lst xs) := kj _ _ nLL5 (k5.at eX)
          walk_at "rd"
          have kL : Kp (M1 L) H'' (upd H'' L (.lst (xs ++ [.ref L5]))) := (Kp.refl _ _).own rfl
          have k5' : Kp M0 H' H'' := k5.drop kj nL5
          refine ⟨(kk.trans k5'.zero).own rfl, _, _, _, _, _, _, rfl, upd_same, by rw [List.length_append, zX]; rfl, fun j x hj => ?_⟩
          rcases app_get hj with h | ⟨h, rfl⟩
          · exact ((fX j x h).kp k5').mono kL fun b z => .inr z
          · rw [h, zX]
            refine IL.mono (H := H'') ⟨L5, ys, rfl, eY, fun z => z.elim (fun z => dM' _ z nL5) (fun z => nLL5 z.symm), ?_, fY⟩ kL fun b z => .inr z
            rw [zY, Nat.pow_add]
      · rintro σ H' ⟨kk, xs, v4, v5, v6, v7, v8, rfl, eX, zX, fX⟩
        walk_at "rd"
        exact q _ _ (k14.drop kk nLH) ⟨L, xs, rfl, eX, fun z => dM.kp (k12.trans k3) _ z nL, zX, fun i x h => (fX i x h).le fun b z => .inl z⟩
theorem r_run {H : Hp} {Q : VK} {E : XK} {M : Mu} {c r : V} {p : Int} {ws : List Nat} {n d : Nat} (dM : Dom M H) (h : Circ M0 H c p ws) (hp : Pm p) (hn : n ≤ 3) (hd : ws.length = d + 1) (hr : IL2 M0 H r (2 ^ n) (2 ^ wd ws d) p)
    (q : ∀ H' v, Kp M0 H H' → LT M H' v (d + 1) (fun i => 2 ^ (n + wd ws i)) p → Q v H') : spRun [c, r] H Q E := ⟨M, c, r, p, ws, n, d, rfl, dM, h, hp, hn, hd, hr, q⟩
end

/-! ## LK4 -/
/-! ### the answerer's attributes -/
inductive Fl where
  | circuit | tables | bits | p | steps | layer | round | wide | gates | near | columns | first | second | share | below | factors | rest | left
  deriving DecidableEq
def nm : Fl → Str
  | .circuit => "circuit" | .tables => "tables" | .bits => "bits" | .p => "p" | .steps => "steps" | .layer => "layer" | .round => "round" | .wide => "wide" | .gates => "gates" | .near => "near"
  | .columns => "columns" | .first => "first" | .second => "second" | .share => "share" | .below => "below" | .factors => "factors" | .rest => "rest" | .left => "left"
def fls : List Fl := [.circuit, .tables, .bits, .p, .steps, .layer, .round, .wide, .gates, .near, .columns, .first, .second, .share, .below, .factors, .rest, .left]
theorem fls_all : ∀ k : Fl, k ∈ fls := fun k => by cases k <;> decide
theorem nm_nodup : (fls.map nm).Nodup := by decide +kernel
theorem nodup_map_inj {α β : Type} (f : α → β) : ∀ {l : List α}, (l.map f).Nodup → ∀ {a b : α}, a ∈ l → b ∈ l → f a = f b → a = b
  | [], _, _, _, h, _, _ => nomatch h
  | x :: r, h, a, b, ha, hb, e => by
    rw [List.map_cons, List.nodup_cons] at h
    rcases List.mem_cons.mp ha with a1 | a1
    · rcases List.mem_cons.mp hb with b1 | b1
      · rw [a1, b1]
      · exact (h.1 (List.mem_map.mpr ⟨b, b1, by rw [← e, a1]⟩)).elim
    · rcases List.mem_cons.mp hb with b1 | b1
      · exact (h.1 (List.mem_map.mpr ⟨a, a1, by rw [e, b1]⟩)).elim
      · exact nodup_map_inj f h.2 a1 b1 e
theorem nm_inj {j k : Fl} (h : nm j = nm k) : j = k := nodup_map_inj nm nm_nodup (fls_all j) (fls_all k) h
abbrev FS := Fl → Option V
def fset (st : FS) (k : Fl) (v : V) : FS := fun j => if j = k then some v else st j
theorem nodup_le {α : Type} [DecidableEq α] : ∀ {l m : List α}, l.Nodup → (∀ x ∈ l, x ∈ m) → l.length ≤ m.length
  | [], _, _, _ => Nat.zero_le _
  | x :: r, m, h, hs => by
    rw [List.nodup_cons] at h
    have hx := hs x List.mem_cons_self
    have ih := nodup_le (l := r) (m := m.erase x) h.2 fun y hy => by
      have hne : y ≠ x := fun e => h.1 (e ▸ hy)
      exact (List.mem_erase_of_ne hne).mpr (hs y (List.mem_cons_of_mem _ hy))
    rw [List.length_erase_of_mem hx] at ih
    have := List.length_pos_of_mem hx
    rw [List.length_cons]
    omega
structure FOk (fs : List (Str × V)) : Prop where
  nd : (fs.map (·.1)).Nodup
  sub : ∀ x ∈ fs.map (·.1), x ∈ fls.map nm
theorem mem_putF {f : Str} {v : V} : ∀ {fs : List (Str × V)} {g : Str}, g ∈ (putF f v fs).map (·.1) → g = f ∨ g ∈ fs.map (·.1)
  | [], g, h => by
    rcases List.mem_cons.mp h with h | h
    · exact .inl h
    · exact nomatch h
  | (k, x) :: r, g, h => by
    rw [show putF f v ((k, x) :: r) = (if k = f then (k, v) :: r else (k, x) :: putF f v r) from rfl] at h
    by_cases hk : k = f
    · rw [if_pos hk] at h
      exact .inr h
    · rw [if_neg hk, List.map_cons] at h
      rcases List.mem_cons.mp h with h | h
      · exact .inr (by rw [h]; exact List.mem_cons_self)
      · rcases mem_putF h with h | h
        · exact .inl h
        · exact .inr (List.mem_cons_of_mem _ h)
theorem nodup_putF {f : Str} {v : V} : ∀ {fs : List (Str × V)}, (fs.map (·.1)).Nodup → ((putF f v fs).map (·.1)).Nodup
  | [], _ => by
    show ([f] : List Str).Nodup
    exact List.nodup_cons.mpr ⟨(fun z => nomatch z), List.nodup_nil⟩
  | (k, x) :: r, h => by
    rw [show putF f v ((k, x) :: r) = (if k = f then (k, v) :: r else (k, x) :: putF f v r) from rfl]
    rw [List.map_cons, List.nodup_cons] at h
    by_cases hk : k = f
    · rw [if_pos hk, List.map_cons]
      exact List.nodup_cons.mpr h
    · rw [if_neg hk, List.map_cons]
      refine List.nodup_cons.mpr ⟨fun z => ?_, nodup_putF h.2⟩
      rcases mem_putF z with z | z
      · exact hk z
      · exact h.1 z
theorem FOk.nil : FOk [] := ⟨List.nodup_nil, fun _ z => nomatch z⟩
theorem FOk.put {fs : List (Str × V)} (h : FOk fs) (k : Fl) (v : V) : FOk (putF (nm k) v fs) := ⟨nodup_putF h.nd, fun x hx => by
  rcases mem_putF hx with z | z
  · rw [z]; exact List.mem_map_of_mem (fls_all k)
  · exact h.sub x z⟩
theorem FOk.len {fs : List (Str × V)} (h : FOk fs) : fs.length < 1000 := by
  have := nodup_le h.nd h.sub
  rw [List.length_map, List.length_map] at this
  exact Nat.lt_of_le_of_lt this (by decide)
theorem lookup_out {m : Str} : ∀ {fs : List (Str × V)}, m ∉ fs.map (·.1) → fs.lookup m = none
  | [], _ => rfl
  | (k, x) :: r, h => by
    rw [List.map_cons, List.mem_cons, not_or] at h
    have hb : (m == k) = false := beq_eq_false_iff_ne.mpr h.1
    simp only [List.lookup, hb]
    exact lookup_out h.2
theorem FOk.none {fs : List (Str × V)} (h : FOk fs) {m : Str} (hm : m ∉ fls.map nm) : fs.lookup m = Option.none := lookup_out fun z => hm (h.sub m z)
/-- an instance of the class at C whose attributes are told by st -/
def Ob (H : Hp) (x C : Addr) (st : FS) : Prop := ∃ dx fs, H x = some (.ins C dx fs) ∧ (∀ k, fs.lookup (nm k) = st k) ∧ FOk fs
theorem Ob.kp {H H' : Hp} {x C : Addr} {st : FS} (o : Ob H x C st) (k : Kp M0 H H') : Ob H' x C st := let ⟨dx, fs, e, r⟩ := o; ⟨dx, fs, k.at e, r⟩
theorem Ob.kpM {M : Mu} {H H' : Hp} {x C : Addr} {st : FS} (o : Ob H x C st) (k : Kp M H H') (h : ¬ M x) : Ob H' x C st := let ⟨dx, fs, e, r⟩ := o; ⟨dx, fs, k _ _ h e, r⟩
theorem Ob.some {H : Hp} {x C : Addr} {st : FS} (o : Ob H x C st) : H x ≠ none := let ⟨_, _, e, _⟩ := o; some_ne e
theorem Ob.neL {H : Hp} {x C l : Addr} {st : FS} {xs : List V} (o : Ob H x C st) (h : H l = Option.some (.lst xs)) : l ≠ x := let ⟨_, _, e, _⟩ := o; ne_of h e (by intro z; cases z)
theorem Ob.put {H : Hp} {x C dx : Addr} {fs : List (Str × V)} {st : FS} (e1 : ∀ k, fs.lookup (nm k) = st k) (e2 : FOk fs) (k : Fl) (y : V) : Ob (upd H x (.ins C dx (putF (nm k) y fs))) x C (fset st k y) :=
  ⟨dx, _, upd_same, fun j => by
    rw [lookup_putF]
    show _ = if j = k then _ else _
    by_cases h : j = k
    · rw [if_pos h, if_pos (by rw [h])]
    · rw [if_neg h, if_neg fun z => h (nm_inj z)]
      exact e1 j, e2.put k y⟩
/-- the class of the answerer, as the top has left it -/
structure AT (K : PySem.W.Frag) (C : Addr) : Prop where
  cl : Cls K C
  no : ∀ k, NoAttr K C (nm k)
def rFld (K : PySem.W.Frag) (f : Str) (Q : VK) : V → Hp → Prop := fun x H1 => ∃ a C dx fs v, x = .ref a ∧ H1 a = some (.ins C dx fs) ∧ Cls K C ∧ NoAttr K C f ∧ fs.lookup f = some v ∧ Q v H1
def rSet (K : PySem.W.Frag) (f : Str) (y : V) (N : Hp → Prop) : V → Hp → Prop := fun x H2 => ∃ a C dx fs, x = .ref a ∧ H2 a = some (.ins C dx fs) ∧ Cls K C ∧ NoAttr K C f ∧ fs.length < 1000 ∧ N (upd H2 a (.ins C dx (putF f y fs)))
def rAugC (C x : Addr) (f : Str) (v : V) (N : Hp → Prop) : V → Hp → Prop := fun y H2 => rAdd v y H2 fun z H3 => ∃ dx' fs', H3 x = some (.ins C dx' fs') ∧ fs'.length < 1000 ∧ N (upd H3 x (.ins C dx' (putF f z fs')))
def rAugF (K : PySem.W.Frag) (f : Str) (tv : TE) (σ : L2.St) (N : Hp → Prop) : V → Hp → Prop := fun x H1 => ∃ a C dx fs v, x = .ref a ∧ H1 a = some (.ins C dx fs) ∧ Cls K C ∧ NoAttr K C f ∧ fs.lookup f = some v ∧ tv σ H1 (rAugC C a f v N)
def rMeth (C : Addr) (m : Str) (sp : Sp) (E : XK) (t : TA) (σ : L2.St) (Q : VK) : V → Hp → Prop := fun x H1 => ∃ a dx fs, x = .ref a ∧ H1 a = some (.ins C dx fs) ∧ fs.lookup m = none ∧ t σ H1 fun vs H2 => sp (x :: vs) H2 Q E
section
variable {K : PySem.W.Frag} {σ : L2.St} {H : Hp} {Q : VK} {ta tv te : TE} {D : Ends} {x C : Addr} {st : FS} {v y : V} {f : Str}
theorem r_fld (q : ta σ H (rFld K f Q)) : tFld K ta f σ H Q := q
theorem r_fldV (k : Fl) (o : Ob H x C st) (T : AT K C) (hk : nm k = f) (e : st k = some v) (q : Q v H) : rFld K f Q (.ref x) H := by
  subst hk
  obtain ⟨dx, fs, h, e1, e2⟩ := o
  exact ⟨x, C, dx, fs, v, rfl, h, T.cl, T.no k, by rw [e1, e], q⟩
theorem r_sfld (q : tv σ H fun y H1 => ta σ H1 (rSet K f y (D.nx σ))) : sFld K ta tv f D σ H := q
theorem r_gfld {Q : L2.St → Hp → Prop} (q : ta σ H (rSet K f y (Q σ))) : gFld K ta f y σ H Q := q
theorem r_setV {N : Hp → Prop} (k : Fl) (o : Ob H x C st) (T : AT K C) (hk : nm k = f) (q : ∀ H', Kp (M1 x) H H' → Ob H' x C (fset st k y) → N H') : rSet K f y N (.ref x) H := by
  subst hk
  obtain ⟨dx, fs, h, e1, e2⟩ := o
  exact ⟨x, C, dx, fs, rfl, h, T.cl, T.no k, e2.len, q _ ((Kp.refl _ _).own rfl) (Ob.put e1 e2 k y)⟩
theorem r_aug0 (q : ta σ H (rAugF K f tv σ (D.nx σ))) : sFldAug K ta tv rAdd f D σ H := q
theorem r_augF {N : Hp → Prop} (k : Fl) (o : Ob H x C st) (T : AT K C) (hk : nm k = f) (e : st k = some v) (q : tv σ H (rAugC C x (nm k) v N)) : rAugF K f tv σ N (.ref x) H := by
  subst hk
  obtain ⟨dx, fs, h, e1, e2⟩ := o
  exact ⟨x, C, dx, fs, v, rfl, h, T.cl, T.no k, by rw [e1, e], q⟩
theorem r_augC {i j : Int} {k : Fl} {N : Hp → Prop} (o : Ob H x C st) (q : ∀ H', Kp (M1 x) H H' → Ob H' x C (fset st k (.int (i + j))) → N H') : rAugC C x (nm k) (.int i) N (.int j) H := by
  obtain ⟨dx, fs, h, e1, e2⟩ := o
  exact ⟨i, j, rfl, rfl, dx, fs, h, e2.len, q _ ((Kp.refl _ _).own rfl) (Ob.put e1 e2 k _)⟩
theorem r_meth {m : Str} {sp : Sp} {E : XK} {t : TA} (q : ta σ H (rMeth C m sp E t σ Q)) : tMeth C m sp [] E ta t σ H Q := by
  have e : ∀ a : V, (fun (vs : List V) (H1 : Hp) => sp (a :: (vs ++ [])) H1 Q E) = fun vs H1 => sp (a :: vs) H1 Q E := fun a => by
    funext vs H1
    rw [List.append_nil]
  show ta σ H fun x H1 => ∃ a dx fs, x = .ref a ∧ H1 a = some (.ins C dx fs) ∧ fs.lookup m = none ∧ t σ H1 fun vs H2 => sp (x :: (vs ++ [])) H2 Q E
  have e2 : (fun (x : V) (H1 : Hp) => ∃ a dx fs, x = .ref a ∧ H1 a = some (.ins C dx fs) ∧ fs.lookup m = none ∧ t σ H1 fun vs H2 => sp (x :: (vs ++ [])) H2 Q E) = rMeth C m sp E t σ Q := by
    funext x H1
    unfold rMeth
    rw [e x]
  rw [e2]
  exact q
theorem r_methV {m : Str} {sp : Sp} {E : XK} {t : TA} (o : Ob H x C st) (hm : m ∉ fls.map nm) (q : t σ H fun vs H2 => sp (.ref x :: vs) H2 Q E) : rMeth C m sp E t σ Q (.ref x) H := by
  obtain ⟨dx, fs, h, e1, e2⟩ := o
  exact ⟨x, dx, fs, rfl, h, e2.none hm, q⟩
end
/-! ### weighted gates -/
/-- a weighted gate over m columns -/
def WG (M : Mu) (H : Hp) (p : Int) (m : Nat) (g : V) : Prop := ∃ a, g = .ref a ∧ ¬ M a ∧ ∃ a1 b1 c1 x y : Int, H a = some (.tup [.int a1, .int b1, .int c1, .int x, .int y]) ∧ (0 ≤ a1 ∧ a1 < p) ∧ (0 ≤ b1 ∧ b1 < p) ∧ (0 ≤ c1 ∧ c1 < p) ∧ (0 ≤ x ∧ x < m) ∧ (0 ≤ y ∧ y < m)
theorem WG.mono {M N : Mu} {H H' : Hp} {p : Int} {m : Nat} {g : V} (h : WG M H p m g) (k : Kp N H H') (hN : ∀ b, N b → M b) : WG M H' p m g := by
  obtain ⟨a, e, na, a1, b1, c1, x, y, h, r⟩ := h
  exact ⟨a, e, na, a1, b1, c1, x, y, k _ _ (fun z => na (hN _ z)) h, r⟩
theorem WG.le {M M' : Mu} {H : Hp} {p : Int} {m : Nat} {g : V} (h : WG M H p m g) (hM : ∀ b, M' b → M b) : WG M' H p m g := by
  obtain ⟨a, e, na, r⟩ := h
  exact ⟨a, e, fun z => na (hM _ z), r⟩
abbrev WL (M : Mu) (H : Hp) (v : V) (n : Nat) (p : Int) (m : Nat) : Prop := Lst M H v n (WG M H p m)
theorem WL.mono {M N : Mu} {H H' : Hp} {p : Int} {n m : Nat} {v : V} (h : WL M H v n p m) (k : Kp N H H') (hN : ∀ b, N b → M b) : WL M H' v n p m := Lst.mono h k hN fun _ z => z.mono k hN
theorem WL.kp {M : Mu} {H H' : Hp} {p : Int} {n m : Nat} {v : V} (h : WL M H v n p m) (k : Kp M0 H H') : WL M H' v n p m := WL.mono h k fun _ z => z.elim
section
variable {P : Program} {w : World} {K : PySem.W.Frag} {mg : Str → Option Value} {base : Heap}
abbrev s_weighted_gates : Stmt := top 33
abbrev N_weighted_gates : List Str := ["gates", "weights", "p", "found", "gate", "weight"]
abbrev P_weighted_gates : List Str := ["gates", "weights", "p"]
theorem sc_weighted_gates : FnScope N_weighted_gates P_weighted_gates (defScope s_weighted_gates) := ⟨rfl, rfl, rfl, by decide +kernel, rfl, by decide +kernel, by decide +kernel⟩
def spWeightedGates : Sp := fun vs H Q _ => ∃ (M : Mu) (g u : V) (n m : Nat) (p : Int), vs = [g, u, .int p] ∧ Dom M H ∧ GL M H g n p m ∧ IL M H u n p ∧ n ≤ 1000 ∧ Pm p ∧ ∀ H' v, Kp M0 H H' → WL M H' v n p m → Q v H'
theorem cal_weighted_gates (D : DefAt K mg "weighted_gates" s_weighted_gates P_weighted_gates) (T : Txt mg) : Cal P w K mg base 1 "weighted_gates" spWeightedGates [] := by
  refine cal_of D sc_weighted_gates (fun vs H Q E h => ?_) (fun f cdv A outer s H vs Q E hr h => ?_)
  · obtain ⟨_, _, _, _, _, _, rfl, _⟩ := h; rfl
  · obtain ⟨M, g, u, n, m, p, rfl, dM, ⟨lg, gs, rfl, hg, ng, zg, fg⟩, ⟨lu, us, rfl, hu, nu, zu, fu⟩, hn, hp, q⟩ := h
    have hb := hp.b
    refine ⟨_, (pss_cons (ps_set (i := 3) sc_weighted_gates.nd rfl (Or.inl rfl) (pe_lst pa_nil))
    (pss_cons (ps_for PassesOwn.never rfl (pi_zip (by rfl) T.zip (pa_cons (pv 0) (pa_cons (pv 1) pa_nil))) (pg_tup rfl (pgs_cons (pg_name (i := 4) sc_weighted_gates.nd rfl (Or.inl rfl)) (pgs_cons (pg_name (i := 5) sc_weighted_gates.nd rfl (Or.inl rfl)) pgs_nil)))
      (pss_one (ps_if (pt_cmpR op_eq (pe_ix (r := rIxT K) ix_tup (pv 4) pe_int (fun _ _ => rfl)) pe_str (nomark _))
      (pss_one (ps_expr (pe_bm PySem.F.plainAttrs_list PySem.F.slot_list_append PySem.F.type_list_append mt_append (pv 3) (pa_cons (pe_tup (pa_cons (pe_op op_mod (pe_op op_mul (pe_ix (r := rIxT K) ix_tup (pv 4) pe_int (fun _ _ => rfl)) (pv 5)) (pv 2)) (pa_cons (pe_op op_mod (pe_op op_mul (pe_ix (r := rIxT K) ix_tup (pv 4) pe_int (fun _ _ => rfl)) (pv 5)) (pv 2)) (pa_cons pe_int (pa_cons (pe_ix (r := rIxT K) ix_tup (pv 4) pe_int (fun _ _ => rfl)) (pa_cons (pe_ix (r := rIxT K) ix_tup (pv 4) pe_int (fun _ _ => rfl)) pa_nil)))))) pa_nil))))
      (pss_one (ps_expr (pe_bm PySem.F.plainAttrs_list PySem.F.slot_list_append PySem.F.type_list_append mt_append (pv 3) (pa_cons (pe_tup (pa_cons pe_int (pa_cons pe_int (pa_cons (pe_op op_mod (pe_op op_mul (pe_ix (r := rIxT K) ix_tup (pv 4) pe_int (fun _ _ => rfl)) (pv 5)) (pv 2)) (pa_cons (pe_ix (r := rIxT K) ix_tup (pv 4) pe_int (fun _ _ => rfl)) (pa_cons (pe_ix (r := rIxT K) ix_tup (pv 4) pe_int (fun _ _ => rfl)) pa_nil)))))) pa_nil)))))))
    (pss_one (ps_ret (pv 3))))), ?_⟩
    walk_at "rd"
    refine ⟨Nat.zero_le _, fun L nL => ?_⟩
    have k1 : Kp M0 H (upd H L (.lst [])) := (Kp.refl _ _).new nL
    have eL : (upd H L (.lst [])) L = some (.lst []) := upd_same
    generalize (upd H L (.lst [])) = HB at *
    have hg1 := k1.at hg
    have hu1 := k1.at hu
    have ngL : lg ≠ L := ne_of_none hg nL
    have nuL : lu ≠ L := ne_of_none hu nL
    walk_at "rd"
    refine RZ.for_zipL (K := K) (a := lg) (b := lu) (xs := gs) (ys := us) (by rw [zg, zu]) (fun i σ H' => Kp (M1 L) HB H' ∧ ∃ (xs : List V) (v4 v5 : Option V), σ = [some (.ref lg), some (.ref lu), some (.int p), some (.ref L), v4, v5] ∧ H' L = some (.lst xs) ∧ xs.length = i ∧ ∀ x ∈ xs, WG (Mo M L) H' p m x)
      ⟨Kp.refl _ _, _, _, _, rfl, eL, rfl, fun x z => nomatch z⟩ (fun i σ H' h => ⟨SqL.of (h.1 _ _ ngL hg1), SqL.of (h.1 _ _ nuL hu1)⟩) ?_ ?_
    · rintro i x y T1 σ H' hx hy ⟨kk, xs, v4, v5, rfl, eX, zX, fX⟩ nT
      obtain ⟨v, rfl, hv⟩ := all_at fu hy
      have hi : i < gs.length := (List.getElem?_eq_some_iff.mp hx).1
      have kT : Kp M0 H' (upd H' T1 (.tup [x, .int v])) := (Kp.refl _ _).new nT
      have eT : upd H' T1 (.tup [x, .int v]) T1 = some (.tup [x, .int v]) := upd_same
      obtain ⟨a, rfl, na, hga⟩ := ((((all_at fg hx).up nL).mono k1 fun _ z => z.elim).mono kk fun b z => .inr z).mono kT fun _ z => z.elim
      have eX1 := kT.at eX
      have dM1 : Dom M (upd H' T1 (.tup [.ref a, .int v])) := ((dM.kp k1).kp1 kk (some_ne eX)).kp kT
      have kkT := kk.trans kT.zero
      have fX1 : ∀ x ∈ xs, WG (Mo M L) (upd H' T1 (.tup [.ref a, .int v])) p m x := fun x hx => (fX x hx).mono kT fun _ z => z.elim
      generalize (upd H' T1 (.tup [.ref a, .int v])) = HT at *
      rcases hga with ⟨c1, x, c2, y, h, b1, b2, b3, b4⟩ | ⟨c, x, y, h, b1, b2, b3⟩
      · walk_at "rd"
        refine ⟨sz (show 5 ≤ 100000 by decide), fun t nt => ?_⟩
        have kt : Kp M0 HT (upd HT t (.tup [.int (c1 * v % p), .int (c2 * v % p), .int 0, .int x, .int y])) := (Kp.refl _ _).new nt
        have eX2 := kt.at eX1
        walk_at "rd"
        refine ⟨((kkT.trans kt.zero).own rfl), _, _, _, rfl, upd_same, by rw [List.length_append, zX]; rfl, ?_⟩
        have kL : Kp (M1 L) (upd HT t (.tup [.int (c1 * v % p), .int (c2 * v % p), .int 0, .int x, .int y])) (upd (upd HT t (.tup [.int (c1 * v % p), .int (c2 * v % p), .int 0, .int x, .int y])) L (.lst (xs ++ [.ref t]))) := (Kp.refl _ _).own rfl
        refine all_app (fun z hz => ((fX1 z hz).mono kt fun _ z => z.elim).mono kL fun b z => .inr z) ?_
        have ht : WG (Mo M L) (upd HT t (.tup [.int (c1 * v % p), .int (c2 * v % p), .int 0, .int x, .int y])) p m (.ref t) :=
          ⟨t, rfl, fun z => (dM1.mo eX1) _ z nt, _, _, _, _, _, upd_same, emod_b (by omega), emod_b (by omega), by omega, b2, b4⟩
        exact ht.mono kL fun b z => .inr z
      · walk_at "rd"
        refine ⟨sz (show 5 ≤ 100000 by decide), fun t nt => ?_⟩
        have kt : Kp M0 HT (upd HT t (.tup [.int 0, .int 0, .int (c * v % p), .int x, .int y])) := (Kp.refl _ _).new nt
        have eX2 := kt.at eX1
        walk_at "rd"
        refine ⟨((kkT.trans kt.zero).own rfl), _, _, _, rfl, upd_same, by rw [List.length_append, zX]; rfl, ?_⟩
        have kL : Kp (M1 L) (upd HT t (.tup [.int 0, .int 0, .int (c * v % p), .int x, .int y])) (upd (upd HT t (.tup [.int 0, .int 0, .int (c * v % p), .int x, .int y])) L (.lst (xs ++ [.ref t]))) := (Kp.refl _ _).own rfl
        refine all_app (fun z hz => ((fX1 z hz).mono kt fun _ z => z.elim).mono kL fun b z => .inr z) ?_
        have ht : WG (Mo M L) (upd HT t (.tup [.int 0, .int 0, .int (c * v % p), .int x, .int y])) p m (.ref t) :=
          ⟨t, rfl, fun z => (dM1.mo eX1) _ z nt, _, _, _, _, _, upd_same, by omega, by omega, emod_b (by omega), b2, b3⟩
        exact ht.mono kL fun b z => .inr z
    · rintro σ H' ⟨kk, xs, v4, v5, rfl, eX, zX, fX⟩
      walk_at "rd"
      exact q _ _ (k1.drop kk nL) ⟨L, xs, rfl, eX, fun z => dM _ z nL, by rw [zX, zg], fun x hx => (fX x hx).le fun b z => .inl z⟩
theorem r_weightedGates {H : Hp} {Q : VK} {E : XK} {M : Mu} {g u : V} {n m : Nat} {p : Int} (dM : Dom M H) (hg : GL M H g n p m) (hu : IL M H u n p) (hn : n ≤ 1000) (hp : Pm p) (q : ∀ H' v, Kp M0 H H' → WL M H' v n p m → Q v H') : spWeightedGates [g, u, .int p] H Q E :=
  ⟨M, g, u, n, m, p, rfl, dM, hg, hu, hn, hp, q⟩
abbrev s_gates_sum : Stmt := top 34
abbrev N_gates_sum : List Str := ["gates", "columns", "p", "total", "a", "b", "c", "x", "y"]
abbrev P_gates_sum : List Str := ["gates", "columns", "p"]
theorem sc_gates_sum : FnScope N_gates_sum P_gates_sum (defScope s_gates_sum) := ⟨rfl, rfl, rfl, by decide +kernel, rfl, by decide +kernel, by decide +kernel⟩
def spGatesSum : Sp := fun vs H Q _ => ∃ (M N : Mu) (g u : V) (n m : Nat) (p : Int), vs = [g, u, .int p] ∧ WL M H g n p m ∧ IL N H u m p ∧ Pm p ∧ ∀ i : Int, 0 ≤ i ∧ i < p → Q (.int i) H
theorem cal_gates_sum (D : DefAt K mg "gates_sum" s_gates_sum P_gates_sum) : Cal P w K mg base 1 "gates_sum" spGatesSum [] := by
  refine cal_of D sc_gates_sum (fun vs H Q E h => ?_) (fun f cdv A outer s H vs Q E hr h => ?_)
  · obtain ⟨_, _, _, _, _, _, _, rfl, _⟩ := h; rfl
  · obtain ⟨M, N, g, u, n, m, p, rfl, ⟨lg, gs, rfl, hg, ng, zg, fg⟩, ⟨lu, us, rfl, hu, nu, zu, fu⟩, hp, q⟩ := h
    have hb := hp.b
    refine ⟨_, (pss_cons (ps_set (i := 3) sc_gates_sum.nd rfl (Or.inl rfl) pe_int)
    (pss_cons (ps_for PassesOwn.never rfl (pi_list (pv 0)) (pg_tup rfl (pgs_cons (pg_name (i := 4) sc_gates_sum.nd rfl (Or.inl rfl)) (pgs_cons (pg_name (i := 5) sc_gates_sum.nd rfl (Or.inl rfl)) (pgs_cons (pg_name (i := 6) sc_gates_sum.nd rfl (Or.inl rfl)) (pgs_cons (pg_name (i := 7) sc_gates_sum.nd rfl (Or.inl rfl)) (pgs_cons (pg_name (i := 8) sc_gates_sum.nd rfl (Or.inl rfl)) pgs_nil))))))
      (pss_one (ps_aug (i := 3) sc_gates_sum.nd rfl (Or.inl rfl) (pe_op op_add (pe_op op_add (pe_op op_mul (pv 4) (pe_ix (r := rIxL K) ix_list (pv 1) (pv 7) (fun _ _ => rfl))) (pe_op op_mul (pv 5) (pe_ix (r := rIxL K) ix_list (pv 1) (pv 8) (fun _ _ => rfl)))) (pe_op op_mul (pe_op op_mod (pe_op op_mul (pv 6) (pe_ix (r := rIxL K) ix_list (pv 1) (pv 7) (fun _ _ => rfl))) (pv 2)) (pe_ix (r := rIxL K) ix_list (pv 1) (pv 8) (fun _ _ => rfl)))) ip_add)))
    (pss_one (ps_ret (pe_op op_mod (pv 3) (pv 2)))))), ?_⟩
    walk_at "rd"
    refine for_list (K := K) (a := lg) (xs := gs) (fun i σ H' => H' = H ∧ ∃ (t : Int) (v4 v5 v6 v7 v8 : Option V), σ = [some (.ref lg), some (.ref lu), some (.int p), some (.int t), v4, v5, v6, v7, v8])
      ⟨rfl, _, _, _, _, _, _, rfl⟩ (fun i σ H' _ h => by rw [h.1]; exact SqL.of hg) ?_ ?_
    · rintro i x σ H' hx ⟨rfl, t, v4, v5, v6, v7, v8, rfl⟩
      obtain ⟨a, rfl, na, a1, b1, c1, x, y, h, r1, r2, r3, r4, r5⟩ := all_at fg hx
      obtain ⟨u1, hu1, u10⟩ := IsI.get fu (i := x) (by omega) (by omega)
      obtain ⟨u2, hu2, u20⟩ := IsI.get fu (i := y) (by omega) (by omega)
      have e := emod_b (a := c1 * u1) (p := p) (by omega)
      walk_at "rd"
      exact ⟨rfl, _, _, _, _, _, _, rfl⟩
    · rintro σ H' ⟨rfl, t, v4, v5, v6, v7, v8, rfl⟩
      walk_at "rd"
      exact q _ (emod_b (by omega))
theorem r_gatesSum {H : Hp} {Q : VK} {E : XK} {M N : Mu} {g u : V} {n m : Nat} {p : Int} (hg : WL M H g n p m) (hu : IL N H u m p) (hp : Pm p) (q : ∀ i : Int, 0 ≤ i ∧ i < p → Q (.int i) H) : spGatesSum [g, u, .int p] H Q E := ⟨M, N, g, u, n, m, p, rfl, hg, hu, hp, q⟩
theorem r_atNumber {H : Hp} {Q : VK} {E : XK} {l : Addr} {xs : List V} {k n p : Int} (h : H l = some (.lst xs)) (hx : ∀ x ∈ xs, IsI 0 p x) (hp : Pm p) (h0 : 0 ≤ k) (h1 : 2 * k + 1 < xs.length) (hn : 0 ≤ n ∧ n ≤ 60) (q : ∀ i : Int, -10000 ≤ i ∧ i ≤ 10000 → Q (.int i) H) : spAtNumber [.ref l, .int k, .int n] H Q E := by
  have hb := hp.b
  obtain ⟨a, ha, a0⟩ := IsI.get hx (i := 2 * k) (by omega) (by omega)
  obtain ⟨b, hb', b0⟩ := IsI.get hx (i := 2 * k + 1) (by omega) (by omega)
  have := mul_small (a := n) (b := b - a) (A := 60) (B := 60) (by omega) (by omega) (by omega) (by omega)
  exact ⟨l, xs, k, n, a, b, rfl, h, ha, hb', hn.1, hn.2, q _ (by omega)⟩
end
/-! ### one attribute at a time -/
section
variable {K : PySem.W.Frag} {H : Hp} {Q : VK} {N : Hp → Prop} {x C : Addr} {st : FS} {v y : V}
theorem r_f_circuit (o : Ob H x C st) (T : AT K C) (e : st .circuit = some v) (q : Q v H) : rFld K "circuit" Q (.ref x) H := r_fldV .circuit o T rfl e q
theorem r_s_circuit (o : Ob H x C st) (T : AT K C) (q : ∀ H', Kp (M1 x) H H' → Ob H' x C (fset st .circuit y) → N H') : rSet K "circuit" y N (.ref x) H := r_setV .circuit o T rfl q
theorem r_f_tables (o : Ob H x C st) (T : AT K C) (e : st .tables = some v) (q : Q v H) : rFld K "tables" Q (.ref x) H := r_fldV .tables o T rfl e q
theorem r_s_tables (o : Ob H x C st) (T : AT K C) (q : ∀ H', Kp (M1 x) H H' → Ob H' x C (fset st .tables y) → N H') : rSet K "tables" y N (.ref x) H := r_setV .tables o T rfl q
theorem r_f_bits (o : Ob H x C st) (T : AT K C) (e : st .bits = some v) (q : Q v H) : rFld K "bits" Q (.ref x) H := r_fldV .bits o T rfl e q
theorem r_s_bits (o : Ob H x C st) (T : AT K C) (q : ∀ H', Kp (M1 x) H H' → Ob H' x C (fset st .bits y) → N H') : rSet K "bits" y N (.ref x) H := r_setV .bits o T rfl q
theorem r_f_p (o : Ob H x C st) (T : AT K C) (e : st .p = some v) (q : Q v H) : rFld K "p" Q (.ref x) H := r_fldV .p o T rfl e q
theorem r_s_p (o : Ob H x C st) (T : AT K C) (q : ∀ H', Kp (M1 x) H H' → Ob H' x C (fset st .p y) → N H') : rSet K "p" y N (.ref x) H := r_setV .p o T rfl q
theorem r_f_steps (o : Ob H x C st) (T : AT K C) (e : st .steps = some v) (q : Q v H) : rFld K "steps" Q (.ref x) H := r_fldV .steps o T rfl e q
theorem r_s_steps (o : Ob H x C st) (T : AT K C) (q : ∀ H', Kp (M1 x) H H' → Ob H' x C (fset st .steps y) → N H') : rSet K "steps" y N (.ref x) H := r_setV .steps o T rfl q
theorem r_f_layer (o : Ob H x C st) (T : AT K C) (e : st .layer = some v) (q : Q v H) : rFld K "layer" Q (.ref x) H := r_fldV .layer o T rfl e q
theorem r_s_layer (o : Ob H x C st) (T : AT K C) (q : ∀ H', Kp (M1 x) H H' → Ob H' x C (fset st .layer y) → N H') : rSet K "layer" y N (.ref x) H := r_setV .layer o T rfl q
theorem r_f_round (o : Ob H x C st) (T : AT K C) (e : st .round = some v) (q : Q v H) : rFld K "round" Q (.ref x) H := r_fldV .round o T rfl e q
theorem r_s_round (o : Ob H x C st) (T : AT K C) (q : ∀ H', Kp (M1 x) H H' → Ob H' x C (fset st .round y) → N H') : rSet K "round" y N (.ref x) H := r_setV .round o T rfl q
theorem r_f_wide (o : Ob H x C st) (T : AT K C) (e : st .wide = some v) (q : Q v H) : rFld K "wide" Q (.ref x) H := r_fldV .wide o T rfl e q
theorem r_s_wide (o : Ob H x C st) (T : AT K C) (q : ∀ H', Kp (M1 x) H H' → Ob H' x C (fset st .wide y) → N H') : rSet K "wide" y N (.ref x) H := r_setV .wide o T rfl q
theorem r_f_gates (o : Ob H x C st) (T : AT K C) (e : st .gates = some v) (q : Q v H) : rFld K "gates" Q (.ref x) H := r_fldV .gates o T rfl e q
theorem r_s_gates (o : Ob H x C st) (T : AT K C) (q : ∀ H', Kp (M1 x) H H' → Ob H' x C (fset st .gates y) → N H') : rSet K "gates" y N (.ref x) H := r_setV .gates o T rfl q
theorem r_f_near (o : Ob H x C st) (T : AT K C) (e : st .near = some v) (q : Q v H) : rFld K "near" Q (.ref x) H := r_fldV .near o T rfl e q
theorem r_s_near (o : Ob H x C st) (T : AT K C) (q : ∀ H', Kp (M1 x) H H' → Ob H' x C (fset st .near y) → N H') : rSet K "near" y N (.ref x) H := r_setV .near o T rfl q
theorem r_f_columns (o : Ob H x C st) (T : AT K C) (e : st .columns = some v) (q : Q v H) : rFld K "columns" Q (.ref x) H := r_fldV .columns o T rfl e q
theorem r_s_columns (o : Ob H x C st) (T : AT K C) (q : ∀ H', Kp (M1 x) H H' → Ob H' x C (fset st .columns y) → N H') : rSet K "columns" y N (.ref x) H := r_setV .columns o T rfl q
theorem r_f_first (o : Ob H x C st) (T : AT K C) (e : st .first = some v) (q : Q v H) : rFld K "first" Q (.ref x) H := r_fldV .first o T rfl e q
theorem r_s_first (o : Ob H x C st) (T : AT K C) (q : ∀ H', Kp (M1 x) H H' → Ob H' x C (fset st .first y) → N H') : rSet K "first" y N (.ref x) H := r_setV .first o T rfl q
theorem r_f_second (o : Ob H x C st) (T : AT K C) (e : st .second = some v) (q : Q v H) : rFld K "second" Q (.ref x) H := r_fldV .second o T rfl e q
theorem r_s_second (o : Ob H x C st) (T : AT K C) (q : ∀ H', Kp (M1 x) H H' → Ob H' x C (fset st .second y) → N H') : rSet K "second" y N (.ref x) H := r_setV .second o T rfl q
theorem r_f_share (o : Ob H x C st) (T : AT K C) (e : st .share = some v) (q : Q v H) : rFld K "share" Q (.ref x) H := r_fldV .share o T rfl e q
theorem r_s_share (o : Ob H x C st) (T : AT K C) (q : ∀ H', Kp (M1 x) H H' → Ob H' x C (fset st .share y) → N H') : rSet K "share" y N (.ref x) H := r_setV .share o T rfl q
theorem r_f_below (o : Ob H x C st) (T : AT K C) (e : st .below = some v) (q : Q v H) : rFld K "below" Q (.ref x) H := r_fldV .below o T rfl e q
theorem r_s_below (o : Ob H x C st) (T : AT K C) (q : ∀ H', Kp (M1 x) H H' → Ob H' x C (fset st .below y) → N H') : rSet K "below" y N (.ref x) H := r_setV .below o T rfl q
theorem r_f_factors (o : Ob H x C st) (T : AT K C) (e : st .factors = some v) (q : Q v H) : rFld K "factors" Q (.ref x) H := r_fldV .factors o T rfl e q
theorem r_s_factors (o : Ob H x C st) (T : AT K C) (q : ∀ H', Kp (M1 x) H H' → Ob H' x C (fset st .factors y) → N H') : rSet K "factors" y N (.ref x) H := r_setV .factors o T rfl q
theorem r_f_rest (o : Ob H x C st) (T : AT K C) (e : st .rest = some v) (q : Q v H) : rFld K "rest" Q (.ref x) H := r_fldV .rest o T rfl e q
theorem r_s_rest (o : Ob H x C st) (T : AT K C) (q : ∀ H', Kp (M1 x) H H' → Ob H' x C (fset st .rest y) → N H') : rSet K "rest" y N (.ref x) H := r_setV .rest o T rfl q
theorem r_f_left (o : Ob H x C st) (T : AT K C) (e : st .left = some v) (q : Q v H) : rFld K "left" Q (.ref x) H := r_fldV .left o T rfl e q
theorem r_s_left (o : Ob H x C st) (T : AT K C) (q : ∀ H', Kp (M1 x) H H' → Ob H' x C (fset st .left y) → N H') : rSet K "left" y N (.ref x) H := r_setV .left o T rfl q
theorem r_a_steps {tv : TE} {σ : L2.St} (o : Ob H x C st) (T : AT K C) (e : st .steps = some v) (q : tv σ H (rAugC C x (nm .steps) v N)) : rAugF K "steps" tv σ N (.ref x) H := r_augF .steps o T rfl e q
theorem r_a_round {tv : TE} {σ : L2.St} (o : Ob H x C st) (T : AT K C) (e : st .round = some v) (q : tv σ H (rAugC C x (nm .round) v N)) : rAugF K "round" tv σ N (.ref x) H := r_augF .round o T rfl e q
end
theorem fset_fset (st : FS) (k : Fl) (a b : V) : fset (fset st k a) k b = fset st k b := by
  funext j
  show (if j = k then some b else if j = k then some a else st j) = if j = k then some b else st j
  split <;> rfl
theorem r_rep0 {H : Hp} {Q : VK} {l : Addr} {n : Nat} (h : H l = some (.lst [.int 0])) (hn : n ≤ 1000) (q : ∀ p, H p = none → Q (.ref p) (upd H p (.lst (List.replicate n (.int 0))))) : rRep (.ref l) (.int (n : Int)) H Q := by
  refine ⟨l, n, _, rfl, rfl, h, by omega, by omega, sz (by rw [Int.toNat_natCast]; show 1 * n ≤ 100000; omega), fun p hp => ?_⟩
  have e : (List.replicate ((n : Int)).toNat [V.int 0]).flatten = List.replicate n (V.int 0) := by
    rw [Int.toNat_natCast, List.flatten_replicate_singleton]
  rw [e]
  exact q p hp
theorem r_gsub {to ti : TE} {t : TSet} {v : V} {σ : L2.St} {H : Hp} {Q : L2.St → Hp → Prop} (q : to σ H fun o H1 => ti σ H1 fun i H2 => t o i v H2 fun H3 => Q σ H3) : gSub to ti t v σ H Q := q
theorem r_setL {H : Hp} {l : Addr} {xs : List V} {i : Int} {v : V} {Q : Hp → Prop} (h : H l = some (.lst xs)) (h0 : 0 ≤ i ∧ i < xs.length) (q : Q (upd H l (.lst (xs.set i.toNat v)))) : rSetL (.ref l) (.int i) v H Q := by
  refine ⟨l, xs, i, i.toNat, rfl, rfl, h, ?_, q⟩
  unfold ixN
  rw [if_pos h0.1, if_pos h0.2]

/-! ## LK4b -/
local macro_rules | `(tactic| walk_at "fs") => `(tactic| first | assumption | exact rfl)
local macro_rules | `(tactic| walk_at "r1") => `(tactic| first
  | with_reducible refine' r_fld ?_
  | with_reducible refine' r_sfld ?_
  | with_reducible refine' r_gfld ?_
  | with_reducible refine' r_aug0 ?_
  | with_reducible refine' r_meth ?_
  | with_reducible refine' r_gsub ?_
  | ((with_reducible refine' r_f_circuit ?ho ?hT ?he ?hq); (case ho => assumption); (case hT => assumption); (case he => walk_at "fs"))
  | ((with_reducible refine' r_f_tables ?ho ?hT ?he ?hq); (case ho => assumption); (case hT => assumption); (case he => walk_at "fs"))
  | ((with_reducible refine' r_f_bits ?ho ?hT ?he ?hq); (case ho => assumption); (case hT => assumption); (case he => walk_at "fs"))
  | ((with_reducible refine' r_f_p ?ho ?hT ?he ?hq); (case ho => assumption); (case hT => assumption); (case he => walk_at "fs"))
  | ((with_reducible refine' r_f_steps ?ho ?hT ?he ?hq); (case ho => assumption); (case hT => assumption); (case he => walk_at "fs"))
  | ((with_reducible refine' r_f_layer ?ho ?hT ?he ?hq); (case ho => assumption); (case hT => assumption); (case he => walk_at "fs"))
  | ((with_reducible refine' r_f_round ?ho ?hT ?he ?hq); (case ho => assumption); (case hT => assumption); (case he => walk_at "fs"))
  | ((with_reducible refine' r_f_wide ?ho ?hT ?he ?hq); (case ho => assumption); (case hT => assumption); (case he => walk_at "fs"))
  | ((with_reducible refine' r_f_gates ?ho ?hT ?he ?hq); (case ho => assumption); (case hT => assumption); (case he => walk_at "fs"))
  | ((with_reducible refine' r_f_near ?ho ?hT ?he ?hq); (case ho => assumption); (case hT => assumption); (case he => walk_at "fs"))
  | ((with_reducible refine' r_f_columns ?ho ?hT ?he ?hq); (case ho => assumption); (case hT => assumption); (case he => walk_at "fs"))
  | ((with_reducible refine' r_f_first ?ho ?hT ?he ?hq); (case ho => assumption); (case hT => assumption); (case he => walk_at "fs"))
  | ((with_reducible refine' r_f_second ?ho ?hT ?he ?hq); (case ho => assumption); (case hT => assumption); (case he => walk_at "fs"))
  | ((with_reducible refine' r_f_share ?ho ?hT ?he ?hq); (case ho => assumption); (case hT => assumption); (case he => walk_at "fs"))
  | ((with_reducible refine' r_f_below ?ho ?hT ?he ?hq); (case ho => assumption); (case hT => assumption); (case he => walk_at "fs"))
  | ((with_reducible refine' r_f_factors ?ho ?hT ?he ?hq); (case ho => assumption); (case hT => assumption); (case he => walk_at "fs"))
  | ((with_reducible refine' r_f_rest ?ho ?hT ?he ?hq); (case ho => assumption); (case hT => assumption); (case he => walk_at "fs"))
  | ((with_reducible refine' r_f_left ?ho ?hT ?he ?hq); (case ho => assumption); (case hT => assumption); (case he => walk_at "fs"))
  | ((with_reducible refine' r_a_steps ?ho ?hT ?he ?hq); (case ho => assumption); (case hT => assumption); (case he => walk_at "fs"))
  | ((with_reducible refine' r_a_round ?ho ?hT ?he ?hq); (case ho => assumption); (case hT => assumption); (case he => walk_at "fs"))
  | ((with_reducible refine' r_augC ?ho ?hq); (case ho => assumption)))
local macro_rules | `(tactic| walk_at "st") => `(tactic| first
  | ((with_reducible refine' r_s_circuit ?ho ?hT ?hq); (case ho => assumption); (case hT => assumption))
  | ((with_reducible refine' r_s_tables ?ho ?hT ?hq); (case ho => assumption); (case hT => assumption))
  | ((with_reducible refine' r_s_bits ?ho ?hT ?hq); (case ho => assumption); (case hT => assumption))
  | ((with_reducible refine' r_s_p ?ho ?hT ?hq); (case ho => assumption); (case hT => assumption))
  | ((with_reducible refine' r_s_steps ?ho ?hT ?hq); (case ho => assumption); (case hT => assumption))
  | ((with_reducible refine' r_s_layer ?ho ?hT ?hq); (case ho => assumption); (case hT => assumption))
  | ((with_reducible refine' r_s_round ?ho ?hT ?hq); (case ho => assumption); (case hT => assumption))
  | ((with_reducible refine' r_s_wide ?ho ?hT ?hq); (case ho => assumption); (case hT => assumption))
  | ((with_reducible refine' r_s_gates ?ho ?hT ?hq); (case ho => assumption); (case hT => assumption))
  | ((with_reducible refine' r_s_near ?ho ?hT ?hq); (case ho => assumption); (case hT => assumption))
  | ((with_reducible refine' r_s_columns ?ho ?hT ?hq); (case ho => assumption); (case hT => assumption))
  | ((with_reducible refine' r_s_first ?ho ?hT ?hq); (case ho => assumption); (case hT => assumption))
  | ((with_reducible refine' r_s_second ?ho ?hT ?hq); (case ho => assumption); (case hT => assumption))
  | ((with_reducible refine' r_s_share ?ho ?hT ?hq); (case ho => assumption); (case hT => assumption))
  | ((with_reducible refine' r_s_below ?ho ?hT ?hq); (case ho => assumption); (case hT => assumption))
  | ((with_reducible refine' r_s_factors ?ho ?hT ?hq); (case ho => assumption); (case hT => assumption))
  | ((with_reducible refine' r_s_rest ?ho ?hT ?hq); (case ho => assumption); (case hT => assumption))
  | ((with_reducible refine' r_s_left ?ho ?hT ?hq); (case ho => assumption); (case hT => assumption)))

section
variable {P : Program} {w : World} {K : PySem.W.Frag} {mg : Str → Option Value} {base : Heap} {C : Addr}
/-! ### first_tables -/
abbrev s_Answerer_first_tables : Stmt := inClass (top 36) 4
abbrev N_Answerer_first_tables : List Str := ["self", "p", "factors", "rest", "a", "b", "c", "x", "y"]
abbrev P_Answerer_first_tables : List Str := ["self"]
theorem sc_Answerer_first_tables : FnScope N_Answerer_first_tables P_Answerer_first_tables (defScope s_Answerer_first_tables) := ⟨rfl, rfl, rfl, by decide +kernel, rfl, by decide +kernel, by decide +kernel⟩
def spFirst (C : Addr) : Sp := fun vs H Q _ => ∃ (M : Mu) (x : Addr) (st : FS) (g b : V) (gn sw : Nat) (p s : Int), vs = [.ref x] ∧ M x ∧ Dom M H ∧ Ob H x C st ∧ st .p = some (.int p) ∧ st .steps = some (.int s) ∧ st .gates = some g ∧ st .below = some b ∧
  WL M H g gn p (2 ^ sw) ∧ IL M H b (2 ^ sw) p ∧ sw ≤ 3 ∧ Pm p ∧ ∀ H' t f r, Kp (M1 x) H H' → Ob H' x C (fset st .steps (.int (s + (gn : Int)))) → H' t = some (.tup [f, r]) → IL M H' f (2 ^ sw) p → IL M H' r (2 ^ sw) p → Q (.ref t) H'
theorem met_first_tables (D : MetAt K C "first_tables" "Answerer.first_tables" s_Answerer_first_tables P_Answerer_first_tables) (T : Txt mg) (T4 : AT K C) : Met P w K mg base 1 C "first_tables" (spFirst C) [] := by
  refine met_of D sc_Answerer_first_tables (fun vs H Q E h => ?_) (fun f cdv A outer s H vs Q E hr h => ?_)
  · obtain ⟨_, _, _, _, _, _, _, _, _, rfl, _⟩ := h; rfl
  · obtain ⟨M, x, st, g, b, gn, sw, p, s, rfl, mx, dM, o, ep, es, eg, eb, ⟨lg, gs, rfl, hg, ng, zg, fg⟩, ⟨lb, bs, rfl, hb, nb, zb, fb⟩, hsw, hp, q⟩ := h
    have hpb := hp.b
    have s2 := two_le hsw
    refine ⟨_, (pss_cons (ps_set (i := 1) sc_Answerer_first_tables.nd rfl (Or.inl rfl) (pe_fldK (K := K) (pv 0) rfl))
    (pss_cons (ps_set (i := 2) sc_Answerer_first_tables.nd rfl (Or.inl rfl) (pe_op op_rep (pe_lst (pa_cons pe_int pa_nil)) (pe_callB (r := rLen K) call_lenS (by rfl) T.len PySem.boot_len (pa_cons (pe_fldK (K := K) (pv 0) rfl) pa_nil))))
    (pss_cons (ps_set (i := 3) sc_Answerer_first_tables.nd rfl (Or.inl rfl) (pe_op op_rep (pe_lst (pa_cons pe_int pa_nil)) (pe_callB (r := rLen K) call_lenS (by rfl) T.len PySem.boot_len (pa_cons (pe_fldK (K := K) (pv 0) rfl) pa_nil))))
    (pss_cons (ps_for PassesOwn.never rfl (pi_list (pe_fldK (K := K) (pv 0) rfl)) (pg_tup rfl (pgs_cons (pg_name (i := 4) sc_Answerer_first_tables.nd rfl (Or.inl rfl)) (pgs_cons (pg_name (i := 5) sc_Answerer_first_tables.nd rfl (Or.inl rfl)) (pgs_cons (pg_name (i := 6) sc_Answerer_first_tables.nd rfl (Or.inl rfl)) (pgs_cons (pg_name (i := 7) sc_Answerer_first_tables.nd rfl (Or.inl rfl)) (pgs_cons (pg_name (i := 8) sc_Answerer_first_tables.nd rfl (Or.inl rfl)) pgs_nil))))))
      (pss_cons (ps_asg (pe_op op_mod (pe_op op_add (pe_op op_add (pe_ix (r := rIxL K) ix_list (pv 2) (pv 7) (fun _ _ => rfl)) (pv 4)) (pe_op op_mul (pv 6) (pe_ix (r := rIxL K) ix_list (pe_fldK (K := K) (pv 0) rfl) (pv 8) (fun _ _ => rfl)))) (pv 1)) (pg_sub (pv 2) (pv 7) set_list))
    (pss_one (ps_asg (pe_op op_mod (pe_op op_add (pe_ix (r := rIxL K) ix_list (pv 3) (pv 7) (fun _ _ => rfl)) (pe_op op_mul (pv 5) (pe_ix (r := rIxL K) ix_list (pe_fldK (K := K) (pv 0) rfl) (pv 8) (fun _ _ => rfl)))) (pv 1)) (pg_sub (pv 3) (pv 7) set_list)))))
    (pss_cons (ps_fldaug (pv 0) (pe_callB (r := rLen K) call_lenS (by rfl) T.len PySem.boot_len (pa_cons (pe_fldK (K := K) (pv 0) rfl) pa_nil)) in_add)
    (pss_one (ps_ret (pe_tup (pa_cons (pv 2) (pa_cons (pv 3) pa_nil)))))))))), ?_⟩
    walk_at "rd"
    refine ⟨sz (show 1 ≤ 100000 by decide), fun p1 n1 => ?_⟩
    have k1 : Kp M0 H (upd H p1 (.lst [.int 0])) := (Kp.refl _ _).new n1
    have e1 : upd H p1 (.lst [.int 0]) p1 = some (.lst [.int 0]) := upd_same
    generalize (upd H p1 (.lst [.int 0])) = H1 at *
    have o1 := o.kp k1
    have hb1 := k1.at hb
    walk_at "rd"
    refine r_rep0 e1 (by omega) fun L1 nL1 => ?_
    have k2 : Kp M0 H1 (upd H1 L1 (.lst (List.replicate bs.length (.int 0)))) := (Kp.refl _ _).new nL1
    have eL1 : upd H1 L1 (.lst (List.replicate bs.length (.int 0))) L1 = some (.lst (List.replicate bs.length (.int 0))) := upd_same
    generalize (upd H1 L1 (.lst (List.replicate bs.length (.int 0)))) = H2 at *
    walk_at "rd"
    refine ⟨sz (show 1 ≤ 100000 by decide), fun p3 n3 => ?_⟩
    have k3 : Kp M0 H2 (upd H2 p3 (.lst [.int 0])) := (Kp.refl _ _).new n3
    have e3 : upd H2 p3 (.lst [.int 0]) p3 = some (.lst [.int 0]) := upd_same
    generalize (upd H2 p3 (.lst [.int 0])) = H3 at *
    have o3 := (o1.kp k2).kp k3
    have hb3 := (k2.trans k3).at hb1
    walk_at "rd"
    refine r_rep0 e3 (by omega) fun L2 nL2 => ?_
    have k4 : Kp M0 H3 (upd H3 L2 (.lst (List.replicate bs.length (.int 0)))) := (Kp.refl _ _).new nL2
    have eL2 : upd H3 L2 (.lst (List.replicate bs.length (.int 0))) L2 = some (.lst (List.replicate bs.length (.int 0))) := upd_same
    have nL12 : L1 ≠ L2 := ne_of_none (k3.at eL1) nL2
    have eL1' := (k3.trans k4).at eL1
    generalize (upd H3 L2 (.lst (List.replicate bs.length (.int 0)))) = HB at *
    have k14 := ((k1.trans k2).trans k3).trans k4
    have oB := o.kp k14
    have hgB := k14.at hg
    have hbB := k14.at hb
    have nLH1 : H L1 = none := k1.free nL1
    have nLH2 : H L2 = none := ((k1.trans k2).trans k3).free nL2
    have ngL1 := ne_of_none hg nLH1
    have ngL2 := ne_of_none hg nLH2
    have nbL1 := ne_of_none hb nLH1
    have nbL2 := ne_of_none hb nLH2
    have nxL1 : x ≠ L1 := fun z => o.some (z ▸ nLH1)
    have nxL2 : x ≠ L2 := fun z => o.some (z ▸ nLH2)
    walk_at "rd"
    have h0 : ∀ z ∈ List.replicate bs.length (V.int 0), IsI 0 p z := fun z hz => by rw [(List.mem_replicate.mp hz).2]; exact ⟨0, rfl, by omega, by omega⟩
    refine for_list (K := K) (a := lg) (xs := gs) (fun i σ H' => Kp (fun b => b = L1 ∨ b = L2) HB H' ∧ ∃ (xs ys : List V) (v4 v5 v6 v7 v8 : Option V), σ = [some (.ref x), some (.int p), some (.ref L1), some (.ref L2), v4, v5, v6, v7, v8] ∧
        H' L1 = some (.lst xs) ∧ H' L2 = some (.lst ys) ∧ xs.length = 2 ^ sw ∧ ys.length = 2 ^ sw ∧ (∀ z ∈ xs, IsI 0 p z) ∧ ∀ z ∈ ys, IsI 0 p z)
      ⟨Kp.refl _ _, _, _, _, _, _, _, _, rfl, eL1', eL2, by rw [List.length_replicate, zb], by rw [List.length_replicate, zb], h0, h0⟩
      (fun i σ H' _ h => SqL.of (h.1 _ _ (fun z => z.elim ngL1 ngL2) hgB)) ?_ ?_
    · rintro i g σ H' hi ⟨kk, xs, ys, v4, v5, v6, v7, v8, rfl, eX, eY, zX, zY, fX, fY⟩
      obtain ⟨a, rfl, na, a1, b1, c1, gx, gy, hga, r1, r2, r3, r4, r5⟩ := (((all_at fg hi)).mono k14 fun _ z => z.elim)
      have naL : ¬ (a = L1 ∨ a = L2) := fun z => z.elim (fun z => by
        obtain ⟨a', e, _, _, _, _, _, _, h, _⟩ := all_at fg hi
        cases e
        exact ne_of_none h nLH1 z) fun z => by
        obtain ⟨a', e, _, _, _, _, _, _, h, _⟩ := all_at fg hi
        cases e
        exact ne_of_none h nLH2 z
      have hga' := kk _ _ naL hga
      have hb' := kk _ _ (fun z => z.elim nbL1 nbL2) hbB
      have o' := oB.kpM kk fun z => z.elim nxL1 nxL2
      obtain ⟨u1, hu1, u10⟩ := IsI.get fX (i := gx) (by omega) (by omega)
      obtain ⟨u2, hu2, u20⟩ := IsI.get fb (i := gy) (by omega) (by omega)
      obtain ⟨u3, hu3, u30⟩ := IsI.get fY (i := gx) (by omega) (by omega)
      walk_at "rd"
      refine r_setL eX (by omega) ?_
      have kA : Kp (M1 L1) H' (upd H' L1 (.lst (xs.set gx.toNat (.int ((u1 + a1 + c1 * u2) % p))))) := (Kp.refl _ _).own rfl
      have eA : upd H' L1 (.lst (xs.set gx.toNat (.int ((u1 + a1 + c1 * u2) % p)))) L1 = some (.lst (xs.set gx.toNat (.int ((u1 + a1 + c1 * u2) % p)))) := upd_same
      generalize (upd H' L1 (.lst (xs.set gx.toNat (.int ((u1 + a1 + c1 * u2) % p))))) = HA at *
      have eY' := kA _ _ nL12.symm eY
      have hb'' := kA _ _ nbL1 hb'
      have o'' := o'.kpM kA nxL1
      walk_at "rd"
      refine r_setL eY' (by omega) ?_
      have f1 : ∀ z ∈ xs.set gx.toNat (V.int ((u1 + a1 + c1 * u2) % p)), IsI 0 p z := all_set fX (isI_mod (by omega))
      have f2 : ∀ z ∈ ys.set gx.toNat (V.int ((u3 + b1 * u2) % p)), IsI 0 p z := all_set fY (isI_mod (by omega))
      exact ⟨((kk.trans (kA.le fun b z => .inl z)).own (.inr rfl)), _, _, _, _, _, _, _, rfl, (by rw [upd_ne nL12]; exact eA), upd_same, by rw [List.length_set, zX], by rw [List.length_set, zY], f1, f2⟩
    · rintro σ H' ⟨kk, xs, ys, v4, v5, v6, v7, v8, rfl, eX, eY, zX, zY, fX, fY⟩
      have o' := oB.kpM kk fun z => z.elim nxL1 nxL2
      have hg' := kk _ _ (fun z => z.elim ngL1 ngL2) hgB
      have kH : Kp M0 H H' := fun b o _ e => kk b o (fun z => z.elim (ne_of_none e nLH1) (ne_of_none e nLH2)) (k14.at e)
      walk_at "rd"
      intro H5 k5 o5
      walk_at "rd"
      refine ⟨sz (show 2 ≤ 100000 by decide), fun t nt => ?_⟩
      have kt : Kp M0 H5 (upd H5 t (.tup [.ref L1, .ref L2])) := (Kp.refl _ _).new nt
      refine q _ t (.ref L1) (.ref L2) ((kH.zero.trans k5).trans kt.zero) (by rw [← zg]; exact o5.kp kt) upd_same ?_ ?_
      · exact ⟨L1, xs, rfl, kt.at (k5 _ _ nxL1.symm eX), fun z => dM _ z nLH1, zX, fX⟩
      · exact ⟨L2, ys, rfl, kt.at (k5 _ _ nxL2.symm eY), fun z => dM _ z nLH2, zY, fY⟩
theorem r_first {H : Hp} {Q : VK} {E : XK} {M : Mu} {x : Addr} {st : FS} {g b : V} {gn sw : Nat} {p s : Int} (mx : M x) (dM : Dom M H) (o : Ob H x C st) (ep : st .p = some (.int p)) (es : st .steps = some (.int s)) (eg : st .gates = some g) (eb : st .below = some b)
    (hg : WL M H g gn p (2 ^ sw)) (hb : IL M H b (2 ^ sw) p) (hs : sw ≤ 3) (hp : Pm p) (q : ∀ H' t f r, Kp (M1 x) H H' → Ob H' x C (fset st .steps (.int (s + (gn : Int)))) → H' t = some (.tup [f, r]) → IL M H' f (2 ^ sw) p → IL M H' r (2 ^ sw) p → Q (.ref t) H') : spFirst C [.ref x] H Q E :=
  ⟨M, x, st, g, b, gn, sw, p, s, rfl, mx, dM, o, ep, es, eg, eb, hg, hb, hs, hp, q⟩
end

/-! ## LK4c -/
section
variable {P : Program} {w : World} {K : PySem.W.Frag} {mg : Str → Option Value} {base : Heap} {C : Addr}
/-! ### second_tables -/
abbrev s_Answerer_second_tables : Stmt := inClass (top 36) 5
abbrev N_Answerer_second_tables : List Str := ["self", "value", "p", "weights", "factors", "rest", "a", "b", "c", "x", "y"]
abbrev P_Answerer_second_tables : List Str := ["self", "value"]
theorem sc_Answerer_second_tables : FnScope N_Answerer_second_tables P_Answerer_second_tables (defScope s_Answerer_second_tables) := ⟨rfl, rfl, rfl, by decide +kernel, rfl, by decide +kernel, by decide +kernel⟩
def spSecond (C : Addr) : Sp := fun vs H Q _ => ∃ (M : Mu) (x : Addr) (st : FS) (g b u : V) (gn sw : Nat) (p s val : Int), vs = [.ref x, .int val] ∧ st .first = some u ∧ IL M H u sw p ∧ (0 ≤ val ∧ val < p) ∧ M x ∧ Dom M H ∧ Ob H x C st ∧ st .p = some (.int p) ∧ st .steps = some (.int s) ∧ st .gates = some g ∧ st .below = some b ∧
  WL M H g gn p (2 ^ sw) ∧ IL M H b (2 ^ sw) p ∧ sw ≤ 3 ∧ Pm p ∧ ∀ H' t f r, Kp (M1 x) H H' → Ob H' x C (fset st .steps (.int (s + (gn : Int)))) → H' t = some (.tup [f, r]) → IL M H' f (2 ^ sw) p → IL M H' r (2 ^ sw) p → Q (.ref t) H'
theorem met_second_tables (D : MetAt K C "second_tables" "Answerer.second_tables" s_Answerer_second_tables P_Answerer_second_tables) (T : Txt mg) (T4 : AT K C) (c_point_table : Cal P w K mg base 1 "point_table" spPointTable []) : Met P w K mg base 2 C "second_tables" (spSecond C) [] := by
  refine met_of D sc_Answerer_second_tables (fun vs H Q E h => ?_) (fun f cdv A outer s H vs Q E hr h => ?_)
  · obtain ⟨_, _, _, _, _, _, _, _, _, _, _, rfl, _⟩ := h; rfl
  · obtain ⟨M, x, st, g, b, u, gn, sw, p, s, val, rfl, ef, hf, hval, mx, dM, o, ep, es, eg, eb, ⟨lg, gs, rfl, hg, ng, zg, fg⟩, ⟨lb, bs, rfl, hb, nb, zb, fb⟩, hsw, hp, q⟩ := h
    have hpb := hp.b
    have s2 := two_le hsw
    refine ⟨_, (pss_cons (ps_set (i := 2) sc_Answerer_second_tables.nd rfl (Or.inl rfl) (pe_fldK (K := K) (pv 0) rfl))
    (pss_cons (ps_set (i := 3) sc_Answerer_second_tables.nd rfl (Or.inl rfl) (pe_c c_point_table hr (by decide) (by rfl) (pa_cons (pe_fldK (K := K) (pv 0) rfl) (pa_cons (pv 2) pa_nil))))
    (pss_cons (ps_set (i := 4) sc_Answerer_second_tables.nd rfl (Or.inl rfl) (pe_op op_rep (pe_lst (pa_cons pe_int pa_nil)) (pe_callB (r := rLen K) call_lenS (by rfl) T.len PySem.boot_len (pa_cons (pe_fldK (K := K) (pv 0) rfl) pa_nil))))
    (pss_cons (ps_set (i := 5) sc_Answerer_second_tables.nd rfl (Or.inl rfl) (pe_op op_rep (pe_lst (pa_cons pe_int pa_nil)) (pe_callB (r := rLen K) call_lenS (by rfl) T.len PySem.boot_len (pa_cons (pe_fldK (K := K) (pv 0) rfl) pa_nil))))
    (pss_cons (ps_for PassesOwn.never rfl (pi_list (pe_fldK (K := K) (pv 0) rfl)) (pg_tup rfl (pgs_cons (pg_name (i := 6) sc_Answerer_second_tables.nd rfl (Or.inl rfl)) (pgs_cons (pg_name (i := 7) sc_Answerer_second_tables.nd rfl (Or.inl rfl)) (pgs_cons (pg_name (i := 8) sc_Answerer_second_tables.nd rfl (Or.inl rfl)) (pgs_cons (pg_name (i := 9) sc_Answerer_second_tables.nd rfl (Or.inl rfl)) (pgs_cons (pg_name (i := 10) sc_Answerer_second_tables.nd rfl (Or.inl rfl)) pgs_nil))))))
      (pss_cons (ps_asg (pe_op op_mod (pe_op op_add (pe_ix (r := rIxL K) ix_list (pv 4) (pv 10) (fun _ _ => rfl)) (pe_op op_mul (pe_ix (r := rIxL K) ix_list (pv 3) (pv 9) (fun _ _ => rfl)) (pe_op op_add (pv 7) (pe_op op_mul (pv 8) (pv 1))))) (pv 2)) (pg_sub (pv 4) (pv 10) set_list))
    (pss_one (ps_asg (pe_op op_mod (pe_op op_add (pe_ix (r := rIxL K) ix_list (pv 5) (pv 10) (fun _ _ => rfl)) (pe_op op_mul (pe_op op_mod (pe_op op_mul (pe_ix (r := rIxL K) ix_list (pv 3) (pv 9) (fun _ _ => rfl)) (pv 6)) (pv 2)) (pv 1))) (pv 2)) (pg_sub (pv 5) (pv 10) set_list)))))
    (pss_cons (ps_fldaug (pv 0) (pe_callB (r := rLen K) call_lenS (by rfl) T.len PySem.boot_len (pa_cons (pe_fldK (K := K) (pv 0) rfl) pa_nil)) in_add)
    (pss_one (ps_ret (pe_tup (pa_cons (pv 4) (pa_cons (pv 5) pa_nil))))))))))), ?_⟩
    walk_at "rd"
    refine r_pointTable dM hf (by omega) hp fun H0 vw k0 hw => ?_
    obtain ⟨lw, wt, rfl, hw0, nw, zw, fw⟩ := hw
    walk_at "rd"
    refine ⟨sz (show 1 ≤ 100000 by decide), fun p1 n1 => ?_⟩
    have k1' : Kp M0 H0 (upd H0 p1 (.lst [.int 0])) := (Kp.refl _ _).new n1
    have e1 : upd H0 p1 (.lst [.int 0]) p1 = some (.lst [.int 0]) := upd_same
    generalize (upd H0 p1 (.lst [.int 0])) = H1 at *
    have k1 := k0.trans k1'
    have o1 := o.kp k1
    have hb1 := k1.at hb
    walk_at "rd"
    refine r_rep0 e1 (by omega) fun L1 nL1 => ?_
    have k2 : Kp M0 H1 (upd H1 L1 (.lst (List.replicate bs.length (.int 0)))) := (Kp.refl _ _).new nL1
    have eL1 : upd H1 L1 (.lst (List.replicate bs.length (.int 0))) L1 = some (.lst (List.replicate bs.length (.int 0))) := upd_same
    generalize (upd H1 L1 (.lst (List.replicate bs.length (.int 0)))) = H2 at *
    walk_at "rd"
    refine ⟨sz (show 1 ≤ 100000 by decide), fun p3 n3 => ?_⟩
    have k3 : Kp M0 H2 (upd H2 p3 (.lst [.int 0])) := (Kp.refl _ _).new n3
    have e3 : upd H2 p3 (.lst [.int 0]) p3 = some (.lst [.int 0]) := upd_same
    generalize (upd H2 p3 (.lst [.int 0])) = H3 at *
    have o3 := (o1.kp k2).kp k3
    have hb3 := (k2.trans k3).at hb1
    walk_at "rd"
    refine r_rep0 e3 (by omega) fun L2 nL2 => ?_
    have k4 : Kp M0 H3 (upd H3 L2 (.lst (List.replicate bs.length (.int 0)))) := (Kp.refl _ _).new nL2
    have eL2 : upd H3 L2 (.lst (List.replicate bs.length (.int 0))) L2 = some (.lst (List.replicate bs.length (.int 0))) := upd_same
    have nL12 : L1 ≠ L2 := ne_of_none (k3.at eL1) nL2
    have eL1' := (k3.trans k4).at eL1
    generalize (upd H3 L2 (.lst (List.replicate bs.length (.int 0)))) = HB at *
    have k14 := ((k1.trans k2).trans k3).trans k4
    have oB := o.kp k14
    have hgB := k14.at hg
    have hbB := k14.at hb
    have nLH1 : H L1 = none := k1.free nL1
    have nLH2 : H L2 = none := ((k1.trans k2).trans k3).free nL2
    have nL0 : H0 L1 = none := k1'.free nL1
    have nL02 : H0 L2 = none := ((k1'.trans k2).trans k3).free nL2
    have hwB := ((k1'.trans k2).trans (k3.trans k4)).at hw0
    have nwL1 := ne_of_none hw0 nL0
    have nwL2 := ne_of_none hw0 nL02
    have ngL1 := ne_of_none hg nLH1
    have ngL2 := ne_of_none hg nLH2
    have nbL1 := ne_of_none hb nLH1
    have nbL2 := ne_of_none hb nLH2
    have nuse := nL12
    have nxL1 : x ≠ L1 := fun z => o.some (z ▸ nLH1)
    have nxL2 : x ≠ L2 := fun z => o.some (z ▸ nLH2)
    walk_at "rd"
    have h0 : ∀ z ∈ List.replicate bs.length (V.int 0), IsI 0 p z := fun z hz => by rw [(List.mem_replicate.mp hz).2]; exact ⟨0, rfl, by omega, by omega⟩
    refine for_list (K := K) (a := lg) (xs := gs) (fun i σ H' => Kp (fun b => b = L1 ∨ b = L2) HB H' ∧ ∃ (xs ys : List V) (v4 v5 v6 v7 v8 : Option V), σ = [some (.ref x), some (.int val), some (.int p), some (.ref lw), some (.ref L1), some (.ref L2), v4, v5, v6, v7, v8] ∧
        H' L1 = some (.lst xs) ∧ H' L2 = some (.lst ys) ∧ xs.length = 2 ^ sw ∧ ys.length = 2 ^ sw ∧ (∀ z ∈ xs, IsI 0 p z) ∧ ∀ z ∈ ys, IsI 0 p z)
      ⟨Kp.refl _ _, _, _, _, _, _, _, _, rfl, eL1', eL2, by rw [List.length_replicate, zb], by rw [List.length_replicate, zb], h0, h0⟩
      (fun i σ H' _ h => SqL.of (h.1 _ _ (fun z => z.elim ngL1 ngL2) hgB)) ?_ ?_
    · rintro i g σ H' hi ⟨kk, xs, ys, v4, v5, v6, v7, v8, rfl, eX, eY, zX, zY, fX, fY⟩
      obtain ⟨a, rfl, na, a1, b1, c1, gx, gy, hga, r1, r2, r3, r4, r5⟩ := (((all_at fg hi)).mono k14 fun _ z => z.elim)
      have naL : ¬ (a = L1 ∨ a = L2) := fun z => z.elim (fun z => by
        obtain ⟨a', e, _, _, _, _, _, _, h, _⟩ := all_at fg hi
        cases e
        exact ne_of_none h nLH1 z) fun z => by
        obtain ⟨a', e, _, _, _, _, _, _, h, _⟩ := all_at fg hi
        cases e
        exact ne_of_none h nLH2 z
      have hga' := kk _ _ naL hga
      have hb' := kk _ _ (fun z => z.elim nbL1 nbL2) hbB
      have o' := oB.kpM kk fun z => z.elim nxL1 nxL2
      obtain ⟨u1, hu1, u10⟩ := IsI.get fX (i := gy) (by omega) (by omega)
      obtain ⟨u2, hu2, u20⟩ := IsI.get fw (i := gx) (by omega) (by omega)
      obtain ⟨u3, hu3, u30⟩ := IsI.get fY (i := gy) (by omega) (by omega)
      have hw' := kk _ _ (fun z => z.elim nwL1 nwL2) hwB
      walk_at "rd"
      refine r_setL eX (by omega) ?_
      have kA : Kp (M1 L1) H' (upd H' L1 (.lst (xs.set gy.toNat (.int ((u1 + u2 * (b1 + c1 * val)) % p))))) := (Kp.refl _ _).own rfl
      have eA : upd H' L1 (.lst (xs.set gy.toNat (.int ((u1 + u2 * (b1 + c1 * val)) % p)))) L1 = some (.lst (xs.set gy.toNat (.int ((u1 + u2 * (b1 + c1 * val)) % p)))) := upd_same
      generalize (upd H' L1 (.lst (xs.set gy.toNat (.int ((u1 + u2 * (b1 + c1 * val)) % p))))) = HA at *
      have eY' := kA _ _ nL12.symm eY
      have hb'' := kA _ _ nbL1 hb'
      have hw'' := kA _ _ nwL1 hw'
      have o'' := o'.kpM kA nxL1
      walk_at "rd"
      refine r_setL eY' (by omega) ?_
      have f1 : ∀ z ∈ xs.set gy.toNat (V.int ((u1 + u2 * (b1 + c1 * val)) % p)), IsI 0 p z := all_set fX (isI_mod (by omega))
      have f2 : ∀ z ∈ ys.set gy.toNat (V.int ((u3 + u2 * a1 % p * val) % p)), IsI 0 p z := all_set fY (isI_mod (by omega))
      exact ⟨((kk.trans (kA.le fun b z => .inl z)).own (.inr rfl)), _, _, _, _, _, _, _, rfl, (by rw [upd_ne nL12]; exact eA), upd_same, by rw [List.length_set, zX], by rw [List.length_set, zY], f1, f2⟩
    · rintro σ H' ⟨kk, xs, ys, v4, v5, v6, v7, v8, rfl, eX, eY, zX, zY, fX, fY⟩
      have o' := oB.kpM kk fun z => z.elim nxL1 nxL2
      have hg' := kk _ _ (fun z => z.elim ngL1 ngL2) hgB
      have kH : Kp M0 H H' := fun b o _ e => kk b o (fun z => z.elim (ne_of_none e nLH1) (ne_of_none e nLH2)) (k14.at e)
      walk_at "rd"
      intro H5 k5 o5
      walk_at "rd"
      refine ⟨sz (show 2 ≤ 100000 by decide), fun t nt => ?_⟩
      have kt : Kp M0 H5 (upd H5 t (.tup [.ref L1, .ref L2])) := (Kp.refl _ _).new nt
      refine q _ t (.ref L1) (.ref L2) ((kH.zero.trans k5).trans kt.zero) (by rw [← zg]; exact o5.kp kt) upd_same ?_ ?_
      · exact ⟨L1, xs, rfl, kt.at (k5 _ _ nxL1.symm eX), fun z => dM _ z nLH1, zX, fX⟩
      · exact ⟨L2, ys, rfl, kt.at (k5 _ _ nxL2.symm eY), fun z => dM _ z nLH2, zY, fY⟩
theorem r_second {H : Hp} {Q : VK} {E : XK} {M : Mu} {x : Addr} {st : FS} {g b u : V} {gn sw : Nat} {p s val : Int} (ef : st .first = some u) (hf : IL M H u sw p) (hv : 0 ≤ val ∧ val < p) (mx : M x) (dM : Dom M H) (o : Ob H x C st) (ep : st .p = some (.int p)) (es : st .steps = some (.int s)) (eg : st .gates = some g) (eb : st .below = some b)
    (hg : WL M H g gn p (2 ^ sw)) (hb : IL M H b (2 ^ sw) p) (hs : sw ≤ 3) (hp : Pm p) (q : ∀ H' t f r, Kp (M1 x) H H' → Ob H' x C (fset st .steps (.int (s + (gn : Int)))) → H' t = some (.tup [f, r]) → IL M H' f (2 ^ sw) p → IL M H' r (2 ^ sw) p → Q (.ref t) H') : spSecond C [.ref x, .int val] H Q E :=
  ⟨M, x, st, g, b, u, gn, sw, p, s, val, rfl, ef, hf, hv, mx, dM, o, ep, es, eg, eb, hg, hb, hs, hp, q⟩
end

/-! ## LK4d -/
section
variable {P : Program} {w : World} {K : PySem.W.Frag} {mg : Str → Option Value} {base : Heap} {C : Addr}
theorem fset_same {st : FS} {k : Fl} {v : V} (h : st k = some v) : fset st k v = st := by
  funext j
  show (if j = k then some v else st j) = st j
  by_cases e : j = k
  · rw [if_pos e, e, h]
  · rw [if_neg e]
/-! ### row_value -/
abbrev s_Answerer_row_value : Stmt := inClass (top 36) 6
abbrev N_Answerer_row_value : List Str := ["self", "number", "p", "total", "k", "columns", "column"]
abbrev P_Answerer_row_value : List Str := ["self", "number"]
theorem sc_Answerer_row_value : FnScope N_Answerer_row_value P_Answerer_row_value (defScope s_Answerer_row_value) := ⟨rfl, rfl, rfl, by decide +kernel, rfl, by decide +kernel, by decide +kernel⟩
def spRowValue (C : Addr) : Sp := fun vs H Q _ => ∃ (M : Mu) (x : Addr) (st : FS) (g nv cv : V) (gn sw m : Nat) (p s num : Int), vs = [.ref x, .int num] ∧ M x ∧ Dom M H ∧ Ob H x C st ∧ st .p = some (.int p) ∧ st .steps = some (.int s) ∧ st .gates = some g ∧ st .near = some nv ∧ st .columns = some cv ∧
  WL M H g gn p (2 ^ sw) ∧ IL M H nv (2 * m) p ∧ IL2 M H cv (2 ^ sw) (2 * m) p ∧ sw ≤ 3 ∧ m ≤ 100 ∧ (0 ≤ num ∧ num ≤ 60) ∧ Pm p ∧ ∀ H' i, Kp (M1 x) H H' → Ob H' x C (fset st .steps (.int (s + (m : Int) * ((gn : Int) + ((2 ^ sw : Nat) : Int))))) → Q (.int i) H'
theorem met_row_value (D : MetAt K C "row_value" "Answerer.row_value" s_Answerer_row_value P_Answerer_row_value) (T : Txt mg) (T4 : AT K C) (c_at_number : Cal P w K mg base 1 "at_number" spAtNumber []) (c_gates_sum : Cal P w K mg base 1 "gates_sum" spGatesSum []) : Met P w K mg base 2 C "row_value" (spRowValue C) [] := by
  refine met_of D sc_Answerer_row_value (fun vs H Q E h => ?_) (fun f cdv A outer s H vs Q E hr h => ?_)
  · obtain ⟨_, _, _, _, _, _, _, _, _, _, _, _, rfl, _⟩ := h; rfl
  · obtain ⟨M, x, st, g, nv, cv, gn, sw, m, p, s, num, rfl, mx, dM, o, ep, es, eg, en, ec, hg, ⟨ln, nl, rfl, hn, nn, zn, fn⟩, ⟨lc, cl, rfl, hc, nc, zc, fc⟩, hsw, hm, hnum, hp, q⟩ := h
    have hpb := hp.b
    have s2 := two_le hsw
    have xn := o.neL hn
    have xc := o.neL hc
    obtain ⟨lg, gs, rfl, hgl, ngl, zgl, fgl⟩ := id hg
    have xg := o.neL hgl
    refine ⟨_, (pss_cons (ps_set (i := 2) sc_Answerer_row_value.nd rfl (Or.inr rfl) (pe_fldK (K := K) (pv 0) rfl))
    (pss_cons (ps_set (i := 3) sc_Answerer_row_value.nd rfl (Or.inl rfl) pe_int)
    (pss_cons (ps_for PassesOwn.never rfl (pi_range1 (by rfl) T.range (pa_cons (pe_op op_fdiv (pe_callB (r := rLen K) call_lenS (by rfl) T.len PySem.boot_len (pa_cons (pe_fldK (K := K) (pv 0) rfl) pa_nil)) pe_int) pa_nil)) (pg_name (i := 4) sc_Answerer_row_value.nd rfl (Or.inr rfl))
      (pss_cons (ps_setLc (i := 5) (own := [("column", 6)]) (g := gName 6) (tt := tYes) rfl sc_Answerer_row_value.nd rfl rfl (sw_true rfl rfl rfl (by decide +kernel)) (pi_list (pe_fldK (K := K) (pv 0) rfl)) (blkOk_by (own := [("column", 6)]) (N := N_Answerer_row_value) (sc := defScope s_Answerer_row_value) (by decide +kernel)) (fun _ _ _ _ _ => (pg_name (i := 6) sc_Answerer_row_value.nd rfl (Or.inl rfl))) (fun _ _ _ _ _ => pts_nil) (fun _ _ _ _ _ => (pe_op op_mod (pe_c c_at_number hr (by decide) (by rfl) (pa_cons (pv 6) (pa_cons (pv 4) (pa_cons (pv 1) pa_nil)))) (pv 2))))
    (pss_cons (ps_aug (i := 3) sc_Answerer_row_value.nd rfl (Or.inl rfl) (pe_op op_mul (pe_op op_mod (pe_c c_at_number hr (by decide) (by rfl) (pa_cons (pe_fldK (K := K) (pv 0) rfl) (pa_cons (pv 4) (pa_cons (pv 1) pa_nil)))) (pv 2)) (pe_c c_gates_sum hr (by decide) (by rfl) (pa_cons (pe_fldK (K := K) (pv 0) rfl) (pa_cons (pv 5) (pa_cons (pv 2) pa_nil))))) ip_add)
    (pss_one (ps_fldaug (pv 0) (pe_op op_add (pe_callB (r := rLen K) call_lenS (by rfl) T.len PySem.boot_len (pa_cons (pe_fldK (K := K) (pv 0) rfl) pa_nil)) (pe_callB (r := rLen K) call_lenS (by rfl) T.len PySem.boot_len (pa_cons (pv 5) pa_nil))) in_add)))))
    (pss_one (ps_ret (pe_op op_mod (pv 3) (pv 2))))))), ?_⟩
    walk_at "rd"
    refine r_rng1 m (by omega) (by omega) ?_
    refine for_range (fun i σ H' => Kp (M1 x) H H' ∧ Ob H' x C (fset st .steps (.int (s + (i : Int) * ((gn : Int) + ((2 ^ sw : Nat) : Int))))) ∧ ∃ (t : Int) (v4 v5 v6 : Option V), σ = [some (.ref x), some (.int num), some (.int p), some (.int t), v4, v5, v6])
      ⟨Kp.refl _ _, ?_, _, _, _, _, rfl⟩ ?_ ?_
    · have e : s + ((0 : Nat) : Int) * ((gn : Int) + ((2 ^ sw : Nat) : Int)) = s := by rw [Int.natCast_zero, Int.zero_mul, Int.add_zero]
      rw [e, fset_same es]
      exact o
    · rintro i σ H' hi ⟨kk, o', t, v4, v5, v6, rfl⟩
      have dM' : Dom M H' := dM.kp1 kk o'.some
      have hc' := kk _ _ xc hc
      walk_at "rd"
      intro D nD
      refine lc_ints (M := M) (p := p) walk_list (by omega) dM' nD (fun H6 k6 => SqL.of (k6.at hc')) ?_ ?_
      · rintro j z H6 H7 C' hj k6 ⟨rfl, hy⟩ hC'
        obtain ⟨l7, x7, rfl, g7, _, z7, f7⟩ := IL.kp (IL.mono (all_at fc hy) kk fun b e => by rw [e]; exact mx) k6
        walk_at "rd"
        refine ⟨rfl, ?_⟩
        walk_at "rd"
        refine r_atNumber g7 f7 hp (by omega) (by omega) hnum fun i hi => ?_
        walk_at "rd"
        exact hC' _ _ (Kp.refl _ _) (isI_mod (by omega))
      · intro H3 k3 hI3
        have o3 := o'.kp k3
        have kk3 := kk.trans k3.zero
        have hn3 := kk3 _ _ xn hn
        have hg3 := WL.mono hg kk3 fun b e => by rw [e]; exact mx
        have hgl3 := kk3 _ _ xg hgl
        obtain ⟨l9, x9, e9, g9, n9, z9, f9⟩ := id hI3
        cases e9
        walk_at "rd"
        refine r_atNumber hn3 fn hp (by omega) (by omega) hnum fun i1 hi1 => ?_
        have e := emod_b (a := i1) (p := p) (by omega)
        walk_at "rd"
        refine r_gatesSum (hg3) (zc ▸ hI3) hp fun i2 hi2 => ?_
        walk_at "rd"
        intro H4 k4 o4
        walk_at "rd"
        refine ⟨kk3.trans k4, ?_, _, _, _, _, rfl⟩
        rw [fset_fset] at o4
        have ea : s + (i : Int) * ((gn : Int) + ((2 ^ sw : Nat) : Int)) + ((gs.length : Int) + (x9.length : Int)) = s + ((i + 1 : Nat) : Int) * ((gn : Int) + ((2 ^ sw : Nat) : Int)) := by
          rw [z9, zc, zgl, Int.natCast_add, Int.add_mul, Int.natCast_one, Int.one_mul, Int.add_assoc]
        rw [ea] at o4
        exact o4
    · rintro σ H' ⟨kk, o', t, v4, v5, v6, rfl⟩
      walk_at "rd"
      exact q _ _ kk o'
theorem r_rowValue {H : Hp} {Q : VK} {E : XK} {M : Mu} {x : Addr} {st : FS} {g nv cv : V} {gn sw m : Nat} {p s num : Int} (mx : M x) (dM : Dom M H) (o : Ob H x C st) (ep : st .p = some (.int p)) (es : st .steps = some (.int s)) (eg : st .gates = some g) (en : st .near = some nv) (ec : st .columns = some cv)
    (hg : WL M H g gn p (2 ^ sw)) (hn : IL M H nv (2 * m) p) (hc : IL2 M H cv (2 ^ sw) (2 * m) p) (hs : sw ≤ 3) (hm : m ≤ 100) (hnum : 0 ≤ num ∧ num ≤ 60) (hp : Pm p)
    (q : ∀ H' i, Kp (M1 x) H H' → Ob H' x C (fset st .steps (.int (s + (m : Int) * ((gn : Int) + ((2 ^ sw : Nat) : Int))))) → Q (.int i) H') : spRowValue C [.ref x, .int num] H Q E :=
  ⟨M, x, st, g, nv, cv, gn, sw, m, p, s, num, rfl, mx, dM, o, ep, es, eg, en, ec, hg, hn, hc, hs, hm, hnum, hp, q⟩
/-! ### column_value -/
abbrev s_Answerer_column_value : Stmt := inClass (top 36) 7
abbrev N_Answerer_column_value : List Str := ["self", "number", "p", "total", "k"]
abbrev P_Answerer_column_value : List Str := ["self", "number"]
theorem sc_Answerer_column_value : FnScope N_Answerer_column_value P_Answerer_column_value (defScope s_Answerer_column_value) := ⟨rfl, rfl, rfl, by decide +kernel, rfl, by decide +kernel, by decide +kernel⟩
def spColumnValue (C : Addr) : Sp := fun vs H Q _ => ∃ (M : Mu) (x : Addr) (st : FS) (fv rv lv : V) (m : Nat) (p s num sh : Int), vs = [.ref x, .int num] ∧ M x ∧ Dom M H ∧ Ob H x C st ∧ st .p = some (.int p) ∧ st .steps = some (.int s) ∧ st .factors = some fv ∧ st .rest = some rv ∧ st .left = some lv ∧ st .share = some (.int sh) ∧
  (0 ≤ sh ∧ sh < p) ∧ IL M H fv (2 * m) p ∧ IL M H rv (2 * m) p ∧ IL M H lv (2 * m) p ∧ m ≤ 100 ∧ (0 ≤ num ∧ num ≤ 60) ∧ Pm p ∧ ∀ H' i, Kp (M1 x) H H' → Ob H' x C (fset st .steps (.int (s + (m : Int)))) → Q (.int i) H'
theorem met_column_value (D : MetAt K C "column_value" "Answerer.column_value" s_Answerer_column_value P_Answerer_column_value) (T : Txt mg) (T4 : AT K C) (c_at_number : Cal P w K mg base 1 "at_number" spAtNumber []) : Met P w K mg base 2 C "column_value" (spColumnValue C) [] := by
  refine met_of D sc_Answerer_column_value (fun vs H Q E h => ?_) (fun f cdv A outer s H vs Q E hr h => ?_)
  · obtain ⟨_, _, _, _, _, _, _, _, _, _, _, rfl, _⟩ := h; rfl
  · obtain ⟨M, x, st, fv, rv, lv, m, p, s, num, sh, rfl, mx, dM, o, ep, es, ef, er, el, eh, hsh, ⟨l1, x1, rfl, h1, n1, z1, f1⟩, ⟨l2, x2, rfl, h2, n2, z2, f2⟩, ⟨l3, x3, rfl, h3, n3, z3, f3⟩, hm, hnum, hp, q⟩ := h
    have hpb := hp.b
    have y1 := o.neL h1
    have y2 := o.neL h2
    have y3 := o.neL h3
    refine ⟨_, (pss_cons (ps_set (i := 2) sc_Answerer_column_value.nd rfl (Or.inl rfl) (pe_fldK (K := K) (pv 0) rfl))
    (pss_cons (ps_set (i := 3) sc_Answerer_column_value.nd rfl (Or.inl rfl) pe_int)
    (pss_cons (ps_for PassesOwn.never rfl (pi_range1 (by rfl) T.range (pa_cons (pe_op op_fdiv (pe_callB (r := rLen K) call_lenS (by rfl) T.len PySem.boot_len (pa_cons (pe_fldK (K := K) (pv 0) rfl) pa_nil)) pe_int) pa_nil)) (pg_name (i := 4) sc_Answerer_column_value.nd rfl (Or.inl rfl))
      (pss_cons (ps_aug (i := 3) sc_Answerer_column_value.nd rfl (Or.inl rfl) (pe_op op_mul (pe_c c_at_number hr (by decide) (by rfl) (pa_cons (pe_fldK (K := K) (pv 0) rfl) (pa_cons (pv 4) (pa_cons (pv 1) pa_nil)))) (pe_c c_at_number hr (by decide) (by rfl) (pa_cons (pe_fldK (K := K) (pv 0) rfl) (pa_cons (pv 4) (pa_cons (pv 1) pa_nil))))) ip_add)
    (pss_cons (ps_aug (i := 3) sc_Answerer_column_value.nd rfl (Or.inl rfl) (pe_c c_at_number hr (by decide) (by rfl) (pa_cons (pe_fldK (K := K) (pv 0) rfl) (pa_cons (pv 4) (pa_cons (pv 1) pa_nil)))) ip_add)
    (pss_one (ps_fldaug (pv 0) pe_int in_add)))))
    (pss_one (ps_ret (pe_op op_mod (pe_op op_mul (pv 3) (pe_fldK (K := K) (pv 0) rfl)) (pv 2))))))), ?_⟩
    walk_at "rd"
    refine r_rng1 m (by omega) (by omega) ?_
    refine for_range (fun i σ H' => Kp (M1 x) H H' ∧ Ob H' x C (fset st .steps (.int (s + (i : Int)))) ∧ ∃ (t : Int) (v4 : Option V), σ = [some (.ref x), some (.int num), some (.int p), some (.int t), v4])
      ⟨Kp.refl _ _, ?_, _, _, rfl⟩ ?_ ?_
    · have e : s + ((0 : Nat) : Int) = s := by omega
      rw [e, fset_same es]
      exact o
    · rintro i σ H' hi ⟨kk, o', t, v4, rfl⟩
      have g1 := kk _ _ y1 h1
      have g2 := kk _ _ y2 h2
      have g3 := kk _ _ y3 h3
      walk_at "rd"
      refine r_atNumber g1 f1 hp (by omega) (by omega) hnum fun i1 hi1 => ?_
      walk_at "rd"
      refine r_atNumber g3 f3 hp (by omega) (by omega) hnum fun i2 hi2 => ?_
      walk_at "rd"
      refine r_atNumber g2 f2 hp (by omega) (by omega) hnum fun i3 hi3 => ?_
      walk_at "rd"
      intro H4 k4 o4
      walk_at "rd"
      refine ⟨kk.trans k4, ?_, _, _, rfl⟩
      rw [fset_fset] at o4
      have ea : s + (i : Int) + 1 = s + ((i + 1 : Nat) : Int) := by omega
      rw [ea] at o4
      exact o4
    · rintro σ H' ⟨kk, o', t, v4, rfl⟩
      walk_at "rd"
      exact q _ _ kk o'
theorem r_columnValue {H : Hp} {Q : VK} {E : XK} {M : Mu} {x : Addr} {st : FS} {fv rv lv : V} {m : Nat} {p s num sh : Int} (mx : M x) (dM : Dom M H) (o : Ob H x C st) (ep : st .p = some (.int p)) (es : st .steps = some (.int s)) (ef : st .factors = some fv) (er : st .rest = some rv) (el : st .left = some lv) (eh : st .share = some (.int sh))
    (hsh : 0 ≤ sh ∧ sh < p) (h1 : IL M H fv (2 * m) p) (h2 : IL M H rv (2 * m) p) (h3 : IL M H lv (2 * m) p) (hm : m ≤ 100) (hnum : 0 ≤ num ∧ num ≤ 60) (hp : Pm p)
    (q : ∀ H' i, Kp (M1 x) H H' → Ob H' x C (fset st .steps (.int (s + (m : Int)))) → Q (.int i) H') : spColumnValue C [.ref x, .int num] H Q E :=
  ⟨M, x, st, fv, rv, lv, m, p, s, num, sh, rfl, mx, dM, o, ep, es, ef, er, el, eh, hsh, h1, h2, h3, hm, hnum, hp, q⟩
end

/-! ## LK4e -/
/-! ### the answerer's state -/
structure Par where
  M : Mu
  x : Addr
  c : V
  tv : V
  n : Nat
  p : Int
  ws : List Nat
  d : Nat
/-- between the layers -/
structure SB (C : Addr) (A : Par) (H : Hp) (st : FS) (s : Int) : Prop where
  mx : A.M A.x
  dm : Dom A.M H
  ob : Ob H A.x C st
  ec : st .circuit = some A.c
  et : st .tables = some A.tv
  eb : st .bits = some (.int (A.n : Int))
  ep : st .p = some (.int A.p)
  es : st .steps = some (.int s)
  hc : Circ A.M H A.c A.p A.ws
  ht : LT A.M H A.tv (A.d + 1) (fun i => 2 ^ (A.n + wd A.ws i)) A.p
  hp : Pm A.p
  hn : A.n ≤ 3
  hd : A.ws.length = A.d + 1
theorem SB.small {C : Addr} {A : Par} {H : Hp} {st : FS} {s : Int} (b : SB C A H st s) (i : Nat) : wd A.ws i ≤ 3 := let ⟨_, _, _, _, hc⟩ := b.hc; hc.small i
theorem SB.step {C : Addr} {A : Par} {H H' : Hp} {st st' : FS} {s s' : Int} (b : SB C A H st s) (k : Kp (M1 A.x) H H') (o : Ob H' A.x C st') (e1 : st' .circuit = st .circuit) (e2 : st' .tables = st .tables) (e3 : st' .bits = st .bits) (e4 : st' .p = st .p) (es : st' .steps = some (.int s')) : SB C A H' st' s' :=
  have hN : ∀ y, y = A.x → A.M y := fun y z => z ▸ b.mx
  ⟨b.mx, b.dm.kp1 k o.some, o, e1.trans b.ec, e2.trans b.et, e3.trans b.eb, e4.trans b.ep, es, b.hc.mono k hN, b.ht.mono k hN, b.hp, b.hn, b.hd⟩
/-- within layer i, round r: what a turn does not set -/
structure CS (C : Addr) (A : Par) (H : Hp) (st : FS) (s : Int) (i r : Nat) : Prop where
  sb : SB C A H st s
  hi : i < A.d
  er : st .round = some (.int (r : Int))
  ew : st .wide = some (.int (wd A.ws (i + 1) : Int))
  gt : ∃ g, st .gates = some g ∧ WL A.M H g (2 ^ wd A.ws i) A.p (2 ^ wd A.ws (i + 1))
  nr : ∃ v, st .near = some v ∧ IL A.M H v (2 ^ (A.n - r)) A.p
  cl : ∃ v, st .columns = some v ∧ IL2 A.M H v (2 ^ wd A.ws (i + 1)) (2 ^ (A.n - r)) A.p
  fi : ∃ v, st .first = some v ∧ IL A.M H v (min (r - A.n) (wd A.ws (i + 1))) A.p
  se : ∃ v, st .second = some v ∧ IL A.M H v (min (r - A.n - wd A.ws (i + 1)) (wd A.ws (i + 1))) A.p
/-- what it sets, the tables of size 2 ^ e -/
structure Col (C : Addr) (A : Par) (H : Hp) (st : FS) (i e : Nat) : Prop where
  sh : ∃ q : Int, st .share = some (.int q) ∧ 0 ≤ q ∧ q < A.p
  bl : ∃ v, st .below = some v ∧ IL A.M H v (2 ^ wd A.ws (i + 1)) A.p
  fa : ∃ v, st .factors = some v ∧ IL A.M H v (2 ^ e) A.p
  re : ∃ v, st .rest = some v ∧ IL A.M H v (2 ^ e) A.p
  le : ∃ v, st .left = some v ∧ IL A.M H v (2 ^ e) A.p
def szp (n w r : Nat) : Nat := if r ≤ n + w then w - (r - n) else w - (r - n - w)
def szr (n w r : Nat) : Nat := if r < n + w then w - (r - n) else w - (r - n - w)
/-- the steps that a turn counts -/
def tcost (n w : Nat) (g : Int) (r : Nat) : Int := (if r = n then g else 0) + (if r = n + w then g else 0)
/-- ahead of a turn; behind it -/
structure TS (C : Addr) (A : Par) (H : Hp) (st : FS) (s : Int) (i r : Nat) : Prop where
  cs : CS C A H st s i r
  col : A.n < r → Col C A H st i (szp A.n (wd A.ws (i + 1)) r)
structure LS (C : Addr) (A : Par) (H : Hp) (st : FS) (s : Int) (i r : Nat) : Prop where
  cs : CS C A H st s i r
  col : A.n ≤ r → Col C A H st i (szr A.n (wd A.ws (i + 1)) r)
/-- what CS speaks of -/
def csF : Fl → Bool
  | .share => false | .below => false | .factors => false | .rest => false | .left => false | .steps => false | _ => true
theorem CS.keep {C : Addr} {A : Par} {H H' : Hp} {st st' : FS} {s s' : Int} {i r : Nat} (b : CS C A H st s i r) (k : Kp (M1 A.x) H H') (o : Ob H' A.x C st') (e : ∀ f, csF f = true → st' f = st f) (es : st' .steps = some (.int s')) : CS C A H' st' s' i r := by
  have hN : ∀ y, y = A.x → A.M y := fun y z => z ▸ b.sb.mx
  refine ⟨b.sb.step k o (e _ rfl) (e _ rfl) (e _ rfl) (e _ rfl) es, b.hi, (e _ rfl).trans b.er, (e _ rfl).trans b.ew, ?_, ?_, ?_, ?_, ?_⟩
  · obtain ⟨v, h1, h2⟩ := b.gt; exact ⟨v, (e _ rfl).trans h1, h2.mono k hN⟩
  · obtain ⟨v, h1, h2⟩ := b.nr; exact ⟨v, (e _ rfl).trans h1, IL.mono h2 k hN⟩
  · obtain ⟨v, h1, h2⟩ := b.cl; exact ⟨v, (e _ rfl).trans h1, IL2.mono h2 k hN⟩
  · obtain ⟨v, h1, h2⟩ := b.fi; exact ⟨v, (e _ rfl).trans h1, IL.mono h2 k hN⟩
  · obtain ⟨v, h1, h2⟩ := b.se; exact ⟨v, (e _ rfl).trans h1, IL.mono h2 k hN⟩
section
variable {P : Program} {w : World} {K : PySem.W.Frag} {mg : Str → Option Value} {base : Heap} {C : Addr}
/-! ### turn -/
abbrev s_Answerer_turn : Stmt := inClass (top 36) 3
abbrev N_Answerer_turn : List Str := ["self", "column"]
abbrev P_Answerer_turn : List Str := ["self"]
theorem sc_Answerer_turn : FnScope N_Answerer_turn P_Answerer_turn (defScope s_Answerer_turn) := ⟨rfl, rfl, rfl, by decide +kernel, rfl, by decide +kernel, by decide +kernel⟩
def spTurn (C : Addr) : Sp := fun vs H Q _ => ∃ (A : Par) (st : FS) (s : Int) (i r : Nat), vs = [.ref A.x] ∧ TS C A H st s i r ∧ ∀ H' st', Kp (M1 A.x) H H' → LS C A H' st' (s + tcost A.n (wd A.ws (i + 1)) ((2 ^ wd A.ws i : Nat) : Int) r) i r → Q .non H'
theorem met_turn (D : MetAt K C "turn" "Answerer.turn" s_Answerer_turn P_Answerer_turn) (T : Txt mg) (T4 : AT K C) (c_first_tables : Met P w K mg base 1 C "first_tables" (spFirst C) []) (c_second_tables : Met P w K mg base 2 C "second_tables" (spSecond C) []) : Met P w K mg base 3 C "turn" (spTurn C) [] := by
  refine met_of D sc_Answerer_turn (fun vs H Q E h => ?_) (fun f cdv B outer s0 H vs Q E hr h => ?_)
  · obtain ⟨_, _, _, _, _, rfl, _⟩ := h; rfl
  · obtain ⟨A, st, s, i, r, rfl, ⟨cs, col⟩, q⟩ := h
    have o := cs.sb.ob
    have er := cs.er
    have eb := cs.sb.eb
    have ew := cs.ew
    have hnn := cs.sb.hn
    have hpb := cs.sb.hp.b
    have hsw := cs.sb.small (i + 1)
    refine ⟨_, (pss_cons (ps_if (pt_cmpR op_eq (pe_fldK (K := K) (pv 0) rfl) (pe_fldK (K := K) (pv 0) rfl) (nomark _))
      (pss_cons (ps_fld (pv 0) (pe_ix (r := rIxL K) ix_list (pe_fldK (K := K) (pv 0) rfl) pe_int (fun _ _ => rfl)) rfl)
    (pss_cons (ps_fld (pv 0) (pe_lc (own := [("column", 1)]) (g := gName 1) (tt := tYes) rfl sc_Answerer_turn.nd (pi_list (pe_fldK (K := K) (pv 0) rfl)) (blkOk_by (own := [("column", 1)]) (N := N_Answerer_turn) (sc := defScope s_Answerer_turn) (by decide +kernel)) (fun _ _ _ _ _ => (pg_name (i := 1) sc_Answerer_turn.nd rfl (Or.inl rfl))) (fun _ _ _ _ _ => pts_nil) (fun _ _ _ _ _ => (pe_ix (r := rIxL K) ix_list (pv 1) pe_int (fun _ _ => rfl)))) rfl)
    (pss_cons (ps_asg (pe_mt0 c_first_tables hr (by decide) (pv 0)) (pg_tup rfl (pgs_cons (pg_fld (pv 0)) (pgs_cons (pg_fld (pv 0)) pgs_nil))))
    (pss_one (ps_fld (pv 0) (pe_callTy (r := rList K) call_listS (by rfl) T.list (by decide +kernel) (pa_cons (pe_fldK (K := K) (pv 0) rfl) pa_nil)) rfl)))))
      pss_nil)
    (pss_one (ps_if (pt_cmpR op_eq (pe_fldK (K := K) (pv 0) rfl) (pe_op op_add (pe_fldK (K := K) (pv 0) rfl) (pe_fldK (K := K) (pv 0) rfl)) (nomark _))
      (pss_cons (ps_asg (pe_mt c_second_tables hr (by decide) (pv 0) (pa_cons (pe_ix (r := rIxL K) ix_list (pe_fldK (K := K) (pv 0) rfl) pe_int (fun _ _ => rfl)) pa_nil)) (pg_tup rfl (pgs_cons (pg_fld (pv 0)) (pgs_cons (pg_fld (pv 0)) pgs_nil))))
    (pss_one (ps_fld (pv 0) (pe_callTy (r := rList K) call_listS (by rfl) T.list (by decide +kernel) (pa_cons (pe_fldK (K := K) (pv 0) rfl) pa_nil)) rfl)))
      pss_nil))), ?_⟩
    rcases Nat.lt_trichotomy r A.n with hrn | hrn | hrn
    · walk_at "rd"
      have e1 : tcost A.n (wd A.ws (i + 1)) ((2 ^ wd A.ws i : Nat) : Int) r = 0 := by
        unfold tcost
        rw [if_neg (by omega), if_neg (by omega)]
        rfl
      rw [e1] at q
      exact q H st (Kp.refl _ _) ⟨by rw [Int.add_zero]; exact cs, fun z => by omega⟩
    · have mx := cs.sb.mx
      have hN : ∀ b, b = A.x → A.M b := fun b z => z ▸ mx
      have dm := cs.sb.dm
      obtain ⟨nv, env, ln, nl, rfl, hn, nn, zn, fn⟩ := cs.nr
      obtain ⟨cv, ecv, lc, cls, rfl, hc, nc, zc, fc⟩ := cs.cl
      obtain ⟨g, eg, hg⟩ := cs.gt
      have z0 : 2 ^ (A.n - r) = 1 := by rw [show A.n - r = 0 by omega]
      have s3 := two_le hsw
      obtain ⟨v1, hv1, hv10⟩ := IsI.get fn (i := 0) (by omega) (by omega)
      walk_at "rd"
      walk_at "st"
      intro H1 k1 o1
      have hc1 := k1 _ _ (o.neL hc) hc
      have dm1 := dm.kp1 k1 o1.some
      walk_at "rd"
      intro D nD
      refine lc_ints (M := A.M) (p := A.p) walk_list (by omega) dm1 nD (fun H6 k6 => SqL.of (k6.at hc1)) ?_ ?_
      · rintro j z H6 H7 C' hj k6 ⟨rfl, hy⟩ hC'
        obtain ⟨l7, x7, rfl, g7, _, z7, f7⟩ := IL.kp (IL.mono (all_at fc hy) k1 hN) k6
        obtain ⟨v7, hv7, hv70⟩ := IsI.get f7 (i := 0) (by omega) (by omega)
        walk_at "rd"
        refine ⟨rfl, ?_⟩
        walk_at "rd"
        exact hC' _ _ (Kp.refl _ _) ⟨_, rfl, hv70⟩
      intro H3 k3 hI3
      rw [zc] at hI3
      have o3 := o1.kp k3
      have k03 := k1.trans k3.zero
      walk_at "rd"
      walk_at "st"
      intro H4 k4 o4
      have k04 := k03.trans k4
      have dm4 := dm.kp1 k04 o4.some
      have hI4 := IL.mono hI3 k4 hN
      walk_at "rd"
      refine r_methV o4 (by decide +kernel) ?_
      walk_at "rd"
      refine r_first (b := .ref D) (sw := wd A.ws (i + 1)) mx dm4 o4 cs.sb.ep cs.sb.es eg rfl (hg.mono k04 hN) hI4 hsw cs.sb.hp fun H5 t vf vr k5 o5 ht hvf hvr => ?_
      walk_at "rd"
      walk_at "st"
      intro H6 k6 o6
      walk_at "rd"
      walk_at "st"
      intro H7 k7 o7
      obtain ⟨_, bs4, e4, hD4, nD4, zD4, fD4⟩ := id hI4
      cases e4
      have nDx := o4.neL hD4
      have hD7 := ((k5.trans k6).trans k7) _ _ nDx hD4
      walk_at "rd"
      intro p8 n8
      have k8 : Kp M0 H7 (upd H7 p8 (.lst bs4)) := (Kp.refl _ _).new n8
      have e8 : upd H7 p8 (.lst bs4) p8 = some (.lst bs4) := upd_same
      generalize (upd H7 p8 (.lst bs4)) = H8 at *
      have o8 := o7.kp k8
      walk_at "rd"
      walk_at "st"
      intro H9 k9 o9
      have k59 : Kp (M1 A.x) H5 H9 := (k6.trans k7).trans (k8.zero.trans k9)
      have k49 := k5.trans k59
      have k09 := k04.trans k49
      have n8M : ¬ A.M p8 := fun z => (dm.kp1 (k04.trans ((k5.trans k6).trans k7)) o7.some) _ z n8
      have n8x : p8 ≠ A.x := fun z => n8M (z ▸ mx)
      generalize hst9 : (fset (fset (fset (fset (fset (fset st Fl.share (V.int v1)) Fl.below (V.ref D)) Fl.steps (V.int (s + ((2 ^ wd A.ws i : Nat) : Int)))) Fl.factors vf) Fl.rest vr) Fl.left (V.ref p8)) = st9 at o9
      have cs9 : CS C A H9 st9 (s + ((2 ^ wd A.ws i : Nat) : Int)) i r := cs.keep k09 o9 (fun f h => by rw [← hst9]; cases f <;> first | rfl | cases h) (by rw [← hst9]; rfl)
      have cl9 : Col C A H9 st9 i (wd A.ws (i + 1)) := by
        refine ⟨⟨v1, by rw [← hst9]; rfl, by omega⟩, ⟨.ref D, by rw [← hst9]; rfl, IL.mono hI4 k49 hN⟩, ⟨vf, by rw [← hst9]; rfl, IL.mono hvf k59 hN⟩, ⟨vr, by rw [← hst9]; rfl, IL.mono hvr k59 hN⟩, ⟨.ref p8, by rw [← hst9]; rfl, p8, bs4, rfl, k9 _ _ n8x e8, n8M, zD4, fD4⟩⟩
      have er9 := cs9.er
      have eb9 := cs9.sb.eb
      have ew9 := cs9.ew
      by_cases hs0 : wd A.ws (i + 1) = 0
      · obtain ⟨e, he⟩ : ∃ e, wd A.ws (i + 1) = e := ⟨_, rfl⟩
        have cl9 : Col C A H9 st9 i e := he ▸ cl9
        have o1 := cs9.sb.ob
        have mx := cs9.sb.mx
        have er1 := cs9.er
        have eb1 := cs9.sb.eb
        have ew1 := cs9.ew
        obtain ⟨g1, eg1, hg1⟩ := cs9.gt
        obtain ⟨f1, ef1, hf1⟩ := cs9.fi
        obtain ⟨b1, ebl1, hbl1⟩ := cl9.bl
        obtain ⟨l1, el1, ll1, lxs1, rfl, hl1, nl1, zl1, fl1⟩ := cl9.le
        have pe : 0 < 2 ^ e := two_pos
        obtain ⟨v1, hv1, hv10⟩ := IsI.get fl1 (i := 0) (by omega) (by omega)
        have hff := hf1
        rw [show min (r - A.n) (wd A.ws (i + 1)) = wd A.ws (i + 1) by omega] at hff
        walk_at "rd"
        refine r_methV o1 (by decide +kernel) ?_
        walk_at "rd"
        refine r_second ef1 hff (by omega) mx cs9.sb.dm o1 cs9.sb.ep cs9.sb.es eg1 ebl1 hg1 hbl1 (cs9.sb.small _) cs9.sb.hp fun J2 t vf vr j2 u2 ht hvf hvr => ?_
        walk_at "rd"
        walk_at "st"
        intro J3 j3 u3
        walk_at "rd"
        walk_at "st"
        intro J4 j4 u4
        obtain ⟨lb1, bxs1, rfl, hb1, nb1, zb1, fb1⟩ := id hbl1
        have nbx := o1.neL hb1
        have hb4 := ((j2.trans j3).trans j4) _ _ nbx hb1
        walk_at "rd"
        intro p5 n5
        have j5 : Kp M0 J4 (upd J4 p5 (.lst bxs1)) := (Kp.refl _ _).new n5
        have e5 : upd J4 p5 (.lst bxs1) p5 = some (.lst bxs1) := upd_same
        generalize (upd J4 p5 (.lst bxs1)) = J5 at *
        have u5 := u4.kp j5
        walk_at "rd"
        walk_at "st"
        intro J6 j6 u6
        have k26 : Kp (M1 A.x) J2 J6 := (j3.trans j4).trans (j5.zero.trans j6)
        have k16 : Kp (M1 A.x) H9 J6 := j2.trans k26
        have n5M : ¬ A.M p5 := fun z => ((cs9.sb.dm.kp1 j2 u2.some).kp1 (j3.trans j4) u4.some) _ z n5
        have n5x : p5 ≠ A.x := fun z => n5M (z ▸ mx)
        have hN : ∀ b, b = A.x → A.M b := fun b z => z ▸ mx
        walk_at "rd"
        have cl6 : Col C A J6 (fset (fset (fset (fset st9 .steps (.int ((s + ((2 ^ wd A.ws i : Nat) : Int)) + ((2 ^ wd A.ws i : Nat) : Int)))) .factors vf) .rest vr) .left (.ref p5)) i (wd A.ws (i + 1)) := by
          refine ⟨cl9.sh, ?_, ⟨vf, rfl, IL.mono hvf k26 hN⟩, ⟨vr, rfl, IL.mono hvr k26 hN⟩, ⟨.ref p5, rfl, p5, bxs1, rfl, j6 _ _ n5x e5, n5M, zb1, fb1⟩⟩
          obtain ⟨v, h1, h2⟩ := cl9.bl
          exact ⟨v, h1, IL.mono h2 k16 hN⟩
        have cs6 : CS C A J6 (fset (fset (fset (fset st9 .steps (.int ((s + ((2 ^ wd A.ws i : Nat) : Int)) + ((2 ^ wd A.ws i : Nat) : Int)))) .factors vf) .rest vr) .left (.ref p5)) ((s + ((2 ^ wd A.ws i : Nat) : Int)) + ((2 ^ wd A.ws i : Nat) : Int)) i r :=
          cs9.keep k16 u6 (fun f h => by cases f <;> first | rfl | cases h) rfl
        have e2 : szr A.n (wd A.ws (i + 1)) r = wd A.ws (i + 1) := by
          unfold szr
          split <;> omega
        have e1 : tcost A.n (wd A.ws (i + 1)) ((2 ^ wd A.ws i : Nat) : Int) r = ((2 ^ wd A.ws i : Nat) : Int) + ((2 ^ wd A.ws i : Nat) : Int) := by
          unfold tcost
          rw [if_pos hrn, if_pos (by omega)]
        rw [e1, ← Int.add_assoc] at q
        exact q J6 _ (k09.trans k16) ⟨cs6, fun _ => by rw [e2]; exact cl6⟩
      · have e1 : tcost A.n (wd A.ws (i + 1)) ((2 ^ wd A.ws i : Nat) : Int) r = ((2 ^ wd A.ws i : Nat) : Int) := by
          unfold tcost
          rw [if_pos hrn, if_neg (by omega), Int.add_zero]
        rw [e1] at q
        have e2 : szr A.n (wd A.ws (i + 1)) r = wd A.ws (i + 1) := by
          unfold szr
          split <;> omega
        walk_at "rd"
        exact q H9 _ k09 ⟨cs9, fun _ => by rw [e2]; exact cl9⟩
    · have cl := col hrn
      by_cases hsr : r = A.n + wd A.ws (i + 1)
      · generalize he : szp A.n (wd A.ws (i + 1)) r = e at cl
        have o1 := cs.sb.ob
        have mx := cs.sb.mx
        have er1 := cs.er
        have eb1 := cs.sb.eb
        have ew1 := cs.ew
        obtain ⟨g1, eg1, hg1⟩ := cs.gt
        obtain ⟨f1, ef1, hf1⟩ := cs.fi
        obtain ⟨b1, ebl1, hbl1⟩ := cl.bl
        obtain ⟨l1, el1, ll1, lxs1, rfl, hl1, nl1, zl1, fl1⟩ := cl.le
        have pe : 0 < 2 ^ e := two_pos
        obtain ⟨v1, hv1, hv10⟩ := IsI.get fl1 (i := 0) (by omega) (by omega)
        have hff := hf1
        rw [show min (r - A.n) (wd A.ws (i + 1)) = wd A.ws (i + 1) by omega] at hff
        walk_at "rd"
        refine r_methV o1 (by decide +kernel) ?_
        walk_at "rd"
        refine r_second ef1 hff (by omega) mx cs.sb.dm o1 cs.sb.ep cs.sb.es eg1 ebl1 hg1 hbl1 (cs.sb.small _) cs.sb.hp fun H2 t vf vr k2 o2 ht hvf hvr => ?_
        walk_at "rd"
        walk_at "st"
        intro H3 k3 o3
        walk_at "rd"
        walk_at "st"
        intro H4 k4 o4
        obtain ⟨lb1, bxs1, rfl, hb1, nb1, zb1, fb1⟩ := id hbl1
        have nbx := o1.neL hb1
        have hb4 := ((k2.trans k3).trans k4) _ _ nbx hb1
        walk_at "rd"
        intro p5 n5
        have k5 : Kp M0 H4 (upd H4 p5 (.lst bxs1)) := (Kp.refl _ _).new n5
        have e5 : upd H4 p5 (.lst bxs1) p5 = some (.lst bxs1) := upd_same
        generalize (upd H4 p5 (.lst bxs1)) = H5 at *
        have o5 := o4.kp k5
        walk_at "rd"
        walk_at "st"
        intro H6 k6 o6
        have k26 : Kp (M1 A.x) H2 H6 := (k3.trans k4).trans (k5.zero.trans k6)
        have k16 : Kp (M1 A.x) H H6 := k2.trans k26
        have n5M : ¬ A.M p5 := fun z => ((cs.sb.dm.kp1 k2 o2.some).kp1 (k3.trans k4) o4.some) _ z n5
        have n5x : p5 ≠ A.x := fun z => n5M (z ▸ mx)
        have hN : ∀ b, b = A.x → A.M b := fun b z => z ▸ mx
        walk_at "rd"
        have cl6 : Col C A H6 (fset (fset (fset (fset st .steps (.int (s + ((2 ^ wd A.ws i : Nat) : Int)))) .factors vf) .rest vr) .left (.ref p5)) i (wd A.ws (i + 1)) := by
          refine ⟨cl.sh, ?_, ⟨vf, rfl, IL.mono hvf k26 hN⟩, ⟨vr, rfl, IL.mono hvr k26 hN⟩, ⟨.ref p5, rfl, p5, bxs1, rfl, k6 _ _ n5x e5, n5M, zb1, fb1⟩⟩
          obtain ⟨v, h1, h2⟩ := cl.bl
          exact ⟨v, h1, IL.mono h2 k16 hN⟩
        have cs6 : CS C A H6 (fset (fset (fset (fset st .steps (.int (s + ((2 ^ wd A.ws i : Nat) : Int)))) .factors vf) .rest vr) .left (.ref p5)) (s + ((2 ^ wd A.ws i : Nat) : Int)) i r :=
          cs.keep k16 o6 (fun f h => by cases f <;> first | rfl | cases h) rfl
        have e2 : szr A.n (wd A.ws (i + 1)) r = wd A.ws (i + 1) := by
          unfold szr
          split <;> omega
        have e1 : tcost A.n (wd A.ws (i + 1)) ((2 ^ wd A.ws i : Nat) : Int) r = ((2 ^ wd A.ws i : Nat) : Int) := by
          unfold tcost
          rw [if_neg (by omega), if_pos hsr, Int.zero_add]
        rw [e1] at q
        exact q H6 _ k16 ⟨cs6, fun _ => by rw [e2]; exact cl6⟩
      · walk_at "rd"
        have e1 : tcost A.n (wd A.ws (i + 1)) ((2 ^ wd A.ws i : Nat) : Int) r = 0 := by
          unfold tcost
          rw [if_neg (by omega), if_neg (by omega)]
          rfl
        have e2 : szr A.n (wd A.ws (i + 1)) r = szp A.n (wd A.ws (i + 1)) r := by
          unfold szr szp
          split <;> split <;> omega
        rw [e1] at q
        exact q H st (Kp.refl _ _) ⟨by rw [Int.add_zero]; exact cs, fun z => by rw [e2]; exact cl⟩
end

/-! ## LK4f -/
/-! ### slices -/
theorem cut_len (xs : List V) (lo hi : Option Int) : (cutV xs lo hi).length = min (HT.sIx xs.length xs.length hi - HT.sIx xs.length 0 lo) (xs.length - HT.sIx xs.length 0 lo) := by
  unfold cutV
  rw [List.length_take, List.length_drop]
theorem cut_from (xs : List V) (n : Nat) : (cutV xs (some (n : Int)) none).length = xs.length - n := by
  rw [cut_len, HT.sIx_none, HT.sIx_nat]
  omega
theorem cut_to (xs : List V) (n : Nat) : (cutV xs none (some (n : Int))).length = min n xs.length := by
  rw [cut_len, HT.sIx_none, HT.sIx_nat]
  omega
theorem cut_mid (xs : List V) (a b : Nat) : (cutV xs (some (a : Int)) (some (b : Int))).length = min b xs.length - min a xs.length := by
  rw [cut_len, HT.sIx_nat, HT.sIx_nat]
  omega
theorem cut_last (xs : List V) : (cutV xs none (some (-1))).length = xs.length - 1 := by
  have e : HT.sIx xs.length xs.length (some (-1)) = xs.length - 1 := by
    show (if (-1 : Int) < 0 then ((-1 : Int) + (xs.length : Int)).toNat else min (-1 : Int).toNat xs.length) = xs.length - 1
    rw [if_pos (by decide)]
    omega
  rw [cut_len, HT.sIx_none, e]
  omega
theorem cut_key {a b c : Nat} (h : b + a ≤ c) : min (b + a) c - min b c = a := by omega
theorem il_new {M : Mu} {H : Hp} {a : Addr} {xs : List V} {n : Nat} {p : Int} (d : Dom M H) (na : H a = none) (hn : xs.length = n) (hx : ∀ x ∈ xs, IsI 0 p x) : IL M (upd H a (.lst xs)) (.ref a) n p := ⟨a, xs, rfl, upd_same, d.fresh na, hn, hx⟩
theorem Circ.le {M M' : Mu} {H : Hp} {c : V} {p : Int} {ws : List Nat} (h : Circ M H c p ws) (hM : ∀ b, M' b → M b) : Circ M' H c p ws := by
  obtain ⟨a, wl, ll, ls, h⟩ := h
  refine ⟨a, wl, ll, ls, h.ec, h.ha, fun z => h.na (hM _ z), h.hw, fun z => h.nw (hM _ z), h.hl, fun z => h.nl (hM _ z), h.len, h.pos, h.le, h.small, fun i v e => ?_⟩
  obtain ⟨l, xs, e1, h1, n1, z1, f1⟩ := h.layers i v e
  refine ⟨l, xs, e1, h1, fun z => n1 (hM _ z), z1, fun x hx => ?_⟩
  obtain ⟨a, e, na, r⟩ := f1 x hx
  exact ⟨a, e, fun z => na (hM _ z), r⟩
theorem Circ.z {M : Mu} {H : Hp} {c : V} {p : Int} {ws : List Nat} (h : Circ M H c p ws) : Circ M0 H c p ws := h.le fun _ z => z.elim
section
variable {P : Program} {w : World} {K : PySem.W.Frag} {mg : Str → Option Value} {base : Heap} {C : Addr}
/-! ### begin -/
abbrev s_Answerer_begin : Stmt := inClass (top 36) 2
abbrev N_Answerer_begin : List Str := ["self", "layer", "point", "p", "many", "weights", "below", "k"]
abbrev P_Answerer_begin : List Str := ["self", "layer", "point"]
theorem sc_Answerer_begin : FnScope N_Answerer_begin P_Answerer_begin (defScope s_Answerer_begin) := ⟨rfl, rfl, rfl, by decide +kernel, rfl, by decide +kernel, by decide +kernel⟩
def spBegin (C : Addr) : Sp := fun vs H Q _ => ∃ (A : Par) (st : FS) (s : Int) (i : Nat) (pt : V), vs = [.ref A.x, .int (i : Int), pt] ∧ SB C A H st s ∧ i < A.d ∧ IL A.M H pt (A.n + wd A.ws i) A.p ∧
  ∀ H' st', Kp (M1 A.x) H H' → LS C A H' st' (s + tcost A.n (wd A.ws (i + 1)) ((2 ^ wd A.ws i : Nat) : Int) 0) i 0 → Q .non H'
theorem met_begin (D : MetAt K C "begin" "Answerer.begin" s_Answerer_begin P_Answerer_begin) (T : Txt mg) (T4 : AT K C) (c_point_table : Cal P w K mg base 1 "point_table" spPointTable []) (c_width : Cal P w K mg base 1 "width" spWidth [])
    (c_weighted_gates : Cal P w K mg base 1 "weighted_gates" spWeightedGates []) (c_turn : Met P w K mg base 3 C "turn" (spTurn C) []) : Met P w K mg base 4 C "begin" (spBegin C) [] := by
  refine met_of D sc_Answerer_begin (fun vs H Q E h => ?_) (fun f cdv B outer s0 H vs Q E hr h => ?_)
  · obtain ⟨_, _, _, _, _, rfl, _⟩ := h; rfl
  · obtain ⟨A, st, s, i, pt, rfl, sb, hi, ⟨lp, ps, rfl, hpl, npl, zp, fp⟩, q⟩ := h
    have o := sb.ob
    have eb := sb.eb
    have ep := sb.ep
    have et := sb.et
    have ec := sb.ec
    have hn := sb.hn
    have hp := sb.hp
    have hpb := hp.b
    have mx := sb.mx
    have dm := sb.dm
    have hN : ∀ b, b = A.x → A.M b := fun b z => z ▸ mx
    have hsw := sb.small (i + 1)
    have hsg := sb.small i
    have s2 := two_le hn
    have s3 := two_le hsw
    have s4 := two_le hsg
    have xp := o.neL hpl
    refine ⟨_, (pss_cons (ps_set (i := 3) sc_Answerer_begin.nd rfl (Or.inl rfl) (pe_fldK (K := K) (pv 0) rfl))
    (pss_cons (ps_set (i := 4) sc_Answerer_begin.nd rfl (Or.inr rfl) (pe_op op_shl pe_int (pe_fldK (K := K) (pv 0) rfl)))
    (pss_cons (ps_set (i := 5) sc_Answerer_begin.nd rfl (Or.inl rfl) (pe_c c_point_table hr (by decide) (by rfl) (pa_cons (pe_slice (r := rSlL K) sl_list (pv 2) (po_some (pe_fldK (K := K) (pv 0) rfl)) po_none) (pa_cons (pv 3) pa_nil))))
    (pss_cons (ps_set (i := 6) sc_Answerer_begin.nd rfl (Or.inr rfl) (pe_ix (r := rIxL K) ix_list (pe_fldK (K := K) (pv 0) rfl) (pe_op op_add (pv 1) pe_int) (fun _ _ => rfl)))
    (pss_cons (ps_fld (pv 0) (pv 1) rfl)
    (pss_cons (ps_fld (pv 0) pe_int rfl)
    (pss_cons (ps_fld (pv 0) (pe_c c_width hr (by decide) (by rfl) (pa_cons (pe_fldK (K := K) (pv 0) rfl) (pa_cons (pe_op op_add (pv 1) pe_int) pa_nil))) rfl)
    (pss_cons (ps_fld (pv 0) (pe_c c_weighted_gates hr (by decide) (by rfl) (pa_cons (pe_ix (r := rIxL K) ix_list (pe_ix (r := rIxT K) ix_tup (pe_fldK (K := K) (pv 0) rfl) pe_int (fun _ _ => rfl)) (pv 1) (fun _ _ => rfl)) (pa_cons (pv 5) (pa_cons (pv 3) pa_nil)))) rfl)
    (pss_cons (ps_fld (pv 0) (pe_c c_point_table hr (by decide) (by rfl) (pa_cons (pe_slice (r := rSlL K) sl_list (pv 2) po_none (po_some (pe_fldK (K := K) (pv 0) rfl))) (pa_cons (pv 3) pa_nil))) rfl)
    (pss_cons (ps_fld (pv 0) (pe_lc (own := [("k", 7)]) (g := gName 7) (tt := tYes) rfl sc_Answerer_begin.nd (pi_range1 (by rfl) T.range (pa_cons (pe_op op_shl pe_int (pe_fldK (K := K) (pv 0) rfl)) pa_nil)) (blkOk_by (own := [("k", 7)]) (N := N_Answerer_begin) (sc := defScope s_Answerer_begin) (by decide +kernel)) (fun _ _ _ _ _ => (pg_name (i := 7) sc_Answerer_begin.nd rfl (Or.inl rfl))) (fun _ _ _ _ _ => pts_nil) (fun _ _ _ _ _ => (pe_slice (r := rSlL K) sl_list (pv 6) (po_some (pe_op op_mul (pv 4) (pv 7))) (po_some (pe_op op_mul (pv 4) (pe_op op_add (pv 7) pe_int)))))) rfl)
    (pss_cons (ps_fld (pv 0) (pe_lst pa_nil) rfl)
    (pss_cons (ps_fld (pv 0) (pe_lst pa_nil) rfl)
    (pss_one (ps_expr (pe_mt0 c_turn hr (by decide) (pv 0)))))))))))))))), ?_⟩
    walk_at "rd"
    intro p1 n1
    have k1 : Kp M0 H (upd H p1 (.lst (cutV ps (some (A.n : Int)) none))) := (Kp.refl _ _).new n1
    have hI1 : IL A.M (upd H p1 (.lst (cutV ps (some (A.n : Int)) none))) (.ref p1) (wd A.ws i) A.p := il_new dm n1 (by rw [cut_from, zp]; omega) fun x hx => fp x (cut_mem hx)
    generalize (upd H p1 (.lst (cutV ps (some (A.n : Int)) none))) = H1 at *
    have o1 := o.kp k1
    walk_at "rd"
    refine r_pointTable (dm.kp k1) hI1 (by omega) hp fun H2 vw k2 hw => ?_
    have k02 := k1.trans k2
    have o2 := o1.kp k2
    obtain ⟨lt, tx, rtv, ht2, nt, zt, ft⟩ := sb.ht.kp k02
    have htv : st .tables = some (.ref lt) := by rw [et, rtv]
    have hbv : tx[i + 1]? = some (tx[i + 1]'(by omega)) := List.getElem?_eq_getElem (by omega)
    obtain ⟨lb, bx, ebv, hb2, nb, zb, fb⟩ := ft _ _ hbv
    have hat : atI tx ((i : Int) + 1) = some (.ref lb) := by rw [← ebv]; exact at_of (by omega) hbv
    walk_at "rd"
    walk_at "st"
    intro H3 k3 o3
    walk_at "rd"
    walk_at "st"
    intro H4 k4 o4
    have k24 := k3.trans k4
    have k04 := k02.zero.trans k24
    have hc4 := sb.hc.mono k04 hN
    walk_at "rd"
    refine r_width (i + 1) hc4.z (by omega) (by rw [sb.hd]; omega) ?_
    walk_at "rd"
    walk_at "st"
    intro H5 k5 o5
    have k25 := k24.trans k5
    have k05 := k04.trans k5
    obtain ⟨a, wl, ll, ls, hc5⟩ := sb.hc.mono k05 hN
    have e5 := hc5.ec
    have h5a := hc5.ha
    have h5l := hc5.hl
    have h5n := hc5.len
    have hdd := sb.hd
    have ecv : st .circuit = some (.ref a) := by rw [ec, e5]
    have hlv : ls[i]? = some (ls[i]'(by omega)) := List.getElem?_eq_getElem (by omega)
    have hat5 : atI ls (i : Int) = some (ls[i]'(by omega)) := at_of rfl hlv
    have hG := hc5.layers i _ hlv
    walk_at "rd"
    refine r_weightedGates (dm.kp1 k05 o5.some) hG (IL.mono hw k25 hN) (by omega) hp fun H6 vg k6 hg6 => ?_
    have o6 := o5.kp k6
    walk_at "rd"
    walk_at "st"
    intro H7 k7 o7
    have k67 := k6.zero.trans k7
    have k07 := k05.trans k67
    have hp7 := k07 _ _ xp hpl
    walk_at "rd"
    intro p8 n8
    have dm7 := dm.kp1 k07 o7.some
    have k8 : Kp M0 H7 (upd H7 p8 (.lst (cutV ps none (some (A.n : Int))))) := (Kp.refl _ _).new n8
    have hI8 : IL A.M (upd H7 p8 (.lst (cutV ps none (some (A.n : Int))))) (.ref p8) A.n A.p := il_new dm7 n8 (by rw [cut_to, zp]; omega) fun x hx => fp x (cut_mem hx)
    generalize (upd H7 p8 (.lst (cutV ps none (some (A.n : Int))))) = H8 at *
    have o8 := o7.kp k8
    walk_at "rd"
    refine r_pointTable (dm7.kp k8) hI8 (by omega) hp fun H9 vn k9 hn9 => ?_
    have o9 := o8.kp k9
    walk_at "rd"
    walk_at "st"
    intro H10 k10 o10
    have k0A : Kp (M1 A.x) H H10 := k07.trans ((k8.trans k9).zero.trans k10)
    have k2A : Kp (M1 A.x) H2 H10 := k25.trans (k67.trans ((k8.trans k9).zero.trans k10))
    have dmA := dm.kp1 k0A o10.some
    have xb := o2.neL hb2
    have hbA := k2A _ _ xb hb2
    walk_at "rd"
    refine r_rng1 (2 ^ wd A.ws (i + 1)) rfl (by omega) ?_
    intro D nD
    have nDx : A.x ≠ D := fun z => o10.some (z ▸ nD)
    refine lc_all walk_range (fun _ H' => Kp M0 H10 H') (fun H' v => IL (Mo A.M D) H' v (2 ^ A.n) A.p) ((Kp.refl _ _).new nD) (fun _ H' _ k => trivial) ?_ ?_
    · rintro k x J3 J4 hk hq ⟨rfl, rfl⟩
      obtain ⟨k3', acc, e3, _, _⟩ := id hq
      have hbJ := k3'.at hbA
      walk_at "rd"
      refine ⟨rfl, ?_⟩
      walk_at "rd"
      intro p11 n11
      have ea : ((2 ^ A.n : Nat) : Int) * (0 + (k : Int)) = ((2 ^ A.n * k : Nat) : Int) := by rw [Int.zero_add, Int.natCast_mul]
      have eb' : ((2 ^ A.n : Nat) : Int) * (0 + (k : Int) + 1) = ((2 ^ A.n * (k + 1) : Nat) : Int) := by rw [Int.zero_add, Int.natCast_mul, Int.natCast_add]; rfl
      have hle : 2 ^ A.n * (k + 1) ≤ 2 ^ A.n * 2 ^ wd A.ws (i + 1) := Nat.mul_le_mul_left _ hk
      have hlen : bx.length = 2 ^ A.n * 2 ^ wd A.ws (i + 1) := by
        have zb : bx.length = 2 ^ (A.n + wd A.ws (i + 1)) := zb
        rw [zb, Nat.pow_add]
      have hsu : 2 ^ A.n * (k + 1) = 2 ^ A.n * k + 2 ^ A.n := Nat.mul_succ _ _
      have zc : (cutV bx (some (((2 ^ A.n : Nat) : Int) * (0 + (k : Int)))) (some (((2 ^ A.n : Nat) : Int) * (0 + (k : Int) + 1)))).length = 2 ^ A.n := by
        rw [ea, eb', cut_mid, hsu]
        rw [hsu] at hle
        rw [hlen]
        exact cut_key hle
      have k11 : Kp M0 J4 (upd J4 p11 (.lst (cutV bx (some (((2 ^ A.n : Nat) : Int) * (0 + (k : Int)))) (some (((2 ^ A.n : Nat) : Int) * (0 + (k : Int) + 1)))))) := (Kp.refl _ _).new n11
      exact hq.next (by omega) (fun o e => k11.at e) (k3'.trans k11) (fun o k => k.mut nD) (fun x h => IL.kp h k11) (il_new ((dmA.kp k3').mo e3) n11 zc fun x hx => fb x (cut_mem hx)) (fun x o h => IL.mono h ((Kp.refl (M1 D) _).own rfl) fun b z => .inr z)
    intro H11 acc k11 e11 z11 f11
    have o11 := o10.kp k11
    walk_at "rd"
    walk_at "st"
    intro H12 k12 o12
    walk_at "rd"
    refine ⟨Nat.zero_le _, fun p13 n13 => ?_⟩
    have k13 : Kp M0 H12 (upd H12 p13 (.lst [])) := (Kp.refl _ _).new n13
    have k0C := k0A.trans (k11.zero.trans k12)
    have hI13 : IL A.M (upd H12 p13 (.lst [])) (.ref p13) 0 A.p := il_new (dm.kp1 k0C o12.some) n13 rfl fun x hx => nomatch hx
    generalize (upd H12 p13 (.lst [])) = H13 at *
    have o13 := o12.kp k13
    walk_at "rd"
    walk_at "st"
    intro H14 k14 o14
    walk_at "rd"
    refine ⟨Nat.zero_le _, fun p15 n15 => ?_⟩
    have k15 : Kp M0 H14 (upd H14 p15 (.lst [])) := (Kp.refl _ _).new n15
    have k0E := k0C.trans (k13.zero.trans k14)
    have hI15 : IL A.M (upd H14 p15 (.lst [])) (.ref p15) 0 A.p := il_new (dm.kp1 k0E o14.some) n15 rfl fun x hx => nomatch hx
    generalize (upd H14 p15 (.lst [])) = H15 at *
    have o15 := o14.kp k15
    walk_at "rd"
    walk_at "st"
    intro H16 k16 o16
    have k0G := k0E.trans (k15.zero.trans k16)
    walk_at "rd"
    refine r_methV o16 (by decide +kernel) ?_
    walk_at "rd"
    have k2G : Kp (M1 A.x) H10 H16 := k11.zero.trans (k12.trans (k13.zero.trans (k14.trans (k15.zero.trans k16))))
    have kBG : Kp (M1 A.x) H11 H16 := k12.trans (k13.zero.trans (k14.trans (k15.zero.trans k16)))
    have k9G : Kp (M1 A.x) H9 H16 := k10.trans k2G
    have k6G : Kp (M1 A.x) H6 H16 := k7.trans ((k8.trans k9).zero.trans k9G)
    have kDG : Kp (M1 A.x) H13 H16 := k14.trans (k15.zero.trans k16)
    generalize hst16 : (fset (fset (fset (fset (fset (fset (fset (fset st .layer (.int (i : Int))) .round (.int 0)) .wide (.int (wd A.ws (i + 1) : Int))) .gates vg) .near vn) .columns (.ref D)) .first (.ref p13)) .second (.ref p15)) = st16 at o16
    have cs16 : CS C A H16 st16 s i 0 := by
      refine ⟨sb.step k0G o16 (by rw [← hst16]; rfl) (by rw [← hst16]; rfl) (by rw [← hst16]; rfl) (by rw [← hst16]; rfl) (by rw [← hst16]; exact sb.es), hi, by rw [← hst16]; rfl, by rw [← hst16]; rfl,
        ⟨vg, by rw [← hst16]; rfl, hg6.mono k6G hN⟩, ⟨vn, by rw [← hst16]; rfl, IL.mono hn9 k9G hN⟩, ⟨.ref D, by rw [← hst16]; rfl, ?_⟩, ⟨.ref p13, by rw [← hst16]; rfl, ?_⟩, ⟨.ref p15, by rw [← hst16]; rfl, ?_⟩⟩
      · refine IL2.mono (H := H11) ⟨D, acc, rfl, e11, dmA _ |> fun h z => h z nD, z11, fun x hx => ?_⟩ kBG hN
        exact IL.le (f11 x hx) fun b z => .inl z
      · rw [show min (0 - A.n) (wd A.ws (i + 1)) = 0 by omega]
        exact IL.mono hI13 kDG hN
      · rw [show min (0 - A.n - wd A.ws (i + 1)) (wd A.ws (i + 1)) = 0 by omega]
        exact IL.mono hI15 k16 hN
    exact ⟨A, st16, s, i, 0, rfl, ⟨cs16, fun z => by omega⟩, fun H' st' k h => q H' st' (k0G.trans k) h⟩
theorem r_begin {H : Hp} {Q : VK} {E : XK} {A : Par} {st : FS} {s j : Int} {x : Addr} {i : Nat} {pt : V} (ex : x = A.x) (ej : j = (i : Int)) (sb : SB C A H st s) (hi : i < A.d) (hp : IL A.M H pt (A.n + wd A.ws i) A.p)
    (q : ∀ H' st', Kp (M1 A.x) H H' → LS C A H' st' (s + tcost A.n (wd A.ws (i + 1)) ((2 ^ wd A.ws i : Nat) : Int) 0) i 0 → Q .non H') : spBegin C [.ref x, .int j, pt] H Q E := ⟨A, st, s, i, pt, by rw [ex, ej], sb, hi, hp, q⟩
end

/-! ## LK4g -/
theorem TS.of {C : Addr} {A : Par} {H : Hp} {st : FS} {s : Int} {i r e : Nat} (he : szp A.n (wd A.ws (i + 1)) r = e) (cs : CS C A H st s i r) (col : A.n < r → Col C A H st i e) : TS C A H st s i r := ⟨cs, fun h => by rw [he]; exact col h⟩
theorem r_cat {H : Hp} {Q : VK} {l b : Addr} {xs zs : List V} (h : H l = some (.lst xs)) (h2 : H b = some (.lst zs)) (hn : xs.length + zs.length ≤ 100000) (q : ∀ p, H p = none → Q (.ref p) (upd H p (.lst (xs ++ zs)))) : rCat (.ref l) (.ref b) H Q := ⟨l, b, xs, zs, rfl, rfl, h, h2, sz hn, q⟩
section
variable {P : Program} {w : World} {K : PySem.W.Frag} {mg : Str → Option Value} {base : Heap} {C : Addr}
/-! ### throw -/
abbrev s_Answerer_throw : Stmt := inClass (top 36) 9
abbrev N_Answerer_throw : List Str := ["self", "number", "p", "column"]
abbrev P_Answerer_throw : List Str := ["self", "number"]
theorem sc_Answerer_throw : FnScope N_Answerer_throw P_Answerer_throw (defScope s_Answerer_throw) := ⟨rfl, rfl, rfl, by decide +kernel, rfl, by decide +kernel, by decide +kernel⟩
def spThrow (C : Addr) : Sp := fun vs H Q _ => ∃ (A : Par) (st : FS) (s num : Int) (i r : Nat), vs = [.ref A.x, .int num] ∧ LS C A H st s i r ∧ r ≤ A.n + 2 * wd A.ws (i + 1) ∧ (0 ≤ num ∧ num < A.p) ∧
  ∀ H' st', Kp (M1 A.x) H H' → LS C A H' st' (s + tcost A.n (wd A.ws (i + 1)) ((2 ^ wd A.ws i : Nat) : Int) (r + 1)) i (r + 1) → Q .non H'
theorem met_throw (D : MetAt K C "throw" "Answerer.throw" s_Answerer_throw P_Answerer_throw) (T : Txt mg) (T4 : AT K C) (c_fold : Cal P w K mg base 1 "fold" spFold []) (c_turn : Met P w K mg base 3 C "turn" (spTurn C) []) : Met P w K mg base 4 C "throw" (spThrow C) [] := by
  refine met_of D sc_Answerer_throw (fun vs H Q E h => ?_) (fun f cdv B outer s0 H vs Q E hr h => ?_)
  · obtain ⟨_, _, _, _, _, _, rfl, _⟩ := h; rfl
  · obtain ⟨A, st, s, num, i, r, rfl, ⟨cs, col⟩, hr2, hnum, q⟩ := h
    have sb := cs.sb
    have o := sb.ob
    have er := cs.er
    have eb := sb.eb
    have ep := sb.ep
    have ew := cs.ew
    have hn := sb.hn
    have hp := sb.hp
    have hpb := hp.b
    have mx := sb.mx
    have dm := sb.dm
    have hN : ∀ b, b = A.x → A.M b := fun b z => z ▸ mx
    have hsw := sb.small (i + 1)
    have s2 := two_le hn
    have s3 := two_le hsw
    refine ⟨_, (pss_cons (ps_set (i := 2) sc_Answerer_throw.nd rfl (Or.inr rfl) (pe_fldK (K := K) (pv 0) rfl))
    (pss_cons (ps_if (pt_cmpR op_lt (pe_fldK (K := K) (pv 0) rfl) (pe_fldK (K := K) (pv 0) rfl) (nomark _))
      (pss_cons (ps_fld (pv 0) (pe_c c_fold hr (by decide) (by rfl) (pa_cons (pe_fldK (K := K) (pv 0) rfl) (pa_cons (pv 1) (pa_cons (pv 2) pa_nil)))) rfl)
    (pss_one (ps_fld (pv 0) (pe_lc (own := [("column", 3)]) (g := gName 3) (tt := tYes) rfl sc_Answerer_throw.nd (pi_list (pe_fldK (K := K) (pv 0) rfl)) (blkOk_by (own := [("column", 3)]) (N := N_Answerer_throw) (sc := defScope s_Answerer_throw) (by decide +kernel)) (fun _ _ _ _ _ => (pg_name (i := 3) sc_Answerer_throw.nd rfl (Or.inl rfl))) (fun _ _ _ _ _ => pts_nil) (fun _ _ _ _ _ => (pe_c c_fold hr (by decide) (by rfl) (pa_cons (pv 3) (pa_cons (pv 1) (pa_cons (pv 2) pa_nil)))))) rfl)))
      (pss_one (ps_if (pt_cmpR op_lt (pe_fldK (K := K) (pv 0) rfl) (pe_op op_add (pe_fldK (K := K) (pv 0) rfl) (pe_op op_mul pe_int (pe_fldK (K := K) (pv 0) rfl))) (nomark _))
      (pss_cons (ps_fld (pv 0) (pe_c c_fold hr (by decide) (by rfl) (pa_cons (pe_fldK (K := K) (pv 0) rfl) (pa_cons (pv 1) (pa_cons (pv 2) pa_nil)))) rfl)
    (pss_cons (ps_fld (pv 0) (pe_c c_fold hr (by decide) (by rfl) (pa_cons (pe_fldK (K := K) (pv 0) rfl) (pa_cons (pv 1) (pa_cons (pv 2) pa_nil)))) rfl)
    (pss_cons (ps_fld (pv 0) (pe_c c_fold hr (by decide) (by rfl) (pa_cons (pe_fldK (K := K) (pv 0) rfl) (pa_cons (pv 1) (pa_cons (pv 2) pa_nil)))) rfl)
    (pss_one (ps_if (pt_cmpR op_lt (pe_fldK (K := K) (pv 0) rfl) (pe_op op_add (pe_fldK (K := K) (pv 0) rfl) (pe_fldK (K := K) (pv 0) rfl)) (nomark _))
      (pss_one (ps_fld (pv 0) (pe_op op_cat (pe_fldK (K := K) (pv 0) rfl) (pe_lst (pa_cons (pv 1) pa_nil))) rfl))
      (pss_one (ps_fld (pv 0) (pe_op op_cat (pe_fldK (K := K) (pv 0) rfl) (pe_lst (pa_cons (pv 1) pa_nil))) rfl)))))))
      pss_nil)))
    (pss_cons (ps_fldaug (pv 0) pe_int in_add)
    (pss_one (ps_expr (pe_mt0 c_turn hr (by decide) (pv 0))))))), ?_⟩
    rcases Nat.lt_or_ge r A.n with hrn | hrn
    · obtain ⟨nv, env, hnv⟩ := cs.nr
      obtain ⟨cv, ecv, lc, cx, rfl, hc, nc, zc, fc⟩ := cs.cl
      have e2 : 2 ^ (A.n - r) = 2 * 2 ^ (A.n - (r + 1)) := by rw [show A.n - r = (A.n - (r + 1)) + 1 by omega, Nat.pow_succ]; omega
      have s5 := two_le (n := A.n - (r + 1)) (by omega)
      have fc' : ∀ x ∈ cx, IL A.M H x (2 * 2 ^ (A.n - (r + 1))) A.p := fun x hx => e2 ▸ fc x hx
      rw [e2] at hnv
      walk_at "rd"
      refine r_fold dm hnv (by omega) (by omega) hp fun H1 v1 k1 h1 => ?_
      have o1 := o.kp k1
      walk_at "rd"
      walk_at "st"
      intro H2 k2 o2
      have k02 : Kp (M1 A.x) H H2 := k1.zero.trans k2
      have hc2 := k02 _ _ (o.neL hc) hc
      have dm2 := dm.kp1 k02 o2.some
      walk_at "rd"
      intro D nD
      have nDx : A.x ≠ D := fun z => o2.some (z ▸ nD)
      refine lc_all walk_list (fun _ H' => Kp M0 H2 H') (fun H' v => IL (Mo A.M D) H' v (2 ^ (A.n - (r + 1))) A.p) ((Kp.refl _ _).new nD) (fun _ H' _ k => SqL.of (k.at hc2)) ?_ ?_
      · rintro k x J3 J4 hk hq ⟨rfl, hy⟩
        obtain ⟨k3', acc, e3, _, _⟩ := id hq
        have hx := ((IL.mono (fc' x (List.mem_of_getElem? hy)) k02 hN).up nD).kp k3'
        walk_at "rd"
        refine ⟨rfl, ?_⟩
        walk_at "rd"
        refine r_fold ((dm2.kp k3').mo e3) hx (by omega) (by omega) hp fun J5 v5 k5 h5 => ?_
        exact hq.next (by omega) (fun o e => k5.at e) (k3'.trans k5) (fun o k => k.mut nD) (fun x h => IL.kp h k5) h5 (fun x o h => IL.mono h ((Kp.refl (M1 D) _).own rfl) fun b z => .inr z)
      intro H3 acc k3 e3 z3 f3
      have o3 := o2.kp k3
      walk_at "rd"
      walk_at "st"
      intro HZ k4 oZ
      have k0Z := k02.trans (k3.zero.trans k4)
      have k2Z : Kp (M1 A.x) H2 HZ := k3.zero.trans k4
      generalize hstZ : fset (fset st .near v1) .columns (.ref D) = stZ at oZ
      have erZ : stZ .round = some (.int (r : Int)) := by rw [← hstZ]; exact er
      walk_at "rd"
      intro HR kR oR
      have k0R := k0Z.trans kR
      walk_at "rd"
      refine r_methV oR (by decide +kernel) ?_
      walk_at "rd"
      generalize hstR : fset stZ .round (.int ((r : Int) + 1)) = stR at oR
      refine ⟨A, stR, s, i, r + 1, rfl, ?_, fun H' st' k h => q H' st' (k0R.trans k) h⟩
      have sbR : SB C A HR stR s := sb.step k0R oR (by rw [← hstR, ← hstZ]; rfl) (by rw [← hstR, ← hstZ]; rfl) (by rw [← hstR, ← hstZ]; rfl) (by rw [← hstR, ← hstZ]; rfl) (by rw [← hstR, ← hstZ]; exact sb.es)
      have erR : stR .round = some (.int ((r + 1 : Nat) : Int)) := by rw [← hstR]; rfl
      have ewR : stR .wide = some (.int (wd A.ws (i + 1) : Int)) := by rw [← hstR, ← hstZ]; exact ew
      have gtR : ∃ g, stR .gates = some g ∧ WL A.M HR g (2 ^ wd A.ws i) A.p (2 ^ wd A.ws (i + 1)) := by
        obtain ⟨v, h1, h2⟩ := cs.gt
        exact ⟨v, by rw [← hstR, ← hstZ]; exact h1, h2.mono k0R hN⟩
      have k1R : Kp (M1 A.x) H1 HR := k2.trans (k2Z.trans kR)
      refine ⟨⟨sbR, cs.hi, erR, ewR, gtR, ⟨v1, by rw [← hstR, ← hstZ]; rfl, IL.mono h1 k1R hN⟩, ⟨.ref D, by rw [← hstR, ← hstZ]; rfl, ?_⟩, ?_, ?_⟩, fun z => by omega⟩
      · refine IL2.mono (H := H3) ⟨D, acc, rfl, e3, fun z => dm2 _ z nD, by rw [z3, zc], fun x hx => ?_⟩ (k4.trans kR) hN
        exact IL.le (f3 x hx) fun b z => .inl z
      · obtain ⟨v, h1, h2⟩ := cs.fi
        refine ⟨v, by rw [← hstR, ← hstZ]; exact h1, ?_⟩
        rw [show min (r + 1 - A.n) (wd A.ws (i + 1)) = min (r - A.n) (wd A.ws (i + 1)) by omega]
        exact IL.mono h2 k0R hN
      · obtain ⟨v, h1, h2⟩ := cs.se
        refine ⟨v, by rw [← hstR, ← hstZ]; exact h1, ?_⟩
        rw [show min (r + 1 - A.n - wd A.ws (i + 1)) (wd A.ws (i + 1)) = min (r - A.n - wd A.ws (i + 1)) (wd A.ws (i + 1)) by omega]
        exact IL.mono h2 k0R hN
    · obtain ⟨⟨q0, esh, hq0⟩, ⟨vb, ebl, hbl⟩, ⟨vf, ef, hf⟩, ⟨vr, er2, hr3⟩, ⟨vl, el, hl⟩⟩ := col hrn
      by_cases hlast : r < A.n + 2 * wd A.ws (i + 1)
      · have e1 : szr A.n (wd A.ws (i + 1)) r = szp A.n (wd A.ws (i + 1)) (r + 1) + 1 := by
          unfold szr szp
          split <;> split <;> omega
        have e0 : szp A.n (wd A.ws (i + 1)) (r + 1) ≤ 3 := by
          unfold szp
          split <;> omega
        obtain ⟨e, hE⟩ : ∃ e, szp A.n (wd A.ws (i + 1)) (r + 1) = e := ⟨_, rfl⟩
        rw [hE] at e1 e0
        have s5 := two_le e0
        have e2 : 2 ^ szr A.n (wd A.ws (i + 1)) r = 2 * 2 ^ e := by rw [e1, Nat.pow_succ]; omega
        rw [e2] at hf hr3 hl
        walk_at "rd"
        refine r_fold dm hf (by omega) (by omega) hp fun H1 f1 k1 h1 => ?_
        have o1 := o.kp k1
        walk_at "rd"
        walk_at "st"
        intro H2 k2 o2
        have k02 : Kp (M1 A.x) H H2 := k1.zero.trans k2
        walk_at "rd"
        refine r_fold (dm.kp1 k02 o2.some) (IL.mono hr3 k02 hN) (by omega) (by omega) hp fun H3 f3 k3 h3 => ?_
        have o3 := o2.kp k3
        walk_at "rd"
        walk_at "st"
        intro H4 k4 o4
        have k04 : Kp (M1 A.x) H H4 := k02.trans (k3.zero.trans k4)
        walk_at "rd"
        refine r_fold (dm.kp1 k04 o4.some) (IL.mono hl k04 hN) (by omega) (by omega) hp fun H5 f5 k5 h5 => ?_
        have o5 := o4.kp k5
        walk_at "rd"
        walk_at "st"
        intro H6 k6 o6
        have k06 : Kp (M1 A.x) H H6 := k04.trans (k5.zero.trans k6)
        by_cases hA : r < A.n + wd A.ws (i + 1)
        · obtain ⟨_, efi, lf, fx, rfl, hff, nff, zff, fff⟩ := cs.fi
          have hf6 := k06 _ _ (o.neL hff) hff
          walk_at "rd"
          refine ⟨sz (show 1 ≤ 100000 by decide), fun p7 n7 => ?_⟩
          have k7 : Kp M0 H6 (upd H6 p7 (.lst [.int num])) := (Kp.refl _ _).new n7
          have e7 : upd H6 p7 (.lst [.int num]) p7 = some (.lst [.int num]) := upd_same
          generalize (upd H6 p7 (.lst [.int num])) = H7 at *
          have o7 := o6.kp k7
          refine r_cat (k7.at hf6) e7 (by rw [zff]; show _ + 1 ≤ _; omega) fun p8 n8 => ?_
          have k8 : Kp M0 H7 (upd H7 p8 (.lst (fx ++ [.int num]))) := (Kp.refl _ _).new n8
          have dm7 := (dm.kp1 k06 o6.some).kp k7
          have hI8 : IL A.M (upd H7 p8 (.lst (fx ++ [.int num]))) (.ref p8) (min (r - A.n) (wd A.ws (i + 1)) + 1) A.p := il_new dm7 n8 (by rw [List.length_append, zff]; rfl) (all_app fff ⟨num, rfl, hnum⟩)
          generalize (upd H7 p8 (.lst (fx ++ [.int num]))) = H8 at *
          have o8 := o7.kp k8
          walk_at "rd"
          walk_at "st"
          intro HZ k8Z oZ
          have k6Z : Kp (M1 A.x) H6 HZ := (k7.trans k8).zero.trans k8Z
          have k0Z := k06.trans k6Z
          have k5Z : Kp (M1 A.x) H5 HZ := k6.trans k6Z
          have k3Z : Kp (M1 A.x) H3 HZ := k4.trans (k5.zero.trans k5Z)
          have k1Z : Kp (M1 A.x) H1 HZ := k2.trans (k3.zero.trans k3Z)
          generalize hstZ : fset (fset (fset (fset st .factors f1) .rest f3) .left f5) .first (.ref p8) = stZ at oZ
          have erZ : stZ .round = some (.int (r : Int)) := by rw [← hstZ]; exact er
          walk_at "rd"
          intro HR kR oR
          have k0R := k0Z.trans kR
          walk_at "rd"
          refine r_methV oR (by decide +kernel) ?_
          walk_at "rd"
          generalize hstR : fset stZ .round (.int ((r : Int) + 1)) = stR at oR
          refine ⟨A, stR, s, i, r + 1, rfl, ?_, fun H' st' k h => q H' st' (k0R.trans k) h⟩
          have sbR : SB C A HR stR s := sb.step k0R oR (by rw [← hstR, ← hstZ]; rfl) (by rw [← hstR, ← hstZ]; rfl) (by rw [← hstR, ← hstZ]; rfl) (by rw [← hstR, ← hstZ]; rfl) (by rw [← hstR, ← hstZ]; exact sb.es)
          have erR : stR .round = some (.int ((r + 1 : Nat) : Int)) := by rw [← hstR]; rfl
          have ewR : stR .wide = some (.int (wd A.ws (i + 1) : Int)) := by rw [← hstR, ← hstZ]; exact ew
          have gtR : ∃ g, stR .gates = some g ∧ WL A.M HR g (2 ^ wd A.ws i) A.p (2 ^ wd A.ws (i + 1)) := by
            obtain ⟨v, h1, h2⟩ := cs.gt
            exact ⟨v, by rw [← hstR, ← hstZ]; exact h1, h2.mono k0R hN⟩
          refine TS.of hE ⟨sbR, cs.hi, erR, ewR, gtR, ?_, ?_, ?_, ?_⟩ (fun _ => ⟨⟨q0, by rw [← hstR, ← hstZ]; exact esh, hq0⟩, ⟨vb, by rw [← hstR, ← hstZ]; exact ebl, IL.mono hbl k0R hN⟩, ⟨f1, by rw [← hstR, ← hstZ]; rfl, IL.mono h1 (k1Z.trans kR) hN⟩, ⟨f3, by rw [← hstR, ← hstZ]; rfl, IL.mono h3 (k3Z.trans kR) hN⟩, ⟨f5, by rw [← hstR, ← hstZ]; rfl, IL.mono h5 (k5Z.trans kR) hN⟩⟩)
          · obtain ⟨v, h1, h2⟩ := cs.nr
            refine ⟨v, by rw [← hstR, ← hstZ]; exact h1, ?_⟩
            rw [show A.n - (r + 1) = A.n - r by omega]
            exact IL.mono h2 k0R hN
          · obtain ⟨v, h1, h2⟩ := cs.cl
            refine ⟨v, by rw [← hstR, ← hstZ]; exact h1, ?_⟩
            rw [show A.n - (r + 1) = A.n - r by omega]
            exact IL2.mono h2 k0R hN
          · refine ⟨.ref p8, by rw [← hstR, ← hstZ]; rfl, IL.mono ?_ (k8Z.trans kR) hN⟩
            rw [show min (r + 1 - A.n) (wd A.ws (i + 1)) = min (r - A.n) (wd A.ws (i + 1)) + 1 by omega]
            exact hI8
          · obtain ⟨v, h1, h2⟩ := cs.se
            refine ⟨v, by rw [← hstR, ← hstZ]; exact h1, ?_⟩
            rw [show min (r + 1 - A.n - wd A.ws (i + 1)) (wd A.ws (i + 1)) = min (r - A.n - wd A.ws (i + 1)) (wd A.ws (i + 1)) by omega]
            exact IL.mono h2 k0R hN
        · obtain ⟨_, efi, lf, fx, rfl, hff, nff, zff, fff⟩ := cs.se
          have hf6 := k06 _ _ (o.neL hff) hff
          walk_at "rd"
          refine ⟨sz (show 1 ≤ 100000 by decide), fun p7 n7 => ?_⟩
          have k7 : Kp M0 H6 (upd H6 p7 (.lst [.int num])) := (Kp.refl _ _).new n7
          have e7 : upd H6 p7 (.lst [.int num]) p7 = some (.lst [.int num]) := upd_same
          generalize (upd H6 p7 (.lst [.int num])) = H7 at *
          have o7 := o6.kp k7
          refine r_cat (k7.at hf6) e7 (by rw [zff]; show _ + 1 ≤ _; omega) fun p8 n8 => ?_
          have k8 : Kp M0 H7 (upd H7 p8 (.lst (fx ++ [.int num]))) := (Kp.refl _ _).new n8
          have dm7 := (dm.kp1 k06 o6.some).kp k7
          have hI8 : IL A.M (upd H7 p8 (.lst (fx ++ [.int num]))) (.ref p8) (min (r - A.n - wd A.ws (i + 1)) (wd A.ws (i + 1)) + 1) A.p := il_new dm7 n8 (by rw [List.length_append, zff]; rfl) (all_app fff ⟨num, rfl, hnum⟩)
          generalize (upd H7 p8 (.lst (fx ++ [.int num]))) = H8 at *
          have o8 := o7.kp k8
          walk_at "rd"
          walk_at "st"
          intro HZ k8Z oZ
          have k6Z : Kp (M1 A.x) H6 HZ := (k7.trans k8).zero.trans k8Z
          have k0Z := k06.trans k6Z
          have k5Z : Kp (M1 A.x) H5 HZ := k6.trans k6Z
          have k3Z : Kp (M1 A.x) H3 HZ := k4.trans (k5.zero.trans k5Z)
          have k1Z : Kp (M1 A.x) H1 HZ := k2.trans (k3.zero.trans k3Z)
          generalize hstZ : fset (fset (fset (fset st .factors f1) .rest f3) .left f5) .second (.ref p8) = stZ at oZ
          have erZ : stZ .round = some (.int (r : Int)) := by rw [← hstZ]; exact er
          walk_at "rd"
          intro HR kR oR
          have k0R := k0Z.trans kR
          walk_at "rd"
          refine r_methV oR (by decide +kernel) ?_
          walk_at "rd"
          generalize hstR : fset stZ .round (.int ((r : Int) + 1)) = stR at oR
          refine ⟨A, stR, s, i, r + 1, rfl, ?_, fun H' st' k h => q H' st' (k0R.trans k) h⟩
          have sbR : SB C A HR stR s := sb.step k0R oR (by rw [← hstR, ← hstZ]; rfl) (by rw [← hstR, ← hstZ]; rfl) (by rw [← hstR, ← hstZ]; rfl) (by rw [← hstR, ← hstZ]; rfl) (by rw [← hstR, ← hstZ]; exact sb.es)
          have erR : stR .round = some (.int ((r + 1 : Nat) : Int)) := by rw [← hstR]; rfl
          have ewR : stR .wide = some (.int (wd A.ws (i + 1) : Int)) := by rw [← hstR, ← hstZ]; exact ew
          have gtR : ∃ g, stR .gates = some g ∧ WL A.M HR g (2 ^ wd A.ws i) A.p (2 ^ wd A.ws (i + 1)) := by
            obtain ⟨v, h1, h2⟩ := cs.gt
            exact ⟨v, by rw [← hstR, ← hstZ]; exact h1, h2.mono k0R hN⟩
          refine TS.of hE ⟨sbR, cs.hi, erR, ewR, gtR, ?_, ?_, ?_, ?_⟩ (fun _ => ⟨⟨q0, by rw [← hstR, ← hstZ]; exact esh, hq0⟩, ⟨vb, by rw [← hstR, ← hstZ]; exact ebl, IL.mono hbl k0R hN⟩, ⟨f1, by rw [← hstR, ← hstZ]; rfl, IL.mono h1 (k1Z.trans kR) hN⟩, ⟨f3, by rw [← hstR, ← hstZ]; rfl, IL.mono h3 (k3Z.trans kR) hN⟩, ⟨f5, by rw [← hstR, ← hstZ]; rfl, IL.mono h5 (k5Z.trans kR) hN⟩⟩)
          · obtain ⟨v, h1, h2⟩ := cs.nr
            refine ⟨v, by rw [← hstR, ← hstZ]; exact h1, ?_⟩
            rw [show A.n - (r + 1) = A.n - r by omega]
            exact IL.mono h2 k0R hN
          · obtain ⟨v, h1, h2⟩ := cs.cl
            refine ⟨v, by rw [← hstR, ← hstZ]; exact h1, ?_⟩
            rw [show A.n - (r + 1) = A.n - r by omega]
            exact IL2.mono h2 k0R hN
          · obtain ⟨v, h1, h2⟩ := cs.fi
            refine ⟨v, by rw [← hstR, ← hstZ]; exact h1, ?_⟩
            rw [show min (r + 1 - A.n) (wd A.ws (i + 1)) = min (r - A.n) (wd A.ws (i + 1)) by omega]
            exact IL.mono h2 k0R hN
          · refine ⟨.ref p8, by rw [← hstR, ← hstZ]; rfl, IL.mono ?_ (k8Z.trans kR) hN⟩
            rw [show min (r + 1 - A.n - wd A.ws (i + 1)) (wd A.ws (i + 1)) = min (r - A.n - wd A.ws (i + 1)) (wd A.ws (i + 1)) + 1 by omega]
            exact hI8
      · have e1 : szp A.n (wd A.ws (i + 1)) (r + 1) = 0 := by
          unfold szp
          split <;> omega
        have e2 : szr A.n (wd A.ws (i + 1)) r = 0 := by
          unfold szr
          split <;> omega
        rw [e2] at hf hr3 hl
        obtain ⟨stZ, hstZ⟩ : ∃ z, st = z := ⟨st, rfl⟩
        have k0Z : Kp (M1 A.x) H H := Kp.refl _ _
        have q1 := q
        walk_at "rd"
        intro HR kR oR
        have k0R := k0Z.trans kR
        walk_at "rd"
        refine r_methV oR (by decide +kernel) ?_
        walk_at "rd"
        rw [hstZ] at oR
        generalize hstR : fset stZ .round (.int ((r : Int) + 1)) = stR at oR
        refine ⟨A, stR, s, i, r + 1, rfl, ?_, fun H' st' k h => q H' st' (k0R.trans k) h⟩
        have sbR : SB C A HR stR s := sb.step k0R oR (by rw [← hstR, ← hstZ]; rfl) (by rw [← hstR, ← hstZ]; rfl) (by rw [← hstR, ← hstZ]; rfl) (by rw [← hstR, ← hstZ]; rfl) (by rw [← hstR, ← hstZ]; exact sb.es)
        have erR : stR .round = some (.int ((r + 1 : Nat) : Int)) := by rw [← hstR]; rfl
        have ewR : stR .wide = some (.int (wd A.ws (i + 1) : Int)) := by rw [← hstR, ← hstZ]; exact ew
        have gtR : ∃ g, stR .gates = some g ∧ WL A.M HR g (2 ^ wd A.ws i) A.p (2 ^ wd A.ws (i + 1)) := by
          obtain ⟨v, h1, h2⟩ := cs.gt
          exact ⟨v, by rw [← hstR, ← hstZ]; exact h1, h2.mono k0R hN⟩
        refine TS.of e1 ⟨sbR, cs.hi, erR, ewR, gtR, ?_, ?_, ?_, ?_⟩ (fun _ => ⟨⟨q0, by rw [← hstR, ← hstZ]; exact esh, hq0⟩, ⟨vb, by rw [← hstR, ← hstZ]; exact ebl, IL.mono hbl k0R hN⟩, ⟨vf, by rw [← hstR, ← hstZ]; exact ef, IL.mono hf k0R hN⟩, ⟨vr, by rw [← hstR, ← hstZ]; exact er2, IL.mono hr3 k0R hN⟩, ⟨vl, by rw [← hstR, ← hstZ]; exact el, IL.mono hl k0R hN⟩⟩)
        · obtain ⟨v, h1, h2⟩ := cs.nr
          refine ⟨v, by rw [← hstR, ← hstZ]; exact h1, ?_⟩
          rw [show A.n - (r + 1) = A.n - r by omega]
          exact IL.mono h2 k0R hN
        · obtain ⟨v, h1, h2⟩ := cs.cl
          refine ⟨v, by rw [← hstR, ← hstZ]; exact h1, ?_⟩
          rw [show A.n - (r + 1) = A.n - r by omega]
          exact IL2.mono h2 k0R hN
        · obtain ⟨v, h1, h2⟩ := cs.fi
          refine ⟨v, by rw [← hstR, ← hstZ]; exact h1, ?_⟩
          rw [show min (r + 1 - A.n) (wd A.ws (i + 1)) = min (r - A.n) (wd A.ws (i + 1)) by omega]
          exact IL.mono h2 k0R hN
        · obtain ⟨v, h1, h2⟩ := cs.se
          refine ⟨v, by rw [← hstR, ← hstZ]; exact h1, ?_⟩
          rw [show min (r + 1 - A.n - wd A.ws (i + 1)) (wd A.ws (i + 1)) = min (r - A.n - wd A.ws (i + 1)) (wd A.ws (i + 1)) by omega]
          exact IL.mono h2 k0R hN
theorem r_throw {H : Hp} {Q : VK} {E : XK} {A : Par} {st : FS} {s num : Int} {x : Addr} {i r : Nat} (ex : x = A.x) (ls : LS C A H st s i r) (hr : r ≤ A.n + 2 * wd A.ws (i + 1)) (hn : 0 ≤ num ∧ num < A.p)
    (q : ∀ H' st', Kp (M1 A.x) H H' → LS C A H' st' (s + tcost A.n (wd A.ws (i + 1)) ((2 ^ wd A.ws i : Nat) : Int) (r + 1)) i (r + 1) → Q .non H') : spThrow C [.ref x, .int num] H Q E := ⟨A, st, s, num, i, r, by rw [ex], ls, hr, hn, q⟩
end

/-! ## LK4h -/
/-! ### carrying the state -/
section
variable {C : Addr} {A : Par} {H H' : Hp} {st st' : FS} {s : Int} {i r e : Nat} {N : Mu}
theorem SB.mono (b : SB C A H st s) (k : Kp N H H') (hN : ∀ b, N b → A.M b) (o : Ob H' A.x C st) (d : Dom A.M H') : SB C A H' st s :=
  ⟨b.mx, d, o, b.ec, b.et, b.eb, b.ep, b.es, b.hc.mono k hN, b.ht.mono k hN, b.hp, b.hn, b.hd⟩
theorem CS.mono (b : CS C A H st s i r) (k : Kp N H H') (hN : ∀ b, N b → A.M b) (o : Ob H' A.x C st) (d : Dom A.M H') : CS C A H' st s i r := by
  refine ⟨b.sb.mono k hN o d, b.hi, b.er, b.ew, ?_, ?_, ?_, ?_, ?_⟩
  · obtain ⟨v, h1, h2⟩ := b.gt; exact ⟨v, h1, h2.mono k hN⟩
  · obtain ⟨v, h1, h2⟩ := b.nr; exact ⟨v, h1, IL.mono h2 k hN⟩
  · obtain ⟨v, h1, h2⟩ := b.cl; exact ⟨v, h1, IL2.mono h2 k hN⟩
  · obtain ⟨v, h1, h2⟩ := b.fi; exact ⟨v, h1, IL.mono h2 k hN⟩
  · obtain ⟨v, h1, h2⟩ := b.se; exact ⟨v, h1, IL.mono h2 k hN⟩
theorem Col.mono (b : Col C A H st i e) (k : Kp N H H') (hN : ∀ b, N b → A.M b) (hs : ∀ f, f ≠ .steps → st' f = st f) : Col C A H' st' i e := by
  refine ⟨?_, ?_, ?_, ?_, ?_⟩
  · obtain ⟨v, h1, h2⟩ := b.sh; exact ⟨v, (hs .share (fun z => by cases z)).trans h1, h2⟩
  · obtain ⟨v, h1, h2⟩ := b.bl; exact ⟨v, (hs .below (fun z => by cases z)).trans h1, IL.mono h2 k hN⟩
  · obtain ⟨v, h1, h2⟩ := b.fa; exact ⟨v, (hs .factors (fun z => by cases z)).trans h1, IL.mono h2 k hN⟩
  · obtain ⟨v, h1, h2⟩ := b.re; exact ⟨v, (hs .rest (fun z => by cases z)).trans h1, IL.mono h2 k hN⟩
  · obtain ⟨v, h1, h2⟩ := b.le; exact ⟨v, (hs .left (fun z => by cases z)).trans h1, IL.mono h2 k hN⟩
theorem LS.mono (b : LS C A H st s i r) (k : Kp N H H') (hN : ∀ b, N b → A.M b) (o : Ob H' A.x C st) (d : Dom A.M H') : LS C A H' st s i r :=
  ⟨b.cs.mono k hN o d, fun z => (b.col z).mono k hN fun _ _ => rfl⟩
/-- one more address that may change -/
def Par.up (A : Par) (L : Addr) : Par := { A with M := Mo A.M L }
theorem Circ.up {M : Mu} {c : V} {p : Int} {ws : List Nat} {L : Addr} (h : Circ M H c p ws) (z : H L = none) : Circ (Mo M L) H c p ws := by
  obtain ⟨a, wl, ll, ls, h⟩ := h
  exact ⟨a, wl, ll, ls, h.ec, h.ha, Mo.up z h.na h.ha, h.hw, Mo.up z h.nw h.hw, h.hl, Mo.up z h.nl h.hl, h.len, h.pos, h.le, h.small, fun i v e => (h.layers i v e).up z⟩
theorem WL.up {M : Mu} {v : V} {n m : Nat} {p : Int} {L : Addr} (h : WL M H v n p m) (z : H L = none) : WL (Mo M L) H v n p m := by
  obtain ⟨l, xs, e, hl, nl, hn, hx⟩ := h
  refine ⟨l, xs, e, hl, Mo.up z nl hl, hn, fun x y => ?_⟩
  obtain ⟨a, e, na, a1, b1, c1, gx, gy, h, r⟩ := hx x y
  exact ⟨a, e, Mo.up z na h, a1, b1, c1, gx, gy, h, r⟩
theorem IL2.up {M : Mu} {v : V} {n m : Nat} {p : Int} {L : Addr} (h : IL2 M H v n m p) (z : H L = none) : IL2 (Mo M L) H v n m p := by
  obtain ⟨l, xs, e, hl, nl, hn, hx⟩ := h
  exact ⟨l, xs, e, hl, Mo.up z nl hl, hn, fun x y => (hx x y).up z⟩
theorem WL.le {M M' : Mu} {v : V} {n m : Nat} {p : Int} (h : WL M H v n p m) (hM : ∀ b, M' b → M b) : WL M' H v n p m := Lst.le h hM fun _ z => z.le hM
theorem IL2.le {M M' : Mu} {v : V} {n m : Nat} {p : Int} (h : IL2 M H v n m p) (hM : ∀ b, M' b → M b) : IL2 M' H v n m p := Lst.le h hM fun _ z => IL.le z hM
section
variable {L : Addr} {o : HO}
theorem SB.new (b : SB C A H st s) (z : H L = none) : SB C (A.up L) (upd H L o) st s := by
  have k : Kp M0 H (upd H L o) := (Kp.refl _ _).new z
  exact ⟨.inl b.mx, Dom.mo (b.dm.kp k) upd_same, b.ob.kp k, b.ec, b.et, b.eb, b.ep, b.es, (b.hc.up z).kp k, (b.ht.up z).kp k, b.hp, b.hn, b.hd⟩
theorem CS.new (b : CS C A H st s i r) (z : H L = none) : CS C (A.up L) (upd H L o) st s i r := by
  have k : Kp M0 H (upd H L o) := (Kp.refl _ _).new z
  refine ⟨b.sb.new z, b.hi, b.er, b.ew, ?_, ?_, ?_, ?_, ?_⟩
  · obtain ⟨v, h1, h2⟩ := b.gt; exact ⟨v, h1, (h2.up z).kp k⟩
  · obtain ⟨v, h1, h2⟩ := b.nr; exact ⟨v, h1, IL.kp (IL.up h2 z) k⟩
  · obtain ⟨v, h1, h2⟩ := b.cl; exact ⟨v, h1, IL2.kp (IL2.up h2 z) k⟩
  · obtain ⟨v, h1, h2⟩ := b.fi; exact ⟨v, h1, IL.kp (IL.up h2 z) k⟩
  · obtain ⟨v, h1, h2⟩ := b.se; exact ⟨v, h1, IL.kp (IL.up h2 z) k⟩
theorem Col.new (b : Col C A H st i e) (z : H L = none) : Col C (A.up L) (upd H L o) st i e := by
  have k : Kp M0 H (upd H L o) := (Kp.refl _ _).new z
  refine ⟨b.sh, ?_, ?_, ?_, ?_⟩
  · obtain ⟨v, h1, h2⟩ := b.bl; exact ⟨v, h1, IL.kp (IL.up h2 z) k⟩
  · obtain ⟨v, h1, h2⟩ := b.fa; exact ⟨v, h1, IL.kp (IL.up h2 z) k⟩
  · obtain ⟨v, h1, h2⟩ := b.re; exact ⟨v, h1, IL.kp (IL.up h2 z) k⟩
  · obtain ⟨v, h1, h2⟩ := b.le; exact ⟨v, h1, IL.kp (IL.up h2 z) k⟩
theorem LS.new (b : LS C A H st s i r) (z : H L = none) : LS C (A.up L) (upd H L o) st s i r := ⟨b.cs.new z, fun h => (b.col h).new z⟩
theorem SB.down (b : SB C (A.up L) H st s) (mx : A.M A.x) : SB C A H st s :=
  ⟨mx, fun b' m => b.dm b' (.inl m), b.ob, b.ec, b.et, b.eb, b.ep, b.es, Circ.le b.hc fun _ z => .inl z, LT.le b.ht fun _ z => .inl z, b.hp, b.hn, b.hd⟩
end
end
/-- the steps that a polynomial counts -/
def pcost (n w : Nat) (g : Int) (r : Nat) : Int := if r < n then 4 * (((2 ^ (n - (r + 1)) : Nat) : Int) * (g + ((2 ^ w : Nat) : Int))) else 3 * ((2 ^ (szr n w r - 1) : Nat) : Int)
section
variable {P : Program} {w : World} {K : PySem.W.Frag} {mg : Str → Option Value} {base : Heap} {C : Addr}
/-! ### poly -/
abbrev s_Answerer_poly : Stmt := inClass (top 36) 8
abbrev N_Answerer_poly : List Str := ["self", "number"]
abbrev P_Answerer_poly : List Str := ["self"]
theorem sc_Answerer_poly : FnScope N_Answerer_poly P_Answerer_poly (defScope s_Answerer_poly) := ⟨rfl, rfl, rfl, by decide +kernel, rfl, by decide +kernel, by decide +kernel⟩
def spPoly (C : Addr) : Sp := fun vs H Q _ => ∃ (A : Par) (st : FS) (s : Int) (i r : Nat), vs = [.ref A.x] ∧ LS C A H st s i r ∧ r < A.n + 2 * wd A.ws (i + 1) ∧
  ∀ H' v st', Kp (M1 A.x) H H' → LS C A H' st' (s + pcost A.n (wd A.ws (i + 1)) ((2 ^ wd A.ws i : Nat) : Int) r) i r → Q v H'
theorem met_poly (D : MetAt K C "poly" "Answerer.poly" s_Answerer_poly P_Answerer_poly) (T : Txt mg) (T4 : AT K C) (c_row_value : Met P w K mg base 2 C "row_value" (spRowValue C) []) (c_column_value : Met P w K mg base 2 C "column_value" (spColumnValue C) []) : Met P w K mg base 3 C "poly" (spPoly C) [] := by
  refine met_of D sc_Answerer_poly (fun vs H Q E h => ?_) (fun f cdv B outer s0 H vs Q E hr h => ?_)
  · obtain ⟨_, _, _, _, _, rfl, _⟩ := h; rfl
  · obtain ⟨A, st, s, i, r, rfl, ⟨cs, col⟩, hr2, q⟩ := h
    have sb := cs.sb
    have o := sb.ob
    have er := cs.er
    have eb := sb.eb
    have hn := sb.hn
    have mx := sb.mx
    have dm := sb.dm
    have hN : ∀ b, b = A.x → A.M b := fun b z => z ▸ mx
    have hsw := sb.small (i + 1)
    refine ⟨_, (pss_cons (ps_if (pt_cmpR op_lt (pe_fldK (K := K) (pv 0) rfl) (pe_fldK (K := K) (pv 0) rfl) (nomark _))
      (pss_one (ps_ret (pe_lc (own := [("number", 1)]) (g := gName 1) (tt := tYes) rfl sc_Answerer_poly.nd (pi_range1 (by rfl) T.range (pa_cons pe_int pa_nil)) (blkOk_by (own := [("number", 1)]) (N := N_Answerer_poly) (sc := defScope s_Answerer_poly) (by decide +kernel)) (fun _ _ _ _ _ => (pg_name (i := 1) sc_Answerer_poly.nd rfl (Or.inl rfl))) (fun _ _ _ _ _ => pts_nil) (fun _ _ _ _ _ => (pe_mt c_row_value hr (by decide) (pv 0) (pa_cons (pv 1) pa_nil))))))
      pss_nil)
    (pss_one (ps_ret (pe_lc (own := [("number", 1)]) (g := gName 1) (tt := tYes) rfl sc_Answerer_poly.nd (pi_range1 (by rfl) T.range (pa_cons pe_int pa_nil)) (blkOk_by (own := [("number", 1)]) (N := N_Answerer_poly) (sc := defScope s_Answerer_poly) (by decide +kernel)) (fun _ _ _ _ _ => (pg_name (i := 1) sc_Answerer_poly.nd rfl (Or.inl rfl))) (fun _ _ _ _ _ => pts_nil) (fun _ _ _ _ _ => (pe_mt c_column_value hr (by decide) (pv 0) (pa_cons (pv 1) pa_nil))))))), ?_⟩
    rcases Nat.lt_or_ge r A.n with hrn | hrn
    · obtain ⟨nv, env, hnv⟩ := cs.nr
      obtain ⟨cv, ecv, hcv⟩ := cs.cl
      obtain ⟨gv, egv, hgv⟩ := cs.gt
      have e2 : 2 ^ (A.n - r) = 2 * 2 ^ (A.n - (r + 1)) := by rw [show A.n - r = (A.n - (r + 1)) + 1 by omega, Nat.pow_succ]; omega
      have s5 := two_le (n := A.n - (r + 1)) (by omega)
      have hcv' : IL2 A.M H cv (2 ^ wd A.ws (i + 1)) (2 * 2 ^ (A.n - (r + 1))) A.p := e2 ▸ hcv
      rw [e2] at hnv
      walk_at "rd"
      refine r_rng1 4 rfl (by omega) ?_
      intro D nD
      have nDx : D ≠ A.x := fun z => o.some (z ▸ nD)
      obtain ⟨mc, hmc⟩ : ∃ mc, ((2 ^ (A.n - (r + 1)) : Nat) : Int) * (((2 ^ wd A.ws i : Nat) : Int) + ((2 ^ wd A.ws (i + 1) : Nat) : Int)) = mc := ⟨_, rfl⟩
      refine lc_all walk_range (fun j H' => Kp (M1 A.x) H H' ∧ Ob H' A.x C (fset st .steps (.int (s + (j : Int) * mc)))) (fun _ _ => True) ⟨(Kp.refl _ _).new nD, ?_⟩ (fun _ _ _ _ => trivial) ?_ ?_
      · have e : s + ((0 : Nat) : Int) * mc = s := by rw [Int.natCast_zero, Int.zero_mul, Int.add_zero]
        rw [e, fset_same sb.es]
        exact o.kp ((Kp.refl _ _).new nD)
      · rintro j x J3 J4 hj hq ⟨rfl, rfl⟩
        obtain ⟨⟨kj, oj⟩, acc, e3, _, _⟩ := id hq
        walk_at "rd"
        refine ⟨rfl, ?_⟩
        walk_at "rd"
        refine r_methV oj (by decide +kernel) ?_
        walk_at "rd"
        refine r_rowValue (s := s + (j : Int) * mc) mx (dm.kp1 kj oj.some) oj sb.ep rfl egv env ecv (hgv.mono kj hN) (IL.mono hnv kj hN) (IL2.mono hcv' kj hN) hsw (by omega) (by omega) sb.hp fun J5 i5 k5 o5 => ?_
        rw [fset_fset, hmc] at o5
        have ea : s + (j : Int) * mc + mc = s + ((j + 1 : Nat) : Int) * mc := by rw [Int.natCast_add, Int.add_mul, Int.natCast_one, Int.one_mul, Int.add_assoc]
        rw [ea] at o5
        exact hq.next (by omega) (fun o e => k5 _ _ nDx e) ⟨kj.trans k5, o5⟩ (fun o z => ⟨z.1.mut nD, z.2.kpM ((Kp.refl (M1 D) _).own rfl) fun z => nDx z.symm⟩) (fun _ _ => trivial) trivial (fun _ _ _ => trivial)
      · rintro H3 acc ⟨k3, o3⟩ e3 z3 f3
        walk_at "rd"
        have e9 : pcost A.n (wd A.ws (i + 1)) ((2 ^ wd A.ws i : Nat) : Int) r = ((4 : Nat) : Int) * mc := by
          unfold pcost
          rw [if_pos hrn, hmc]
          rfl
        rw [e9] at q
        exact q _ _ _ k3 ⟨cs.keep k3 o3 (fun f h => by cases f <;> first | rfl | cases h) rfl, fun z => by omega⟩
    · obtain ⟨⟨q0, esh, hq0⟩, ⟨vb, ebl, hbl⟩, ⟨vf, ef, hf⟩, ⟨vr, er2, hr3⟩, ⟨vl, el, hl⟩⟩ := col hrn
      have e1 : szr A.n (wd A.ws (i + 1)) r = (szr A.n (wd A.ws (i + 1)) r - 1) + 1 := by
        unfold szr
        split <;> omega
      have e0 : szr A.n (wd A.ws (i + 1)) r - 1 ≤ 3 := by
        unfold szr
        split <;> omega
      obtain ⟨m, hm⟩ : ∃ m, 2 ^ (szr A.n (wd A.ws (i + 1)) r - 1) = m := ⟨_, rfl⟩
      have s5 := two_le e0
      have e2 : 2 ^ szr A.n (wd A.ws (i + 1)) r = 2 * m := by rw [e1, Nat.pow_succ, hm]; omega
      have hf' := hf
      have hr' := hr3
      have hl' := hl
      rw [e2] at hf' hr' hl'
      rw [hm] at s5
      walk_at "rd"
      refine r_rng1 3 rfl (by omega) ?_
      intro D nD
      have nDx : D ≠ A.x := fun z => o.some (z ▸ nD)
      refine lc_all walk_range (fun j H' => Kp (M1 A.x) H H' ∧ Ob H' A.x C (fset st .steps (.int (s + (j : Int) * (m : Int))))) (fun _ _ => True) ⟨(Kp.refl _ _).new nD, ?_⟩ (fun _ _ _ _ => trivial) ?_ ?_
      · have e : s + ((0 : Nat) : Int) * (m : Int) = s := by rw [Int.natCast_zero, Int.zero_mul, Int.add_zero]
        rw [e, fset_same sb.es]
        exact o.kp ((Kp.refl _ _).new nD)
      · rintro j x J3 J4 hj hq ⟨rfl, rfl⟩
        obtain ⟨⟨kj, oj⟩, acc, e3, _, _⟩ := id hq
        walk_at "rd"
        refine ⟨rfl, ?_⟩
        walk_at "rd"
        refine r_methV oj (by decide +kernel) ?_
        walk_at "rd"
        refine r_columnValue (s := s + (j : Int) * (m : Int)) mx (dm.kp1 kj oj.some) oj sb.ep rfl ef er2 el esh hq0 (IL.mono hf' kj hN) (IL.mono hr' kj hN) (IL.mono hl' kj hN) (by omega) (by omega) sb.hp fun J5 i5 k5 o5 => ?_
        rw [fset_fset] at o5
        have ea : s + (j : Int) * (m : Int) + (m : Int) = s + ((j + 1 : Nat) : Int) * (m : Int) := by rw [Int.natCast_add, Int.add_mul, Int.natCast_one, Int.one_mul, Int.add_assoc]
        rw [ea] at o5
        exact hq.next (by omega) (fun o e => k5 _ _ nDx e) ⟨kj.trans k5, o5⟩ (fun o z => ⟨z.1.mut nD, z.2.kpM ((Kp.refl (M1 D) _).own rfl) fun z => nDx z.symm⟩) (fun _ _ => trivial) trivial (fun _ _ _ => trivial)
      · rintro H3 acc ⟨k3, o3⟩ e3 z3 f3
        walk_at "rd"
        have e9 : pcost A.n (wd A.ws (i + 1)) ((2 ^ wd A.ws i : Nat) : Int) r = ((3 : Nat) : Int) * (m : Int) := by
          unfold pcost
          rw [if_neg (by omega), hm]
          rfl
        rw [e9] at q
        exact q _ _ _ k3 ⟨cs.keep k3 o3 (fun f h => by cases f <;> first | rfl | cases h) rfl, fun z => (col hrn).mono k3 hN fun f h => by cases f <;> first | rfl | exact (h rfl).elim⟩
theorem r_poly {H : Hp} {Q : VK} {E : XK} {A : Par} {st : FS} {s : Int} {x : Addr} {i r : Nat} (ex : x = A.x) (ls : LS C A H st s i r) (hr : r < A.n + 2 * wd A.ws (i + 1))
    (q : ∀ H' v st', Kp (M1 A.x) H H' → LS C A H' st' (s + pcost A.n (wd A.ws (i + 1)) ((2 ^ wd A.ws i : Nat) : Int) r) i r → Q v H') : spPoly C [.ref x] H Q E := ⟨A, st, s, i, r, by rw [ex], ls, hr, q⟩
/-! ### line -/
abbrev s_Answerer_line : Stmt := inClass (top 36) 10
abbrev N_Answerer_line : List Str := ["self"]
abbrev P_Answerer_line : List Str := ["self"]
theorem sc_Answerer_line : FnScope N_Answerer_line P_Answerer_line (defScope s_Answerer_line) := ⟨rfl, rfl, rfl, by decide +kernel, rfl, by decide +kernel, by decide +kernel⟩
def spLine (C : Addr) : Sp := fun vs H Q _ => ∃ (A : Par) (st : FS) (s : Int) (i r : Nat), vs = [.ref A.x] ∧ LS C A H st s i r ∧ r = A.n + 2 * wd A.ws (i + 1) ∧ ∀ H' v, Kp M0 H H' → Q v H'
theorem met_line (D : MetAt K C "line" "Answerer.line" s_Answerer_line P_Answerer_line) (T4 : AT K C) (c_line_values : Cal P w K mg base 3 "line_values" spLineValues []) : Met P w K mg base 4 C "line" (spLine C) [] := by
  refine met_of D sc_Answerer_line (fun vs H Q E h => ?_) (fun f cdv B outer s0 H vs Q E hr h => ?_)
  · obtain ⟨_, _, _, _, _, rfl, _⟩ := h; rfl
  · obtain ⟨A, st, s, i, r, rfl, ⟨cs, col⟩, hr2, q⟩ := h
    have sb := cs.sb
    have o := sb.ob
    have ep := sb.ep
    have hsw := sb.small (i + 1)
    obtain ⟨vb, ebl, hbl⟩ := (col (by omega)).bl
    obtain ⟨vf, ef, hf⟩ := cs.fi
    obtain ⟨vs, es, hs⟩ := cs.se
    rw [show min (r - A.n) (wd A.ws (i + 1)) = wd A.ws (i + 1) by omega] at hf
    rw [show min (r - A.n - wd A.ws (i + 1)) (wd A.ws (i + 1)) = wd A.ws (i + 1) by omega] at hs
    refine ⟨_, (pss_one (ps_ret (pe_c c_line_values hr (by decide) (by rfl) (pa_cons (pe_fldK (K := K) (pv 0) rfl) (pa_cons (pe_fldK (K := K) (pv 0) rfl) (pa_cons (pe_fldK (K := K) (pv 0) rfl) (pa_cons (pe_fldK (K := K) (pv 0) rfl) pa_nil))))))), ?_⟩
    walk_at "rd"
    refine r_lineValues sb.dm hbl hf hs (by omega) sb.hp fun H' v k h => ?_
    exact q _ _ k
/-! ### __init__ -/
abbrev s_Answerer___init__ : Stmt := inClass (top 36) 0
abbrev N_Answerer___init__ : List Str := ["self", "circuit", "rows"]
abbrev P_Answerer___init__ : List Str := ["self", "circuit", "rows"]
theorem sc_Answerer___init__ : FnScope N_Answerer___init__ P_Answerer___init__ (defScope s_Answerer___init__) := ⟨rfl, rfl, rfl, by decide +kernel, rfl, by decide +kernel, by decide +kernel⟩
def spInit (C : Addr) : Sp := fun vs H Q _ => ∃ (M : Mu) (x dx : Addr) (c r : V) (n : Nat) (p : Int) (ws : List Nat) (d : Nat), vs = [.ref x, c, r] ∧ H x = some (.ins C dx []) ∧ M x ∧ Dom M H ∧ Circ M H c p ws ∧ IL2 M H r (2 ^ n) (2 ^ wd ws d) p ∧ Pm p ∧ n ≤ 3 ∧ ws.length = d + 1 ∧
  ∀ H' tv st', Kp (M1 x) H H' → SB C ⟨M, x, c, tv, n, p, ws, d⟩ H' st' 0 → Q .non H'
theorem mak_init (D : MakAt K mg "Answerer" C "Answerer.__init__" s_Answerer___init__ P_Answerer___init__) (T4 : AT K C) (c_run : Cal P w K mg base 4 "run" spRun []) (c_row_bits : Cal P w K mg base 1 "row_bits" spRowBits []) (c_modulus : Cal P w K mg base 1 "modulus" spModulus []) : Mak P w K mg base 5 "Answerer" C (spInit C) [] := by
  refine mak_of D sc_Answerer___init__ (fun vs H Q E h => ?_) (fun f cdv B outer s0 H vs Q E hr h => ?_)
  · obtain ⟨_, _, _, _, _, _, _, _, _, rfl, _⟩ := h; rfl
  · obtain ⟨M, x, dx, c, r, n, p, ws, d, rfl, hx, mx, dm, hc, hR, hp, hn, hd, q⟩ := h
    have o : Ob H x C (fun _ => none) := ⟨dx, [], hx, fun k => rfl, FOk.nil⟩
    have hN : ∀ b, b = x → M b := fun b z => z ▸ mx
    refine ⟨_, (pss_cons (ps_fld (pv 0) (pv 1) rfl)
    (pss_cons (ps_fld (pv 0) (pe_c c_run hr (by decide) (by rfl) (pa_cons (pv 1) (pa_cons (pv 2) pa_nil))) rfl)
    (pss_cons (ps_fld (pv 0) (pe_c c_row_bits hr (by decide) (by rfl) (pa_cons (pv 2) pa_nil)) rfl)
    (pss_cons (ps_fld (pv 0) (pe_c c_modulus hr (by decide) (by rfl) (pa_cons (pv 1) pa_nil)) rfl)
    (pss_one (ps_fld (pv 0) pe_int rfl)))))), ?_⟩
    walk_at "rd"
    walk_at "st"
    intro H1 k1 o1
    walk_at "rd"
    refine r_run (dm.kp1 k1 o1.some) (hc.mono k1 hN).z hp hn hd (IL2.le (IL2.mono hR k1 hN) fun _ z => z.elim) fun H2 tv k2 ht => ?_
    have o2 := o1.kp k2
    walk_at "rd"
    walk_at "st"
    intro H3 k3 o3
    have k03 : Kp (M1 x) H H3 := k1.trans (k2.zero.trans k3)
    obtain ⟨lr, rs, rfl, hl3, _, z3, _⟩ := IL2.mono hR k03 hN
    walk_at "rd"
    refine r_rowBits hl3 z3 (by omega) ?_
    walk_at "rd"
    walk_at "st"
    intro H4 k4 o4
    have k04 : Kp (M1 x) H H4 := k03.trans k4
    walk_at "rd"
    refine r_modulus (hc.mono k04 hN).z ?_
    walk_at "rd"
    walk_at "st"
    intro H5 k5 o5
    walk_at "rd"
    walk_at "st"
    intro H6 k6 o6
    have k06 : Kp (M1 x) H H6 := k04.trans (k5.trans k6)
    have k26 : Kp (M1 x) H2 H6 := k3.trans (k4.trans (k5.trans k6))
    walk_at "rd"
    exact q H6 tv _ k06 ⟨mx, dm.kp1 k06 o6.some, o6, rfl, rfl, rfl, rfl, rfl, hc.mono k06 hN, ht.mono k26 hN, hp, hn, hd⟩
end

/-! ## LK4i -/
/-! ### the steps of a layer, of a conversation -/
def acc (n w : Nat) (g : Int) : Nat → Int
  | 0 => tcost n w g 0
  | k + 1 => acc n w g k + (pcost n w g k + tcost n w g (k + 1))
/-- the number of point 9.6 -/
def lcost (n a b : Nat) : Int := 4 * (((2 ^ n : Nat) : Int) - 1) * (((2 ^ a : Nat) : Int) + ((2 ^ b : Nat) : Int)) + 2 * ((2 ^ a : Nat) : Int) + 6 * (((2 ^ b : Nat) : Int) - 1)
theorem acc_all (n w : Nat) (g : Int) (hn : n ≤ 3) (hw : w ≤ 3) : acc n w g (n + 2 * w) + tcost n w g (n + 2 * w + 1) = 4 * (((2 ^ n : Nat) : Int) - 1) * (g + ((2 ^ w : Nat) : Int)) + 2 * g + 6 * (((2 ^ w : Nat) : Int) - 1) := by
  have h1 : n = 0 ∨ n = 1 ∨ n = 2 ∨ n = 3 := by omega
  have h2 : w = 0 ∨ w = 1 ∨ w = 2 ∨ w = 3 := by omega
  rcases h1 with rfl | rfl | rfl | rfl <;> rcases h2 with rfl | rfl | rfl | rfl <;> simp [acc, pcost, tcost, szr] <;> omega
/-- where the throws of layer i begin -/
def atN (n : Nat) (ws : List Nat) : Nat → Nat
  | 0 => n + wd ws 0
  | i + 1 => atN n ws i + (n + 2 * wd ws (i + 1) + 1)
theorem atN_le (n : Nat) (ws : List Nat) : ∀ {i d : Nat}, i ≤ d → atN n ws i ≤ atN n ws d
  | i, 0, h => by rw [show i = 0 by omega]; exact Nat.le_refl _
  | i, d + 1, h => by
    rcases Nat.lt_or_ge i (d + 1) with z | z
    · have := atN_le n ws (i := i) (d := d) (by omega)
      show _ ≤ atN n ws d + _
      omega
    · rw [show i = d + 1 by omega]; exact Nat.le_refl _
def tot (n : Nat) (ws : List Nat) : Nat → Int
  | 0 => 0
  | i + 1 => tot n ws i + lcost n (wd ws i) (wd ws (i + 1))
theorem kp_dropL {x L : Addr} {H H1 H3 H' : Hp} (k01 : Kp (M1 x) H H1) (nL : H1 L = none) (k13 : Kp M0 H1 H3) (k : Kp (fun b => b = x ∨ b = L) H3 H') : Kp (M1 x) H H' :=
  fun b o n e => k b o (fun z => z.elim n (ne_of_none (k01 b o n e) nL)) (k13 b o id (k01 b o n e))
section
variable {P : Program} {w : World} {K : PySem.W.Frag} {mg : Str → Option Value} {base : Heap} {C : Addr}
/-! ### rounds_of -/
abbrev s_rounds_of : Stmt := top 37
abbrev N_rounds_of : List Str := ["circuit", "bits", "layer"]
abbrev P_rounds_of : List Str := ["circuit", "bits", "layer"]
theorem sc_rounds_of : FnScope N_rounds_of P_rounds_of (defScope s_rounds_of) := ⟨rfl, rfl, rfl, by decide +kernel, rfl, by decide +kernel, by decide +kernel⟩
def spRounds : Sp := fun vs H Q _ => ∃ (c : V) (p : Int) (ws : List Nat) (n i : Nat), vs = [c, .int (n : Int), .int (i : Int)] ∧ Circ M0 H c p ws ∧ i + 1 < ws.length ∧ Q (.int ((n + 2 * wd ws (i + 1) : Nat) : Int)) H
theorem cal_rounds_of (D : DefAt K mg "rounds_of" s_rounds_of P_rounds_of) (c_width : Cal P w K mg base 1 "width" spWidth []) : Cal P w K mg base 2 "rounds_of" spRounds [] := by
  refine cal_of D sc_rounds_of (fun vs H Q E h => ?_) (fun f cdv A outer s H vs Q E hr h => ?_)
  · obtain ⟨_, _, _, _, _, rfl, _⟩ := h; rfl
  · obtain ⟨c, p, ws, n, i, rfl, hc, hi, q⟩ := h
    refine ⟨_, (pss_one (ps_ret (pe_op op_add (pv 1) (pe_op op_mul pe_int (pe_c c_width hr (by decide) (by rfl) (pa_cons (pv 0) (pa_cons (pe_op op_add (pv 2) pe_int) pa_nil))))))), ?_⟩
    walk_at "rd"
    refine r_width (i + 1) hc (by omega) hi ?_
    walk_at "rd"
    have e : (n : Int) + 2 * (wd ws (i + 1) : Int) = ((n + 2 * wd ws (i + 1) : Nat) : Int) := by omega
    rw [e]
    exact q
theorem r_rounds {H : Hp} {Q : VK} {E : XK} {c : V} {p j : Int} {ws : List Nat} {n i : Nat} (hc : Circ M0 H c p ws) (ej : j = (i : Int)) (hi : i + 1 < ws.length) (q : Q (.int ((n + 2 * wd ws (i + 1) : Nat) : Int)) H) : spRounds [c, .int (n : Int), .int j] H Q E := ⟨c, p, ws, n, i, by rw [ej], hc, hi, q⟩
/-! ### layer_answers -/
abbrev s_layer_answers : Stmt := top 38
abbrev N_layer_answers : List Str := ["answerer", "layer", "point", "throws", "bits", "polynomials", "number", "line", "wide", "first", "second"]
abbrev P_layer_answers : List Str := ["answerer", "layer", "point", "throws"]
theorem sc_layer_answers : FnScope N_layer_answers P_layer_answers (defScope s_layer_answers) := ⟨rfl, rfl, rfl, by decide +kernel, rfl, by decide +kernel, by decide +kernel⟩
def spLayer (C : Addr) : Sp := fun vs H Q _ => ∃ (A : Par) (st : FS) (s : Int) (i : Nat) (pt th : V), vs = [.ref A.x, .int (i : Int), pt, th] ∧ SB C A H st s ∧ i < A.d ∧ IL A.M H pt (A.n + wd A.ws i) A.p ∧ IL A.M H th (A.n + 2 * wd A.ws (i + 1) + 1) A.p ∧
  ∀ H' t told pt' st', Kp (M1 A.x) H H' → SB C A H' st' (s + lcost A.n (wd A.ws i) (wd A.ws (i + 1))) → H' t = some (.tup [told, pt']) → IL A.M H' pt' (A.n + wd A.ws (i + 1)) A.p → Q (.ref t) H'
theorem cal_layer_answers (D : DefAt K mg "layer_answers" s_layer_answers P_layer_answers) (T : Txt mg) (T4 : AT K C) (c_begin : Met P w K mg base 4 C "begin" (spBegin C) []) (c_poly : Met P w K mg base 3 C "poly" (spPoly C) []) (c_throw : Met P w K mg base 4 C "throw" (spThrow C) [])
    (c_line : Met P w K mg base 4 C "line" (spLine C) []) (c_width : Cal P w K mg base 1 "width" spWidth []) (c_between : Cal P w K mg base 1 "between" spBetween []) : Cal P w K mg base 5 "layer_answers" (spLayer C) [] := by
  refine cal_of D sc_layer_answers (fun vs H Q E h => ?_) (fun f cdv B0 outer s0 H vs Q E hr h => ?_)
  · obtain ⟨_, _, _, _, _, _, rfl, _⟩ := h; rfl
  · obtain ⟨A, st, s, i, pt, th, rfl, sb, hi, hpt, ⟨lt, ts, rfl, htl, ntl, ztl, ftl⟩, q⟩ := h
    have o := sb.ob
    have eb := sb.eb
    have hn := sb.hn
    have hp := sb.hp
    have hpb := hp.b
    have mx := sb.mx
    have dm := sb.dm
    have hN : ∀ b, b = A.x → A.M b := fun b z => z ▸ mx
    have hsw := sb.small (i + 1)
    have xt := o.neL htl
    refine ⟨_, (pss_cons (ps_set (i := 4) sc_layer_answers.nd rfl (Or.inl rfl) (pe_fldK (K := K) (pv 0) rfl))
    (pss_cons (ps_expr (pe_mt c_begin hr (by decide) (pv 0) (pa_cons (pv 1) (pa_cons (pv 2) pa_nil))))
    (pss_cons (ps_set (i := 5) sc_layer_answers.nd rfl (Or.inl rfl) (pe_lst pa_nil))
    (pss_cons (ps_for PassesOwn.never rfl (pi_list (pe_slice (r := rSlL K) sl_list (pv 3) po_none (po_some (pe_un un_neg pe_int)))) (pg_name (i := 6) sc_layer_answers.nd rfl (Or.inl rfl))
      (pss_cons (ps_expr (pe_bm PySem.F.plainAttrs_list PySem.F.slot_list_append PySem.F.type_list_append mt_append (pv 5) (pa_cons (pe_mt0 c_poly hr (by decide) (pv 0)) pa_nil)))
    (pss_one (ps_expr (pe_mt c_throw hr (by decide) (pv 0) (pa_cons (pv 6) pa_nil))))))
    (pss_cons (ps_set (i := 7) sc_layer_answers.nd rfl (Or.inl rfl) (pe_mt0 c_line hr (by decide) (pv 0)))
    (pss_cons (ps_expr (pe_mt c_throw hr (by decide) (pv 0) (pa_cons (pe_ix (r := rIxL K) ix_list (pv 3) (pe_un un_neg pe_int) (fun _ _ => rfl)) pa_nil)))
    (pss_cons (ps_set (i := 8) sc_layer_answers.nd rfl (Or.inl rfl) (pe_c c_width hr (by decide) (by rfl) (pa_cons (pe_fldK (K := K) (pv 0) rfl) (pa_cons (pe_op op_add (pv 1) pe_int) pa_nil))))
    (pss_cons (ps_set (i := 9) sc_layer_answers.nd rfl (Or.inl rfl) (pe_slice (r := rSlL K) sl_list (pv 3) (po_some (pv 4)) (po_some (pe_op op_add (pv 4) (pv 8)))))
    (pss_cons (ps_set (i := 10) sc_layer_answers.nd rfl (Or.inl rfl) (pe_slice (r := rSlL K) sl_list (pv 3) (po_some (pe_op op_add (pv 4) (pv 8))) (po_some (pe_op op_add (pv 4) (pe_op op_mul pe_int (pv 8))))))
    (pss_one (ps_ret (pe_tup (pa_cons (pe_tup (pa_cons (pv 5) (pa_cons (pv 7) pa_nil))) (pa_cons (pe_op op_cat (pe_slice (r := rSlL K) sl_list (pv 3) po_none (po_some (pv 4))) (pe_c c_between hr (by decide) (by rfl) (pa_cons (pv 9) (pa_cons (pv 10) (pa_cons (pe_ix (r := rIxL K) ix_list (pv 3) (pe_un un_neg pe_int) (fun _ _ => rfl)) (pa_cons (pe_fldK (K := K) (pv 0) rfl) pa_nil)))))) pa_nil)))))))))))))), ?_⟩
    walk_at "rd"
    refine r_methV o (by decide +kernel) ?_
    walk_at "rd"
    refine r_begin rfl rfl sb hi hpt fun H1 st1 k1 ls1 => ?_
    have ht1 := k1 _ _ xt htl
    walk_at "rd"
    refine ⟨Nat.zero_le _, fun L nL => ?_⟩
    have kB : Kp M0 H1 (upd H1 L (.lst [])) := (Kp.refl _ _).new nL
    have eL : (upd H1 L (.lst [])) L = some (.lst []) := upd_same
    have lsB := ls1.new (o := .lst []) nL
    generalize (upd H1 L (.lst [])) = HB at *
    have htB := kB.at ht1
    have nLx : L ≠ A.x := fun z => ls1.cs.sb.ob.some (z ▸ nL)
    walk_at "rd"
    intro p3 n3
    have k3 : Kp M0 HB (upd HB p3 (.lst (cutV ts none (some (-1))))) := (Kp.refl _ _).new n3
    have e3 : upd HB p3 (.lst (cutV ts none (some (-1)))) p3 = some (.lst (cutV ts none (some (-1)))) := upd_same
    have n3x : p3 ≠ A.x := fun z => lsB.cs.sb.ob.some (z ▸ n3)
    have n3L : p3 ≠ L := fun z => by rw [z, eL] at n3; cases n3
    have ls3 := lsB.mono k3 (fun _ z => z.elim) (lsB.cs.sb.ob.kp k3) (lsB.cs.sb.dm.kp k3)
    have eL3 := k3.at eL
    have ht3 := k3.at htB
    generalize (upd HB p3 (.lst (cutV ts none (some (-1))))) = H3 at *
    have zc : (cutV ts none (some (-1))).length = A.n + 2 * wd A.ws (i + 1) := by rw [cut_last, ztl]; omega
    have ntL : lt ≠ L := ne_of_none ht1 nL
    walk_at "rd"
    refine for_list (K := K) (a := p3) (xs := cutV ts none (some (-1))) (fun r σ H' => Kp (fun b => b = A.x ∨ b = L) H3 H' ∧ ∃ (st' : FS) (xs : List V) (v6 v7 v8 v9 v10 : Option V), LS C (A.up L) H' st' (s + acc A.n (wd A.ws (i + 1)) ((2 ^ wd A.ws i : Nat) : Int) r) i r ∧ H' L = some (.lst xs) ∧ xs.length = r ∧
        σ = [some (.ref A.x), some (.int (i : Int)), some pt, some (.ref lt), some (.int (A.n : Int)), some (.ref L), v6, v7, v8, v9, v10])
      ⟨Kp.refl _ _, st1, _, _, _, _, _, _, ls3, eL3, rfl, rfl⟩ (fun r σ H' _ h => SqL.of (h.1 _ _ (fun z => z.elim n3x n3L) e3)) ?_ ?_
    · rintro r x σ H' hx ⟨kk, st', xs, v6, v7, v8, v9, v10, ls, eX, zX, rfl⟩
      obtain ⟨num, rfl, hnum⟩ := ftl x (cut_mem (List.mem_of_getElem? hx))
      have hr3 : r < A.n + 2 * wd A.ws (i + 1) := by
        have := (List.getElem?_eq_some_iff.mp hx).1
        omega
      have oj := ls.cs.sb.ob
      walk_at "rd"
      refine r_methV oj (by decide +kernel) ?_
      walk_at "rd"
      refine r_poly (A := A.up L) rfl ls hr3 fun H4 v4 st4 k4 ls4 => ?_
      have eX4 := k4 _ _ nLx eX
      walk_at "rd"
      have k5 : Kp (M1 L) H4 (upd H4 L (.lst (xs ++ [v4]))) := (Kp.refl _ _).own rfl
      have eX5 : upd H4 L (.lst (xs ++ [v4])) L = some (.lst (xs ++ [v4])) := upd_same
      have ls5 := ls4.mono k5 (fun b z => .inr z) (ls4.cs.sb.ob.kpM k5 fun z => nLx z.symm) (ls4.cs.sb.dm.kp1 k5 (some_ne eX5))
      generalize (upd H4 L (.lst (xs ++ [v4]))) = H5 at *
      have o5 := ls5.cs.sb.ob
      refine r_methV o5 (by decide +kernel) ?_
      walk_at "rd"
      refine r_throw (A := A.up L) rfl ls5 (Nat.le_of_lt hr3) hnum fun H6 st6 k6 ls6 => ?_
      have eX6 := k6 _ _ nLx eX5
      walk_at "rd"
      have ea : s + acc A.n (wd A.ws (i + 1)) ((2 ^ wd A.ws i : Nat) : Int) r + pcost A.n (wd A.ws (i + 1)) ((2 ^ wd A.ws i : Nat) : Int) r + tcost A.n (wd A.ws (i + 1)) ((2 ^ wd A.ws i : Nat) : Int) (r + 1) = s + acc A.n (wd A.ws (i + 1)) ((2 ^ wd A.ws i : Nat) : Int) (r + 1) := by
        show _ = s + (acc A.n (wd A.ws (i + 1)) ((2 ^ wd A.ws i : Nat) : Int) r + (pcost A.n (wd A.ws (i + 1)) ((2 ^ wd A.ws i : Nat) : Int) r + tcost A.n (wd A.ws (i + 1)) ((2 ^ wd A.ws i : Nat) : Int) (r + 1)))
        omega
      refine ⟨kk.trans ((Kp.le k4 fun b z => .inl z).trans ((k5.le fun b z => .inr z).trans (Kp.le k6 fun b z => .inl z))), st6, _, _, _, _, _, _, ?_, eX6, by rw [List.length_append, zX]; rfl, rfl⟩
      rw [← ea]
      exact ls6
    · rintro σ H' ⟨kk, st', xs, v6, v7, v8, v9, v10, ls, eX, zX, rfl⟩
      rw [zc] at ls zX
      have oj := ls.cs.sb.ob
      have htj := kk _ _ (fun z => z.elim xt ntL) ht3
      walk_at "rd"
      refine r_methV oj (by decide +kernel) ?_
      walk_at "rd"
      refine ⟨A.up L, st', _, i, _, rfl, ls, rfl, fun H8 v8 k8 => ?_⟩
      have ls8 := ls.mono k8 (fun _ z => z.elim) (oj.kp k8) (ls.cs.sb.dm.kp k8)
      have ht8 := k8.at htj
      have o8 := ls8.cs.sb.ob
      have hlv : ts[A.n + 2 * wd A.ws (i + 1)]? = some (ts[A.n + 2 * wd A.ws (i + 1)]'(by omega)) := List.getElem?_eq_getElem (by omega)
      obtain ⟨tl, etl, htlb⟩ := all_at ftl hlv
      rw [etl] at hlv
      have hat := atI_lastN ztl hlv
      walk_at "rd"
      refine r_methV o8 (by decide +kernel) ?_
      walk_at "rd"
      refine r_throw (A := A.up L) rfl ls8 (Nat.le_refl _) htlb fun H9 st9 k9 ls9 => ?_
      have sb9 := ls9.cs.sb.down mx
      have o9 := sb9.ob
      have ec9 := sb9.ec
      have ep9 := sb9.ep
      have dm9 := sb9.dm
      have ht9 := k9 _ _ xt ht8
      walk_at "rd"
      refine r_width (i + 1) sb9.hc.z (by omega) (by rw [sb.hd]; omega) ?_
      walk_at "rd"
      intro p10 n10
      have ea1 : (A.n : Int) + (wd A.ws (i + 1) : Int) = ((A.n + wd A.ws (i + 1) : Nat) : Int) := by omega
      have k10 : Kp M0 H9 (upd H9 p10 (.lst (cutV ts (some (A.n : Int)) (some ((A.n : Int) + (wd A.ws (i + 1) : Int)))))) := (Kp.refl _ _).new n10
      have hI10 : IL A.M (upd H9 p10 (.lst (cutV ts (some (A.n : Int)) (some ((A.n : Int) + (wd A.ws (i + 1) : Int)))))) (.ref p10) (wd A.ws (i + 1)) A.p := il_new dm9 n10 (by rw [ea1, cut_mid]; omega) fun x hx => ftl x (cut_mem hx)
      generalize (upd H9 p10 (.lst (cutV ts (some (A.n : Int)) (some ((A.n : Int) + (wd A.ws (i + 1) : Int)))))) = H10 at *
      have ht10 := k10.at ht9
      walk_at "rd"
      intro p11 n11
      have ea2 : (A.n : Int) + 2 * (wd A.ws (i + 1) : Int) = ((A.n + 2 * wd A.ws (i + 1) : Nat) : Int) := by omega
      have k11 : Kp M0 H10 (upd H10 p11 (.lst (cutV ts (some ((A.n : Int) + (wd A.ws (i + 1) : Int))) (some ((A.n : Int) + 2 * (wd A.ws (i + 1) : Int)))))) := (Kp.refl _ _).new n11
      have hI11 : IL A.M (upd H10 p11 (.lst (cutV ts (some ((A.n : Int) + (wd A.ws (i + 1) : Int))) (some ((A.n : Int) + 2 * (wd A.ws (i + 1) : Int)))))) (.ref p11) (wd A.ws (i + 1)) A.p := il_new (dm9.kp k10) n11 (by rw [ea1, ea2, cut_mid]; omega) fun x hx => ftl x (cut_mem hx)
      generalize (upd H10 p11 (.lst (cutV ts (some ((A.n : Int) + (wd A.ws (i + 1) : Int))) (some ((A.n : Int) + 2 * (wd A.ws (i + 1) : Int)))))) = H11 at *
      have ht11 := k11.at ht10
      walk_at "rd"
      refine ⟨sz (show 2 ≤ 100000 by decide), fun t12 n12 => ?_⟩
      have k12 : Kp M0 H11 (upd H11 t12 (.tup [.ref L, v8])) := (Kp.refl _ _).new n12
      generalize (upd H11 t12 (.tup [.ref L, v8])) = H12 at *
      have ht12 := k12.at ht11
      walk_at "rd"
      intro p13 n13
      have k13 : Kp M0 H12 (upd H12 p13 (.lst (cutV ts none (some (A.n : Int))))) := (Kp.refl _ _).new n13
      have e13 : upd H12 p13 (.lst (cutV ts none (some (A.n : Int)))) p13 = some (.lst (cutV ts none (some (A.n : Int)))) := upd_same
      generalize (upd H12 p13 (.lst (cutV ts none (some (A.n : Int))))) = H13 at *
      have ht13 := k13.at ht12
      have k9D := ((k10.trans k11).trans k12).trans k13
      have o13 := o9.kp k9D
      walk_at "rd"
      refine r_between (dm9.kp k9D) (IL.kp hI10 ((k11.trans k12).trans k13)) (IL.kp hI11 (k12.trans k13)) (by omega) (by omega) hp fun H14 v14 k14 h14 => ?_
      obtain ⟨l14, x14, rfl, g14, n14, z14, f14⟩ := h14
      have zcc : (cutV ts none (some (A.n : Int))).length = A.n := by rw [cut_to]; omega
      refine r_cat (k14.at e13) g14 (by omega) fun p15 n15 => ?_
      have k15 : Kp M0 H14 (upd H14 p15 (.lst (cutV ts none (some (A.n : Int)) ++ x14))) := (Kp.refl _ _).new n15
      have k9F := k9D.trans (k14.trans k15)
      have hI15 : IL A.M (upd H14 p15 (.lst (cutV ts none (some (A.n : Int)) ++ x14))) (.ref p15) (A.n + wd A.ws (i + 1)) A.p := il_new ((dm9.kp k9D).kp k14) n15 (by rw [List.length_append, zcc, z14]) fun x hx => (List.mem_append.mp hx).elim (fun z => ftl x (cut_mem z)) (f14 x)
      generalize (upd H14 p15 (.lst (cutV ts none (some (A.n : Int)) ++ x14))) = H15 at *
      walk_at "rd"
      refine ⟨sz (show 2 ≤ 100000 by decide), fun t16 n16 => ?_⟩
      have k16 : Kp M0 H15 (upd H15 t16 (.tup [.ref t12, .ref p15])) := (Kp.refl _ _).new n16
      have k9G := k9F.trans k16
      have kH : Kp (M1 A.x) H H9 := kp_dropL k1 nL (kB.trans k3) (kk.trans ((k8.zero).trans (Kp.le k9 fun b z => .inl z)))
      have el : s + lcost A.n (wd A.ws i) (wd A.ws (i + 1)) = s + acc A.n (wd A.ws (i + 1)) ((2 ^ wd A.ws i : Nat) : Int) (A.n + 2 * wd A.ws (i + 1)) + tcost A.n (wd A.ws (i + 1)) ((2 ^ wd A.ws i : Nat) : Int) (A.n + 2 * wd A.ws (i + 1) + 1) := by
        rw [Int.add_assoc, acc_all _ _ _ hn hsw]
        rfl
      refine q _ t16 (.ref t12) (.ref p15) st9 (kH.trans k9G.zero) ?_ upd_same (IL.kp hI15 k16)
      rw [el]
      exact sb9.mono k9G (fun _ z => z.elim) (o9.kp k9G) (dm9.kp k9G)
theorem r_layer {H : Hp} {Q : VK} {E : XK} {A : Par} {st : FS} {s j : Int} {x : Addr} {i : Nat} {pt th : V} (ex : x = A.x) (ej : j = (i : Int)) (sb : SB C A H st s) (hi : i < A.d) (hp : IL A.M H pt (A.n + wd A.ws i) A.p) (ht : IL A.M H th (A.n + 2 * wd A.ws (i + 1) + 1) A.p)
    (q : ∀ H' t told pt' st', Kp (M1 A.x) H H' → SB C A H' st' (s + lcost A.n (wd A.ws i) (wd A.ws (i + 1))) → H' t = some (.tup [told, pt']) → IL A.M H' pt' (A.n + wd A.ws (i + 1)) A.p → Q (.ref t) H') : spLayer C [.ref x, .int j, pt, th] H Q E := ⟨A, st, s, i, pt, th, by rw [ex, ej], sb, hi, hp, ht, q⟩
end

/-! ## LK4j -/
section
variable {P : Program} {w : World} {K : PySem.W.Frag} {mg : Str → Option Value} {base : Heap} {C : Addr}
/-! ### answers -/
abbrev s_answers : Stmt := top 39
abbrev N_answers : List Str := ["answerer", "throws", "circuit", "at", "point", "found", "layer", "many", "told"]
abbrev P_answers : List Str := ["answerer", "throws"]
theorem sc_answers : FnScope N_answers P_answers (defScope s_answers) := ⟨rfl, rfl, rfl, by decide +kernel, rfl, by decide +kernel, by decide +kernel⟩
def spAnswers (C : Addr) : Sp := fun vs H Q _ => ∃ (A : Par) (st : FS) (s : Int) (th : V), vs = [.ref A.x, th] ∧ SB C A H st s ∧ IL A.M H th (atN A.n A.ws A.d) A.p ∧
  ∀ H' v st', Kp (M1 A.x) H H' → SB C A H' st' (s + tot A.n A.ws A.d) → Q v H'
theorem cal_answers (D : DefAt K mg "answers" s_answers P_answers) (T : Txt mg) (T4 : AT K C) (c_width : Cal P w K mg base 1 "width" spWidth []) (c_depth : Cal P w K mg base 1 "depth" spDepth []) (c_rounds_of : Cal P w K mg base 2 "rounds_of" spRounds [])
    (c_layer_answers : Cal P w K mg base 5 "layer_answers" (spLayer C) []) : Cal P w K mg base 6 "answers" (spAnswers C) [] := by
  refine cal_of D sc_answers (fun vs H Q E h => ?_) (fun f cdv B0 outer s0 H vs Q E hr h => ?_)
  · obtain ⟨_, _, _, _, rfl, _⟩ := h; rfl
  · obtain ⟨A, st, s, th, rfl, sb, ⟨lt, ts, rfl, htl, ntl, ztl, ftl⟩, q⟩ := h
    have o := sb.ob
    have eb := sb.eb
    have ec := sb.ec
    have hn := sb.hn
    have hp := sb.hp
    have hpb := hp.b
    have mx := sb.mx
    have dm := sb.dm
    have hd := sb.hd
    have hN : ∀ b, b = A.x → A.M b := fun b z => z ▸ mx
    have xt := o.neL htl
    have h0 := atN_le A.n A.ws (Nat.zero_le A.d)
    have s0' := sb.small 0
    have hd3 : A.d ≤ 3 := by
      obtain ⟨_, _, _, _, hc⟩ := sb.hc
      have := hc.len
      have := hc.le
      omega
    refine ⟨_, (pss_cons (ps_set (i := 2) sc_answers.nd rfl (Or.inl rfl) (pe_fldK (K := K) (pv 0) rfl))
    (pss_cons (ps_set (i := 3) sc_answers.nd rfl (Or.inl rfl) (pe_op op_add (pe_fldK (K := K) (pv 0) rfl) (pe_c c_width hr (by decide) (by rfl) (pa_cons (pv 2) (pa_cons pe_int pa_nil)))))
    (pss_cons (ps_set (i := 4) sc_answers.nd rfl (Or.inl rfl) (pe_callTy (r := rList K) call_listS (by rfl) T.list (by decide +kernel) (pa_cons (pe_slice (r := rSlL K) sl_list (pv 1) po_none (po_some (pv 3))) pa_nil)))
    (pss_cons (ps_set (i := 5) sc_answers.nd rfl (Or.inl rfl) (pe_lst pa_nil))
    (pss_cons (ps_for PassesOwn.never rfl (pi_range1 (by rfl) T.range (pa_cons (pe_c c_depth hr (by decide) (by rfl) (pa_cons (pv 2) pa_nil)) pa_nil)) (pg_name (i := 6) sc_answers.nd rfl (Or.inl rfl))
      (pss_cons (ps_set (i := 7) sc_answers.nd rfl (Or.inl rfl) (pe_op op_add (pe_c c_rounds_of hr (by decide) (by rfl) (pa_cons (pv 2) (pa_cons (pe_fldK (K := K) (pv 0) rfl) (pa_cons (pv 6) pa_nil)))) pe_int))
    (pss_cons (ps_asg (pe_c c_layer_answers hr (by decide) (by rfl) (pa_cons (pv 0) (pa_cons (pv 6) (pa_cons (pv 4) (pa_cons (pe_slice (r := rSlL K) sl_list (pv 1) (po_some (pv 3)) (po_some (pe_op op_add (pv 3) (pv 7)))) pa_nil))))) (pg_tup rfl (pgs_cons (pg_name (i := 8) sc_answers.nd rfl (Or.inl rfl)) (pgs_cons (pg_name (i := 4) sc_answers.nd rfl (Or.inl rfl)) pgs_nil))))
    (pss_cons (ps_expr (pe_bm PySem.F.plainAttrs_list PySem.F.slot_list_append PySem.F.type_list_append mt_append (pv 5) (pa_cons (pv 8) pa_nil)))
    (pss_one (ps_aug (i := 3) sc_answers.nd rfl (Or.inl rfl) (pv 7) ip_add))))))
    (pss_one (ps_ret (pv 5)))))))), ?_⟩
    walk_at "rd"
    refine r_width 0 sb.hc.z (by omega) (by omega) ?_
    walk_at "rd"
    have ea0 : (A.n : Int) + (wd A.ws 0 : Int) = ((atN A.n A.ws 0 : Nat) : Int) := by
      show _ = ((A.n + wd A.ws 0 : Nat) : Int)
      omega
    rw [ea0]
    intro p1 n1
    have k1 : Kp M0 H (upd H p1 (.lst (cutV ts none (some ((atN A.n A.ws 0 : Nat) : Int))))) := (Kp.refl _ _).new n1
    have e1 : upd H p1 (.lst (cutV ts none (some ((atN A.n A.ws 0 : Nat) : Int)))) p1 = some (.lst (cutV ts none (some ((atN A.n A.ws 0 : Nat) : Int)))) := upd_same
    generalize (upd H p1 (.lst (cutV ts none (some ((atN A.n A.ws 0 : Nat) : Int))))) = H1 at *
    walk_at "rd"
    intro p2 n2
    have k2 : Kp M0 H1 (upd H1 p2 (.lst (cutV ts none (some ((atN A.n A.ws 0 : Nat) : Int))))) := (Kp.refl _ _).new n2
    have hI2 : IL A.M (upd H1 p2 (.lst (cutV ts none (some ((atN A.n A.ws 0 : Nat) : Int))))) (.ref p2) (A.n + wd A.ws 0) A.p := il_new (dm.kp k1) n2 (by rw [cut_to, ztl]; show min (A.n + wd A.ws 0) _ = _; exact Nat.min_eq_left h0) fun x hx => ftl x (cut_mem hx)
    generalize (upd H1 p2 (.lst (cutV ts none (some ((atN A.n A.ws 0 : Nat) : Int))))) = H2 at *
    have k02 := k1.trans k2
    have sb2 := sb.mono k02 (fun _ z => z.elim) (o.kp k02) (dm.kp k02)
    walk_at "rd"
    refine ⟨Nat.zero_le _, fun L nL => ?_⟩
    have kB : Kp M0 H2 (upd H2 L (.lst [])) := (Kp.refl _ _).new nL
    have eL : (upd H2 L (.lst [])) L = some (.lst []) := upd_same
    have sbB := sb2.new (o := .lst []) nL
    have hIB : IL (A.up L).M (upd H2 L (.lst [])) (.ref p2) (A.n + wd A.ws 0) A.p := IL.kp (IL.up hI2 nL) kB
    have htB := (k02.trans kB).at htl
    have ntL : lt ≠ L := ne_of_none (k02.at htl) nL
    have nLx : L ≠ A.x := fun z => sb2.ob.some (z ▸ nL)
    generalize (upd H2 L (.lst [])) = HB at *
    have oB := sbB.ob
    walk_at "rd"
    refine r_depth (n := A.d) sbB.hc.z hd ?_
    walk_at "rd"
    refine r_rng1 A.d rfl (by omega) ?_
    refine for_range (fun i σ H' => Kp (fun b => b = A.x ∨ b = L) HB H' ∧ ∃ (st' : FS) (pt : V) (xs : List V) (v6 v7 v8 : Option V), SB C (A.up L) H' st' (s + tot A.n A.ws i) ∧ IL (A.up L).M H' pt (A.n + wd A.ws i) A.p ∧ H' L = some (.lst xs) ∧ xs.length = i ∧
        σ = [some (.ref A.x), some (.ref lt), some A.c, some (.int ((atN A.n A.ws i : Nat) : Int)), some pt, some (.ref L), v6, v7, v8])
      ⟨Kp.refl _ _, st, .ref p2, _, _, _, _, by show SB C (A.up L) HB st (s + 0); rw [Int.add_zero]; exact sbB, hIB, eL, rfl, rfl⟩ ?_ ?_
    · rintro i σ H' hi ⟨kk, st', pt, xs, v6, v7, v8, sbi, hpt, eX, zX, rfl⟩
      have oi := sbi.ob
      have ebi : st' .bits = some (.int (A.n : Int)) := sbi.eb
      have hci : Circ M0 H' A.c A.p A.ws := sbi.hc.z
      have hti := kk _ _ (fun z => z.elim xt ntL) htB
      have hle := atN_le A.n A.ws (show i + 1 ≤ A.d by omega)
      have hle2 : atN A.n A.ws (i + 1) = atN A.n A.ws i + (A.n + 2 * wd A.ws (i + 1) + 1) := rfl
      walk_at "rd"
      refine r_rounds (i := i) (n := A.n) hci (by omega) (by omega) ?_
      walk_at "rd"
      intro p4 n4
      have ea : ((atN A.n A.ws i : Nat) : Int) + (((A.n + 2 * wd A.ws (i + 1) : Nat) : Int) + 1) = ((atN A.n A.ws (i + 1) : Nat) : Int) := by omega
      have k4 : Kp M0 H' (upd H' p4 (.lst (cutV ts (some ((atN A.n A.ws i : Nat) : Int)) (some (((atN A.n A.ws i : Nat) : Int) + (((A.n + 2 * wd A.ws (i + 1) : Nat) : Int) + 1)))))) := (Kp.refl _ _).new n4
      have hI4 : IL (A.up L).M (upd H' p4 (.lst (cutV ts (some ((atN A.n A.ws i : Nat) : Int)) (some (((atN A.n A.ws i : Nat) : Int) + (((A.n + 2 * wd A.ws (i + 1) : Nat) : Int) + 1)))))) (.ref p4) (A.n + 2 * wd A.ws (i + 1) + 1) A.p := il_new sbi.dm n4 (by rw [ea, cut_mid]; omega) fun x hx => ftl x (cut_mem hx)
      generalize (upd H' p4 (.lst (cutV ts (some ((atN A.n A.ws i : Nat) : Int)) (some (((atN A.n A.ws i : Nat) : Int) + (((A.n + 2 * wd A.ws (i + 1) : Nat) : Int) + 1)))))) = H4 at *
      have sb4 := sbi.mono k4 (fun _ z => z.elim) (oi.kp k4) (sbi.dm.kp k4)
      have hpt4 := IL.kp hpt k4
      have eX4 := k4.at eX
      walk_at "rd"
      refine r_layer (A := A.up L) (i := i) rfl (by omega) sb4 hi hpt4 hI4 fun H5 t told pt' st5 k5 sb5 ht5 hpt5 => ?_
      have eX5 := k5 _ _ nLx eX4
      walk_at "rd"
      have k6 : Kp (M1 L) H5 (upd H5 L (.lst (xs ++ [told]))) := (Kp.refl _ _).own rfl
      have eX6 : upd H5 L (.lst (xs ++ [told])) L = some (.lst (xs ++ [told])) := upd_same
      have sb6 := sb5.mono k6 (fun b z => .inr z) (sb5.ob.kpM k6 fun z => nLx z.symm) (sb5.dm.kp1 k6 (some_ne eX6))
      have hpt6 := IL.mono hpt5 k6 fun b z => .inr z
      generalize (upd H5 L (.lst (xs ++ [told]))) = H6 at *
      rw [ea]
      have et : s + tot A.n A.ws i + lcost A.n (wd A.ws i) (wd A.ws (i + 1)) = s + tot A.n A.ws (i + 1) := by
        show _ = s + (tot A.n A.ws i + lcost A.n (wd A.ws i) (wd A.ws (i + 1)))
        omega
      refine ⟨kk.trans ((k4.zero).trans ((Kp.le k5 fun b z => .inl z).trans (k6.le fun b z => .inr z))), st5, pt', _, _, _, _, ?_, hpt6, eX6, by rw [List.length_append, zX]; rfl, rfl⟩
      rw [← et]
      exact sb6
    · rintro σ H' ⟨kk, st', pt, xs, v6, v7, v8, sbi, hpt, eX, zX, rfl⟩
      walk_at "rd"
      exact q _ _ st' (kp_dropL (Kp.zero k02) nL kB kk) (sbi.down mx)
theorem r_answers {H : Hp} {Q : VK} {E : XK} {A : Par} {st : FS} {s : Int} {x : Addr} {th : V} (ex : x = A.x) (sb : SB C A H st s) (ht : IL A.M H th (atN A.n A.ws A.d) A.p)
    (q : ∀ H' v st', Kp (M1 A.x) H H' → SB C A H' st' (s + tot A.n A.ws A.d) → Q v H') : spAnswers C [.ref x, th] H Q E := ⟨A, st, s, th, by rw [ex], sb, ht, q⟩
end

/-! ## LK5 -/
/-! ### the row of draws -/
def Rw (H : Hp) (r : Addr) : Prop := ∃ (k : Int) (ns : List Int), H r = some (.lst ((k :: ns).map V.int)) ∧ 0 ≤ k ∧ ns.length ≤ 10000
theorem Rw.kp {H H' : Hp} {r : Addr} (h : Rw H r) (k : Kp M0 H H') : Rw H' r := let ⟨a, ns, e, z⟩ := h; ⟨a, ns, k.at e, z⟩
theorem Rw.kpM {M : Mu} {H H' : Hp} {r : Addr} (h : Rw H r) (k : Kp M H H') (n : ¬ M r) : Rw H' r := let ⟨a, ns, e, z⟩ := h; ⟨a, ns, k _ _ n e, z⟩
theorem Rw.some {H : Hp} {r : Addr} (h : Rw H r) : H r ≠ none := let ⟨_, _, e, _⟩ := h; some_ne e
theorem ints_isI {ns : List Int} {x : V} (h : x ∈ ns.map V.int) : ∃ i, x = .int i := let ⟨i, _, e⟩ := List.mem_map.mp h; ⟨i, e.symm⟩
section
variable {P : Program} {w : World} {K : PySem.W.Frag} {mg : Str → Option Value} {base : Heap} {C : Addr}
abbrev s__law_take : Stmt := top 42
abbrev N__law_take : List Str := ["_law_row", "_law_many"]
abbrev P__law_take : List Str := ["_law_row", "_law_many"]
theorem sc__law_take : FnScope N__law_take P__law_take (defScope s__law_take) := ⟨rfl, rfl, rfl, by decide +kernel, rfl, by decide +kernel, by decide +kernel⟩
def spTake : Sp := fun vs H Q _ => ∃ (r : Addr) (m : Int), vs = [.ref r, .int m] ∧ Rw H r ∧ 0 < m ∧ ∀ H' v, Kp (M1 r) H H' → Rw H' r → 0 ≤ v ∧ v < m → Q (.int v) H'
theorem cal_law_take (D : DefAt K mg "_law_take" s__law_take P__law_take) (T : Txt mg) : Cal P w K mg base 1 "_law_take" spTake [] := by
  refine cal_of D sc__law_take (fun vs H Q E h => ?_) (fun f cdv A outer s H vs Q E hr h => ?_)
  · obtain ⟨_, _, rfl, _⟩ := h; rfl
  · obtain ⟨r, m, rfl, ⟨k, ns, hr0, hk, hz⟩, hm, q⟩ := h
    have h0 : atI ((k :: ns).map V.int) 0 = some (.int k) := at_of (j := 0) rfl rfl
    have hlen : ((k :: ns).map V.int).length = ns.length + 1 := by rw [List.length_map, List.length_cons]
    refine ⟨_, (pss_cons (ps_if (pt_cmpR op_lt (pe_ix (r := rIxL K) ix_list (pv 0) pe_int (fun _ _ => rfl)) (pe_callB (r := rLen K) call_lenS (by rfl) T.len PySem.boot_len (pa_cons (pv 0) pa_nil)) (nomark _))
      (pss_cons (ps_asg (pe_op op_add (pe_ix (r := rIxL K) ix_list (pv 0) pe_int (fun _ _ => rfl)) pe_int) (pg_sub (pv 0) pe_int set_list))
    (pss_one (ps_ret (pe_op op_mod (pe_callTy call_intS (by rfl) T.int (by decide +kernel) (pa_cons (pe_ix (r := rIxL K) ix_list (pv 0) (pe_op op_sub (pe_ix (r := rIxL K) ix_list (pv 0) pe_int (fun _ _ => rfl)) pe_int) (fun _ _ => rfl)) pa_nil)) (pv 1)))))
      pss_nil)
    (pss_one (ps_ret pe_int))), ?_⟩
    walk_at "rd"
    refine ite2 (fun c => ?_) (fun c => ?_)
    · have c := of_decide_eq_true c
      rw [hlen] at c
      walk_at "rd"
      refine r_setL hr0 (by rw [hlen]; omega) ?_
      have eR : upd H r (.lst (((k :: ns).map V.int).set (0 : Int).toNat (.int (k + 1)))) r = some (.lst (((k + 1) :: ns).map V.int)) := upd_same
      have kR : Kp (M1 r) H (upd H r (.lst (((k :: ns).map V.int).set (0 : Int).toNat (.int (k + 1))))) := (Kp.refl _ _).own rfl
      generalize (upd H r (.lst (((k :: ns).map V.int).set (0 : Int).toNat (.int (k + 1))))) = H1 at *
      have h1 : atI (((k + 1) :: ns).map V.int) 0 = some (.int (k + 1)) := at_of (j := 0) rfl rfl
      have h2 : ∃ v, atI (((k + 1) :: ns).map V.int) (k + 1 - 1) = some (.int v) := by
        have hl : k.toNat < (((k + 1) :: ns).map V.int).length := by rw [List.length_map, List.length_cons]; omega
        obtain ⟨v, hv⟩ := ints_isI (List.getElem_mem hl)
        exact ⟨v, at_of (j := k.toNat) (by omega) (by rw [List.getElem?_eq_getElem hl, hv])⟩
      obtain ⟨v, h2⟩ := h2
      walk_at "rd"
      exact q _ _ kR ⟨k + 1, ns, eR, by omega, hz⟩ (emod_b hm)
    · walk_at "rd"
      exact q _ _ (Kp.refl _ _) ⟨k, ns, hr0, hk, hz⟩ ⟨by omega, hm⟩
theorem r_take {H : Hp} {Q : VK} {E : XK} {r : Addr} {m : Int} (h : Rw H r) (hm : 0 < m) (q : ∀ H' v, Kp (M1 r) H H' → Rw H' r → 0 ≤ v ∧ v < m → Q (.int v) H') : spTake [.ref r, .int m] H Q E := ⟨r, m, rfl, h, hm, q⟩
abbrev s__law_gate : Stmt := top 43
abbrev N__law_gate : List Str := ["_law_row", "_law_p", "_law_columns"]
abbrev P__law_gate : List Str := ["_law_row", "_law_p", "_law_columns"]
theorem sc__law_gate : FnScope N__law_gate P__law_gate (defScope s__law_gate) := ⟨rfl, rfl, rfl, by decide +kernel, rfl, by decide +kernel, by decide +kernel⟩
def spGateL : Sp := fun vs H Q _ => ∃ (M : Mu) (r : Addr) (p : Int) (m : Nat), vs = [.ref r, .int p, .int (m : Int)] ∧ Dom M H ∧ M r ∧ Rw H r ∧ 0 < p ∧ 0 < m ∧ ∀ H' g, Kp (M1 r) H H' → Rw H' r → Gate M H' p m g → Q g H'
theorem cal_law_gate (D : DefAt K mg "_law_gate" s__law_gate P__law_gate) (c__law_take : Cal P w K mg base 1 "_law_take" spTake []) : Cal P w K mg base 2 "_law_gate" spGateL [] := by
  refine cal_of D sc__law_gate (fun vs H Q E h => ?_) (fun f cdv A outer s H vs Q E hr h => ?_)
  · obtain ⟨_, _, _, _, rfl, _⟩ := h; rfl
  · obtain ⟨M, r, p, m, rfl, dM, mr, hR, hp, hm, q⟩ := h
    refine ⟨_, (pss_cons (ps_if (pt_cmpR op_eq (pe_c c__law_take hr (by decide) (by rfl) (pa_cons (pv 0) (pa_cons pe_int pa_nil))) pe_int (nomark _))
      (pss_one (ps_ret (pe_tup (pa_cons pe_str (pa_cons (pe_c c__law_take hr (by decide) (by rfl) (pa_cons (pv 0) (pa_cons (pv 1) pa_nil))) (pa_cons (pe_c c__law_take hr (by decide) (by rfl) (pa_cons (pv 0) (pa_cons (pv 2) pa_nil))) (pa_cons (pe_c c__law_take hr (by decide) (by rfl) (pa_cons (pv 0) (pa_cons (pv 2) pa_nil))) pa_nil)))))))
      pss_nil)
    (pss_one (ps_ret (pe_tup (pa_cons pe_str (pa_cons (pe_c c__law_take hr (by decide) (by rfl) (pa_cons (pv 0) (pa_cons (pv 1) pa_nil))) (pa_cons (pe_c c__law_take hr (by decide) (by rfl) (pa_cons (pv 0) (pa_cons (pv 2) pa_nil))) (pa_cons (pe_c c__law_take hr (by decide) (by rfl) (pa_cons (pv 0) (pa_cons (pv 1) pa_nil))) (pa_cons (pe_c c__law_take hr (by decide) (by rfl) (pa_cons (pv 0) (pa_cons (pv 2) pa_nil))) pa_nil))))))))), ?_⟩
    walk_at "rd"
    refine r_take hR (by omega) fun H1 v1 k1 R1 b1 => ?_
    walk_at "rd"
    refine ite2 (fun _ => ?_) (fun _ => ?_)
    · walk_at "rd"
      refine r_take R1 hp fun H2 v2 k2 R2 b2 => ?_
      walk_at "rd"
      refine r_take R2 (by omega) fun H3 v3 k3 R3 b3 => ?_
      walk_at "rd"
      refine r_take R3 (by omega) fun H4 v4 k4 R4 b4 => ?_
      walk_at "rd"
      refine ⟨sz (show 4 ≤ 100000 by decide), fun t nt => ?_⟩
      have kt : Kp M0 H4 (upd H4 t (.tup [.str "mul", .int v2, .int v3, .int v4])) := (Kp.refl _ _).new nt
      have k14 := ((k1.trans k2).trans k3).trans k4
      exact q _ _ (k14.trans kt.zero) (R4.kp kt) ⟨t, rfl, (dM.kp1 k14 R4.some).fresh nt, .inr ⟨_, _, _, upd_same, b2, b3, b4⟩⟩
    · walk_at "rd"
      refine r_take R1 hp fun H2 v2 k2 R2 b2 => ?_
      walk_at "rd"
      refine r_take R2 (by omega) fun H3 v3 k3 R3 b3 => ?_
      walk_at "rd"
      refine r_take R3 hp fun H4 v4 k4 R4 b4 => ?_
      walk_at "rd"
      refine r_take R4 (by omega) fun H5 v5 k5 R5 b5 => ?_
      walk_at "rd"
      refine ⟨sz (show 5 ≤ 100000 by decide), fun t nt => ?_⟩
      have kt : Kp M0 H5 (upd H5 t (.tup [.str "lin", .int v2, .int v3, .int v4, .int v5])) := (Kp.refl _ _).new nt
      have k14 := (((k1.trans k2).trans k3).trans k4).trans k5
      exact q _ _ (k14.trans kt.zero) (R5.kp kt) ⟨t, rfl, (dM.kp1 k14 R5.some).fresh nt, .inl ⟨_, _, _, _, upd_same, b2, b3, b4, b5⟩⟩
theorem r_gateL {H : Hp} {Q : VK} {E : XK} {M : Mu} {r : Addr} {p : Int} {m : Nat} (dM : Dom M H) (mr : M r) (h : Rw H r) (hp : 0 < p) (hm : 0 < m) (q : ∀ H' g, Kp (M1 r) H H' → Rw H' r → Gate M H' p m g → Q g H') : spGateL [.ref r, .int p, .int (m : Int)] H Q E := ⟨M, r, p, m, rfl, dM, mr, h, hp, hm, q⟩
/-! ### _law_stream -/
abbrev s__law_stream : Stmt := top 41
abbrev N__law_stream : List Str := ["_law_script", "_law_row", "_law_cell", "_law_left", "_law_k", "_law_seed"]
abbrev P__law_stream : List Str := ["_law_script"]
theorem sc__law_stream : FnScope N__law_stream P__law_stream (defScope s__law_stream) := ⟨rfl, rfl, rfl, by decide +kernel, rfl, by decide +kernel, by decide +kernel⟩
def spStream (K : PySem.W.Frag) : Sp := fun vs H Q _ => ∃ (a : Addr) (ns : List Int), vs = [.ref a] ∧ SqL K H a (ns.map V.int) ∧ ns.length ≤ 63 ∧ ∀ H' r, Kp M0 H H' → H r = none → Rw H' r → Q (.ref r) H'
theorem cal_law_stream (D : DefAt K mg "_law_stream" s__law_stream P__law_stream) (T : Txt mg) : Cal P w K mg base 1 "_law_stream" (spStream K) [] := by
  refine cal_of D sc__law_stream (fun vs H Q E h => ?_) (fun f cdv A outer s H vs Q E hr h => ?_)
  · obtain ⟨_, _, rfl, _⟩ := h; rfl
  · obtain ⟨a, ns, rfl, hS, hz, q⟩ := h
    refine ⟨_, (pss_cons (ps_set (i := 1) sc__law_stream.nd rfl (Or.inl rfl) (pe_lst (pa_cons pe_int pa_nil)))
    (pss_cons (ps_for PassesOwn.never rfl (pi_list (pe_slice (r := rSlL K) sl_list (pv 0) po_none (po_some pe_int))) (pg_name (i := 2) sc__law_stream.nd rfl (Or.inl rfl))
      (pss_cons (ps_set (i := 3) sc__law_stream.nd rfl (Or.inl rfl) (pe_callB call_absS (by rfl) T.abs (by decide +kernel) (pa_cons (pe_callTy call_intS (by rfl) T.int (by decide +kernel) (pa_cons (pv 2) pa_nil)) pa_nil)))
    (pss_one (ps_for PassesOwn.never rfl (pi_range1 (by rfl) T.range (pa_cons pe_int pa_nil)) (pg_name (i := 4) sc__law_stream.nd rfl (Or.inl rfl))
      (pss_cons (ps_expr (pe_bm PySem.F.plainAttrs_list PySem.F.slot_list_append PySem.F.type_list_append mt_append (pv 1) (pa_cons (pe_op op_mod (pv 3) pe_int) pa_nil)))
    (pss_cons (ps_set (i := 3) sc__law_stream.nd rfl (Or.inl rfl) (pe_op op_fdiv (pv 3) pe_int))
    (pss_one (ps_if (pt_cmpR op_eq (pv 3) pe_int (nomark _))
      (pss_one ps_break)
      pss_nil))))))))
    (pss_cons (ps_set (i := 5) sc__law_stream.nd rfl (Or.inl rfl) pe_int)
    (pss_cons (ps_for PassesOwn.never rfl (pi_list (pe_slice (r := rSlL K) sl_list (pv 0) po_none (po_some pe_int))) (pg_name (i := 2) sc__law_stream.nd rfl (Or.inl rfl))
      (pss_one (ps_set (i := 5) sc__law_stream.nd rfl (Or.inl rfl) (pe_op op_mod (pe_callTy call_intS (by rfl) T.int (by decide +kernel) (pa_cons (pe_op op_add (pe_op op_add (pe_op op_mul (pv 5) pe_int) (pv 2)) pe_int) pa_nil)) pe_int))))
    (pss_cons (ps_for PassesOwn.never rfl (pi_range1 (by rfl) T.range (pa_cons pe_int pa_nil)) (pg_name (i := 4) sc__law_stream.nd rfl (Or.inl rfl))
      (pss_cons (ps_set (i := 5) sc__law_stream.nd rfl (Or.inl rfl) (pe_op op_mod (pe_callTy call_intS (by rfl) T.int (by decide +kernel) (pa_cons (pe_op op_add (pe_op op_add (pe_op op_mul (pv 5) pe_int) (pe_op op_mul (pv 4) pe_int)) pe_int) pa_nil)) pe_int))
    (pss_one (ps_expr (pe_bm PySem.F.plainAttrs_list PySem.F.slot_list_append PySem.F.type_list_append mt_append (pv 1) (pa_cons (pe_op op_mod (pe_op op_fdiv (pv 5) pe_int) pe_int) pa_nil))))))
    (pss_one (ps_ret (pv 1)))))))), ?_⟩
    walk_at "rd"
    refine ⟨sz (show 1 ≤ 100000 by decide), fun L nL => ?_⟩
    have k1 : Kp M0 H (upd H L (.lst [.int 1])) := (Kp.refl _ _).new nL
    have eL : upd H L (.lst [.int 1]) L = some (.lst (((1 : Int) :: []).map V.int)) := upd_same
    generalize (upd H L (.lst [.int 1])) = H1 at *
    walk_at "rd"
    refine ⟨a, _, rfl, k1.same.seq hS, fun p2 n2 => ?_⟩
    have zc : (cutV (ns.map V.int) none (some 63)).length ≤ 63 := by
      have := cutV_length (ns.map V.int) none (some 63)
      rw [List.length_map] at this
      omega
    have fc : ∀ x ∈ cutV (ns.map V.int) none (some 63), ∃ i, x = V.int i := fun x hx => ints_isI (cut_mem hx)
    have k2 : Kp M0 H1 (upd H1 p2 (.lst (cutV (ns.map V.int) none (some 63)))) := (Kp.refl _ _).new n2
    have e2 : upd H1 p2 (.lst (cutV (ns.map V.int) none (some 63))) p2 = some (.lst (cutV (ns.map V.int) none (some 63))) := upd_same
    have n2L : p2 ≠ L := fun z => by rw [z, eL] at n2; cases n2
    have eL2 := k2.at eL
    generalize (upd H1 p2 (.lst (cutV (ns.map V.int) none (some 63)))) = HB at *
    generalize (cutV (ns.map V.int) none (some 63)) = cs at *
    walk_at "rd"
    refine for_list (K := K) (a := p2) (xs := cs) (fun i σ H' => Kp (M1 L) HB H' ∧ ∃ (ms : List Int) (v2 v3 v4 v5 : Option V), H' L = some (.lst (((1 : Int) :: ms).map V.int)) ∧ ms.length ≤ 60 * i ∧ σ = [some (.ref a), some (.ref L), v2, v3, v4, v5])
      ⟨Kp.refl _ _, [], _, _, _, _, eL2, Nat.zero_le _, rfl⟩ (fun i σ H' _ h => SqL.of (h.1 _ _ n2L e2)) ?_ ?_
    · rintro i x σ H' hx ⟨kk, ms, v2, v3, v4, v5, eX, zX, rfl⟩
      obtain ⟨cell, rfl⟩ := fc x (List.mem_of_getElem? hx)
      have hi : i < cs.length := (List.getElem?_eq_some_iff.mp hx).1
      walk_at "rd"
      refine r_abs fun left hl => ?_
      walk_at "rd"
      refine r_rng1 60 rfl (by omega) ?_
      refine for_range (fun j σ H'' => Kp (M1 L) HB H'' ∧ ∃ (ms : List Int) (l : Int) (v4 : Option V), H'' L = some (.lst (((1 : Int) :: ms).map V.int)) ∧ ms.length ≤ 60 * i + j ∧ σ = [some (.ref a), some (.ref L), some (.int cell), some (.int l), v4, v5])
        ⟨kk, ms, _, _, eX, zX, rfl⟩ ?_ ?_
      · rintro j σ H'' hj ⟨kj, ms', l, v4', eX', zX', rfl⟩
        have hlen : (((1 : Int) :: ms').map V.int).length = ms'.length + 1 := by rw [List.length_map, List.length_cons]
        walk_at "rd"
        have kL : Kp (M1 L) HB (upd H'' L (.lst (((1 : Int) :: ms').map V.int ++ [.int (l % 59)]))) := kj.own rfl
        have eL5 : upd H'' L (.lst (((1 : Int) :: ms').map V.int ++ [.int (l % 59)])) L = some (.lst (((1 : Int) :: (ms' ++ [l % 59])).map V.int)) := by
          rw [upd_same, ← List.cons_append, List.map_append]
          rfl
        refine ite2 (fun c => ?_) (fun c => ?_)
        · exact ⟨kL, ms' ++ [l % 59], _, _, _, _, eL5, by rw [List.length_append, List.length_singleton]; omega, rfl⟩
        · walk_at "rd"
          exact ⟨kL, ms' ++ [l % 59], _, _, eL5, by rw [List.length_append, List.length_singleton]; omega, rfl⟩
      · rintro σ H'' ⟨kj, ms', l, v4', eX', zX', rfl⟩
        exact ⟨kj, ms', _, _, _, _, eX', by omega, rfl⟩
    · rintro σ H' ⟨kk, ms, v2, v3, v4, v5, eX, zX, rfl⟩
      have hS' : SqL K H' a (ns.map V.int) := by
        have : Kp M0 H H' := ((k1.trans k2).drop kk nL)
        exact this.same.seq hS
      have zm : ms.length ≤ 60 * 63 := by omega
      walk_at "rd"
      refine ⟨a, _, rfl, hS', fun p3 n3 => ?_⟩
      have fc3 : ∀ x ∈ cutV (ns.map V.int) none (some 63), ∃ i, x = V.int i := fun x hx => ints_isI (cut_mem hx)
      have k3 : Kp M0 H' (upd H' p3 (.lst (cutV (ns.map V.int) none (some 63)))) := (Kp.refl _ _).new n3
      have e3 : upd H' p3 (.lst (cutV (ns.map V.int) none (some 63))) p3 = some (.lst (cutV (ns.map V.int) none (some 63))) := upd_same
      generalize (upd H' p3 (.lst (cutV (ns.map V.int) none (some 63)))) = H3 at *
      generalize (cutV (ns.map V.int) none (some 63)) = cs3 at *
      have eX3 := k3.at eX
      walk_at "rd"
      refine for_list (K := K) (a := p3) (xs := cs3) (fun i σ H' => H' = H3 ∧ ∃ (seed : Int) (v2 : Option V), 0 ≤ seed ∧ seed < 1000003 ∧ σ = [some (.ref a), some (.ref L), v2, v3, v4, some (.int seed)])
        ⟨rfl, 7, _, by omega, by omega, rfl⟩ (fun i σ H' _ h => by rw [h.1]; exact SqL.of e3) ?_ ?_
      · rintro i x σ H'' hx ⟨rfl, seed, v2', s0', s1', rfl⟩
        obtain ⟨cell, rfl⟩ := fc3 x (List.mem_of_getElem? hx)
        walk_at "rd"
        have := emod_b (a := seed * 131 + cell + 17) (p := 1000003) (by omega)
        exact ⟨rfl, _, _, this.1, this.2, rfl⟩
      · rintro σ H'' ⟨rfl, seed, v2', s0', s1', rfl⟩
        walk_at "rd"
        refine r_rng1 150 rfl (by omega) ?_
        refine for_range (fun j σ H5 => Kp (M1 L) H'' H5 ∧ ∃ (ms' : List Int) (sd : Int) (v4 : Option V), H5 L = some (.lst (((1 : Int) :: ms').map V.int)) ∧ ms'.length ≤ 60 * 63 + j ∧ σ = [some (.ref a), some (.ref L), v2', v3, v4, some (.int sd)])
          ⟨Kp.refl _ _, ms, seed, _, eX3, zm, rfl⟩ ?_ ?_
        · rintro j σ H5 hj ⟨kj, ms', sd, v4', eX', zX', rfl⟩
          have hlen : (((1 : Int) :: ms').map V.int).length = ms'.length + 1 := by rw [List.length_map, List.length_cons]
          walk_at "rd"
          have eL5 : ∀ z : Int, upd H5 L (.lst (((1 : Int) :: ms').map V.int ++ [.int z])) L = some (.lst (((1 : Int) :: (ms' ++ [z])).map V.int)) := fun z => by
            rw [upd_same, ← List.cons_append, List.map_append]
            rfl
          exact ⟨kj.own rfl, _, _, _, eL5 _, by rw [List.length_append, List.length_singleton]; omega, rfl⟩
        · rintro σ H5 ⟨kj, ms', sd, v4', eX', zX', rfl⟩
          walk_at "rd"
          exact q _ L (fun b o _ e => kj b o (ne_of_none e nL) (k3.at (kk b o (ne_of_none e nL) ((k1.trans k2).at e)))) nL ⟨1, ms', eX', by omega, by omega⟩
theorem r_stream {H : Hp} {Q : VK} {E : XK} {a : Addr} {ns : List Int} (hS : SqL K H a (ns.map V.int)) (hz : ns.length ≤ 63) (q : ∀ H' r, Kp M0 H H' → H r = none → Rw H' r → Q (.ref r) H') : spStream K [.ref a] H Q E := ⟨a, ns, rfl, hS, hz, q⟩
end

/-! ## LK5b -/
theorem ws_of {xs : List V} {n : Nat} (hn : xs.length = n) (hx : ∀ x ∈ xs, IsI 0 4 x) : ∃ ws : List Nat, xs = ws.map (fun w => V.int (w : Nat)) ∧ ws.length = n ∧ ∀ i, wd ws i ≤ 3 := by
  induction xs generalizing n with
  | nil => exact ⟨[], rfl, hn, fun i => by unfold wd; simp⟩
  | cons x r ih =>
    obtain ⟨ws, e, hl, hw⟩ := ih (n := r.length) rfl fun y hy => hx y (List.mem_cons_of_mem _ hy)
    obtain ⟨i, rfl, h0, h1⟩ := hx x List.mem_cons_self
    refine ⟨i.toNat :: ws, ?_, by rw [List.length_cons, hl, ← hn, List.length_cons], fun j => ?_⟩
    · rw [List.map_cons, ← e, Int.toNat_of_nonneg h0]
    · cases j with
      | zero => show i.toNat ≤ 3; omega
      | succ j => exact hw j
theorem pick_p {v : Int} (h : 0 ≤ v ∧ v < 5) : ∃ p, atI [V.int 5, V.int 7, V.int 11, V.int 13, V.int 53] v = some (.int p) ∧ Pm p := by
  have : v = 0 ∨ v = 1 ∨ v = 2 ∨ v = 3 ∨ v = 4 := by omega
  rcases this with rfl | rfl | rfl | rfl | rfl
  · exact ⟨5, at_of (j := 0) rfl rfl, .inl rfl⟩
  · exact ⟨7, at_of (j := 1) rfl rfl, .inr (.inl rfl)⟩
  · exact ⟨11, at_of (j := 2) rfl rfl, .inr (.inr (.inl rfl))⟩
  · exact ⟨13, at_of (j := 3) rfl rfl, .inr (.inr (.inr (.inl rfl)))⟩
  · exact ⟨53, at_of (j := 4) rfl rfl, .inr (.inr (.inr (.inr rfl)))⟩
section
variable {P : Program} {w : World} {K : PySem.W.Frag} {mg : Str → Option Value} {base : Heap} {C : Addr}
/-! ### _law_circuit -/
abbrev s__law_circuit : Stmt := top 44
abbrev N__law_circuit : List Str := ["_law_row", "_law_most", "_law_wide", "_law_p", "_law_many", "_law_widths", "_law_layers", "_law_i", "_law_k"]
abbrev P__law_circuit : List Str := ["_law_row", "_law_most", "_law_wide"]
theorem sc__law_circuit : FnScope N__law_circuit P__law_circuit (defScope s__law_circuit) := ⟨rfl, rfl, rfl, by decide +kernel, rfl, by decide +kernel, by decide +kernel⟩
def spCircuit : Sp := fun vs H Q _ => ∃ (M : Mu) (r : Addr), vs = [.ref r, .int 3, .int 3] ∧ Dom M H ∧ M r ∧ Rw H r ∧ ∀ H' c p ws d, Kp (M1 r) H H' → Rw H' r → Circ M H' c p ws → Pm p → ws.length = d + 1 → Q c H'
theorem cal_law_circuit (D : DefAt K mg "_law_circuit" s__law_circuit P__law_circuit) (T : Txt mg) (c__law_take : Cal P w K mg base 1 "_law_take" spTake []) (c__law_gate : Cal P w K mg base 2 "_law_gate" spGateL []) : Cal P w K mg base 3 "_law_circuit" spCircuit [] := by
  refine cal_of D sc__law_circuit (fun vs H Q E h => ?_) (fun f cdv A outer s H vs Q E hr h => ?_)
  · obtain ⟨_, _, rfl, _⟩ := h; rfl
  · obtain ⟨M, r, rfl, dM, mr, hR, q⟩ := h
    have hN : ∀ b, b = r → M b := fun b z => z ▸ mr
    refine ⟨_, (pss_cons (ps_set (i := 3) sc__law_circuit.nd rfl (Or.inr rfl) (pe_ix (r := rIxL K) ix_list (pe_lst (pa_cons pe_int (pa_cons pe_int (pa_cons pe_int (pa_cons pe_int (pa_cons pe_int pa_nil)))))) (pe_c c__law_take hr (by decide) (by rfl) (pa_cons (pv 0) (pa_cons pe_int pa_nil))) (fun _ _ => rfl)))
    (pss_cons (ps_set (i := 4) sc__law_circuit.nd rfl (Or.inl rfl) (pe_op op_add pe_int (pe_c c__law_take hr (by decide) (by rfl) (pa_cons (pv 0) (pa_cons (pv 1) pa_nil)))))
    (pss_cons (ps_set (i := 5) sc__law_circuit.nd rfl (Or.inr rfl) (pe_lc (own := [("_law_k", 8)]) (g := gName 8) (tt := tYes) rfl sc__law_circuit.nd (pi_range1 (by rfl) T.range (pa_cons (pe_op op_add (pv 4) pe_int) pa_nil)) (blkOk_by (own := [("_law_k", 8)]) (N := N__law_circuit) (sc := defScope s__law_circuit) (by decide +kernel)) (fun _ _ _ _ _ => (pg_name (i := 8) sc__law_circuit.nd rfl (Or.inl rfl))) (fun _ _ _ _ _ => pts_nil) (fun _ _ _ _ _ => (pe_c c__law_take hr (by decide) (by rfl) (pa_cons (pv 0) (pa_cons (pe_op op_add (pv 2) pe_int) pa_nil))))))
    (pss_cons (ps_set (i := 6) sc__law_circuit.nd rfl (Or.inl rfl) (pe_lst pa_nil))
    (pss_cons (ps_for PassesOwn.never rfl (pi_range1 (by rfl) T.range (pa_cons (pv 4) pa_nil)) (pg_name (i := 7) sc__law_circuit.nd rfl (Or.inr rfl))
      (pss_one (ps_expr (pe_bm PySem.F.plainAttrs_list PySem.F.slot_list_append PySem.F.type_list_append mt_append (pv 6) (pa_cons (pe_lc (own := [("_law_k", 8)]) (g := gName 8) (tt := tYes) rfl sc__law_circuit.nd (pi_range1 (by rfl) T.range (pa_cons (pe_op op_shl pe_int (pe_ix (r := rIxL K) ix_list (pv 5) (pv 7) (fun _ _ => rfl))) pa_nil)) (blkOk_by (own := [("_law_k", 8)]) (N := N__law_circuit) (sc := defScope s__law_circuit) (by decide +kernel)) (fun _ _ _ _ _ => (pg_name (i := 8) sc__law_circuit.nd rfl (Or.inl rfl))) (fun _ _ _ _ _ => pts_nil) (fun _ _ _ _ _ => (pe_c c__law_gate hr (by decide) (by rfl) (pa_cons (pv 0) (pa_cons (pv 3) (pa_cons (pe_op op_shl pe_int (pe_ix (r := rIxL K) ix_list (pv 5) (pe_op op_add (pv 7) pe_int) (fun _ _ => rfl))) pa_nil)))))) pa_nil)))))
    (pss_one (ps_ret (pe_tup (pa_cons pe_str (pa_cons (pv 3) (pa_cons (pv 5) (pa_cons (pv 6) pa_nil)))))))))))), ?_⟩
    walk_at "rd"
    refine ⟨sz (show 5 ≤ 100000 by decide), fun p1 n1 => ?_⟩
    have k1 : Kp M0 H (upd H p1 (.lst [.int 5, .int 7, .int 11, .int 13, .int 53])) := (Kp.refl _ _).new n1
    have e1 : upd H p1 (.lst [.int 5, .int 7, .int 11, .int 13, .int 53]) p1 = some (.lst [.int 5, .int 7, .int 11, .int 13, .int 53]) := upd_same
    have n1r : p1 ≠ r := fun z => hR.some (z ▸ n1)
    generalize (upd H p1 (.lst [.int 5, .int 7, .int 11, .int 13, .int 53])) = H1 at *
    walk_at "rd"
    refine r_take (hR.kp k1) (by omega) fun H2 v2 k2 R2 b2 => ?_
    obtain ⟨p, hp, hpm⟩ := pick_p b2
    have hpb := hpm.b
    have e2 := k2 _ _ n1r e1
    walk_at "rd"
    refine r_take R2 (by omega) fun H3 v3 k3 R3 b3 => ?_
    have k03 : Kp (M1 r) H H3 := k1.zero.trans (k2.trans k3)
    walk_at "rd"
    obtain ⟨d, hd⟩ : ∃ d : Nat, 1 + v3 = (d : Int) := ⟨(1 + v3).toNat, by omega⟩
    refine r_rng1 (d + 1) (by omega) (by omega) ?_
    intro D nD
    have nDr : D ≠ r := fun z => R3.some (z ▸ nD)
    refine lc_all walk_range (fun j H' => Kp (M1 r) H3 H' ∧ Rw H' r) (fun _ v => IsI 0 4 v) ⟨(Kp.refl _ _).new nD, R3.kp ((Kp.refl _ _).new nD)⟩ (fun _ _ _ _ => trivial) ?_ ?_
    · rintro j x J3 J4 hj hq ⟨rfl, rfl⟩
      obtain ⟨⟨kj, Rj⟩, acc, e3, _, _⟩ := id hq
      walk_at "rd"
      refine ⟨rfl, ?_⟩
      walk_at "rd"
      refine r_take Rj (by omega) fun J5 v5 k5 R5 b5 => ?_
      exact hq.next (by omega) (fun o e => k5 _ _ nDr e) ⟨kj.trans k5, R5⟩ (fun o z => ⟨z.1.mut nD, z.2.kpM ((Kp.refl (M1 D) _).own rfl) fun z => nDr z.symm⟩) (fun _ z => z) ⟨_, rfl, b5.1, by omega⟩ (fun _ _ z => z)
    rintro H4 wl ⟨k4, R4⟩ e4 z4 f4
    obtain ⟨ws, rfl, hws, hw3⟩ := ws_of z4 f4
    walk_at "rd"
    refine ⟨Nat.zero_le _, fun L nL => ?_⟩
    have kB : Kp M0 H4 (upd H4 L (.lst [])) := (Kp.refl _ _).new nL
    have eL : (upd H4 L (.lst [])) L = some (.lst []) := upd_same
    have nLr : L ≠ r := fun z => R4.some (z ▸ nL)
    have nDL : D ≠ L := ne_of_none e4 nL
    have eDB := kB.at e4
    have RB := R4.kp kB
    have k0B : Kp (M1 r) H (upd H4 L (.lst [])) := k03.trans (k4.trans kB.zero)
    generalize (upd H4 L (.lst [])) = HB at *
    have dMB : Dom M HB := dM.kp1 k0B RB.some
    walk_at "rd"
    rw [hd]
    refine r_rng1 d rfl (by omega) ?_
    refine for_range (fun i σ H' => Kp (fun b => b = r ∨ b = L) HB H' ∧ Rw H' r ∧ ∃ (ls : List V) (v7 v8 : Option V), H' L = some (.lst ls) ∧ ls.length = i ∧ (∀ (j : Nat) (v : V), ls[j]? = some v → GL (Mo M L) H' v (2 ^ wd ws j) p (2 ^ wd ws (j + 1))) ∧
        σ = [some (.ref r), some (.int 3), some (.int 3), some (.int p), some (.int (d : Int)), some (.ref D), some (.ref L), v7, v8])
      ⟨Kp.refl _ _, RB, [], _, _, eL, rfl, fun j v h => (by cases h), rfl⟩ ?_ ?_
    · rintro i σ H' hi ⟨kk, Ri, ls, v7, v8, eX, zX, fX, rfl⟩
      have eDi := kk _ _ (fun z => z.elim nDr nDL) eDB
      have a1 : atI (ws.map fun w => V.int (w : Nat)) (0 + (i : Int)) = some (.int ((wd ws i : Nat) : Int)) := by
        rw [Int.zero_add]; exact map_at (wd_get (by omega))
      have a2 : atI (ws.map fun w => V.int (w : Nat)) (0 + (i : Int) + 1) = some (.int ((wd ws (i + 1) : Nat) : Int)) := by
        rw [Int.zero_add]; exact map_at (i := i + 1) (wd_get (by omega))
      have s1 := hw3 i
      have s2 := hw3 (i + 1)
      have s3 := two_le s1
      walk_at "rd"
      refine r_rng1 (2 ^ wd ws i) rfl (by omega) ?_
      intro D5 nD5
      have nD5r : D5 ≠ r := fun z => Ri.some (z ▸ nD5)
      have nLD5 : L ≠ D5 := ne_of_none eX nD5
      have dMi : Dom (Mo M L) H' := fun b z => z.elim (fun z => by
        by_cases hb : b = r
        · rw [hb]; exact Ri.some
        · by_cases hb2 : b = L
          · rw [hb2]; exact some_ne eX
          · cases e : HB b with
            | none => exact (dMB b z e).elim
            | some o => rw [kk b o (fun z => z.elim hb hb2) e]; exact fun z => nomatch z) fun z => by rw [z]; exact some_ne eX
      refine lc_all walk_range (fun j H'' => Kp (M1 r) H' H'' ∧ Rw H'' r) (fun H'' g => Gate (Mo (Mo M L) D5) H'' p (2 ^ wd ws (i + 1)) g) ⟨(Kp.refl _ _).new nD5, Ri.kp ((Kp.refl _ _).new nD5)⟩ (fun _ _ _ _ => trivial) ?_ ?_
      · rintro j x J3 J4 hj hq ⟨rfl, rfl⟩
        obtain ⟨⟨kj, Rj⟩, acc, e3, _, _⟩ := id hq
        have eDj := kj _ _ nDr eDi
        walk_at "rd"
        refine ⟨rfl, ?_⟩
        walk_at "rd"
        refine r_gateL (M := Mo (Mo M L) D5) ((dMi.kp1 kj Rj.some).mo e3) (.inl (.inl mr)) Rj (by omega) two_pos fun J5 g5 k5 R5 h5 => ?_
        exact hq.next (by omega) (fun o e => k5 _ _ nD5r e) ⟨kj.trans k5, R5⟩ (fun o z => ⟨z.1.mut nD5, z.2.kpM ((Kp.refl (M1 D5) _).own rfl) fun z => nD5r z.symm⟩) (fun _ z => z.mono k5 fun b z => by rw [z]; exact .inl (.inl mr)) h5 (fun _ _ z => z.mono ((Kp.refl (M1 D5) _).own rfl) fun b z => .inr z)
      · rintro H6 acc ⟨k6, R6⟩ e6 z6 f6
        have eX6 := k6 _ _ nLr eX
        walk_at "rd"
        have k7 : Kp (M1 L) H6 (upd H6 L (.lst (ls ++ [.ref D5]))) := (Kp.refl _ _).own rfl
        refine ⟨kk.trans ((Kp.le k6 fun b z => .inl z).trans (Kp.le k7 fun b z => .inr z)), R6.kpM k7 (fun z => nLr z.symm), _, _, _, upd_same, by rw [List.length_append, zX]; rfl, fun j v hj => ?_, rfl⟩
        rcases app_get hj with h | ⟨h, rfl⟩
        · exact ((fX j v h).mono k6 fun b z => by rw [z]; exact .inl mr).mono k7 fun b z => .inr z
        · rw [h, zX]
          refine GL.mono (H := H6) ⟨D5, acc, rfl, e6, fun z => dMi _ z nD5, z6, fun x hx => ?_⟩ k7 fun b z => .inr z
          obtain ⟨a, e, na, h⟩ := f6 x hx
          exact ⟨a, e, fun z => na (.inl z), h⟩
    · rintro σ H' ⟨kk, Ri, ls, v7, v8, eX, zX, fX, rfl⟩
      walk_at "rd"
      refine ⟨sz (show 4 ≤ 100000 by decide), fun t nt => ?_⟩
      have kt : Kp M0 H' (upd H' t (.tup [.str "circuit", .int p, .ref D, .ref L])) := (Kp.refl _ _).new nt
      have kH : Kp (M1 r) H H' := fun b o n e => kk b o (fun z => z.elim n (ne_of_none ((k03.trans k4) b o n e) nL)) (k0B b o n e)
      have dMt := dM.kp1 kH Ri.some
      have nDM : ¬ M D := fun z => dM.kp1 k03 R3.some _ z nD
      have nLM : ¬ M L := fun z => dM.kp1 (k03.trans k4) R4.some _ z nL
      refine q _ _ p ws d (kH.trans kt.zero) (Ri.kp kt) ⟨t, D, L, ls, rfl, upd_same, dMt.fresh nt, kt.at (kk _ _ (fun z => z.elim nDr nDL) eDB), nDM, kt.at eX, nLM, by rw [hws, zX], by omega, by omega, hw3, fun i v h => ?_⟩ hpm hws
      obtain ⟨l, xs, e, h1, n1, z1, f1⟩ := (fX i v h).mono kt fun _ z => z.elim
      refine ⟨l, xs, e, h1, fun z => n1 (.inl z), z1, fun x hx => ?_⟩
      obtain ⟨a, e, na, h⟩ := f1 x hx
      exact ⟨a, e, fun z => na (.inl z), h⟩
theorem r_circuit {H : Hp} {Q : VK} {E : XK} {M : Mu} {r : Addr} (dM : Dom M H) (mr : M r) (h : Rw H r) (q : ∀ H' c p ws d, Kp (M1 r) H H' → Rw H' r → Circ M H' c p ws → Pm p → ws.length = d + 1 → Q c H') : spCircuit [.ref r, .int 3, .int 3] H Q E := ⟨M, r, rfl, dM, mr, h, q⟩
end

/-! ## LK5c -/
def lcScope : Expr → Scope
  | .ListComp _ _ sc _ => sc
  | _ => { kind := .function, names := [], isGenerator := false, isCoroutine := false }
def retLc : Stmt → Scope
  | .Return (some e) _ => lcScope e
  | _ => { kind := .function, names := [], isGenerator := false, isCoroutine := false }
section
variable {P : Program} {w : World} {K : PySem.W.Frag} {mg : Str → Option Value} {base : Heap} {C : Addr}
/-! ### _law_inputs -/
abbrev s__law_inputs : Stmt := top 45
abbrev N__law_inputs : List Str := ["_law_row", "_law_circuit_here", "_law_bits", "_law_columns", "_law_r", "_law_k"]
abbrev P__law_inputs : List Str := ["_law_row", "_law_circuit_here", "_law_bits"]
theorem sc__law_inputs : FnScope N__law_inputs P__law_inputs (defScope s__law_inputs) := ⟨rfl, rfl, rfl, by decide +kernel, rfl, by decide +kernel, by decide +kernel⟩
abbrev SCI__law_inputs : Scope := relabel (retLc ((defBody s__law_inputs).getD 1 (.Pass ⟨0, 0, 0, 0⟩))) { scope := defScope s__law_inputs, locals := 0, globals := 0, cells := [] }
def spInputs : Sp := fun vs H Q _ => ∃ (M : Mu) (r : Addr) (c : V) (p : Int) (ws : List Nat) (n d : Nat), vs = [.ref r, c, .int (n : Int)] ∧ Dom M H ∧ M r ∧ Rw H r ∧ Circ M H c p ws ∧ Pm p ∧ n ≤ 3 ∧ ws.length = d + 1 ∧ ∀ H' v, Kp (M1 r) H H' → Rw H' r → IL2 M H' v (2 ^ n) (2 ^ wd ws d) p → Q v H'
theorem cal_law_inputs (D : DefAt K mg "_law_inputs" s__law_inputs P__law_inputs) (T : Txt mg) (c__law_take : Cal P w K mg base 1 "_law_take" spTake []) : Cal P w K mg base 2 "_law_inputs" spInputs [] := by
  refine cal_of D sc__law_inputs (fun vs H Q E h => ?_) (fun f cdv A outer s H vs Q E hr h => ?_)
  · obtain ⟨_, _, _, _, _, _, _, rfl, _⟩ := h; rfl
  · obtain ⟨M, r, c, p, ws, n, d, rfl, dM, mr, hR, hC, hp, hn, hd, q⟩ := h
    obtain ⟨a, wl, ll, ls, hc⟩ := id hC
    obtain rfl := hc.ec
    have hpb := hp.b
    have h1 := hc.ha
    have h2 := hc.hw
    have hN : ∀ b, b = r → M b := fun b z => z ▸ mr
    have zw : (ws.map fun w => V.int (w : Nat)).length = d + 1 := by rw [List.length_map, hd]
    have hlast : atI (ws.map fun w => V.int (w : Nat)) (-1) = some (.int ((wd ws d : Nat) : Int)) := atI_lastN zw (by rw [List.getElem?_map, wd_get (by omega)]; rfl)
    have s1 := hc.small d
    have s2 := two_le hn
    have s3 := two_le s1
    refine ⟨_, (pss_cons (ps_set (i := 3) sc__law_inputs.nd rfl (Or.inr rfl) (pe_op op_shl pe_int (pe_ix (r := rIxL K) ix_list (pe_ix (r := rIxT K) ix_tup (pv 1) pe_int (fun _ _ => rfl)) (pe_un un_neg pe_int) (fun _ _ => rfl))))
    (pss_one (ps_ret (pe_lc (own := [("_law_r", 4)]) (g := gName 4) (tt := tYes) rfl sc__law_inputs.nd (pi_range1 (by rfl) T.range (pa_cons (pe_op op_shl pe_int (pv 2)) pa_nil)) (blkOk_by (own := [("_law_r", 4)]) (N := N__law_inputs) (sc := defScope s__law_inputs) (by decide +kernel)) (fun _ _ _ _ _ => (pg_name (i := 4) sc__law_inputs.nd rfl (Or.inl rfl))) (fun _ _ _ _ _ => pts_nil) (fun _ _ _ _ _ => (pe_lc (own := [("_law_k", 5)]) (g := gName 5) (tt := tYes) rfl sc__law_inputs.nd (pi_range1 (by rfl) T.range (pa_cons (pv 3) pa_nil)) (blkOk_by (own := [("_law_k", 5)]) (N := N__law_inputs) (sc := SCI__law_inputs) (by decide +kernel)) (fun _ _ _ _ _ => (pg_name (i := 5) sc__law_inputs.nd rfl (Or.inl rfl))) (fun _ _ _ _ _ => pts_nil) (fun _ _ _ _ _ => (pe_c c__law_take hr (by decide) (by rfl) (pa_cons (pv 0) (pa_cons (pe_ix (r := rIxT K) ix_tup (pv 1) pe_int (fun _ _ => rfl)) pa_nil)))))))))), ?_⟩
    walk_at "rd"
    refine r_rng1 (2 ^ n) rfl (by omega) ?_
    intro D nD
    have nDr : D ≠ r := fun z => hR.some (z ▸ nD)
    refine lc_all walk_range (fun j H' => Kp (M1 r) H H' ∧ Rw H' r) (fun H' v => IL (Mo M D) H' v (2 ^ wd ws d) p) ⟨(Kp.refl _ _).new nD, hR.kp ((Kp.refl _ _).new nD)⟩ (fun _ _ _ _ => trivial) ?_ ?_
    · rintro j x J3 J4 hj hq ⟨rfl, rfl⟩
      obtain ⟨⟨kj, Rj⟩, acc, e3, _, _⟩ := id hq
      walk_at "rd"
      refine ⟨rfl, ?_⟩
      walk_at "rd"
      refine r_rng1 (2 ^ wd ws d) rfl (by omega) ?_
      intro D5 nD5
      have nD5r : D5 ≠ r := fun z => Rj.some (z ▸ nD5)
      have nD5D : D ≠ D5 := ne_of_none e3 nD5
      have dMj : Dom (Mo M D) J4 := (dM.kp1 kj Rj.some).mo e3
      refine lc_all walk_range (fun j H'' => Kp (M1 r) J4 H'' ∧ Rw H'' r) (fun _ v => IsI 0 p v) ⟨(Kp.refl _ _).new nD5, Rj.kp ((Kp.refl _ _).new nD5)⟩ (fun _ _ _ _ => trivial) ?_ ?_
      · rintro i x J5 J6 hi hq5 ⟨rfl, rfl⟩
        obtain ⟨⟨ki, Ri⟩, acc5, e5, _, _⟩ := id hq5
        have g1 := (kj.trans ki) _ _ (fun z => hc.na (by rw [show a = r from z]; exact mr)) h1
        walk_at "rd"
        refine ⟨rfl, ?_⟩
        walk_at "rd"
        refine r_take Ri (by omega) fun J7 v7 k7 R7 b7 => ?_
        exact hq5.next (by omega) (fun o e => k7 _ _ nD5r e) ⟨ki.trans k7, R7⟩ (fun o z => ⟨z.1.mut nD5, z.2.kpM ((Kp.refl (M1 D5) _).own rfl) fun z => nD5r z.symm⟩) (fun _ z => z) ⟨_, rfl, b7⟩ (fun _ _ z => z)
      · rintro J8 acc8 ⟨k8, R8⟩ e8 z8 f8
        have hI8 : IL (Mo M D) J8 (.ref D5) (2 ^ wd ws d) p := ⟨D5, acc8, rfl, e8, fun z => dMj _ z nD5, z8, f8⟩
        exact hq.next (by omega) (fun o e => k8 _ _ nDr e) ⟨kj.trans k8, R8⟩ (fun o z => ⟨z.1.mut nD, z.2.kpM ((Kp.refl (M1 D) _).own rfl) fun z => nDr z.symm⟩) (fun _ z => IL.mono z k8 fun b z => by rw [z]; exact .inl mr) hI8 (fun _ _ z => IL.mono z ((Kp.refl (M1 D) _).own rfl) fun b z => .inr z)
    · rintro H3 acc ⟨k3, R3⟩ e3 z3 f3
      walk_at "rd"
      exact q _ _ k3 R3 ⟨D, acc, rfl, e3, fun z => dM _ z nD, z3, fun x hx => IL.le (f3 x hx) fun b z => .inl z⟩
theorem r_inputs {H : Hp} {Q : VK} {E : XK} {M : Mu} {r : Addr} {c : V} {p : Int} {ws : List Nat} {n d : Nat} (dM : Dom M H) (mr : M r) (h : Rw H r) (hC : Circ M H c p ws) (hp : Pm p) (hn : n ≤ 3) (hd : ws.length = d + 1)
    (q : ∀ H' v, Kp (M1 r) H H' → Rw H' r → IL2 M H' v (2 ^ n) (2 ^ wd ws d) p → Q v H') : spInputs [.ref r, c, .int (n : Int)] H Q E := ⟨M, r, c, p, ws, n, d, rfl, dM, mr, h, hC, hp, hn, hd, q⟩
end

/-! ## LK6 -/
/-! ### the law: numbers -/
theorem cut_one {xs : List V} (h : 0 < xs.length) : cutV xs (some 1) none = xs.drop 1 := by
  unfold cutV
  rw [show HT.sIx xs.length 0 (some 1) = min 1 xs.length from HT.sIx_nat xs.length 0 1, HT.sIx_none, show min 1 xs.length = 1 by omega]
  exact List.take_of_length_le (by rw [List.length_drop]; omega)
/-- the terms of the sum of the law -/
def termsOf (n : Nat) (ws : List Nat) : List Int := (ws.drop 1).map fun (w : Nat) => (n : Int) + 2 * (w : Int) + 1
theorem terms_at {n : Nat} {ws : List Nat} {i : Nat} (h : i + 1 < ws.length) : (termsOf n ws)[i]? = some ((n : Int) + 2 * (wd ws (i + 1) : Int) + 1) := by
  unfold termsOf
  rw [List.getElem?_map, List.getElem?_drop, Nat.add_comm 1 i, wd_get h]
  rfl
theorem terms_sum (n : Nat) (ws : List Nat) : ∀ {d : Nat}, d < ws.length → (n : Int) + (wd ws 0 : Int) + ((termsOf n ws).take d).sum = ((atN n ws d : Nat) : Int)
  | 0, _ => by
    show (n : Int) + (wd ws 0 : Int) + ([] : List Int).sum = ((n + wd ws 0 : Nat) : Int)
    rw [List.sum_nil]; omega
  | d + 1, h => by
    have ih := terms_sum n ws (d := d) (by omega)
    rw [sum_take (terms_at (n := n) h)]
    show _ = ((atN n ws d + (n + 2 * wd ws (d + 1) + 1) : Nat) : Int)
    omega
theorem atN_small {n : Nat} {ws : List Nat} (hn : n ≤ 3) (hw : ∀ i, wd ws i ≤ 3) : ∀ d, atN n ws d ≤ 6 + 10 * d
  | 0 => by have := hw 0; show n + wd ws 0 ≤ 6 + 10 * 0; omega
  | d + 1 => by
    have := atN_small hn hw d
    have := hw (d + 1)
    show atN n ws d + (n + 2 * wd ws (d + 1) + 1) ≤ _
    omega
def rMake (C : Addr) (sp : Sp) (E : XK) (Q : VK) : List V → Hp → Prop := fun vs H1 => ∀ x dx, H1 x = none → H1 dx = none → dx ≠ x → sp (.ref x :: vs) (upd (upd H1 dx (.own x)) x (.ins C dx [])) (fun v H2 => v = .non ∧ Q (.ref x) H2) E
theorem r_make {C : Addr} {sp : Sp} {E : XK} {Q : VK} {t : TA} {σ : L2.St} {H : Hp} (q : t σ H (rMake C sp E Q)) : tMake C sp [] E t σ H Q := by
  have e : (fun (vs : List V) (H1 : Hp) => ∀ x dx, H1 x = none → H1 dx = none → dx ≠ x → sp (.ref x :: (vs ++ [])) (upd (upd H1 dx (.own x)) x (.ins C dx [])) (fun v H2 => v = .non ∧ Q (.ref x) H2) E) = rMake C sp E Q := by
    funext vs H1
    rw [List.append_nil]
    rfl
  show t σ H (fun (vs : List V) (H1 : Hp) => ∀ x dx, H1 x = none → H1 dx = none → dx ≠ x → sp (.ref x :: (vs ++ [])) (upd (upd H1 dx (.own x)) x (.ins C dx [])) (fun v H2 => v = .non ∧ Q (.ref x) H2) E)
  rw [e]
  exact q
theorem r_yes {σ : L2.St} {H : Hp} {A B : Hp → Prop} (q : A H) : tYes σ H (fun b H3 => if b = true then A H3 else B H3) := by
  show (if true = true then A H else B H)
  rw [if_pos rfl]
  exact q
local macro_rules | `(tactic| walk_at "r1") => `(tactic| with_reducible refine' r_make ?_)
section
variable {P : Program} {w : World} {K : PySem.W.Frag} {mg : Str → Option Value} {base : Heap} {C : Addr}
/-! ### law -/
abbrev s_law : Stmt := top 46
abbrev N_law : List Str := ["_law_script", "_law_row", "_law_circuit_here", "_law_bits", "_law_p", "_law_rows", "_law_answerer", "_law_many", "_law_due", "_law_layer", "_law_gates", "_law_columns", "_law_told", "_law_more", "_law_below", "_law_k"]
abbrev P_law : List Str := ["_law_script"]
theorem sc_law : FnScope N_law P_law (defScope s_law) := ⟨rfl, rfl, rfl, by decide +kernel, rfl, by decide +kernel, by decide +kernel⟩
def spLaw (K : PySem.W.Frag) : Sp := fun vs H Q _ => ∃ (a : Addr) (ns : List Int), vs = [.ref a] ∧ SqL K H a (ns.map V.int) ∧ ns.length ≤ 63 ∧ ∀ H', Q (.bl true) H'
theorem fn_law {f : Addr} {fd : FuncData} (F : Fun K "law" "law" s_law f fd) (T : Txt mg) (T4 : AT K C) (c__law_stream : Cal P w K mg base 1 "_law_stream" (spStream K) []) (c__law_circuit : Cal P w K mg base 3 "_law_circuit" spCircuit []) (c__law_take : Cal P w K mg base 1 "_law_take" spTake [])
    (c__law_inputs : Cal P w K mg base 2 "_law_inputs" spInputs []) (c_Answerer : Mak P w K mg base 5 "Answerer" C (spInit C) []) (c_answers : Cal P w K mg base 6 "answers" (spAnswers C) []) (c_begin : Met P w K mg base 4 C "begin" (spBegin C) []) : FnOk P w K mg base CX0 7 f fd P_law (spLaw K) := by
  refine F.ok sc_law (fun vs H Q E h => ?_) (fun cdv A0 outer s0 H vs Q E hr h => ?_)
  · obtain ⟨_, _, rfl, _⟩ := h; rfl
  · obtain ⟨a0, ns, rfl, hS, hz, q⟩ := h
    refine ⟨_, (pss_cons (ps_set (i := 1) sc_law.nd rfl (Or.inr rfl) (pe_c c__law_stream hr (by decide) (by rfl) (pa_cons (pv 0) pa_nil)))
    (pss_cons (ps_set (i := 2) sc_law.nd rfl (Or.inl rfl) (pe_c c__law_circuit hr (by decide) (by rfl) (pa_cons (pv 1) (pa_cons pe_int (pa_cons pe_int pa_nil)))))
    (pss_cons (ps_set (i := 3) sc_law.nd rfl (Or.inr rfl) (pe_c c__law_take hr (by decide) (by rfl) (pa_cons (pv 1) (pa_cons pe_int pa_nil))))
    (pss_cons (ps_set (i := 4) sc_law.nd rfl (Or.inr rfl) (pe_ix (r := rIxT K) ix_tup (pv 2) pe_int (fun _ _ => rfl)))
    (pss_cons (ps_set (i := 5) sc_law.nd rfl (Or.inl rfl) (pe_c c__law_inputs hr (by decide) (by rfl) (pa_cons (pv 1) (pa_cons (pv 2) (pa_cons (pv 3) pa_nil)))))
    (pss_cons (ps_set (i := 6) sc_law.nd rfl (Or.inl rfl) (pe_mk c_Answerer hr (by decide) (by rfl) (pa_cons (pv 2) (pa_cons (pv 5) pa_nil))))
    (pss_cons (ps_if (pt_cmpR op_ne (pe_fldK (K := K) (pv 6) rfl) pe_int (nomark _))
      (pss_one (ps_ret pe_bl))
      pss_nil)
    (pss_cons (ps_set (i := 7) sc_law.nd rfl (Or.inl rfl) (pe_op op_add (pe_op op_add (pv 3) (pe_ix (r := rIxL K) ix_list (pe_ix (r := rIxT K) ix_tup (pv 2) pe_int (fun _ _ => rfl)) pe_int (fun _ _ => rfl))) (pe_callB (cr_sum rfl) (by rfl) T.sum (by decide +kernel) (pa_cons (pe_lc (own := [("_law_below", 14)]) (g := gName 14) (tt := tYes) rfl sc_law.nd (pi_list (pe_slice (r := rSlL K) sl_list (pe_ix (r := rIxT K) ix_tup (pv 2) pe_int (fun _ _ => rfl)) (po_some pe_int) po_none)) (blkOk_by (own := [("_law_below", 14)]) (N := N_law) (sc := defScope s_law) (by decide +kernel)) (fun _ _ _ _ _ => (pg_name (i := 14) sc_law.nd rfl (Or.inl rfl))) (fun _ _ _ _ _ => pts_nil) (fun _ _ _ _ _ => (pe_op op_add (pe_op op_add (pv 3) (pe_op op_mul pe_int (pv 14))) pe_int))) pa_nil))))
    (pss_cons (ps_set (i := 8) sc_law.nd rfl (Or.inl rfl) pe_int)
    (pss_cons (ps_for PassesOwn.never rfl (pi_range1 (by rfl) T.range (pa_cons (pe_callB (r := rLen K) call_lenS (by rfl) T.len PySem.boot_len (pa_cons (pe_ix (r := rIxT K) ix_tup (pv 2) pe_int (fun _ _ => rfl)) pa_nil)) pa_nil)) (pg_name (i := 9) sc_law.nd rfl (Or.inl rfl))
      (pss_cons (ps_set (i := 10) sc_law.nd rfl (Or.inl rfl) (pe_op op_shl pe_int (pe_ix (r := rIxL K) ix_list (pe_ix (r := rIxT K) ix_tup (pv 2) pe_int (fun _ _ => rfl)) (pv 9) (fun _ _ => rfl))))
    (pss_cons (ps_set (i := 11) sc_law.nd rfl (Or.inl rfl) (pe_op op_shl pe_int (pe_ix (r := rIxL K) ix_list (pe_ix (r := rIxT K) ix_tup (pv 2) pe_int (fun _ _ => rfl)) (pe_op op_add (pv 9) pe_int) (fun _ _ => rfl))))
    (pss_one (ps_set (i := 8) sc_law.nd rfl (Or.inl rfl) (pe_op op_add (pe_op op_add (pe_op op_add (pv 8) (pe_op op_mul (pe_op op_mul pe_int (pe_op op_sub (pe_op op_shl pe_int (pv 3)) pe_int)) (pe_op op_add (pv 10) (pv 11)))) (pe_op op_mul pe_int (pv 10))) (pe_op op_mul pe_int (pe_op op_sub (pv 11) pe_int))))))))
    (pss_cons (ps_expr (pe_c c_answers hr (by decide) (by rfl) (pa_cons (pv 6) (pa_cons (pe_lc (own := [("_law_k", 15)]) (g := gName 15) (tt := tYes) rfl sc_law.nd (pi_range1 (by rfl) T.range (pa_cons (pv 7) pa_nil)) (blkOk_by (own := [("_law_k", 15)]) (N := N_law) (sc := defScope s_law) (by decide +kernel)) (fun _ _ _ _ _ => (pg_name (i := 15) sc_law.nd rfl (Or.inl rfl))) (fun _ _ _ _ _ => pts_nil) (fun _ _ _ _ _ => (pe_c c__law_take hr (by decide) (by rfl) (pa_cons (pv 1) (pa_cons (pv 4) pa_nil))))) pa_nil))))
    (pss_cons (ps_set (i := 12) sc_law.nd rfl (Or.inl rfl) (pe_fldK (K := K) (pv 6) rfl))
    (pss_cons (ps_if (PW.pt (pw_or (pt_val (pe_callB (r := rIsi K) call_isi (by rfl) T.isinstance (by decide +kernel) (pa_cons (pv 12) (pa_cons (pe_bltn (v := .ty "bool") (by rfl) T.bool (by decide +kernel) rfl) pa_nil)))) (pw_or1 (pt_cmpR op_ne (pv 12) (pv 8) (nomark _)))))
      (pss_one (ps_ret pe_bl))
      pss_nil)
    (pss_cons (ps_expr (pe_mt c_begin hr (by decide) (pv 6) (pa_cons pe_int (pa_cons (pe_lc (own := [("_law_k", 15)]) (g := gName 15) (tt := tYes) rfl sc_law.nd (pi_range1 (by rfl) T.range (pa_cons (pe_op op_add (pv 3) (pe_ix (r := rIxL K) ix_list (pe_ix (r := rIxT K) ix_tup (pv 2) pe_int (fun _ _ => rfl)) pe_int (fun _ _ => rfl))) pa_nil)) (blkOk_by (own := [("_law_k", 15)]) (N := N_law) (sc := defScope s_law) (by decide +kernel)) (fun _ _ _ _ _ => (pg_name (i := 15) sc_law.nd rfl (Or.inl rfl))) (fun _ _ _ _ _ => pts_nil) (fun _ _ _ _ _ => (pe_c c__law_take hr (by decide) (by rfl) (pa_cons (pv 1) (pa_cons (pv 4) pa_nil))))) pa_nil))))
    (pss_cons (ps_set (i := 13) sc_law.nd rfl (Or.inl rfl) pe_int)
    (pss_cons (ps_if (pt_cmpR op_eq (pv 3) pe_int (nomark _))
      (pss_cons (ps_set (i := 13) sc_law.nd rfl (Or.inl rfl) (pe_op op_shl pe_int (pe_ix (r := rIxL K) ix_list (pe_ix (r := rIxT K) ix_tup (pv 2) pe_int (fun _ _ => rfl)) pe_int (fun _ _ => rfl))))
    (pss_one (ps_if (pt_cmpR op_eq (pe_ix (r := rIxL K) ix_list (pe_ix (r := rIxT K) ix_tup (pv 2) pe_int (fun _ _ => rfl)) pe_int (fun _ _ => rfl)) pe_int (nomark _))
      (pss_one (ps_set (i := 13) sc_law.nd rfl (Or.inl rfl) (pe_op op_mul pe_int (pv 13))))
      pss_nil)))
      pss_nil)
    (pss_one (ps_ret (pe_cmpR op_eq (pe_fldK (K := K) (pv 6) rfl) (pe_op op_add (pv 12) (pv 13)) (nomark _)))))))))))))))))))), ?_⟩
    walk_at "rd"
    refine r_stream hS hz fun H1 r k1 nr R1 => ?_
    have d1 : Dom (M1 r) H1 := fun b z => by rw [show b = r from z]; exact R1.some
    walk_at "rd"
    refine r_circuit (M := M1 r) d1 rfl R1 fun H2 c p ws d k2 R2 hC2 hp hd => ?_
    have hpb := hp.b
    walk_at "rd"
    refine r_take R2 (by omega) fun H3 vn k3 R3 bn => ?_
    obtain ⟨n, rfl⟩ : ∃ n : Nat, vn = (n : Int) := ⟨vn.toNat, by omega⟩
    have hn : n ≤ 3 := by omega
    have hC3 := hC2.mono k3 fun _ z => z
    obtain ⟨a3, wl3, ll3, ls3, hc3⟩ := id hC3
    have ec3 := hc3.ec
    have ha3 := hc3.ha
    subst ec3
    walk_at "rd"
    refine r_inputs (M := M1 r) (d1.kp1 (k2.trans k3) R3.some) rfl R3 hC3 hp hn hd fun H4 vr k4 R4 hr4 => ?_
    have hC4 := hC3.mono k4 fun _ z => z
    walk_at "rd"
    intro x dx nx ndx nex
    have k5 : Kp M0 H4 (upd (upd H4 dx (.own x)) x (.ins C dx [])) := ((Kp.refl _ _).new ndx).new (by rw [upd_ne nex.symm]; exact nx)
    have e5 : upd (upd H4 dx (.own x)) x (.ins C dx []) x = some (.ins C dx []) := upd_same
    generalize (upd (upd H4 dx (.own x)) x (.ins C dx [])) = H5 at *
    have nxr : x ≠ r := fun z => R4.some (z ▸ nx)
    have d5 : Dom (Mo (M1 r) x) H5 := (((d1.kp1 ((k2.trans k3).trans k4) R4.some)).kp k5).mo e5
    have hC5 := (hC4.up nx).kp k5
    have hr5 := IL2.kp (IL2.up hr4 nx) k5
    refine ⟨Mo (M1 r) x, x, dx, _, vr, n, p, ws, d, rfl, e5, .inr rfl, d5, hC5, hr5, hp, hn, hd, fun H6 tv st6 k6 sb6 => ⟨rfl, ?_⟩⟩
    obtain ⟨A, hA⟩ : ∃ A : Par, A = ⟨Mo (M1 r) x, x, V.ref a3, tv, n, p, ws, d⟩ := ⟨_, rfl⟩
    have o6 := sb6.ob
    have es6 := sb6.es
    have R6 := (R4.kp k5).kpM k6 fun z => nxr z.symm
    have hC6 : Circ (Mo (M1 r) x) H6 (V.ref a3) p ws := sb6.hc
    obtain ⟨a, wl, ll, ls, hc⟩ := id hC6
    have eca : V.ref a3 = V.ref a := hc.ec
    cases eca
    have ha6 := hc.ha
    have hw6 := hc.hw
    have hl6 := hc.hl
    have hlen := hc.len
    have hpos := hc.pos
    have hle := hc.le
    have hsm := hc.small
    have zw : (ws.map fun w => V.int (w : Nat)).length = d + 1 := by rw [List.length_map, hd]
    have g0 : atI (ws.map fun w => V.int (w : Nat)) 0 = some (.int ((wd ws 0 : Nat) : Int)) := map_at (i := 0) (wd_get (by omega))
    have g1 : atI (ws.map fun w => V.int (w : Nat)) 1 = some (.int ((wd ws 1 : Nat) : Int)) := map_at (i := 1) (wd_get (by omega))
    walk_at "rd"
    intro p7 n7
    have k7 : Kp M0 H6 (upd H6 p7 (.lst (cutV (ws.map fun w => V.int (w : Nat)) (some 1) none))) := (Kp.refl _ _).new n7
    have e7 : upd H6 p7 (.lst (cutV (ws.map fun w => V.int (w : Nat)) (some 1) none)) p7 = some (.lst (cutV (ws.map fun w => V.int (w : Nat)) (some 1) none)) := upd_same
    generalize (upd H6 p7 (.lst (cutV (ws.map fun w => V.int (w : Nat)) (some 1) none))) = H7 at *
    rw [cut_one (by omega)] at e7
    walk_at "rd"
    intro D8 nD8
    have zt : ((ws.map fun w => V.int (w : Nat)).drop 1).length = d := by rw [List.length_drop, zw]; omega
    refine lc_it walk_list (fun i H' => Kp M0 H7 H' ∧ H' D8 = some (.lst (((termsOf n ws).take i).map V.int))) ⟨(Kp.refl _ _).new nD8, upd_same⟩ (fun i H' _ h => SqL.of (h.1.at e7)) ?_ ?_
    · rintro i z J1 J2 hi ⟨kJ, eJ⟩ ⟨rfl, hy⟩
      rw [zt] at hi
      have hy2 : z = .int ((wd ws (i + 1) : Nat) : Int) := by
        rw [List.getElem?_drop, Nat.add_comm 1 i, List.getElem?_map, wd_get (by omega)] at hy
        exact (Option.some.inj hy).symm
      subst hy2
      walk_at "rd"
      refine ⟨rfl, ?_⟩
      refine r_yes ?_
      walk_at "rd"
      refine ⟨_, eJ, szl (by rw [List.length_map, List.length_take]; have : (termsOf n ws).length = d := (by unfold termsOf; rw [List.length_map, List.length_drop, hd]; omega); omega), kJ.mut nD8, ?_⟩
      rw [upd_same, List.take_add_one, terms_at (by omega), List.map_append]
      rfl
    rintro H8 ⟨k8, e8⟩
    rw [zt] at e8
    walk_at "rd"
    refine r_sum e8 ?_
    walk_at "rd"
    rw [terms_sum n ws (by omega)]
    have k68 := k7.trans k8
    have ha8 := k68.at ha6
    have hw8 := k68.at hw6
    have hl8 := k68.at hl6
    have s2 := two_le hn
    walk_at "rd"
    refine r_rng1 d (by omega) (by omega) ?_
    refine for_range (fun i σ H' => H' = H8 ∧ ∃ (v9 v10 v11 v12 v13 v14 v15 : Option V), σ = [some (.ref a0), some (.ref r), some (.ref a3), some (.int (n : Int)), some (.int p), some vr, some (.ref x), some (.int ((atN n ws d : Nat) : Int)), some (.int (tot n ws i)), v9, v10, v11, v12, v13, v14, v15])
      ⟨rfl, _, _, _, _, _, _, _, rfl⟩ ?_ ?_
    · rintro i σ H' hi ⟨rfl, v9, v10, v11, v12, v13, v14, v15, rfl⟩
      have a1 : atI (ws.map fun w => V.int (w : Nat)) (0 + (i : Int)) = some (.int ((wd ws i : Nat) : Int)) := by
        rw [Int.zero_add]; exact map_at (wd_get (by omega))
      have a2 : atI (ws.map fun w => V.int (w : Nat)) (0 + (i : Int) + 1) = some (.int ((wd ws (i + 1) : Nat) : Int)) := by
        rw [Int.zero_add]; exact map_at (i := i + 1) (wd_get (by omega))
      have s5 := hsm i
      have s6 := hsm (i + 1)
      have t1 := two_b hn
      have t2 := two_b s5
      have t3 := two_b s6
      walk_at "rd"
      have e : tot n ws i + 4 * (((2 ^ n : Nat) : Int) - 1) * (((2 ^ wd ws i : Nat) : Int) + ((2 ^ wd ws (i + 1) : Nat) : Int)) + 2 * ((2 ^ wd ws i : Nat) : Int) + 6 * (((2 ^ wd ws (i + 1) : Nat) : Int) - 1) = tot n ws (i + 1) := by
        show _ = tot n ws i + (4 * (((2 ^ n : Nat) : Int) - 1) * (((2 ^ wd ws i : Nat) : Int) + ((2 ^ wd ws (i + 1) : Nat) : Int)) + 2 * ((2 ^ wd ws i : Nat) : Int) + 6 * (((2 ^ wd ws (i + 1) : Nat) : Int) - 1))
        rw [Int.add_assoc, Int.add_assoc, Int.add_assoc]
      rw [e]
      exact ⟨rfl, _, _, _, _, _, _, _, rfl⟩
    rintro σ H' ⟨rfl, v9, v10, v11, v12, v13, v14, v15, rfl⟩
    have hat := atN_small hn hsm d
    have mr : Mo (M1 r) x r := .inl rfl
    have mxx : Mo (M1 r) x x := .inr rfl
    have hNr : ∀ b, b = r → Mo (M1 r) x b := fun b z => .inl z
    have o8 := o6.kp k68
    have R8 := R6.kp k68
    have sb8 := sb6.mono k68 (fun _ z => z.elim) o8 (sb6.dm.kp k68)
    have nxr' : ¬ M1 r x := fun z => nxr z
    walk_at "rd"
    refine r_rng1 (atN n ws d) rfl (by omega) ?_
    intro D9 nD9
    have nD9r : D9 ≠ r := fun z => R8.some (z ▸ nD9)
    refine lc_all walk_range (fun j J => Kp (M1 r) H' J ∧ Rw J r) (fun _ v => IsI 0 p v) ⟨(Kp.refl _ _).new nD9, R8.kp ((Kp.refl _ _).new nD9)⟩ (fun _ _ _ _ => trivial) ?_ ?_
    · rintro i z J5 J6 hi hq5 ⟨rfl, rfl⟩
      obtain ⟨⟨ki, Ri⟩, acc5, e5', _, _⟩ := id hq5
      walk_at "rd"
      refine ⟨rfl, ?_⟩
      walk_at "rd"
      refine r_take Ri (by omega) fun J7 v7 k7' R7 b7 => ?_
      exact hq5.next (by omega) (fun o e => k7' _ _ nD9r e) ⟨ki.trans k7', R7⟩ (fun o z => ⟨z.1.mut nD9, z.2.kpM ((Kp.refl (M1 D9) _).own rfl) fun z => nD9r z.symm⟩) (fun _ z => z) ⟨_, rfl, b7⟩ (fun _ _ z => z)
    rintro H9 acc9 ⟨k9, R9⟩ e9 z9 f9
    have hth : IL (Mo (M1 r) x) H9 (.ref D9) (atN n ws d) p := ⟨D9, acc9, rfl, e9, fun z => sb8.dm _ z nD9, z9, f9⟩
    have o9 := o8.kpM k9 nxr'
    have sb9 := sb8.mono k9 hNr o9 (sb8.dm.kp1 k9 R9.some)
    walk_at "rd"
    refine r_answers (A := ⟨Mo (M1 r) x, x, .ref a3, tv, n, p, ws, d⟩) rfl sb9 hth fun H10 v10' st10 k10 sb10 => ?_
    have o10 : Ob H10 x C st10 := sb10.ob
    have es10 : st10 .steps = some (.int (0 + tot n ws d)) := sb10.es
    have R10 := R9.kpM k10 fun z => nxr z.symm
    have hC10 : Circ (Mo (M1 r) x) H10 (V.ref a3) p ws := sb10.hc
    obtain ⟨a', wl', ll', ls', hc'⟩ := id hC10
    have eca' : V.ref a3 = V.ref a' := hc'.ec
    cases eca'
    have ha10 := hc'.ha
    have hw10 := hc'.hw
    walk_at "rd"
    refine r_methV o10 (by decide +kernel) ?_
    walk_at "rd"
    refine r_rng1 (n + wd ws 0) (by omega) (by have := hsm 0; omega) ?_
    intro D11 nD11
    have nD11r : D11 ≠ r := fun z => R10.some (z ▸ nD11)
    refine lc_all walk_range (fun j J => Kp (M1 r) H10 J ∧ Rw J r) (fun _ v => IsI 0 p v) ⟨(Kp.refl _ _).new nD11, R10.kp ((Kp.refl _ _).new nD11)⟩ (fun _ _ _ _ => trivial) ?_ ?_
    · rintro i z J5 J6 hi hq5 ⟨rfl, rfl⟩
      obtain ⟨⟨ki, Ri⟩, acc5, e5', _, _⟩ := id hq5
      have := hsm 0
      walk_at "rd"
      refine ⟨rfl, ?_⟩
      walk_at "rd"
      refine r_take Ri (by omega) fun J7 v7 k7' R7 b7 => ?_
      exact hq5.next (by omega) (fun o e => k7' _ _ nD11r e) ⟨ki.trans k7', R7⟩ (fun o z => ⟨z.1.mut nD11, z.2.kpM ((Kp.refl (M1 D11) _).own rfl) fun z => nD11r z.symm⟩) (fun _ z => z) ⟨_, rfl, b7⟩ (fun _ _ z => z)
    rintro H11 acc11 ⟨k11, R11⟩ e11 z11 f11
    have hth11 : IL (Mo (M1 r) x) H11 (.ref D11) (n + wd ws 0) p := ⟨D11, acc11, rfl, e11, fun z => sb10.dm _ z nD11, z11, f11⟩
    have o11 := o10.kpM k11 nxr'
    have sb11 := sb10.mono k11 hNr o11 (sb10.dm.kp1 k11 R11.some)
    walk_at "rd"
    refine r_begin (A := ⟨Mo (M1 r) x, x, .ref a3, tv, n, p, ws, d⟩) (i := 0) rfl rfl sb11 (by show 0 < d; omega) hth11 fun H12 st12 k12 ls12 => ?_
    have o12 : Ob H12 x C st12 := ls12.cs.sb.ob
    have es12 : st12 .steps = some (.int (0 + tot n ws d + tcost n (wd ws 1) ((2 ^ wd ws 0 : Nat) : Int) 0)) := ls12.cs.sb.es
    have hC12 : Circ (Mo (M1 r) x) H12 (V.ref a3) p ws := ls12.cs.sb.hc
    obtain ⟨a4, wl4, ll4, ls4, hc4⟩ := id hC12
    have eca4 : V.ref a3 = V.ref a4 := hc4.ec
    cases eca4
    have ha12 := hc4.ha
    have hw12 := hc4.hw
    have s7 := hsm 0
    walk_at "rd"
    have h73 := two_b s7
    have fin : ∀ {i j : Int}, i = j → decide (V.int i = V.int j) = true := fun h => decide_eq_true (by rw [h])
    by_cases hn0 : n = 0
    · by_cases hw0 : wd ws 1 = 0
      · have e : tcost n (wd ws 1) ((2 ^ wd ws 0 : Nat) : Int) 0 = 2 * ((2 ^ wd ws 0 : Nat) : Int) := by
          unfold tcost
          rw [if_pos (by omega), if_pos (by omega)]
          omega
        walk_at "rd"
        rw [fin (by rw [e])]
        exact q _
      · have e : tcost n (wd ws 1) ((2 ^ wd ws 0 : Nat) : Int) 0 = ((2 ^ wd ws 0 : Nat) : Int) := by
          unfold tcost
          rw [if_pos (by omega), if_neg (by omega), Int.add_zero]
        walk_at "rd"
        rw [fin (by rw [e])]
        exact q _
    · have e : tcost n (wd ws 1) ((2 ^ wd ws 0 : Nat) : Int) 0 = 0 := by
        unfold tcost
        rw [if_neg (by omega), if_neg (by omega)]
        rfl
      walk_at "rd"
      rw [fin (by rw [e])]
      exact q _
end

/-! ## LK7 -/
/-! ### what the top has written -/
section
variable {K : PySem.W.Frag} {h : Heap} {mg : Str → Option Value} {x qual : Str} {st : Stmt} {f C : Addr} {oc kV doc pm cdv ct : Value} {od an : Option Addr} {osl : Array (Option Value)}
theorem def_mk (X : K.In h) (G : h.Ns mainGlobals mg) (ps : List Str) (a : PySem.W.nsIn K mainGlobals x = some (some (.ref f))) (l : K.lookup f = some ⟨oc, od, .func (PySem.W.fnOf x x (defArgs st) (defBody st) (defScope st) .none kV doc pm an cdv ct), osl⟩) (c : PySem.W.codeIn K cdv x = true) (k : PySem.W.keepIn K (.ref f) = true)
    (hb : ∀ (kV doc pm : Value) (an : Option Addr) (cdv ct : Value) (us : List Value), us.length = ps.length → bindArgs (PySem.W.fnOf x x (defArgs st) (defBody st) (defScope st) .none kV doc pm an cdv ct) ⟨us, []⟩ = pure (ps.zip us)) : DefAt K mg x st ps :=
  ⟨f, _, fun_mk l c k, PySem.W.mg_of X G a, (fun_mk l c k).binds hb⟩
theorem met_mk (ps : List Str) (cl : Cls K C) (a : PySem.W.findIn K (.ref C) x = some (some (.ref f))) (i : PySem.W.isFn K (.ref f) = true) (l : K.lookup f = some ⟨oc, od, .func (PySem.W.fnOf x qual (defArgs st) (defBody st) (defScope st) .none kV doc pm an cdv ct), osl⟩) (c : PySem.W.codeIn K cdv qual = true) (k : PySem.W.keepIn K (.ref f) = true)
    (hb : ∀ (kV doc pm : Value) (an : Option Addr) (cdv ct : Value) (us : List Value), us.length = ps.length → bindArgs (PySem.W.fnOf x qual (defArgs st) (defBody st) (defScope st) .none kV doc pm an cdv ct) ⟨us, []⟩ = pure (ps.zip us)) : MetAt K C x qual st ps :=
  ⟨f, _, cl, ⟨a, i, k⟩, fun_mk l c k, (fun_mk l c k).binds hb⟩
end

theorem all_mk {l : PySem.W.OpenLaw} {w : World} {K : PySem.W.Frag} {h : Heap} {mg : Str → Option Value} {fa C : Addr} (X : K.In h) (G : h.Ns mainGlobals mg) (hfa : mg "law" = some (.ref fa))
    {f1 : Addr} {od1 an1 : Option Addr} {sl1 : Array (Option Value)} {oc1 kV1 dc1 pm1 cd1 ct1 : Value}
    {f2 : Addr} {od2 an2 : Option Addr} {sl2 : Array (Option Value)} {oc2 kV2 dc2 pm2 cd2 ct2 : Value}
    {f3 : Addr} {od3 an3 : Option Addr} {sl3 : Array (Option Value)} {oc3 kV3 dc3 pm3 cd3 ct3 : Value}
    {f4 : Addr} {od4 an4 : Option Addr} {sl4 : Array (Option Value)} {oc4 kV4 dc4 pm4 cd4 ct4 : Value}
    {f5 : Addr} {od5 an5 : Option Addr} {sl5 : Array (Option Value)} {oc5 kV5 dc5 pm5 cd5 ct5 : Value}
    {f6 : Addr} {od6 an6 : Option Addr} {sl6 : Array (Option Value)} {oc6 kV6 dc6 pm6 cd6 ct6 : Value}
    {f7 : Addr} {od7 an7 : Option Addr} {sl7 : Array (Option Value)} {oc7 kV7 dc7 pm7 cd7 ct7 : Value}
    {f8 : Addr} {od8 an8 : Option Addr} {sl8 : Array (Option Value)} {oc8 kV8 dc8 pm8 cd8 ct8 : Value}
    {f9 : Addr} {od9 an9 : Option Addr} {sl9 : Array (Option Value)} {oc9 kV9 dc9 pm9 cd9 ct9 : Value}
    {f10 : Addr} {od10 an10 : Option Addr} {sl10 : Array (Option Value)} {oc10 kV10 dc10 pm10 cd10 ct10 : Value}
    {f11 : Addr} {od11 an11 : Option Addr} {sl11 : Array (Option Value)} {oc11 kV11 dc11 pm11 cd11 ct11 : Value}
    {f12 : Addr} {od12 an12 : Option Addr} {sl12 : Array (Option Value)} {oc12 kV12 dc12 pm12 cd12 ct12 : Value}
    {f13 : Addr} {od13 an13 : Option Addr} {sl13 : Array (Option Value)} {oc13 kV13 dc13 pm13 cd13 ct13 : Value}
    {f14 : Addr} {od14 an14 : Option Addr} {sl14 : Array (Option Value)} {oc14 kV14 dc14 pm14 cd14 ct14 : Value}
    {f15 : Addr} {od15 an15 : Option Addr} {sl15 : Array (Option Value)} {oc15 kV15 dc15 pm15 cd15 ct15 : Value}
    {f16 : Addr} {od16 an16 : Option Addr} {sl16 : Array (Option Value)} {oc16 kV16 dc16 pm16 cd16 ct16 : Value}
    {f17 : Addr} {od17 an17 : Option Addr} {sl17 : Array (Option Value)} {oc17 kV17 dc17 pm17 cd17 ct17 : Value}
    {f18 : Addr} {od18 an18 : Option Addr} {sl18 : Array (Option Value)} {oc18 kV18 dc18 pm18 cd18 ct18 : Value}
    {f19 : Addr} {od19 an19 : Option Addr} {sl19 : Array (Option Value)} {oc19 kV19 dc19 pm19 cd19 ct19 : Value}
    {f20 : Addr} {od20 an20 : Option Addr} {sl20 : Array (Option Value)} {oc20 kV20 dc20 pm20 cd20 ct20 : Value}
    {f21 : Addr} {od21 an21 : Option Addr} {sl21 : Array (Option Value)} {oc21 kV21 dc21 pm21 cd21 ct21 : Value}
    {f22 : Addr} {od22 an22 : Option Addr} {sl22 : Array (Option Value)} {oc22 kV22 dc22 pm22 cd22 ct22 : Value}
    {f23 : Addr} {od23 an23 : Option Addr} {sl23 : Array (Option Value)} {oc23 kV23 dc23 pm23 cd23 ct23 : Value}
    {f24 : Addr} {od24 an24 : Option Addr} {sl24 : Array (Option Value)} {oc24 kV24 dc24 pm24 cd24 ct24 : Value}
    {f25 : Addr} {od25 an25 : Option Addr} {sl25 : Array (Option Value)} {oc25 kV25 dc25 pm25 cd25 ct25 : Value}
    {f26 : Addr} {od26 an26 : Option Addr} {sl26 : Array (Option Value)} {oc26 kV26 dc26 pm26 cd26 ct26 : Value}
    {f27 : Addr} {od27 an27 : Option Addr} {sl27 : Array (Option Value)} {oc27 kV27 dc27 pm27 cd27 ct27 : Value}
    {f28 : Addr} {od28 an28 : Option Addr} {sl28 : Array (Option Value)} {oc28 kV28 dc28 pm28 cd28 ct28 : Value}
    {f29 : Addr} {od29 an29 : Option Addr} {sl29 : Array (Option Value)} {oc29 kV29 dc29 pm29 cd29 ct29 : Value}
    {f30 : Addr} {od30 an30 : Option Addr} {sl30 : Array (Option Value)} {oc30 kV30 dc30 pm30 cd30 ct30 : Value}
    {f31 : Addr} {od31 an31 : Option Addr} {sl31 : Array (Option Value)} {oc31 kV31 dc31 pm31 cd31 ct31 : Value}
    {f32 : Addr} {od32 an32 : Option Addr} {sl32 : Array (Option Value)} {oc32 kV32 dc32 pm32 cd32 ct32 : Value}
    {f33 : Addr} {od33 an33 : Option Addr} {sl33 : Array (Option Value)} {oc33 kV33 dc33 pm33 cd33 ct33 : Value}
    {f34 : Addr} {od34 an34 : Option Addr} {sl34 : Array (Option Value)} {oc34 kV34 dc34 pm34 cd34 ct34 : Value}
    {f35 : Addr} {od35 an35 : Option Addr} {sl35 : Array (Option Value)} {oc35 kV35 dc35 pm35 cd35 ct35 : Value}
    {f36 : Addr} {od36 an36 : Option Addr} {sl36 : Array (Option Value)} {oc36 kV36 dc36 pm36 cd36 ct36 : Value}
    {f37 : Addr} {od37 an37 : Option Addr} {sl37 : Array (Option Value)} {oc37 kV37 dc37 pm37 cd37 ct37 : Value}
    {f38 : Addr} {od38 an38 : Option Addr} {sl38 : Array (Option Value)} {oc38 kV38 dc38 pm38 cd38 ct38 : Value}
    {f39 : Addr} {od39 an39 : Option Addr} {sl39 : Array (Option Value)} {oc39 kV39 dc39 pm39 cd39 ct39 : Value}
    {f40 : Addr} {od40 an40 : Option Addr} {sl40 : Array (Option Value)} {oc40 kV40 dc40 pm40 cd40 ct40 : Value}
    {f41 : Addr} {od41 an41 : Option Addr} {sl41 : Array (Option Value)} {oc41 kV41 dc41 pm41 cd41 ct41 : Value}
    {t_MOST : Tok}
    {t_MAX_WIDTH : Tok}
    {t_MAX_LAYERS : Tok}
    {t_MAX_GATES : Tok}
    {t_MAX_ROWS : Tok}
    (a1 : PySem.W.nsIn K mainGlobals "is_prime" = some (some (.ref f1)))
    (l1 : K.lookup f1 = some ⟨oc1, od1, .func (PySem.W.fnOf "is_prime" "is_prime" (defArgs s_is_prime) (defBody s_is_prime) (defScope s_is_prime) .none kV1 dc1 pm1 an1 cd1 ct1), sl1⟩)
    (c1 : PySem.W.codeIn K cd1 "is_prime" = true)
    (k1 : PySem.W.keepIn K (.ref f1) = true)
    (a2 : PySem.W.nsIn K mainGlobals "check_modulus" = some (some (.ref f2)))
    (l2 : K.lookup f2 = some ⟨oc2, od2, .func (PySem.W.fnOf "check_modulus" "check_modulus" (defArgs s_check_modulus) (defBody s_check_modulus) (defScope s_check_modulus) .none kV2 dc2 pm2 an2 cd2 ct2), sl2⟩)
    (c2 : PySem.W.codeIn K cd2 "check_modulus" = true)
    (k2 : PySem.W.keepIn K (.ref f2) = true)
    (a3 : PySem.W.nsIn K mainGlobals "fits" = some (some (.ref f3)))
    (l3 : K.lookup f3 = some ⟨oc3, od3, .func (PySem.W.fnOf "fits" "fits" (defArgs s_fits) (defBody s_fits) (defScope s_fits) .none kV3 dc3 pm3 an3 cd3 ct3), sl3⟩)
    (c3 : PySem.W.codeIn K cd3 "fits" = true)
    (k3 : PySem.W.keepIn K (.ref f3) = true)
    (a4 : PySem.W.nsIn K mainGlobals "is_gate" = some (some (.ref f4)))
    (l4 : K.lookup f4 = some ⟨oc4, od4, .func (PySem.W.fnOf "is_gate" "is_gate" (defArgs s_is_gate) (defBody s_is_gate) (defScope s_is_gate) .none kV4 dc4 pm4 an4 cd4 ct4), sl4⟩)
    (c4 : PySem.W.codeIn K cd4 "is_gate" = true)
    (k4 : PySem.W.keepIn K (.ref f4) = true)
    (a5 : PySem.W.nsIn K mainGlobals "is_shaped" = some (some (.ref f5)))
    (l5 : K.lookup f5 = some ⟨oc5, od5, .func (PySem.W.fnOf "is_shaped" "is_shaped" (defArgs s_is_shaped) (defBody s_is_shaped) (defScope s_is_shaped) .none kV5 dc5 pm5 an5 cd5 ct5), sl5⟩)
    (c5 : PySem.W.codeIn K cd5 "is_shaped" = true)
    (k5 : PySem.W.keepIn K (.ref f5) = true)
    (a6 : PySem.W.nsIn K mainGlobals "checked" = some (some (.ref f6)))
    (l6 : K.lookup f6 = some ⟨oc6, od6, .func (PySem.W.fnOf "checked" "checked" (defArgs s_checked) (defBody s_checked) (defScope s_checked) .none kV6 dc6 pm6 an6 cd6 ct6), sl6⟩)
    (c6 : PySem.W.codeIn K cd6 "checked" = true)
    (k6 : PySem.W.keepIn K (.ref f6) = true)
    (a7 : PySem.W.nsIn K mainGlobals "modulus" = some (some (.ref f7)))
    (l7 : K.lookup f7 = some ⟨oc7, od7, .func (PySem.W.fnOf "modulus" "modulus" (defArgs s_modulus) (defBody s_modulus) (defScope s_modulus) .none kV7 dc7 pm7 an7 cd7 ct7), sl7⟩)
    (c7 : PySem.W.codeIn K cd7 "modulus" = true)
    (k7 : PySem.W.keepIn K (.ref f7) = true)
    (a8 : PySem.W.nsIn K mainGlobals "depth" = some (some (.ref f8)))
    (l8 : K.lookup f8 = some ⟨oc8, od8, .func (PySem.W.fnOf "depth" "depth" (defArgs s_depth) (defBody s_depth) (defScope s_depth) .none kV8 dc8 pm8 an8 cd8 ct8), sl8⟩)
    (c8 : PySem.W.codeIn K cd8 "depth" = true)
    (k8 : PySem.W.keepIn K (.ref f8) = true)
    (a9 : PySem.W.nsIn K mainGlobals "width" = some (some (.ref f9)))
    (l9 : K.lookup f9 = some ⟨oc9, od9, .func (PySem.W.fnOf "width" "width" (defArgs s_width) (defBody s_width) (defScope s_width) .none kV9 dc9 pm9 an9 cd9 ct9), sl9⟩)
    (c9 : PySem.W.codeIn K cd9 "width" = true)
    (k9 : PySem.W.keepIn K (.ref f9) = true)
    (a10 : PySem.W.nsIn K mainGlobals "row_bits" = some (some (.ref f10)))
    (l10 : K.lookup f10 = some ⟨oc10, od10, .func (PySem.W.fnOf "row_bits" "row_bits" (defArgs s_row_bits) (defBody s_row_bits) (defScope s_row_bits) .none kV10 dc10 pm10 an10 cd10 ct10), sl10⟩)
    (c10 : PySem.W.codeIn K cd10 "row_bits" = true)
    (k10 : PySem.W.keepIn K (.ref f10) = true)
    (a11 : PySem.W.nsIn K mainGlobals "checked_rows" = some (some (.ref f11)))
    (l11 : K.lookup f11 = some ⟨oc11, od11, .func (PySem.W.fnOf "checked_rows" "checked_rows" (defArgs s_checked_rows) (defBody s_checked_rows) (defScope s_checked_rows) .none kV11 dc11 pm11 an11 cd11 ct11), sl11⟩)
    (c11 : PySem.W.codeIn K cd11 "checked_rows" = true)
    (k11 : PySem.W.keepIn K (.ref f11) = true)
    (a12 : PySem.W.nsIn K mainGlobals "gate_value" = some (some (.ref f12)))
    (l12 : K.lookup f12 = some ⟨oc12, od12, .func (PySem.W.fnOf "gate_value" "gate_value" (defArgs s_gate_value) (defBody s_gate_value) (defScope s_gate_value) .none kV12 dc12 pm12 an12 cd12 ct12), sl12⟩)
    (c12 : PySem.W.codeIn K cd12 "gate_value" = true)
    (k12 : PySem.W.keepIn K (.ref f12) = true)
    (a13 : PySem.W.nsIn K mainGlobals "run_row" = some (some (.ref f13)))
    (l13 : K.lookup f13 = some ⟨oc13, od13, .func (PySem.W.fnOf "run_row" "run_row" (defArgs s_run_row) (defBody s_run_row) (defScope s_run_row) .none kV13 dc13 pm13 an13 cd13 ct13), sl13⟩)
    (c13 : PySem.W.codeIn K cd13 "run_row" = true)
    (k13 : PySem.W.keepIn K (.ref f13) = true)
    (a14 : PySem.W.nsIn K mainGlobals "run" = some (some (.ref f14)))
    (l14 : K.lookup f14 = some ⟨oc14, od14, .func (PySem.W.fnOf "run" "run" (defArgs s_run) (defBody s_run) (defScope s_run) .none kV14 dc14 pm14 an14 cd14 ct14), sl14⟩)
    (c14 : PySem.W.codeIn K cd14 "run" = true)
    (k14 : PySem.W.keepIn K (.ref f14) = true)
    (a15 : PySem.W.nsIn K mainGlobals "point_table" = some (some (.ref f15)))
    (l15 : K.lookup f15 = some ⟨oc15, od15, .func (PySem.W.fnOf "point_table" "point_table" (defArgs s_point_table) (defBody s_point_table) (defScope s_point_table) .none kV15 dc15 pm15 an15 cd15 ct15), sl15⟩)
    (c15 : PySem.W.codeIn K cd15 "point_table" = true)
    (k15 : PySem.W.keepIn K (.ref f15) = true)
    (a16 : PySem.W.nsIn K mainGlobals "value_at" = some (some (.ref f16)))
    (l16 : K.lookup f16 = some ⟨oc16, od16, .func (PySem.W.fnOf "value_at" "value_at" (defArgs s_value_at) (defBody s_value_at) (defScope s_value_at) .none kV16 dc16 pm16 an16 cd16 ct16), sl16⟩)
    (c16 : PySem.W.codeIn K cd16 "value_at" = true)
    (k16 : PySem.W.keepIn K (.ref f16) = true)
    (a17 : PySem.W.nsIn K mainGlobals "fold" = some (some (.ref f17)))
    (l17 : K.lookup f17 = some ⟨oc17, od17, .func (PySem.W.fnOf "fold" "fold" (defArgs s_fold) (defBody s_fold) (defScope s_fold) .none kV17 dc17 pm17 an17 cd17 ct17), sl17⟩)
    (c17 : PySem.W.codeIn K cd17 "fold" = true)
    (k17 : PySem.W.keepIn K (.ref f17) = true)
    (a18 : PySem.W.nsIn K mainGlobals "between" = some (some (.ref f18)))
    (l18 : K.lookup f18 = some ⟨oc18, od18, .func (PySem.W.fnOf "between" "between" (defArgs s_between) (defBody s_between) (defScope s_between) .none kV18 dc18 pm18 an18 cd18 ct18), sl18⟩)
    (c18 : PySem.W.codeIn K cd18 "between" = true)
    (k18 : PySem.W.keepIn K (.ref f18) = true)
    (a19 : PySem.W.nsIn K mainGlobals "line_values" = some (some (.ref f19)))
    (l19 : K.lookup f19 = some ⟨oc19, od19, .func (PySem.W.fnOf "line_values" "line_values" (defArgs s_line_values) (defBody s_line_values) (defScope s_line_values) .none kV19 dc19 pm19 an19 cd19 ct19), sl19⟩)
    (c19 : PySem.W.codeIn K cd19 "line_values" = true)
    (k19 : PySem.W.keepIn K (.ref f19) = true)
    (a20 : PySem.W.nsIn K mainGlobals "weighted_gates" = some (some (.ref f20)))
    (l20 : K.lookup f20 = some ⟨oc20, od20, .func (PySem.W.fnOf "weighted_gates" "weighted_gates" (defArgs s_weighted_gates) (defBody s_weighted_gates) (defScope s_weighted_gates) .none kV20 dc20 pm20 an20 cd20 ct20), sl20⟩)
    (c20 : PySem.W.codeIn K cd20 "weighted_gates" = true)
    (k20 : PySem.W.keepIn K (.ref f20) = true)
    (a21 : PySem.W.nsIn K mainGlobals "gates_sum" = some (some (.ref f21)))
    (l21 : K.lookup f21 = some ⟨oc21, od21, .func (PySem.W.fnOf "gates_sum" "gates_sum" (defArgs s_gates_sum) (defBody s_gates_sum) (defScope s_gates_sum) .none kV21 dc21 pm21 an21 cd21 ct21), sl21⟩)
    (c21 : PySem.W.codeIn K cd21 "gates_sum" = true)
    (k21 : PySem.W.keepIn K (.ref f21) = true)
    (a22 : PySem.W.nsIn K mainGlobals "at_number" = some (some (.ref f22)))
    (l22 : K.lookup f22 = some ⟨oc22, od22, .func (PySem.W.fnOf "at_number" "at_number" (defArgs s_at_number) (defBody s_at_number) (defScope s_at_number) .none kV22 dc22 pm22 an22 cd22 ct22), sl22⟩)
    (c22 : PySem.W.codeIn K cd22 "at_number" = true)
    (k22 : PySem.W.keepIn K (.ref f22) = true)
    (a23 : PySem.W.nsIn K mainGlobals "rounds_of" = some (some (.ref f23)))
    (l23 : K.lookup f23 = some ⟨oc23, od23, .func (PySem.W.fnOf "rounds_of" "rounds_of" (defArgs s_rounds_of) (defBody s_rounds_of) (defScope s_rounds_of) .none kV23 dc23 pm23 an23 cd23 ct23), sl23⟩)
    (c23 : PySem.W.codeIn K cd23 "rounds_of" = true)
    (k23 : PySem.W.keepIn K (.ref f23) = true)
    (a24 : PySem.W.nsIn K mainGlobals "layer_answers" = some (some (.ref f24)))
    (l24 : K.lookup f24 = some ⟨oc24, od24, .func (PySem.W.fnOf "layer_answers" "layer_answers" (defArgs s_layer_answers) (defBody s_layer_answers) (defScope s_layer_answers) .none kV24 dc24 pm24 an24 cd24 ct24), sl24⟩)
    (c24 : PySem.W.codeIn K cd24 "layer_answers" = true)
    (k24 : PySem.W.keepIn K (.ref f24) = true)
    (a25 : PySem.W.nsIn K mainGlobals "answers" = some (some (.ref f25)))
    (l25 : K.lookup f25 = some ⟨oc25, od25, .func (PySem.W.fnOf "answers" "answers" (defArgs s_answers) (defBody s_answers) (defScope s_answers) .none kV25 dc25 pm25 an25 cd25 ct25), sl25⟩)
    (c25 : PySem.W.codeIn K cd25 "answers" = true)
    (k25 : PySem.W.keepIn K (.ref f25) = true)
    (a26 : PySem.W.nsIn K mainGlobals "_law_stream" = some (some (.ref f26)))
    (l26 : K.lookup f26 = some ⟨oc26, od26, .func (PySem.W.fnOf "_law_stream" "_law_stream" (defArgs s__law_stream) (defBody s__law_stream) (defScope s__law_stream) .none kV26 dc26 pm26 an26 cd26 ct26), sl26⟩)
    (c26 : PySem.W.codeIn K cd26 "_law_stream" = true)
    (k26 : PySem.W.keepIn K (.ref f26) = true)
    (a27 : PySem.W.nsIn K mainGlobals "_law_take" = some (some (.ref f27)))
    (l27 : K.lookup f27 = some ⟨oc27, od27, .func (PySem.W.fnOf "_law_take" "_law_take" (defArgs s__law_take) (defBody s__law_take) (defScope s__law_take) .none kV27 dc27 pm27 an27 cd27 ct27), sl27⟩)
    (c27 : PySem.W.codeIn K cd27 "_law_take" = true)
    (k27 : PySem.W.keepIn K (.ref f27) = true)
    (a28 : PySem.W.nsIn K mainGlobals "_law_gate" = some (some (.ref f28)))
    (l28 : K.lookup f28 = some ⟨oc28, od28, .func (PySem.W.fnOf "_law_gate" "_law_gate" (defArgs s__law_gate) (defBody s__law_gate) (defScope s__law_gate) .none kV28 dc28 pm28 an28 cd28 ct28), sl28⟩)
    (c28 : PySem.W.codeIn K cd28 "_law_gate" = true)
    (k28 : PySem.W.keepIn K (.ref f28) = true)
    (a29 : PySem.W.nsIn K mainGlobals "_law_circuit" = some (some (.ref f29)))
    (l29 : K.lookup f29 = some ⟨oc29, od29, .func (PySem.W.fnOf "_law_circuit" "_law_circuit" (defArgs s__law_circuit) (defBody s__law_circuit) (defScope s__law_circuit) .none kV29 dc29 pm29 an29 cd29 ct29), sl29⟩)
    (c29 : PySem.W.codeIn K cd29 "_law_circuit" = true)
    (k29 : PySem.W.keepIn K (.ref f29) = true)
    (a30 : PySem.W.nsIn K mainGlobals "_law_inputs" = some (some (.ref f30)))
    (l30 : K.lookup f30 = some ⟨oc30, od30, .func (PySem.W.fnOf "_law_inputs" "_law_inputs" (defArgs s__law_inputs) (defBody s__law_inputs) (defScope s__law_inputs) .none kV30 dc30 pm30 an30 cd30 ct30), sl30⟩)
    (c30 : PySem.W.codeIn K cd30 "_law_inputs" = true)
    (k30 : PySem.W.keepIn K (.ref f30) = true)
    (a31 : PySem.W.nsIn K mainGlobals "law" = some (some (.ref f31)))
    (l31 : K.lookup f31 = some ⟨oc31, od31, .func (PySem.W.fnOf "law" "law" (defArgs s_law) (defBody s_law) (defScope s_law) .none kV31 dc31 pm31 an31 cd31 ct31), sl31⟩)
    (c31 : PySem.W.codeIn K cd31 "law" = true)
    (k31 : PySem.W.keepIn K (.ref f31) = true)
    (a32 : PySem.W.findIn K (.ref C) "__init__" = some (some (.ref f32)))
    (i32 : PySem.W.isFn K (.ref f32) = true)
    (l32 : K.lookup f32 = some ⟨oc32, od32, .func (PySem.W.fnOf "__init__" "Answerer.__init__" (defArgs s_Answerer___init__) (defBody s_Answerer___init__) (defScope s_Answerer___init__) .none kV32 dc32 pm32 an32 cd32 ct32), sl32⟩)
    (c32 : PySem.W.codeIn K cd32 "Answerer.__init__" = true)
    (k32 : PySem.W.keepIn K (.ref f32) = true)
    (a33 : PySem.W.findIn K (.ref C) "begin" = some (some (.ref f33)))
    (i33 : PySem.W.isFn K (.ref f33) = true)
    (l33 : K.lookup f33 = some ⟨oc33, od33, .func (PySem.W.fnOf "begin" "Answerer.begin" (defArgs s_Answerer_begin) (defBody s_Answerer_begin) (defScope s_Answerer_begin) .none kV33 dc33 pm33 an33 cd33 ct33), sl33⟩)
    (c33 : PySem.W.codeIn K cd33 "Answerer.begin" = true)
    (k33 : PySem.W.keepIn K (.ref f33) = true)
    (a34 : PySem.W.findIn K (.ref C) "turn" = some (some (.ref f34)))
    (i34 : PySem.W.isFn K (.ref f34) = true)
    (l34 : K.lookup f34 = some ⟨oc34, od34, .func (PySem.W.fnOf "turn" "Answerer.turn" (defArgs s_Answerer_turn) (defBody s_Answerer_turn) (defScope s_Answerer_turn) .none kV34 dc34 pm34 an34 cd34 ct34), sl34⟩)
    (c34 : PySem.W.codeIn K cd34 "Answerer.turn" = true)
    (k34 : PySem.W.keepIn K (.ref f34) = true)
    (a35 : PySem.W.findIn K (.ref C) "first_tables" = some (some (.ref f35)))
    (i35 : PySem.W.isFn K (.ref f35) = true)
    (l35 : K.lookup f35 = some ⟨oc35, od35, .func (PySem.W.fnOf "first_tables" "Answerer.first_tables" (defArgs s_Answerer_first_tables) (defBody s_Answerer_first_tables) (defScope s_Answerer_first_tables) .none kV35 dc35 pm35 an35 cd35 ct35), sl35⟩)
    (c35 : PySem.W.codeIn K cd35 "Answerer.first_tables" = true)
    (k35 : PySem.W.keepIn K (.ref f35) = true)
    (a36 : PySem.W.findIn K (.ref C) "second_tables" = some (some (.ref f36)))
    (i36 : PySem.W.isFn K (.ref f36) = true)
    (l36 : K.lookup f36 = some ⟨oc36, od36, .func (PySem.W.fnOf "second_tables" "Answerer.second_tables" (defArgs s_Answerer_second_tables) (defBody s_Answerer_second_tables) (defScope s_Answerer_second_tables) .none kV36 dc36 pm36 an36 cd36 ct36), sl36⟩)
    (c36 : PySem.W.codeIn K cd36 "Answerer.second_tables" = true)
    (k36 : PySem.W.keepIn K (.ref f36) = true)
    (a37 : PySem.W.findIn K (.ref C) "row_value" = some (some (.ref f37)))
    (i37 : PySem.W.isFn K (.ref f37) = true)
    (l37 : K.lookup f37 = some ⟨oc37, od37, .func (PySem.W.fnOf "row_value" "Answerer.row_value" (defArgs s_Answerer_row_value) (defBody s_Answerer_row_value) (defScope s_Answerer_row_value) .none kV37 dc37 pm37 an37 cd37 ct37), sl37⟩)
    (c37 : PySem.W.codeIn K cd37 "Answerer.row_value" = true)
    (k37 : PySem.W.keepIn K (.ref f37) = true)
    (a38 : PySem.W.findIn K (.ref C) "column_value" = some (some (.ref f38)))
    (i38 : PySem.W.isFn K (.ref f38) = true)
    (l38 : K.lookup f38 = some ⟨oc38, od38, .func (PySem.W.fnOf "column_value" "Answerer.column_value" (defArgs s_Answerer_column_value) (defBody s_Answerer_column_value) (defScope s_Answerer_column_value) .none kV38 dc38 pm38 an38 cd38 ct38), sl38⟩)
    (c38 : PySem.W.codeIn K cd38 "Answerer.column_value" = true)
    (k38 : PySem.W.keepIn K (.ref f38) = true)
    (a39 : PySem.W.findIn K (.ref C) "poly" = some (some (.ref f39)))
    (i39 : PySem.W.isFn K (.ref f39) = true)
    (l39 : K.lookup f39 = some ⟨oc39, od39, .func (PySem.W.fnOf "poly" "Answerer.poly" (defArgs s_Answerer_poly) (defBody s_Answerer_poly) (defScope s_Answerer_poly) .none kV39 dc39 pm39 an39 cd39 ct39), sl39⟩)
    (c39 : PySem.W.codeIn K cd39 "Answerer.poly" = true)
    (k39 : PySem.W.keepIn K (.ref f39) = true)
    (a40 : PySem.W.findIn K (.ref C) "throw" = some (some (.ref f40)))
    (i40 : PySem.W.isFn K (.ref f40) = true)
    (l40 : K.lookup f40 = some ⟨oc40, od40, .func (PySem.W.fnOf "throw" "Answerer.throw" (defArgs s_Answerer_throw) (defBody s_Answerer_throw) (defScope s_Answerer_throw) .none kV40 dc40 pm40 an40 cd40 ct40), sl40⟩)
    (c40 : PySem.W.codeIn K cd40 "Answerer.throw" = true)
    (k40 : PySem.W.keepIn K (.ref f40) = true)
    (a41 : PySem.W.findIn K (.ref C) "line" = some (some (.ref f41)))
    (i41 : PySem.W.isFn K (.ref f41) = true)
    (l41 : K.lookup f41 = some ⟨oc41, od41, .func (PySem.W.fnOf "line" "Answerer.line" (defArgs s_Answerer_line) (defBody s_Answerer_line) (defScope s_Answerer_line) .none kV41 dc41 pm41 an41 cd41 ct41), sl41⟩)
    (c41 : PySem.W.codeIn K cd41 "Answerer.line" = true)
    (k41 : PySem.W.keepIn K (.ref f41) = true)
    (aC : PySem.W.nsIn K mainGlobals "Answerer" = some (some (.ref C)))
    (pg : PySem.W.plainGet K C Str.empty = true) (hd : PySem.W.hasDictIn K C = true) (po : PySem.W.plainOver K C = true) (sa : PySem.W.findIn K (.ref C) "__setattr__" = some (some (.builtin "object.__setattr__"))) (mk : PySem.W.makesIn K C = true) (kc : PySem.W.keepIn K (.ref C) = true)
    (n_circuit : PySem.W.findIn K (.ref C) "circuit" = some none)
    (n_tables : PySem.W.findIn K (.ref C) "tables" = some none)
    (n_bits : PySem.W.findIn K (.ref C) "bits" = some none)
    (n_p : PySem.W.findIn K (.ref C) "p" = some none)
    (n_steps : PySem.W.findIn K (.ref C) "steps" = some none)
    (n_layer : PySem.W.findIn K (.ref C) "layer" = some none)
    (n_round : PySem.W.findIn K (.ref C) "round" = some none)
    (n_wide : PySem.W.findIn K (.ref C) "wide" = some none)
    (n_gates : PySem.W.findIn K (.ref C) "gates" = some none)
    (n_near : PySem.W.findIn K (.ref C) "near" = some none)
    (n_columns : PySem.W.findIn K (.ref C) "columns" = some none)
    (n_first : PySem.W.findIn K (.ref C) "first" = some none)
    (n_second : PySem.W.findIn K (.ref C) "second" = some none)
    (n_share : PySem.W.findIn K (.ref C) "share" = some none)
    (n_below : PySem.W.findIn K (.ref C) "below" = some none)
    (n_factors : PySem.W.findIn K (.ref C) "factors" = some none)
    (n_rest : PySem.W.findIn K (.ref C) "rest" = some none)
    (n_left : PySem.W.findIn K (.ref C) "left" = some none)
    (z_len : PySem.W.nsIn K mainGlobals "len" = some none)
    (z_range : PySem.W.nsIn K mainGlobals "range" = some none)
    (z_zip : PySem.W.nsIn K mainGlobals "zip" = some none)
    (z_enumerate : PySem.W.nsIn K mainGlobals "enumerate" = some none)
    (z_isinstance : PySem.W.nsIn K mainGlobals "isinstance" = some none)
    (z_int : PySem.W.nsIn K mainGlobals "int" = some none)
    (z_bool : PySem.W.nsIn K mainGlobals "bool" = some none)
    (z_list : PySem.W.nsIn K mainGlobals "list" = some none)
    (z_tuple : PySem.W.nsIn K mainGlobals "tuple" = some none)
    (z_all : PySem.W.nsIn K mainGlobals "all" = some none)
    (z_sum : PySem.W.nsIn K mainGlobals "sum" = some none)
    (z_max : PySem.W.nsIn K mainGlobals "max" = some none)
    (z_abs : PySem.W.nsIn K mainGlobals "abs" = some none)
    (v_MOST : PySem.W.nsIn K mainGlobals "MOST" = some (some (.int 2147483647 t_MOST)))
    (v_MAX_WIDTH : PySem.W.nsIn K mainGlobals "MAX_WIDTH" = some (some (.int 8 t_MAX_WIDTH)))
    (v_MAX_LAYERS : PySem.W.nsIn K mainGlobals "MAX_LAYERS" = some (some (.int 64 t_MAX_LAYERS)))
    (v_MAX_GATES : PySem.W.nsIn K mainGlobals "MAX_GATES" = some (some (.int 4096 t_MAX_GATES)))
    (v_MAX_ROWS : PySem.W.nsIn K mainGlobals "MAX_ROWS" = some (some (.int 1024 t_MAX_ROWS)))
    : ∃ fd : FuncData, (∀ (s : Shared) (v : Value), BindsTo s fd ⟨[v], []⟩ [("_law_script", v)]) ∧ ∀ base : Heap, K.In base → base.Ns mainGlobals mg → FnOk l.prog w K mg base CX0 7 fa fd P_law (spLaw K) := by
  have e := hfa.symm.trans (PySem.W.mg_of X G a31)
  cases e
  have T : Txt mg := ⟨PySem.W.mg_none_of X G z_len, PySem.W.mg_none_of X G z_range, PySem.W.mg_none_of X G z_zip, PySem.W.mg_none_of X G z_enumerate, PySem.W.mg_none_of X G z_isinstance, PySem.W.mg_none_of X G z_int, PySem.W.mg_none_of X G z_bool, PySem.W.mg_none_of X G z_list, PySem.W.mg_none_of X G z_tuple, PySem.W.mg_none_of X G z_all, PySem.W.mg_none_of X G z_sum, PySem.W.mg_none_of X G z_max, PySem.W.mg_none_of X G z_abs, ⟨_, PySem.W.mg_of X G v_MOST⟩, ⟨_, PySem.W.mg_of X G v_MAX_WIDTH⟩, ⟨_, PySem.W.mg_of X G v_MAX_LAYERS⟩, ⟨_, PySem.W.mg_of X G v_MAX_GATES⟩, ⟨_, PySem.W.mg_of X G v_MAX_ROWS⟩⟩
  have cl : Cls K C := ⟨pg, hd, po, sa⟩
  have T4 : AT K C := ⟨cl, fun k => by cases k <;> assumption⟩
  refine ⟨PySem.W.fnOf "law" "law" (defArgs s_law) (defBody s_law) (defScope s_law) .none kV31 dc31 pm31 an31 cd31 ct31, fun s v => .of_eq rfl, fun base _ _ => ?_⟩
  have C_at_number : Cal l.prog w K mg base 1 "at_number" spAtNumber [] := cal_at_number (def_mk X G P_at_number a22 l22 c22 k22 (fun _ _ _ _ _ _ us hl => match us, hl with | [_, _, _], _ => rfl)) 
  have C_modulus : Cal l.prog w K mg base 1 "modulus" spModulus [] := cal_modulus (def_mk X G P_modulus a7 l7 c7 k7 (fun _ _ _ _ _ _ us hl => match us, hl with | [_], _ => rfl)) 
  have C_depth : Cal l.prog w K mg base 1 "depth" spDepth [] := cal_depth (def_mk X G P_depth a8 l8 c8 k8 (fun _ _ _ _ _ _ us hl => match us, hl with | [_], _ => rfl)) T
  have C_width : Cal l.prog w K mg base 1 "width" spWidth [] := cal_width (def_mk X G P_width a9 l9 c9 k9 (fun _ _ _ _ _ _ us hl => match us, hl with | [_, _], _ => rfl)) 
  have C_fits : Cal l.prog w K mg base 1 "fits" spFits [] := cal_fits (def_mk X G P_fits a3 l3 c3 k3 (fun _ _ _ _ _ _ us hl => match us, hl with | [_, _], _ => rfl)) T
  have C_is_gate : Cal l.prog w K mg base 2 "is_gate" spIsGate [] := cal_is_gate (def_mk X G P_is_gate a4 l4 c4 k4 (fun _ _ _ _ _ _ us hl => match us, hl with | [_, _, _], _ => rfl)) T C_fits
  have C_is_prime : Cal l.prog w K mg base 1 "is_prime" spIsPrime [] := cal_is_prime (def_mk X G P_is_prime a1 l1 c1 k1 (fun _ _ _ _ _ _ us hl => match us, hl with | [_], _ => rfl)) 
  have C_check_modulus : Cal l.prog w K mg base 2 "check_modulus" spCheckModulus [] := cal_check_modulus (def_mk X G P_check_modulus a2 l2 c2 k2 (fun _ _ _ _ _ _ us hl => match us, hl with | [_], _ => rfl)) T C_is_prime
  have C_row_bits : Cal l.prog w K mg base 1 "row_bits" spRowBits [] := cal_row_bits (def_mk X G P_row_bits a10 l10 c10 k10 (fun _ _ _ _ _ _ us hl => match us, hl with | [_], _ => rfl)) T
  have C_is_shaped : Cal l.prog w K mg base 1 "is_shaped" spIsShaped [] := cal_is_shaped (def_mk X G P_is_shaped a5 l5 c5 k5 (fun _ _ _ _ _ _ us hl => match us, hl with | [_], _ => rfl)) T
  have C_checked : Cal l.prog w K mg base 3 "checked" spChecked [] := cal_checked (def_mk X G P_checked a6 l6 c6 k6 (fun _ _ _ _ _ _ us hl => match us, hl with | [_], _ => rfl)) T C_is_shaped C_check_modulus C_is_gate
  have C_checked_rows : Cal l.prog w K mg base 2 "checked_rows" spCheckedRows [] := cal_checked_rows (def_mk X G P_checked_rows a11 l11 c11 k11 (fun _ _ _ _ _ _ us hl => match us, hl with | [_, _], _ => rfl)) T C_modulus C_width C_depth C_row_bits C_fits
  have C_gate_value : Cal l.prog w K mg base 1 "gate_value" spGateValue [] := cal_gate_value (def_mk X G P_gate_value a12 l12 c12 k12 (fun _ _ _ _ _ _ us hl => match us, hl with | [_, _, _], _ => rfl)) 
  have C_run_row : Cal l.prog w K mg base 2 "run_row" spRunRow [] := cal_run_row (def_mk X G P_run_row a13 l13 c13 k13 (fun _ _ _ _ _ _ us hl => match us, hl with | [_, _], _ => rfl)) T C_modulus C_gate_value
  have C_run : Cal l.prog w K mg base 4 "run" spRun [] := cal_run (def_mk X G P_run a14 l14 c14 k14 (fun _ _ _ _ _ _ us hl => match us, hl with | [_, _], _ => rfl)) T C_checked C_checked_rows C_run_row C_depth C_width
  have C_fold : Cal l.prog w K mg base 1 "fold" spFold [] := cal_fold (def_mk X G P_fold a17 l17 c17 k17 (fun _ _ _ _ _ _ us hl => match us, hl with | [_, _, _], _ => rfl)) T
  have C_point_table : Cal l.prog w K mg base 1 "point_table" spPointTable [] := cal_point_table (def_mk X G P_point_table a15 l15 c15 k15 (fun _ _ _ _ _ _ us hl => match us, hl with | [_, _], _ => rfl)) T
  have C_value_at : Cal l.prog w K mg base 2 "value_at" spValueAt [] := cal_value_at (def_mk X G P_value_at a16 l16 c16 k16 (fun _ _ _ _ _ _ us hl => match us, hl with | [_, _, _], _ => rfl)) T C_fold
  have C_between : Cal l.prog w K mg base 1 "between" spBetween [] := cal_between (def_mk X G P_between a18 l18 c18 k18 (fun _ _ _ _ _ _ us hl => match us, hl with | [_, _, _, _], _ => rfl)) T
  have C_line_values : Cal l.prog w K mg base 3 "line_values" spLineValues [] := cal_line_values (def_mk X G P_line_values a19 l19 c19 k19 (fun _ _ _ _ _ _ us hl => match us, hl with | [_, _, _, _], _ => rfl)) T C_value_at C_between
  have C_weighted_gates : Cal l.prog w K mg base 1 "weighted_gates" spWeightedGates [] := cal_weighted_gates (def_mk X G P_weighted_gates a20 l20 c20 k20 (fun _ _ _ _ _ _ us hl => match us, hl with | [_, _, _], _ => rfl)) T
  have C_gates_sum : Cal l.prog w K mg base 1 "gates_sum" spGatesSum [] := cal_gates_sum (def_mk X G P_gates_sum a21 l21 c21 k21 (fun _ _ _ _ _ _ us hl => match us, hl with | [_, _, _], _ => rfl)) 
  have C_first_tables : Met l.prog w K mg base 1 C "first_tables" (spFirst C) [] := met_first_tables (met_mk P_Answerer_first_tables cl a35 i35 l35 c35 k35 (fun _ _ _ _ _ _ us hl => match us, hl with | [_], _ => rfl)) T T4
  have C_second_tables : Met l.prog w K mg base 2 C "second_tables" (spSecond C) [] := met_second_tables (met_mk P_Answerer_second_tables cl a36 i36 l36 c36 k36 (fun _ _ _ _ _ _ us hl => match us, hl with | [_, _], _ => rfl)) T T4 C_point_table
  have C_row_value : Met l.prog w K mg base 2 C "row_value" (spRowValue C) [] := met_row_value (met_mk P_Answerer_row_value cl a37 i37 l37 c37 k37 (fun _ _ _ _ _ _ us hl => match us, hl with | [_, _], _ => rfl)) T T4 C_at_number C_gates_sum
  have C_column_value : Met l.prog w K mg base 2 C "column_value" (spColumnValue C) [] := met_column_value (met_mk P_Answerer_column_value cl a38 i38 l38 c38 k38 (fun _ _ _ _ _ _ us hl => match us, hl with | [_, _], _ => rfl)) T T4 C_at_number
  have C_turn : Met l.prog w K mg base 3 C "turn" (spTurn C) [] := met_turn (met_mk P_Answerer_turn cl a34 i34 l34 c34 k34 (fun _ _ _ _ _ _ us hl => match us, hl with | [_], _ => rfl)) T T4 C_first_tables C_second_tables
  have C_begin : Met l.prog w K mg base 4 C "begin" (spBegin C) [] := met_begin (met_mk P_Answerer_begin cl a33 i33 l33 c33 k33 (fun _ _ _ _ _ _ us hl => match us, hl with | [_, _, _], _ => rfl)) T T4 C_point_table C_width C_weighted_gates C_turn
  have C_throw : Met l.prog w K mg base 4 C "throw" (spThrow C) [] := met_throw (met_mk P_Answerer_throw cl a40 i40 l40 c40 k40 (fun _ _ _ _ _ _ us hl => match us, hl with | [_, _], _ => rfl)) T T4 C_fold C_turn
  have C_poly : Met l.prog w K mg base 3 C "poly" (spPoly C) [] := met_poly (met_mk P_Answerer_poly cl a39 i39 l39 c39 k39 (fun _ _ _ _ _ _ us hl => match us, hl with | [_], _ => rfl)) T T4 C_row_value C_column_value
  have C_line : Met l.prog w K mg base 4 C "line" (spLine C) [] := met_line (met_mk P_Answerer_line cl a41 i41 l41 c41 k41 (fun _ _ _ _ _ _ us hl => match us, hl with | [_], _ => rfl)) T4 C_line_values
  have I1 : MakAt K mg "Answerer" C "Answerer.__init__" s_Answerer___init__ P_Answerer___init__ := ⟨f32, _, ⟨mk, a32, i32, kc⟩, PySem.W.mg_of X G aC, fun_mk l32 c32 k32, (fun_mk l32 c32 k32).binds (fun _ _ _ _ _ _ us hl => match us, hl with | [_, _, _], _ => rfl)⟩
  have C_init : Mak l.prog w K mg base 5 "Answerer" C (spInit C) [] := mak_init I1 T4 C_run C_row_bits C_modulus
  have C_rounds_of : Cal l.prog w K mg base 2 "rounds_of" spRounds [] := cal_rounds_of (def_mk X G P_rounds_of a23 l23 c23 k23 (fun _ _ _ _ _ _ us hl => match us, hl with | [_, _, _], _ => rfl)) C_width
  have C_layer_answers : Cal l.prog w K mg base 5 "layer_answers" (spLayer C) [] := cal_layer_answers (def_mk X G P_layer_answers a24 l24 c24 k24 (fun _ _ _ _ _ _ us hl => match us, hl with | [_, _, _, _], _ => rfl)) T T4 C_begin C_poly C_throw C_line C_width C_between
  have C_answers : Cal l.prog w K mg base 6 "answers" (spAnswers C) [] := cal_answers (def_mk X G P_answers a25 l25 c25 k25 (fun _ _ _ _ _ _ us hl => match us, hl with | [_, _], _ => rfl)) T T4 C_width C_depth C_rounds_of C_layer_answers
  have C__law_take : Cal l.prog w K mg base 1 "_law_take" spTake [] := cal_law_take (def_mk X G P__law_take a27 l27 c27 k27 (fun _ _ _ _ _ _ us hl => match us, hl with | [_, _], _ => rfl)) T
  have C__law_stream : Cal l.prog w K mg base 1 "_law_stream" (spStream K) [] := cal_law_stream (def_mk X G P__law_stream a26 l26 c26 k26 (fun _ _ _ _ _ _ us hl => match us, hl with | [_], _ => rfl)) T
  have C__law_gate : Cal l.prog w K mg base 2 "_law_gate" spGateL [] := cal_law_gate (def_mk X G P__law_gate a28 l28 c28 k28 (fun _ _ _ _ _ _ us hl => match us, hl with | [_, _, _], _ => rfl)) C__law_take
  have C__law_circuit : Cal l.prog w K mg base 3 "_law_circuit" spCircuit [] := cal_law_circuit (def_mk X G P__law_circuit a29 l29 c29 k29 (fun _ _ _ _ _ _ us hl => match us, hl with | [_, _, _], _ => rfl)) T C__law_take C__law_gate
  have C__law_inputs : Cal l.prog w K mg base 2 "_law_inputs" spInputs [] := cal_law_inputs (def_mk X G P__law_inputs a30 l30 c30 k30 (fun _ _ _ _ _ _ us hl => match us, hl with | [_, _, _], _ => rfl)) T C__law_take
  exact fn_law (fun_mk l31 c31 k31) T T4 C__law_stream C__law_circuit C__law_take C__law_inputs C_init C_answers C_begin
theorem walk {l : PySem.W.OpenLaw} {q : Program} {loose : List Str} {XP : (Str → Option Value) → Heap → Prop} {YP : World → Heap → Prop} {d : DefRec} {K : Params → PySem.W.Frag} (hn : l.most = some 63) (hdf : d.params.defaults = [])
    (hY : ∀ (w : World) (h : Heap), YP w h → (K w.params).In h)
    (F : ∀ (w : World) (mg : Str → Option Value) (fa : Addr) (h : Heap), (K w.params).In h → h.Ns mainGlobals mg → mg d.name = some (.ref fa) →
      ∃ fd : FuncData, (∀ (s : Shared) (u : Value), BindsTo s fd ⟨[u], []⟩ [("_law_script", u)]) ∧ ∀ base : Heap, (K w.params).In base → base.Ns mainGlobals mg → FnOk l.prog w (K w.params) mg base CX0 7 fa fd P_law (spLaw (K w.params))) :
    PySem.W.WalkO q loose XP YP l.row.toRowW d [] (fun f vs => PySem.call f vs) :=
  L2.walk_of (n := 63) (k := 7) (x := "_law_script") (CX := fun _ => CX0) (sp := fun w => spLaw (K w.params)) hn (by decide) hdf ⟨rfl, by decide, by decide⟩ hY F (fun _ _ a ns hl _ hS => ⟨a, ns, rfl, hS, hl, fun _ => rfl⟩) fun _ _ _ _ _ z => z
end LK

open PySem PySem.W PyProof.Rows in
set_option maxRecDepth 100000 in
set_option maxHeartbeats 0 in
theorem PySem.Challenge.cw_layerask_k63_whole_linear_work_holds : PySem.Challenge.rw_layerask_k63_whole_linear_work.Holds := by
  w_on; o_law; k_head; (case hw => w_witness2)
  k_fill
  refine LK.walk (l := PySem.Challenge.rw_layerask_k63_whole_linear_work) rfl rfl (fun w h Y => PySem.W.kIn_of Y) ?F
  case F =>
    intro w mg fa h KX G hmg
    refine' LK.all_mk KX G hmg ?a1 ?l1 ?c1 ?k1 ?a2 ?l2 ?c2 ?k2 ?a3 ?l3 ?c3 ?k3 ?a4 ?l4 ?c4 ?k4 ?a5 ?l5 ?c5 ?k5 ?a6 ?l6 ?c6 ?k6 ?a7 ?l7 ?c7 ?k7 ?a8 ?l8 ?c8 ?k8 ?a9 ?l9 ?c9 ?k9 ?a10 ?l10 ?c10 ?k10 ?a11 ?l11 ?c11 ?k11 ?a12 ?l12 ?c12 ?k12 ?a13 ?l13 ?c13 ?k13 ?a14 ?l14 ?c14 ?k14 ?a15 ?l15 ?c15 ?k15 ?a16 ?l16 ?c16 ?k16 ?a17 ?l17 ?c17 ?k17 ?a18 ?l18 ?c18 ?k18 ?a19 ?l19 ?c19 ?k19 ?a20 ?l20 ?c20 ?k20 ?a21 ?l21 ?c21 ?k21 ?a22 ?l22 ?c22 ?k22 ?a23 ?l23 ?c23 ?k23 ?a24 ?l24 ?c24 ?k24 ?a25 ?l25 ?c25 ?k25 ?a26 ?l26 ?c26 ?k26 ?a27 ?l27 ?c27 ?k27 ?a28 ?l28 ?c28 ?k28 ?a29 ?l29 ?c29 ?k29 ?a30 ?l30 ?c30 ?k30 ?a31 ?l31 ?c31 ?k31 ?a32 ?i32 ?l32 ?c32 ?k32 ?a33 ?i33 ?l33 ?c33 ?k33 ?a34 ?i34 ?l34 ?c34 ?k34 ?a35 ?i35 ?l35 ?c35 ?k35 ?a36 ?i36 ?l36 ?c36 ?k36 ?a37 ?i37 ?l37 ?c37 ?k37 ?a38 ?i38 ?l38 ?c38 ?k38 ?a39 ?i39 ?l39 ?c39 ?k39 ?a40 ?i40 ?l40 ?c40 ?k40 ?a41 ?i41 ?l41 ?c41 ?k41 ?aC ?pg ?hd ?po ?sa ?mk ?kc ?n_circuit ?n_tables ?n_bits ?n_p ?n_steps ?n_layer ?n_round ?n_wide ?n_gates ?n_near ?n_columns ?n_first ?n_second ?n_share ?n_below ?n_factors ?n_rest ?n_left ?z_len ?z_range ?z_zip ?z_enumerate ?z_isinstance ?z_int ?z_bool ?z_list ?z_tuple ?z_all ?z_sum ?z_max ?z_abs ?v_MOST ?v_MAX_WIDTH ?v_MAX_LAYERS ?v_MAX_GATES ?v_MAX_ROWS
    (case aC => k_is)
    (case a1 => k_is)
    (case l1 => k_is)
    (case c1 => k_is)
    (case k1 => k_is)
    (case a2 => k_is)
    (case l2 => k_is)
    (case c2 => k_is)
    (case k2 => k_is)
    (case a3 => k_is)
    (case l3 => k_is)
    (case c3 => k_is)
    (case k3 => k_is)
    (case a4 => k_is)
    (case l4 => k_is)
    (case c4 => k_is)
    (case k4 => k_is)
    (case a5 => k_is)
    (case l5 => k_is)
    (case c5 => k_is)
    (case k5 => k_is)
    (case a6 => k_is)
    (case l6 => k_is)
    (case c6 => k_is)
    (case k6 => k_is)
    (case a7 => k_is)
    (case l7 => k_is)
    (case c7 => k_is)
    (case k7 => k_is)
    (case a8 => k_is)
    (case l8 => k_is)
    (case c8 => k_is)
    (case k8 => k_is)
    (case a9 => k_is)
    (case l9 => k_is)
    (case c9 => k_is)
    (case k9 => k_is)
    (case a10 => k_is)
    (case l10 => k_is)
    (case c10 => k_is)
    (case k10 => k_is)
    (case a11 => k_is)
    (case l11 => k_is)
    (case c11 => k_is)
    (case k11 => k_is)
    (case a12 => k_is)
    (case l12 => k_is)
    (case c12 => k_is)
    (case k12 => k_is)
    (case a13 => k_is)
    (case l13 => k_is)
    (case c13 => k_is)
    (case k13 => k_is)
    (case a14 => k_is)
    (case l14 => k_is)
    (case c14 => k_is)
    (case k14 => k_is)
    (case a15 => k_is)
    (case l15 => k_is)
    (case c15 => k_is)
    (case k15 => k_is)
    (case a16 => k_is)
    (case l16 => k_is)
    (case c16 => k_is)
    (case k16 => k_is)
    (case a17 => k_is)
    (case l17 => k_is)
    (case c17 => k_is)
    (case k17 => k_is)
    (case a18 => k_is)
    (case l18 => k_is)
    (case c18 => k_is)
    (case k18 => k_is)
    (case a19 => k_is)
    (case l19 => k_is)
    (case c19 => k_is)
    (case k19 => k_is)
    (case a20 => k_is)
    (case l20 => k_is)
    (case c20 => k_is)
    (case k20 => k_is)
    (case a21 => k_is)
    (case l21 => k_is)
    (case c21 => k_is)
    (case k21 => k_is)
    (case a22 => k_is)
    (case l22 => k_is)
    (case c22 => k_is)
    (case k22 => k_is)
    (case a23 => k_is)
    (case l23 => k_is)
    (case c23 => k_is)
    (case k23 => k_is)
    (case a24 => k_is)
    (case l24 => k_is)
    (case c24 => k_is)
    (case k24 => k_is)
    (case a25 => k_is)
    (case l25 => k_is)
    (case c25 => k_is)
    (case k25 => k_is)
    (case a26 => k_is)
    (case l26 => k_is)
    (case c26 => k_is)
    (case k26 => k_is)
    (case a27 => k_is)
    (case l27 => k_is)
    (case c27 => k_is)
    (case k27 => k_is)
    (case a28 => k_is)
    (case l28 => k_is)
    (case c28 => k_is)
    (case k28 => k_is)
    (case a29 => k_is)
    (case l29 => k_is)
    (case c29 => k_is)
    (case k29 => k_is)
    (case a30 => k_is)
    (case l30 => k_is)
    (case c30 => k_is)
    (case k30 => k_is)
    (case a31 => k_is)
    (case l31 => k_is)
    (case c31 => k_is)
    (case k31 => k_is)
    (case a32 => k_is)
    (case i32 => k_is)
    (case l32 => k_is)
    (case c32 => k_is)
    (case k32 => k_is)
    (case a33 => k_is)
    (case i33 => k_is)
    (case l33 => k_is)
    (case c33 => k_is)
    (case k33 => k_is)
    (case a34 => k_is)
    (case i34 => k_is)
    (case l34 => k_is)
    (case c34 => k_is)
    (case k34 => k_is)
    (case a35 => k_is)
    (case i35 => k_is)
    (case l35 => k_is)
    (case c35 => k_is)
    (case k35 => k_is)
    (case a36 => k_is)
    (case i36 => k_is)
    (case l36 => k_is)
    (case c36 => k_is)
    (case k36 => k_is)
    (case a37 => k_is)
    (case i37 => k_is)
    (case l37 => k_is)
    (case c37 => k_is)
    (case k37 => k_is)
    (case a38 => k_is)
    (case i38 => k_is)
    (case l38 => k_is)
    (case c38 => k_is)
    (case k38 => k_is)
    (case a39 => k_is)
    (case i39 => k_is)
    (case l39 => k_is)
    (case c39 => k_is)
    (case k39 => k_is)
    (case a40 => k_is)
    (case i40 => k_is)
    (case l40 => k_is)
    (case c40 => k_is)
    (case k40 => k_is)
    (case a41 => k_is)
    (case i41 => k_is)
    (case l41 => k_is)
    (case c41 => k_is)
    (case k41 => k_is)
    (case pg => k_is)
    (case hd => k_is)
    (case po => k_is)
    (case sa => k_is)
    (case mk => k_is)
    (case kc => k_is)
    (case n_circuit => k_is)
    (case n_tables => k_is)
    (case n_bits => k_is)
    (case n_p => k_is)
    (case n_steps => k_is)
    (case n_layer => k_is)
    (case n_round => k_is)
    (case n_wide => k_is)
    (case n_gates => k_is)
    (case n_near => k_is)
    (case n_columns => k_is)
    (case n_first => k_is)
    (case n_second => k_is)
    (case n_share => k_is)
    (case n_below => k_is)
    (case n_factors => k_is)
    (case n_rest => k_is)
    (case n_left => k_is)
    (case z_len => k_is)
    (case z_range => k_is)
    (case z_zip => k_is)
    (case z_enumerate => k_is)
    (case z_isinstance => k_is)
    (case z_int => k_is)
    (case z_bool => k_is)
    (case z_list => k_is)
    (case z_tuple => k_is)
    (case z_all => k_is)
    (case z_sum => k_is)
    (case z_max => k_is)
    (case z_abs => k_is)
    (case v_MOST => k_is)
    (case v_MAX_WIDTH => k_is)
    (case v_MAX_LAYERS => k_is)
    (case v_MAX_GATES => k_is)
    (case v_MAX_ROWS => k_is)
#print axioms PySem.Challenge.cw_layerask_k63_whole_linear_work_holds
