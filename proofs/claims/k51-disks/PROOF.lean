import PyProof.Rows.All
import Wide.All
import OpenK.AllK
import Wide.FinOn
import HandS.ForMost
import HandS.SortInts
import HandS.Strs
import HandS.SetFor
import HandS.DictComp
import HandS.More
import HandS.Wide
import HandS.Flow
import HandS.Conv
import HandS.Codes
import PySem.Challenge.RW_stonestairs_k51_disks_torn_in_any_order
set_option Elab.async false
set_option linter.all false
set_option maxRecDepth 100000
/-! YBase: data over a heap that only grows (G), owned objects beside it (H), callees in one word, readings in short. -/
namespace Y
open PySem PySem.Spec PyProof.Rows L2

/-! ### pairs of lists -/
section
variable {α β γ : Type} {F : α → β → Prop}
theorem pd_len {xs : List α} {ys : List β} (h : Paired F xs ys) : xs.length = ys.length := Paired.length h
theorem pd_get : ∀ {xs : List α} {ys : List β}, Paired F xs ys → ∀ {i : Nat} {x : α}, xs[i]? = some x → ∃ y, ys[i]? = some y ∧ F x y
  | _, _, .nil, i, x, e => by simp at e
  | _, _, .cons r _, 0, x, e => by simp at e; subst e; exact ⟨_, rfl, r⟩
  | _, _, .cons _ t, i + 1, x, e => by
    have ⟨y, h1, h2⟩ := pd_get t (i := i) (x := x) (by simpa using e)
    exact ⟨y, by simpa using h1, h2⟩
theorem pd_get' : ∀ {xs : List α} {ys : List β}, Paired F xs ys → ∀ {i : Nat} {y : β}, ys[i]? = some y → ∃ x, xs[i]? = some x ∧ F x y
  | _, _, .nil, i, x, e => by simp at e
  | _, _, .cons r _, 0, x, e => by simp at e; subst e; exact ⟨_, rfl, r⟩
  | _, _, .cons _ t, i + 1, x, e => by
    have ⟨y, h1, h2⟩ := pd_get' t (i := i) (y := x) (by simpa using e)
    exact ⟨y, by simpa using h1, h2⟩
theorem pd_mono {F' : α → β → Prop} (h : ∀ a b, F a b → F' a b) : ∀ {xs : List α} {ys : List β}, Paired F xs ys → Paired F' xs ys
  | _, _, .nil => .nil
  | _, _, .cons r t => .cons (h _ _ r) (pd_mono h t)
theorem pd_app : ∀ {xs : List α} {ys : List β} {us : List α} {ws : List β}, Paired F xs ys → Paired F us ws → Paired F (xs ++ us) (ys ++ ws)
  | _, _, _, _, .nil, s => s
  | _, _, _, _, .cons r t, s => .cons r (pd_app t s)
theorem pd_snoc {xs : List α} {ys : List β} {u : α} {w : β} (h : Paired F xs ys) (k : F u w) : Paired F (xs ++ [u]) (ys ++ [w]) := pd_app h (.cons k .nil)
theorem pd_take (n : Nat) : ∀ {xs : List α} {ys : List β}, Paired F xs ys → Paired F (xs.take n) (ys.take n) := by
  induction n with
  | zero => intro xs ys _; exact .nil
  | succ n ih =>
    intro xs ys h
    cases h with
    | nil => exact .nil
    | cons r t => exact .cons r (ih t)
theorem pd_drop (n : Nat) : ∀ {xs : List α} {ys : List β}, Paired F xs ys → Paired F (xs.drop n) (ys.drop n) := by
  induction n with
  | zero => intro xs ys h; exact h
  | succ n ih =>
    intro xs ys h
    cases h with
    | nil => exact .nil
    | cons r t => exact ih t
theorem pd_map (f : γ → α) (g : γ → β) (h : ∀ c, F (f c) (g c)) : ∀ l : List γ, Paired F (l.map f) (l.map g)
  | [] => .nil
  | c :: l => .cons (h c) (pd_map f g h l)
end

/-! ### data: what a value stands for, over a heap that only grows -/
abbrev Rp (α : Type) := Hp → V → α → Prop
/-- what is so stays so -/
def Mn {α : Type} (r : Rp α) : Prop := ∀ (G G' : Hp) (v : V) (x : α), Same G G' → r G v x → r G' v x
def rI : Rp Int := fun _ v x => v = .int x
def rT : Rp Str := fun _ v x => v = .str x
def rB : Rp Bool := fun _ v x => v = .bl x
def rP {α β : Type} (r : Rp α) (s : Rp β) : Rp (α × β) := fun G v x => ∃ a u w, v = .ref a ∧ G a = some (.tup [u, w]) ∧ r G u x.1 ∧ s G w x.2
def rL {α : Type} (r : Rp α) : Rp (List α) := fun G v xs => ∃ a vs, v = .ref a ∧ G a = some (.lst vs) ∧ Paired (r G) vs xs
def rO {α : Type} (r : Rp α) : Rp (Option α) := fun G v x => match x with
  | none => v = .non
  | some y => r G v y
theorem mI : Mn rI := fun _ _ _ _ _ h => h
theorem mT : Mn rT := fun _ _ _ _ _ h => h
theorem mB : Mn rB := fun _ _ _ _ _ h => h
theorem Mn.p {α β : Type} {r : Rp α} {s : Rp β} (hr : Mn r) (hs : Mn s) : Mn (rP r s) := fun _ _ _ _ e ⟨a, u, w, e1, e2, h1, h2⟩ => ⟨a, u, w, e1, e _ _ e2, hr _ _ _ _ e h1, hs _ _ _ _ e h2⟩
theorem Mn.l {α : Type} {r : Rp α} (hr : Mn r) : Mn (rL r) := fun _ _ _ _ e ⟨a, vs, e1, e2, h⟩ => ⟨a, vs, e1, e _ _ e2, pd_mono (fun _ _ q => hr _ _ _ _ e q) h⟩
theorem Mn.o {α : Type} {r : Rp α} (hr : Mn r) : Mn (rO r) := fun _ _ _ x e h => match x, h with
  | none, h => h
  | some _, h => hr _ _ _ _ e h
theorem Mn.ps {α : Type} {r : Rp α} (hr : Mn r) {G G' : Hp} {vs : List V} {xs : List α} (e : Same G G') (h : Paired (r G) vs xs) : Paired (r G') vs xs := pd_mono (fun _ _ q => hr _ _ _ _ e q) h
theorem rI_map {vs : List V} {xs : List Int} {G : Hp} : Paired (rI G) vs xs → vs = xs.map V.int
  | .nil => rfl
  | .cons r t => by rw [List.map_cons, ← rI_map t]; exact congrArg (· :: _) r
theorem rI_of (G : Hp) : ∀ xs : List Int, Paired (rI G) (xs.map V.int) xs
  | [] => .nil
  | x :: xs => .cons rfl (rI_of G xs)
theorem rLI {G : Hp} {v : V} {xs : List Int} (h : rL rI G v xs) : ∃ a, v = .ref a ∧ G a = some (.lst (xs.map V.int)) := by
  obtain ⟨a, vs, e, h, p⟩ := h
  rw [rI_map p] at h
  exact ⟨a, e, h⟩
theorem rLI_of {G : Hp} {a : Addr} {xs : List Int} (h : G a = some (.lst (xs.map V.int))) : rL rI G (.ref a) xs := ⟨a, _, rfl, h, rI_of G xs⟩

/-! ### data as the library's trees, for == -/
structure En {α : Type} (r : Rp α) (enc : α → PyData) (ok : α → Prop) (n : Nat) : Prop where
  dp : ∀ {K : PySem.W.Frag} {G H : Hp} {v : V} {x : α}, Same G H → r G v x → Dp K H v (enc x)
  lay : ∀ x, ok x → (enc x).canLay0 = true
  dep : ∀ x, (enc x).depth ≤ n
theorem En.shaped {α : Type} {r : Rp α} {enc : α → PyData} {ok : α → Prop} {n : Nat} (e : En r enc ok n) (hn : n ≤ 64) {x : α} (h : ok x) : SeqAt.shaped (enc x) = true := by
  unfold SeqAt.shaped
  rw [e.lay x h, decide_eq_true (Nat.le_trans (e.dep x) hn)]
  rfl
theorem En.refl {α : Type} {r : Rp α} {enc : α → PyData} {ok : α → Prop} {n : Nat} (e : En r enc ok n) {x : α} (h : ok x) : PyData.eqv (enc x) (enc x) = true := SeqAt.eqv_refl _ (e.lay x h)
theorem eI : En rI PyData.int (fun _ => True) 0 := ⟨fun _ h => by cases h; exact .int _, fun _ _ => rfl, fun _ => Nat.le_refl _⟩
theorem eT : En rT PyData.str (fun x => PyData.strOk x = true) 0 := ⟨fun _ h => by cases h; exact .str _, fun _ h => h, fun _ => Nat.le_refl _⟩
theorem dpAll_of {α : Type} {r : Rp α} {enc : α → PyData} {ok : α → Prop} {n : Nat} (e : En r enc ok n) {K : PySem.W.Frag} {G H : Hp} (s : Same G H) : ∀ {vs : List V} {xs : List α}, Paired (r G) vs xs → DpAll K H vs (xs.map enc)
  | _, _, .nil => .nil
  | _, _, .cons h t => .cons (e.dp s h) (dpAll_of e s t)
theorem layAll_of {α : Type} {enc : α → PyData} {ok : α → Prop} (h : ∀ x, ok x → (enc x).canLay0 = true) : ∀ xs : List α, (∀ x ∈ xs, ok x) → PyData.canLayAll0 (xs.map enc) = true
  | [], _ => rfl
  | x :: xs, q => by
    rw [List.map_cons, PyData.canLayAll0, h x (q x List.mem_cons_self), layAll_of h xs fun y hy => q y (List.mem_cons_of_mem _ hy)]
    rfl
theorem depAll_of {α : Type} {enc : α → PyData} {n : Nat} (h : ∀ x, (enc x).depth ≤ n) : ∀ xs : List α, PyData.depthAll (xs.map enc) ≤ n
  | [] => Nat.zero_le _
  | x :: xs => by
    rw [List.map_cons, PyData.depthAll]
    exact Nat.max_le.mpr ⟨h x, depAll_of h xs⟩
theorem En.l {α : Type} {r : Rp α} {enc : α → PyData} {ok : α → Prop} {n : Nat} (e : En r enc ok n) : En (rL r) (fun xs => .list (xs.map enc)) (fun xs => ∀ x ∈ xs, ok x) (n + 1) :=
  ⟨fun s ⟨a, vs, e1, h, p⟩ => by subst e1; exact .lst (SqL.of (s _ _ h)) (dpAll_of e s p), fun xs h => by rw [PyData.canLay0]; exact layAll_of e.lay xs h, fun xs => by
    rw [PyData.depth]
    exact Nat.succ_le_succ (depAll_of e.dep xs)⟩
theorem En.p {α β : Type} {r : Rp α} {s : Rp β} {f : α → PyData} {g : β → PyData} {ok : α → Prop} {ok' : β → Prop} {n m : Nat} (e : En r f ok n) (e' : En s g ok' m) :
    En (rP r s) (fun x => .tuple [f x.1, g x.2]) (fun x => ok x.1 ∧ ok' x.2) (max n m + 1) :=
  ⟨fun q ⟨a, u, w, e1, h, h1, h2⟩ => by subst e1; exact .tup (SqT.of (q _ _ h)) (.cons (e.dp q h1) (.cons (e'.dp q h2) .nil)), fun x h => by
    simp only [PyData.canLay0, PyData.canLayAll0, e.lay _ h.1, e'.lay _ h.2, Bool.and_true], fun x => by
    have h1 := e.dep x.1
    have h2 := e'.dep x.2
    simp only [PyData.depth, PyData.depthAll]
    omega⟩

theorem eqvAll_ints : ∀ (xs ys : List Int), PyData.eqvAll (xs.map PyData.int) (ys.map PyData.int) = decide (xs = ys)
  | [], [] => rfl
  | [], _ :: _ => rfl
  | _ :: _, [] => rfl
  | x :: xs, y :: ys => by
    rw [List.map_cons, List.map_cons, PyData.eqvAll, eqvAll_ints xs ys, PyData.eqv]
    by_cases h : x = y
    · subst h
      by_cases h2 : xs = ys <;> simp [h2]
    · simp [h]
theorem eqv_ints (xs ys : List Int) : PyData.eqv (.list (xs.map PyData.int)) (.list (ys.map PyData.int)) = decide (xs = ys) := by
  rw [PyData.eqv]
  exact eqvAll_ints xs ys
theorem dp_ints {K : PySem.W.Frag} {H : Hp} {a : Addr} {xs : List Int} (h : H a = some (.lst (xs.map V.int))) : Dp K H (.ref a) (.list (xs.map PyData.int)) := eI.l.dp (Same.refl H) (rLI_of h)
theorem shaped_ints (xs : List Int) : SeqAt.shaped (.list (xs.map PyData.int)) = true := eI.l.shaped (by decide) fun _ _ => trivial

/-! ### a step of the world: G the data (it only grows), H all that is tracked; O what may be written -/
structure Stp (O : Addr → Prop) (G H G' H' : Hp) : Prop where
  gg : Same G G'
  gh : Same G' H'
  kp : ∀ b o, H b = some o → ¬ O b → H' b = some o
  nw : ∀ b, H b ≠ none → G b = none → G' b = none
  al : ∀ b, H b ≠ none → H' b ≠ none
section
variable {O : Addr → Prop} {G H G' H' G1 H1 : Hp} {p a : Addr} {o o' : HO}
theorem ne_none {H : Hp} {b : Addr} {o : HO} (h : H b = some o) : H b ≠ none := by rw [h]; exact fun e => nomatch e
theorem fresh_ne {H : Hp} {b c : Addr} (h : H b ≠ none) (n : H c = none) : b ≠ c := fun e => h (by rw [e]; exact n)
theorem Stp.refl (h : Same G H) : Stp O G H G H := ⟨Same.refl _, h, fun _ _ e _ => e, fun _ _ e => e, fun _ e => e⟩
theorem Stp.fr (s : Stp O G H G' H') {b : Addr} (n : H' b = none) : H b = none := by
  cases e : H b with
  | none => rfl
  | some o => exact absurd n (s.al b (ne_none e))
theorem Stp.own (s : Stp O G H G' H') (n : H' p = none) : Stp O G H G' (upd H' p o) :=
  ⟨s.gg, fun b u e => by rw [upd_ne (fresh_ne (ne_none (s.gh b u e)) n)]; exact s.gh b u e, fun b u e q => by rw [upd_ne (fresh_ne (s.al b (ne_none e)) n)]; exact s.kp b u e q, s.nw, fun b e => by rw [upd_ne (fresh_ne (s.al b e) n)]; exact s.al b e⟩
theorem Stp.data (s : Stp O G H G' H') (n : H' p = none) : Stp O G H (upd G' p o) (upd H' p o) := by
  have gn : G' p = none := by
    cases e : G' p with
    | none => rfl
    | some u => rw [s.gh p u e] at n; cases n
  refine ⟨fun b u e => ?_, fun b u e => ?_, (s.own n).kp, fun b e q => ?_, (s.own n).al⟩
  · have h := s.gg b u e
    rw [upd_ne (fresh_ne (ne_none h) gn)]
    exact h
  · by_cases hb : b = p
    · subst hb
      rw [upd_same] at e ⊢
      exact e
    · rw [upd_ne hb] at e ⊢
      exact s.gh b u e
  · rw [upd_ne (fresh_ne (s.al b e) n)]
    exact s.nw b e q
/-- an object of one's own is written -/
theorem Stp.wr (s : Stp O G H G' H') (hp : H' p = some o') (g : G' p = none) (m : O p ∨ H p = none) : Stp O G H G' (upd H' p o) := by
  refine ⟨s.gg, fun b u e => ?_, fun b u e q => ?_, s.nw, fun b e => ?_⟩
  · rw [upd_ne (fresh_ne (ne_none e) g)]
    exact s.gh b u e
  · have hb : b ≠ p := fun z => by
      subst z
      rcases m with m | m
      · exact q m
      · rw [m] at e; cases e
    rw [upd_ne hb]
    exact s.kp b u e q
  · by_cases hb : b = p
    · subst hb
      rw [upd_same]
      exact fun z => nomatch z
    · rw [upd_ne hb]
      exact s.al b e
/-- an object of one's own, new since the begin, becomes data -/
theorem Stp.pub (s : Stp O G H G' H') (hp : H' p = some o) (g : G' p = none) (n : H p = none) : Stp O G H (upd G' p o) H' := by
  refine ⟨fun b u e => ?_, fun b u e => ?_, s.kp, fun b e q => ?_, s.al⟩
  · have h := s.gg b u e
    rw [upd_ne (fresh_ne (ne_none h) g)]
    exact h
  · by_cases hb : b = p
    · subst hb
      rw [upd_same] at e
      rw [← e]
      exact hp
    · rw [upd_ne hb] at e
      exact s.gh b u e
  · rw [upd_ne (fresh_ne e n)]
    exact s.nw b e q
theorem Stp.trans {O' : Addr → Prop} (s : Stp O G H G' H') (t : Stp O' G' H' G1 H1) (m : ∀ b, O' b → O b ∨ H b = none) : Stp O G H G1 H1 :=
  ⟨s.gg.trans t.gg, t.gh, fun b u e q => t.kp b u (s.kp b u e q) fun z => (m b z).elim q fun y => (by rw [y] at e; cases e), fun b e q => t.nw b (s.al b e) (s.nw b e q), fun b e => t.al b (s.al b e)⟩
theorem Stp.mono {O' : Addr → Prop} (s : Stp O G H G' H') (m : ∀ b, O b → O' b) : Stp O' G H G' H' := ⟨s.gg, s.gh, fun b u e q => s.kp b u e fun z => q (m b z), s.nw, s.al⟩
/-- what is not data and new stays no data -/
theorem gn_of (h : Same G H) (n : H p = none) : G p = none := by
  cases e : G p with
  | none => rfl
  | some u => rw [h p u e] at n; cases n
end
/-! ### the same, a heap named by its equation -/
section
variable {O : Addr → Prop} {G H G0 H0 H1 : Hp} {p : Addr} {o o' : HO}
theorem own_of (s : Stp O G0 H0 G H) (n : H p = none) (e : upd H p o = H1) : Stp O G0 H0 G H1 ∧ H1 p = some o ∧ Same H H1 ∧ G p = none ∧ H0 p = none := by
  subst e
  exact ⟨s.own n, upd_same, fun b u q => by rw [upd_ne (fresh_ne (ne_none q) n)]; exact q, gn_of s.gh n, s.fr n⟩
theorem wr_of (s : Stp O G0 H0 G H) (hp : H p = some o') (g : G p = none) (m : O p ∨ H0 p = none) (e : upd H p o = H1) : Stp O G0 H0 G H1 ∧ H1 p = some o ∧ ∀ b u, b ≠ p → H b = some u → H1 b = some u := by
  subst e
  exact ⟨s.wr hp g m, upd_same, fun b u hb q => by rw [upd_ne hb]; exact q⟩
theorem data_of (s : Stp O G0 H0 G H) (n : H p = none) (e : upd H p o = H1) : ∃ G1, Stp O G0 H0 G1 H1 ∧ G1 p = some o ∧ Same G G1 ∧ Same H H1 ∧ (∀ b, b ≠ p → G1 b = G b) := by
  subst e
  refine ⟨_, s.data n, upd_same, fun b u q => ?_, fun b u q => by rw [upd_ne (fresh_ne (ne_none q) n)]; exact q, fun b hb => upd_ne hb⟩
  rw [upd_ne (fresh_ne (ne_none (s.gh b u q)) n)]
  exact q
theorem pub_of (s : Stp O G0 H0 G H) (hp : H p = some o) (g : G p = none) (n : H0 p = none) : ∃ G1, Stp O G0 H0 G1 H ∧ G1 p = some o ∧ Same G G1 ∧ (∀ b, b ≠ p → G1 b = G b) :=
  ⟨_, s.pub hp g n, upd_same, fun b u q => by rw [upd_ne (fresh_ne (ne_none q) g)]; exact q, fun b hb => upd_ne hb⟩
end
abbrev O0 : Addr → Prop := fun _ => False

/-! ### callees in one word -/
section
variable (P : Program) (w : World) (K : PySem.W.Frag) (mg : Str → Option Value) (base : Heap)
structure FnC (x : Str) (k : Nat) (ps : List Str) (sp : Sp) : Prop where
  ex : ∃ (f : Addr) (fd : FuncData), FnOk P w K mg base CX0 k f fd ps sp ∧ mg x = some (.ref f) ∧ PySem.W.keepIn K (.ref f) = true ∧ Binds K fd ps []
structure MtC (C : Addr) (m : Str) (k : Nat) (ps : List Str) (sp : Sp) : Prop where
  ex : ∃ (f : Addr) (fd : FuncData), FnOk P w K mg base CX0 k f fd ps sp ∧ Meth K C m f ∧ Binds K fd ps []
  cl : Cls K C
structure CsC (x : Str) (C : Addr) (k : Nat) (ps : List Str) (sp : Sp) : Prop where
  ex : ∃ (f : Addr) (fd : FuncData), FnOk P w K mg base CX0 k f fd ps sp ∧ Mk K C f ∧ Binds K fd ps []
  mg : mg x = some (.ref C)
end
section
variable {X : Cx} {k : Nat} {C : Addr} {ps : List Str} {sp : Sp} {x m : Str} {p pos apos : Pos} {e o : Expr} {es : List Expr} {ta : TE} {t : TA}
theorem pe_fnc (L : FnC X.prog X.w X.K X.mg X.base x k ps sp) (hr : Room k X.A) (hg : Gl X x) (ha : PA X (e :: es) t)
    (hdb : (x == ("__debug__" : Str)) = false := by decide) (he : starEach (e :: es) X.env = (false, eval e X.env) :: starEach es X.env := by rfl) (hpl : (backTo pos (starEach es X.env)).any (·.1) = false := by rfl) :
    PE X (.Call (.Name x p) (e :: es) [] pos) (tCall sp [] E0 t) := by
  obtain ⟨f, fd, F, h1, h2, h3⟩ := L.ex
  exact pe_call F hr hg h1 h2 h3 .nil pass0 ha hdb he hpl
theorem pe_fnc0 (L : FnC X.prog X.w X.K X.mg X.base x k ps sp) (hr : Room k X.A) (hg : Gl X x)
    (hdb : (x == ("__debug__" : Str)) = false := by decide) : PE X (.Call (.Name x p) [] [] pos) (tCall sp [] E0 tNil) := by
  obtain ⟨f, fd, F, h1, h2, h3⟩ := L.ex
  exact pe_call0 F hr hg h1 h2 h3 .nil pass0 hdb
theorem pe_mtc {pl : Sem Bool} (he : PE X o ta) (L : MtC X.prog X.w X.K X.mg X.base C m k ps sp) (hr : Room k X.A) (ha : PA X (e :: es) t)
    (hst : starEach (e :: es) X.env = (false, eval e X.env) :: starEach es X.env := by rfl) (hpl : (backTo pos (starEach es X.env)).any (·.1) = false := by rfl)
    (ht : eval (.Call (.Attribute o m apos) (e :: es) [] pos) X.env = (do
      let ov ← eval o X.env
      standAt apos.atName
      let (f, first) ← holding [ov] (getMethod ov m pl)
      callWith pos f first (backTo pos (starEach (e :: es) X.env)) (backToKw pos (keywordEach [] X.env))) := by rfl) :
    PE X (.Call (.Attribute o m apos) (e :: es) [] pos) (tMeth C m sp [] E0 ta t) := by
  obtain ⟨f, fd, F, h1, h3⟩ := L.ex
  exact pe_meth he L.cl h1 F hr h3 .nil pass0 ha hst hpl ht
theorem pe_mtc0 {pl : Sem Bool} (he : PE X o ta) (L : MtC X.prog X.w X.K X.mg X.base C m k ps sp) (hr : Room k X.A)
    (ht : eval (.Call (.Attribute o m apos) [] [] pos) X.env = (do
      let ov ← eval o X.env
      standAt apos.atName
      let (f, first) ← holding [ov] (getMethod ov m pl)
      callWith pos f first (backTo pos (starEach [] X.env)) (backToKw pos (keywordEach [] X.env))) := by rfl) :
    PE X (.Call (.Attribute o m apos) [] [] pos) (tMeth C m sp [] E0 ta tNil) := by
  obtain ⟨f, fd, F, h1, h3⟩ := L.ex
  exact pe_meth0 he L.cl h1 F hr h3 .nil pass0 ht
theorem pe_mkc (L : CsC X.prog X.w X.K X.mg X.base x C k ps sp) (hr : Room (k + 1) X.A) (hg : Gl X x) (ha : PA X (e :: es) t)
    (hdb : (x == ("__debug__" : Str)) = false := by decide) (he : starEach (e :: es) X.env = (false, eval e X.env) :: starEach es X.env := by rfl) (hpl : (backTo pos (starEach es X.env)).any (·.1) = false := by rfl) :
    PE X (.Call (.Name x p) (e :: es) [] pos) (tMake C sp [] E0 t) := by
  obtain ⟨f, fd, F, h1, h3⟩ := L.ex
  exact pe_make h1 F hr hg L.mg h3 .nil pass0 ha hdb he hpl
theorem pe_mkc0 (L : CsC X.prog X.w X.K X.mg X.base x C k ps sp) (hr : Room (k + 1) X.A) (hg : Gl X x)
    (hdb : (x == ("__debug__" : Str)) = false := by decide) : PE X (.Call (.Name x p) [] [] pos) (tMake C sp [] E0 tNil) := by
  obtain ⟨f, fd, F, h1, h3⟩ := L.ex
  exact pe_make0 h1 F hr hg L.mg h3 .nil pass0 hdb
end

/-! ### rules with the written part named (for the blocks of comprehensions) -/
section
variable {X : Cx} {K : PySem.W.Frag}
theorem ix_listK (h : X.K = K) : IxR X (rIxL K) := by subst h; exact ix_list
theorem ix_tupK (h : X.K = K) : IxR X (rIxT K) := by subst h; exact ix_tup
theorem sl_listK (h : X.K = K) : SlR X (rSlL K) := by subst h; exact sl_list
theorem sl_tupK (h : X.K = K) : SlR X (rSlT K) := by subst h; exact sl_tup
def rListOf (K : PySem.W.Frag) : List V → Hp → VK → Prop := fun xs H Q => ∃ p ys, xs = [.ref p] ∧ (SqL K H p ys ∨ SqT K H p ys) ∧ ∀ l, H l = none → Q (.ref l) (upd H l (.lst ys))
theorem call_list_ofK (h : X.K = K) : CallR X (.type "list") (rListOf K) := by subst h; exact call_list_of
def rTupleOf (K : PySem.W.Frag) : List V → Hp → VK → Prop := fun xs H Q => ∃ p ys, xs = [.ref p] ∧ ((SqL K H p ys ∧ ∀ l, H l = none → Q (.ref l) (upd H l (.tup ys))) ∨ (SqT K H p ys ∧ Q (.ref p) H))
theorem call_tuple_ofK (h : X.K = K) : CallR X (.type "tuple") (rTupleOf K) := by subst h; exact call_tuple_of
def rLenSeq (K : PySem.W.Frag) : List V → Hp → VK → Prop := fun xs H Q => ∃ p ys, xs = [.ref p] ∧ (SqL K H p ys ∨ SqT K H p ys) ∧ Q (.int ys.length) H
theorem call_len_seqK (h : X.K = K) : CallR X (.builtin "len") (rLenSeq K) := by subst h; exact call_len_seq
theorem op_eqDK (h : X.K = K) (hu : X.A.units + 64 < cLine) : OpR X (compareOp .Eq) (rEqD K) := by subst h; exact op_eqD hu
theorem op_neDK (h : X.K = K) (hu : X.A.units + 64 < cLine) : OpR X (compareOp .NotEq) (rNeD K) := by subst h; exact op_neD hu
theorem op_in_seqK (h : X.K = K) : OpR X (compareOp .In) (rIn K false) := by subst h; exact op_in_seq
theorem op_notIn_seqK (h : X.K = K) : OpR X (compareOp .NotIn) (rIn K true) := by subst h; exact op_notIn_seq
theorem op_catTK (h : X.K = K) : OpR X (binaryOp .Add) (rCatT K) := by subst h; exact op_catT
theorem cr_sumK (h : X.K = K) (hc : X.calm = true) : CallR X (.builtin "sum") (rSum K) := by subst h; exact cr_sum hc
theorem cr_maxK (h : X.K = K) (hc : X.calm = true) : CallR X (.builtin "max") (rMax K) := by subst h; exact cr_max hc
theorem cr_minK (h : X.K = K) (hc : X.calm = true) : CallR X (.builtin "min") (rMin K) := by subst h; exact cr_min hc
theorem cr_anyK (h : X.K = K) (hc : X.calm = true) : CallR X (.builtin "any") (rAny K) := by subst h; exact cr_any hc
theorem cr_allK (h : X.K = K) (hc : X.calm = true) : CallR X (.builtin "all") (rAll K) := by subst h; exact cr_all hc
theorem cr_sortedIK (h : X.K = K) : CallR X (.builtin "sorted") (rSortedI K) := by subst h; exact cr_sortedI
theorem cr_sortedSetK {w : World} (h : X.w = w) (hc : X.calm = true) : CallR X (.builtin "sorted") (rSortedSet w) := by subst h; exact cr_sortedSet hc
theorem mt_indexK (h : X.K = K) : MtR X "list.index" (rIndex K) := by subst h; exact mt_index
variable {o e : Expr} {es : List Expr} {to te : TE} {t : TA} {name f : Str} {apos cpos pos : Pos} {T id : String} {r : V → List V → Hp → VK → Prop} {tg : Expr}
theorem pe_fldK (h : X.K = K) (he : PE X e te) (hb : attributeBase e f X.env (eval e X.env) = eval e X.env) : PE X (.Attribute e f pos) (tFld K te f) := by subst h; exact pe_fld he hb
theorem pe_bm0K (h : X.K = K) (pa : PlainAttrs T) (slot : Slot T name id) (hty : typeOf (.builtin id) = pure (.type "method_descriptor")) (hm : MtR X id r) (ho : PE X o to)
    (hbase : attributeBase o name X.env (eval o X.env) = eval o X.env := by rfl) (hline : (apos.endLine == cpos.line) = true := by rfl) : PE X (.Call (.Attribute o name apos) [] [] cpos) (tBM0 K T r to) := by
  subst h
  exact pe_bm0 pa slot hty hm ho hbase hline
theorem pe_bmK (h : X.K = K) (pa : PlainAttrs T) (slot : Slot T name id) (hty : typeOf (.builtin id) = pure (.type "method_descriptor")) (hm : MtR X id r) (ho : PE X o to) (ha : PA X (e :: es) t)
    (hbase : attributeBase o name X.env (eval o X.env) = eval o X.env := by rfl)
    (hfew : ((backTo cpos (starEach (e :: es) X.env)).all (fun x => !x.1) && (backToKw cpos (keywordEach [] X.env)).all (fun x => x.1.isSome)
      && decide ((e :: es).length + ([] : List Keyword).length + (if ([] : List Keyword).isEmpty then 0 else 1) < 30)) = true := by rfl)
    (hline : (apos.endLine == cpos.line) = true := by rfl) (hs : starEach (e :: es) X.env = (false, eval e X.env) :: starEach es X.env := by rfl) (hplain : (backTo cpos (starEach es X.env)).any (·.1) = false := by rfl) :
    PE X (.Call (.Attribute o name apos) (e :: es) [] cpos) (tBM K T r to t) := by
  subst h
  exact pe_bm pa slot hty hm ho ha hbase hfew hline hs hplain
theorem pi_listK (h : X.K = K) (hl : PE X e te) : PI X tg e (iList K te) := by subst h; exact pi_list hl
theorem pi_tupK (h : X.K = K) (hl : PE X e te) : PI X tg e (iTup K te) := by subst h; exact pi_tup hl
theorem ps_fldK {value : Expr} {tv : TE} {pos' : Pos} (h : X.K = K) (ha : PE X o to) (hv : PE X value tv) (hs : swapsWith value (some (.Attribute o f pos')) pos.line X.env = pure false) : PS X (.Assign [.Attribute o f pos'] value pos) (sFld K to tv f) := by
  subst h
  exact ps_fld ha hv hs
theorem pt_truthK {a : Expr} {ta : TE} (h : X.K = K) (ha : PE X a ta) (he : ∀ whole, isTrue a X.env whole = (do let v ← whole; standAt a.pos; holding [v] (truthy v))) : PT X a (fun σ H Q => ta σ H fun x H1 => ∃ k, TruV K x H1 k ∧ Q k H1) := by
  subst h
  exact pt_truth ha he
end
section
variable {X : Cx} {pos : Pos}
/-- a tuple as a target, the written part named -/
theorem pg_tupK {K : PySem.W.Frag} {es : List Expr} {k : Nat} {t : TGs} {n : Nat} (hK : X.K = K) (hc : X.calm = true) (h : PGs X es t)
    (hn : (assignEach es X.env).length = n := by rfl) (hst : (assignEach es X.env).findIdx? (·.1) = none := by rfl) : PG X (.Tuple es k pos) (gTup K n t) := by
  subst hK
  exact pg_tup hc h hn hst
end
/-! ### an instance's attributes as a written list -/
theorem lk_hit {f : Str} {v : V} {r : List (Str × V)} : List.lookup f ((f, v) :: r) = some v := by simp [List.lookup]
theorem lk_miss {f g : Str} {v : V} {r : List (Str × V)} (h : (f == g) = false) : List.lookup f ((g, v) :: r) = List.lookup f r := by simp [List.lookup, h]
theorem pf_nil {f : Str} {v : V} : putF f v [] = [(f, v)] := rfl
theorem pf_hit {f : Str} {v u : V} {r : List (Str × V)} : putF f v ((f, u) :: r) = (f, v) :: r := by
  show (if f = f then _ else _) = _
  rw [if_pos rfl]
theorem pf_miss {f g : Str} {v u : V} {r : List (Str × V)} (h : (f == g) = false) : putF f v ((g, u) :: r) = (g, u) :: putF f v r := by
  show (if g = f then _ else _) = _
  rw [if_neg]
  intro e
  subst e
  simp at h

/-! ### readings in short -/
section
variable {K : PySem.W.Frag} {σ : L2.St} {H : Hp} {Q : VK} {v x : V} {i : Nat} {ta tb : TE} {t u : TS} {D : Ends}
theorem g_var (h : σ[i]? = some (some v)) (k : Q v H) : tVar i σ H Q := ⟨v, h, k⟩
theorem g_pair {a : Addr} {u w : V} {tu tw : TG} {Q : L2.St → Hp → Prop} (h : H a = some (.tup [u, w])) (k : tu u σ H fun σ' H' => tw w σ' H' Q) : gTup K 2 (gCons tu (gCons tw gNil)) (.ref a) σ H Q :=
  ⟨a, _, rfl, SqT.of h, rfl, u, _, rfl, by
    show tu u σ H fun σ' H' => ∃ v r, [w] = v :: r ∧ tw v σ' H' fun σ' H' => r = [] ∧ Q σ' H'
    have e : (fun σ' H' => tw w σ' H' Q) = (fun σ' H' => ∃ v r, [w] = v :: r ∧ tw v σ' H' fun σ' H' => r = [] ∧ Q σ' H') := by
      funext σ' H'
      apply propext
      constructor
      · intro q
        refine ⟨w, [], rfl, ?_⟩
        have e2 : (fun σ' H' => ([] : List V) = [] ∧ Q σ' H') = Q := by
          funext a b
          simp
        rw [e2]
        exact q
      · rintro ⟨v, r, e, q⟩
        injection e with e1 e2
        subst e1
        subst e2
        have e2 : (fun σ' H' => ([] : List V) = [] ∧ Q σ' H') = Q := by
          funext a b
          simp
        rw [e2] at q
        exact q
    rw [← e]
    exact k⟩
theorem g_yes {A B : Hp → Prop} (h : A H) : tYes σ H fun b H3 => if b = true then A H3 else B H3 := h
theorem if_int {i j : Int} {A B : Prop} (h1 : i = j → A) (h2 : i ≠ j → B) : if decide (V.int i = V.int j) = true then A else B := by
  by_cases e : i = j
  · rw [if_pos (decide_eq_true (by rw [e]))]
    exact h1 e
  · rw [if_neg (by rw [decide_eq_false (fun z => e (V.int.inj z))]; exact Bool.false_ne_true)]
    exact h2 e
theorem if_dec {c A B : Prop} [Decidable c] (h1 : c → A) (h2 : ¬ c → B) : if decide c = true then A else B := by
  by_cases e : c
  · rw [if_pos (decide_eq_true e)]
    exact h1 e
  · rw [if_neg (by rw [decide_eq_false e]; exact Bool.false_ne_true)]
    exact h2 e
theorem if_bool {b : Bool} {A B : Prop} (h1 : b = true → A) (h2 : b = false → B) : if b = true then A else B := by
  cases b
  · rw [if_neg Bool.false_ne_true]
    exact h2 rfl
  · rw [if_pos rfl]
    exact h1 rfl
theorem if_nbool {b : Bool} {A B : Prop} (h1 : b = false → A) (h2 : b = true → B) : if (!b) = true then A else B := by
  cases b
  · exact h1 rfl
  · exact h2 rfl
/-- a list at an address, its items data -/
def LstAt {α : Type} (r : Rp α) (G H : Hp) (a : Addr) (xs : List α) : Prop := ∃ vs, H a = some (.lst vs) ∧ Paired (r G) vs xs
/-- a loop over zip of two lists -/
theorem for_zipM {K : PySem.W.Frag} {a b : Addr} {xs ys : List V} {g : TG} {tb : TS} {D : Ends} {σ : L2.St} {H : Hp} (Pv : Nat → L2.St → Hp → Prop) (h0 : Pv 0 σ H) (hq : ∀ i σ H, Pv i σ H → SqL K H a xs ∧ SqL K H b ys)
    (hs : ∀ (i : Nat) (x y : V) (T : Addr) (σ : L2.St) (H : Hp), xs[i]? = some x → ys[i]? = some y → Pv i σ H → H T = none → g (.ref T) σ (upd H T (.tup [x, y])) fun σ2 H2 => tb { D with nx := Pv (i + 1), ct := Pv (i + 1), bk := D.nx } σ2 H2)
    (hd : ∀ σ H, Pv (min xs.length ys.length) σ H → D.nx σ H) :
    ∃ W : Nat → Nat → L2.St → Hp → Prop, (∃ m, W 0 m σ H) ∧ ∀ i m σ H, W i m σ H →
      ((Itz K a b).stop i H ∧ D.nx σ H) ∨ ((Itz K a b).go i H ∧ ∃ N : L2.St → Hp → Prop, (∀ σ' H', N σ' H' → ∃ m', m' < m ∧ W (i + 1) m' σ' H') ∧ ∀ v H', (Itz K a b).yld i H v H' → g v σ H' fun σ2 H2 => tb { D with nx := N, ct := N, bk := D.nx } σ2 H2) := by
  refine ⟨fun i m σ H => m = min xs.length ys.length - i ∧ i ≤ min xs.length ys.length ∧ Pv i σ H, ⟨_, rfl, Nat.zero_le _, h0⟩, ?_⟩
  rintro i m σ H ⟨rfl, hi, p⟩
  obtain ⟨qx, qy⟩ := hq i σ H p
  by_cases hlt : i < min xs.length ys.length
  · have l1 : i < xs.length := by omega
    have l2 : i < ys.length := by omega
    refine .inr ⟨⟨xs, ys, _, _, qx, qy, List.getElem?_eq_getElem l1, List.getElem?_eq_getElem l2⟩, Pv (i + 1), fun σ' H' p' => ⟨_, by omega, rfl, by omega, p'⟩, fun v H' y => ?_⟩
    obtain ⟨T, x', y', rfl, hT, rfl, f1, f2⟩ := y
    exact hs i x' y' T σ H (f1 xs qx) (f2 ys qy) p hT
  · have e : i = min xs.length ys.length := by omega
    subst e
    exact .inl ⟨⟨xs, ys, qx, qy, by omega⟩, hd σ H p⟩
/-- a dict comprehension over a list -/
theorem dc_list {K : PySem.W.Frag} {a : Addr} {xs : List V} {g : TG} {tt : TT} {tk tv : TE} {vs : List Nat} {σ : L2.St} {H1 : Hp} {D : Addr} {Qd : Hp → Prop} (Pv : Nat → Hp → Prop) (h0 : Pv 0 (upd H1 D (.dK []))) (hl : ∀ i H, i ≤ xs.length → Pv i H → SqL K H a xs)
    (hs : ∀ i x H, xs[i]? = some x → Pv i H → g x (wipe σ vs) H fun σ2 H2 => wipe σ2 vs = wipe σ vs ∧ tt σ2 H2 fun b H3 =>
      if b = true then tk σ2 H3 fun y H4 => tv σ2 H4 fun z H5 => ∃ kvs k, y = kV k ∧ H5 D = some (.dK kvs) ∧ kvs.length < sizeLine ∧ Pv (i + 1) (upd H5 D (.dK (putK kvs k z))) else Pv (i + 1) H3) (hd : ∀ H, Pv xs.length H → Qd H) :
    ∃ W : Nat → Nat → Hp → Prop, (∃ m, W 0 m (upd H1 D (.dK []))) ∧ ∀ i m H, W i m H →
      ((Itl K a).stop i H ∧ Qd H) ∨ ((Itl K a).go i H ∧ ∃ Nx : Hp → Prop, (∀ H', Nx H' → ∃ m', m' < m ∧ W (i + 1) m' H') ∧ ∀ x H', (Itl K a).yld i H x H' → g x (wipe σ vs) H' fun σ2 H2 => wipe σ2 vs = wipe σ vs ∧ tt σ2 H2 fun b H3 =>
        if b = true then tk σ2 H3 fun y H4 => tv σ2 H4 fun z H5 => ∃ kvs k, y = kV k ∧ H5 D = some (.dK kvs) ∧ kvs.length < sizeLine ∧ Nx (upd H5 D (.dK (putK kvs k z))) else Nx H3) := by
  refine ⟨fun i m H => m = xs.length - i ∧ i ≤ xs.length ∧ Pv i H, ⟨_, rfl, Nat.zero_le _, h0⟩, ?_⟩
  rintro i m H ⟨rfl, hi, p⟩
  have q := hl i H hi p
  by_cases hlt : i < xs.length
  · refine .inr ⟨⟨xs, _, q, List.getElem?_eq_getElem hlt⟩, Pv (i + 1), fun H' p' => ⟨_, by omega, rfl, hlt, p'⟩, fun x H' y => ?_⟩
    obtain ⟨e, y⟩ := y
    subst e
    exact hs i x _ (y xs q) p
  · have e : i = xs.length := by omega
    subst e
    exact .inl ⟨⟨xs, q, Nat.le_refl _⟩, hd H p⟩
end
end Y

/-! YSet: set(a list of ints), sorted of it. -/
namespace Y
open PySem PySem.Spec PyProof.Rows L2
section
variable {P : Program} {w : World} {A : Around} {E : Value → Shared → Prop} {s : Shared}
set_option maxHeartbeats 3200000 in
theorem set_of_list {l : Addr} {items : Array Value} (ns : List Int) {Q : Value → Shared → Prop} (hh : A.handled = none) (hl : s.heap.IsList l items) (hit : IntsAre items.toList ns) (hb : ns.length + 1 < scanBound)
    (h : ∀ (h' : Heap) (tk c : Nat), SetR w h' s.heap.objs.size (fun j => decide (j ∈ ns)) c → c ≤ ns.length → (∀ b o, s.heap.get? b = some o → h'.get? b = some o) → Q (.ref s.heap.objs.size) { s with heap := h', toks := tk }) :
    wpAny (model P w) A (call (.type "set") [.ref l]) Q E s := by
  have len : items.size = ns.length := by
    have q := IntsAre.length hit
    rwa [Array.length_toList] at q
  obtain ⟨c, tl, hmro⟩ := F.called_set.mro
  have hmade := F.called_set.made
  have hsub := F.called_set.sub
  refine wpAny_call (codeAny_of_tree ?_)
  show wpAny _ _ (callAny (.type "set") _) _ _ _
  refine wpAny_pure ⟨Code.quiet_builtin _ (by decide +kernel), codeAny_builtin F.entry_type_call ?_⟩
  rw [Around.under_plain (weight_type_call_type "set" [.ref l] []) rfl]
  have h1 := F.called_set.notType
  have h2 := F.called_set.canCreate
  have hct := F.typeCall_set_1 (.ref l)
  repeat (any_goals (first | assumption | wp_step))
  let o0 : Obj := { cls := .type "set", dict := none, data := .set #[] 0 (.fresh 0 0 (!w.params.followText "set-order")) }
  refine codeAny_mono (code_set_led1 (.ref l) (E := E) (Q₁ := fun obj t => obj = .ref s.heap.objs.size ∧ t = { s with heap := s.heap.push o0 }) ⟨rfl, rfl⟩) fun r t hr => ?_
  cases r with
  | error e => exact hr
  | ok fl =>
    cases fl with
    | ret obj =>
      obtain ⟨rfl, rfl⟩ := hr
      have hS : (s.heap.push o0).get? s.heap.objs.size = some o0 := Heap.get?_push_size _ rfl
      have hT : Shared.TypeIs { s with heap := s.heap.push o0 } (.ref s.heap.objs.size) "set" := ⟨_, hS, rfl⟩
      have hli := F.called_set.init.lookup
      have hbi := F.called_set.init.bind (.ref s.heap.objs.size)
      repeat (any_goals (first | assumption | wp_step))
      refine codeAny_mono (codeAny_call_builtin (R := wants (fun r t => r = .none ∧ ∃ h' tk c, t = { s with heap := h', toks := tk } ∧ SetR w h' s.heap.objs.size (fun j => decide (j ∈ ns)) c ∧ c ≤ ns.length ∧
          (∀ b o, s.heap.get? b = some o → h'.get? b = some o)) E) F.called_set.init.plain F.entry_set_init (check_set_init_1 hT ?_)) fun r₂ t₂ hr₂ => ?_
      · obtain ⟨ol, hol, hcl, nl, hdl⟩ := hl
        obtain ⟨ocls, odict, odata, oslots⟩ := ol
        simp only at hcl hdl
        subst hcl; subst hdl
        have hol' : (s.heap.push o0).get? l = some { cls := .type "list", dict := odict, data := .seq items nl, slots := oslots } := Heap.get?_push_of_some _ hol
        have hsls := F.sub_list_set
        have hslf := F.sub_list_frozenset
        have hne : (Value.type "list" == Value.type "dict") = false := by decide
        have hl1 : (s.heap.push o0).IsList l items := ⟨_, hol', rfl, nl, rfl⟩
        unfold Builtin.«set.__init__» noKeywords Builtin.Frozenset.updateFrom
        generalize hPI : pyIter = PI
        wp_walk
        subst hPI
        refine wpAny_pyIter_list hl1 ?_
        refine wpAny_bind (wpAny_runValue ?_)
        have hlS : l < s.heap.objs.size := Heap.lt_size hol
        have hh3 : A.in1.in1.in1.handled = none := by simp [hh]
        have hneI : l ≠ (s.heap.push o0).objs.size := by
          rw [Heap.size_push]; exact Nat.ne_of_lt (Nat.lt_succ_of_lt hlS)
        have hSf : s.heap.objs.size ∉ [(s.heap.push o0).objs.size, l] := by
          rw [Heap.size_push]; simp only [List.mem_cons, List.mem_singleton, List.not_mem_nil, or_false, not_or]
          exact ⟨Nat.ne_of_lt (Nat.lt_succ_self _), Nat.ne_of_gt hlS⟩
        have hval : ∀ (i : Nat) (v : Value), items[i]? = some v → ∃ k t, ns[i]? = some k ∧ v = .int k t := fun i v hv => by
          have hi : i < ns.length := by rw [← len]; exact (Array.getElem?_eq_some_iff.mp hv).1
          obtain ⟨t, e⟩ := PyProof.Rows.IntsAre.int_at hit i v (by rw [Array.getElem?_toList]; exact hv)
          refine ⟨ns[i], t, List.getElem?_eq_getElem hi, ?_⟩
          rw [e, List.getD_eq_getElem?_getD, List.getElem?_eq_getElem hi] <;> rfl
        refine set_update_ints ((Walks.list hh3 _ l hneI items).toS) s.heap.objs.size
          hSf ns len hb hval (items.size - 0) 0 _ (by omega) (Nat.zero_le _)
          ⟨⟨_, Heap.get?_push_size _ rfl, rfl, rfl⟩, (hl1.push _)⟩ ?hS0 ?hR
        case hS0 =>
          have hget : ((s.heap.push o0).push { cls := .type "list_iterator", data := .fields #[.ref l, .int 0 0] }).get? s.heap.objs.size = some o0 := Heap.get?_push_of_some _ hS
          exact ⟨0, Nat.le_refl 0, setR_new_at hget⟩
        case hR =>
          intro s' c' hm hc' hS'
          obtain ⟨h', g2, d', tk', os'⟩ := s'
          have eg : g2 = s.gens := hm.gens
          have ed : d' = s.drawn := hm.drawn
          have eo : os' = s.os := hm.os
          subst eg; subst ed; subst eo
          show wpAny _ _ _ _ _ _
          refine wpAny_pure ?_
          show wpAny _ _ (ret Value.none) _ _ _
          rw [len] at hc'
          refine wpAny_pure ⟨rfl, h', tk', c', rfl, hS', hc', fun b o e => ?_⟩
          have hb0 : b < s.heap.objs.size := Heap.lt_size e
          have hb1 : b ≠ s.heap.objs.size := Nat.ne_of_lt hb0
          have hb2 : b ≠ (s.heap.push o0).objs.size := by
            rw [Heap.size_push]; exact Nat.ne_of_lt (Nat.lt_succ_of_lt hb0)
          exact hm.heap b o (by simp only [List.mem_cons, List.mem_singleton, List.not_mem_nil, or_false, not_or]; exact ⟨hb1, hb2⟩) (Heap.get?_push_of_some _ (Heap.get?_push_of_some _ e))
      · cases r₂ with
        | error e => exact hr₂
        | ok fl₂ =>
          cases fl₂ with
          | ret r =>
            obtain ⟨rfl, h', tk, c', rfl, hS', hc', hk'⟩ := hr₂
            repeat (any_goals (first | assumption | wp_step))
            exact h _ _ _ hS' hc' hk'
          | _ => exact hr₂.elim
    | _ => exact hr.elim
end
section
variable {X : Cx}
/-- set(xs), xs a list of ints -/
def rSetI (K : PySem.W.Frag) (w : World) : List V → Hp → VK → Prop := fun vs H Q => ∃ (l : Addr) (ns : List Int), vs = [V.ref l] ∧ SqL K H l (ns.map V.int) ∧ ns.length ≤ 1000 ∧
  ∀ p c, H p = none → c ≤ ns.length → Q (.ref p) (upd H p (SetO w p (fun j => decide (j ∈ ns)) c))
theorem cr_setI (hc : X.calm = true) : CallR X (.type "set") (rSetI X.K X.w) := by
  intro pins s σ H vs us Q I r h
  obtain ⟨l, ns, rfl, hq, hn, q⟩ := h
  obtain ⟨u, rfl, ru⟩ := vals1 r
  cases ru
  obtain ⟨its, rv, p, hz⟩ := I.list hq
  refine set_of_list (items := its.toArray) ns (I.ok.hd hc) p.isList (by simpa using Vals.ints rv) (by unfold scanBound; omega) fun h' tk c R hc' hk => ?_
  have n := I.fresh
  exact ⟨.ref s.heap.objs.size, _, I.laid (o := SetO X.w s.heap.objs.size (fun j => decide (j ∈ ns)) c) hk (Nat.le_refl _) (setO_new R), rfl, q _ c n hc'⟩
theorem cr_setIK {K : PySem.W.Frag} {w : World} (h : X.K = K) (hw : X.w = w) (hc : X.calm = true) : CallR X (.type "set") (rSetI K w) := by
  subst h hw
  exact cr_setI hc
end
end Y


/-! YMath: ascending numbers, dicts as pairs: plain Lean. -/
namespace Y
/-! ### ascending numbers, each once -/
def insU (x : Int) : List Int → List Int
  | [] => [x]
  | y :: r => if x < y then x :: y :: r else if x = y then y :: r else y :: insU x r
def nums (xs : List Int) : List Int := xs.foldr insU []
theorem mem_insU (x k : Int) : ∀ l : List Int, k ∈ insU x l ↔ k = x ∨ k ∈ l
  | [] => by simp [insU]
  | y :: r => by
    unfold insU
    split
    · simp
    · split
      · rename_i h; subst h; simp
      · have ih := mem_insU x k r
        simp only [List.mem_cons, ih]
        constructor
        · rintro (h | h | h) <;> simp [h]
        · rintro (h | h | h) <;> simp [h]
theorem mem_nums (k : Int) : ∀ xs : List Int, k ∈ nums xs ↔ k ∈ xs
  | [] => by simp [nums]
  | x :: xs => by
    show k ∈ insU x (nums xs) ↔ _
    rw [mem_insU, mem_nums k xs, List.mem_cons]
theorem asc_insU (x : Int) : ∀ l : List Int, l.Pairwise (· < ·) → (insU x l).Pairwise (· < ·)
  | [], _ => by simp [insU]
  | y :: r, h => by
    have ⟨h1, h2⟩ := List.pairwise_cons.mp h
    unfold insU
    split
    · rename_i hx
      refine List.pairwise_cons.mpr ⟨fun z hz => ?_, h⟩
      rcases List.mem_cons.mp hz with e | e
      · omega
      · have := h1 z e; omega
    · split
      · exact h
      · refine List.pairwise_cons.mpr ⟨fun z hz => ?_, asc_insU x r h2⟩
        rcases (mem_insU x z r).mp hz with e | e
        · omega
        · exact h1 z e
theorem asc_nums : ∀ xs : List Int, (nums xs).Pairwise (· < ·)
  | [] => List.Pairwise.nil
  | x :: xs => asc_insU x _ (asc_nums xs)
/-- two ascending lists with the same members are one -/
theorem asc_same : ∀ {a b : List Int}, a.Pairwise (· < ·) → b.Pairwise (· < ·) → (∀ k, k ∈ a ↔ k ∈ b) → a = b
  | [], [], _, _, _ => rfl
  | [], y :: b, _, _, h => absurd ((h y).mpr (by simp)) (by simp)
  | x :: a, [], _, _, h => absurd ((h x).mp (by simp)) (by simp)
  | x :: a, y :: b, ha, hb, h => by
    have ⟨a1, a2⟩ := List.pairwise_cons.mp ha
    have ⟨b1, b2⟩ := List.pairwise_cons.mp hb
    have e : x = y := by
      rcases List.mem_cons.mp ((h x).mp (by simp)) with e | e
      · exact e
      · rcases List.mem_cons.mp ((h y).mpr (by simp)) with e' | e'
        · exact e'.symm
        · have := a1 y e'
          have := b1 x e
          omega
    subst e
    have t : a = b := asc_same a2 b2 fun k => by
      have q := h k
      constructor
      · intro hk
        rcases List.mem_cons.mp (q.mp (List.mem_cons_of_mem _ hk)) with e | e
        · have := a1 k hk; omega
        · exact e
      · intro hk
        rcases List.mem_cons.mp (q.mpr (List.mem_cons_of_mem _ hk)) with e | e
        · have := b1 k hk; omega
        · exact e
    rw [t]
theorem le_nums_len : ∀ xs : List Int, (nums xs).length ≤ xs.length
  | [] => Nat.le_refl _
  | x :: xs => by
    have h : ∀ l : List Int, (insU x l).length ≤ l.length + 1 := by
      intro l
      induction l with
      | nil => exact Nat.le_refl _
      | cons y r ih =>
        unfold insU
        split
        · simp
        · split
          · simp
          · simp only [List.length_cons]; omega
    have := h (nums xs)
    have := le_nums_len xs
    show (insU x (nums xs)).length ≤ _
    simp only [List.length_cons]
    omega

/-! ### dicts as pairs -/
section
variable {β : Type}
def look (ds : List (Int × β)) (k : Int) : Option β := (ds.find? fun p => decide (p.1 = k)).map (·.2)
def put (ds : List (Int × β)) (k : Int) (x : β) : List (Int × β) := if ds.any (fun p => decide (p.1 = k)) then ds.map (fun p => if p.1 = k then (p.1, x) else p) else ds ++ [(k, x)]
theorem put_len (ds : List (Int × β)) (k : Int) (x : β) : (put ds k x).length ≤ ds.length + 1 := by
  unfold put
  split <;> simp
theorem look_cons (p : Int × β) (ds : List (Int × β)) (k : Int) : look (p :: ds) k = if p.1 = k then some p.2 else look ds k := by
  unfold look
  rw [List.find?_cons]
  by_cases h : p.1 = k <;> simp [h]
theorem look_any (ds : List (Int × β)) (k : Int) : (ds.any fun p => decide (p.1 = k)) = (look ds k).isSome := by
  induction ds with
  | nil => rfl
  | cons p ds ih =>
    rw [look_cons, List.any_cons, ih]
    by_cases h : p.1 = k <;> simp [h]
theorem put_keys (ds : List (Int × β)) (k : Int) (x : β) : (put ds k x).map (·.1) = if ds.any (fun p => decide (p.1 = k)) then ds.map (·.1) else ds.map (·.1) ++ [k] := by
  unfold put
  split
  · rw [List.map_map]
    apply List.map_congr_left
    intro p _
    show (if p.1 = k then (p.1, x) else p).1 = p.1
    split <;> rfl
  · simp
theorem put_nodup (ds : List (Int × β)) (k : Int) (x : β) (h : (ds.map (·.1)).Nodup) : ((put ds k x).map (·.1)).Nodup := by
  rw [put_keys]
  split
  · exact h
  · rename_i hn
    refine List.nodup_append.mpr ⟨h, by simp, fun a ha b hb e => ?_⟩
    have hb := List.mem_singleton.mp hb
    subst hb
    subst e
    obtain ⟨p, hp, e⟩ := List.mem_map.mp ha
    exact hn (List.any_eq_true.mpr ⟨p, hp, decide_eq_true e⟩)
theorem look_of_mem {ds : List (Int × β)} (h : (ds.map (·.1)).Nodup) {p : Int × β} (hp : p ∈ ds) : look ds p.1 = some p.2 := by
  induction ds with
  | nil => cases hp
  | cons q ds ih =>
    rw [look_cons]
    have ⟨h1, h2⟩ := List.nodup_cons.mp (show (q.1 :: ds.map (·.1)).Nodup from h)
    rcases List.mem_cons.mp hp with e | e
    · subst e; rw [if_pos rfl]
    · have : ¬ q.1 = p.1 := fun e' => h1 (e' ▸ List.mem_map.mpr ⟨p, e, rfl⟩)
      rw [if_neg this]
      exact ih h2 e
theorem look_some_mem {ds : List (Int × β)} {k : Int} {x : β} (h : look ds k = some x) : (k, x) ∈ ds := by
  induction ds with
  | nil => cases h
  | cons q ds ih =>
    rw [look_cons] at h
    split at h
    · rename_i e
      have : x = q.2 := (Option.some.inj h).symm
      subst this
      subst e
      exact List.mem_cons_self
    · exact List.mem_cons_of_mem _ (ih h)
theorem look_isSome {ds : List (Int × β)} {k : Int} : (look ds k).isSome = true ↔ k ∈ ds.map (·.1) := by
  rw [← look_any, List.any_eq_true]
  constructor
  · rintro ⟨p, hp, e⟩
    exact List.mem_map.mpr ⟨p, hp, of_decide_eq_true e⟩
  · intro h
    obtain ⟨p, hp, e⟩ := List.mem_map.mp h
    exact ⟨p, hp, decide_eq_true e⟩
theorem put_mem {ds : List (Int × β)} {k : Int} {x : β} {p : Int × β} (h : p ∈ put ds k x) : p = (k, x) ∨ p ∈ ds := by
  unfold put at h
  split at h
  · obtain ⟨q, hq, e⟩ := List.mem_map.mp h
    split at e
    · rename_i e1
      left
      rw [← e, e1]
    · right
      rw [← e]
      exact hq
  · rcases List.mem_append.mp h with h | h
    · exact .inr h
    · exact .inl (List.mem_singleton.mp h)
end
end Y

set_option maxHeartbeats 4000000
/-! YDict: dicts with int keys as lists of pairs; slices. -/
namespace Y
open PySem PySem.Spec PyProof.Rows L2
section
variable {β : Type} {r : Rp β} {G G' : Hp}
/-- a dict's pairs, keys ints, values data -/
def DRel (r : Rp β) (G : Hp) : List (Key × V) → List (Int × β) → Prop := Paired fun p q => p.1 = Sum.inl q.1 ∧ r G p.2 q.2
theorem DRel.mono (m : Mn r) (e : Same G G') {kvs : List (Key × V)} {ds : List (Int × β)} (h : DRel r G kvs ds) : DRel r G' kvs ds := pd_mono (fun _ _ q => ⟨q.1, m _ _ _ _ e q.2⟩) h
theorem DRel.look_some : ∀ {kvs : List (Key × V)} {ds : List (Int × β)}, DRel r G kvs ds → ∀ {k : Int} {x : β}, look ds k = some x → ∃ v, valV kvs (Sum.inl k) = some v ∧ r G v x
  | _, _, .nil, k, x, h => by cases h
  | (p :: _), (q :: _), .cons ⟨h1, h2⟩ t, k, x, h => by
    rw [look_cons] at h
    by_cases e : q.1 = k
    · rw [if_pos e] at h
      cases h
      exact ⟨p.2, valV_pos (by rw [h1, e]), h2⟩
    · rw [if_neg e] at h
      obtain ⟨v, hv, hr⟩ := DRel.look_some t h
      exact ⟨v, by rw [valV_neg (by rw [h1]; exact fun z => e (Sum.inl.inj z))]; exact hv, hr⟩
theorem DRel.look_none : ∀ {kvs : List (Key × V)} {ds : List (Int × β)}, DRel r G kvs ds → ∀ {k : Int}, look ds k = none → valV kvs (Sum.inl k) = none
  | _, _, .nil, k, h => rfl
  | (p :: _), (q :: _), .cons ⟨h1, h2⟩ t, k, h => by
    rw [look_cons] at h
    by_cases e : q.1 = k
    · rw [if_pos e] at h
      cases h
    · rw [if_neg e] at h
      rw [valV_neg (by rw [h1]; exact fun z => e (Sum.inl.inj z))]
      exact DRel.look_none t h
theorem DRel.anyK : ∀ {kvs : List (Key × V)} {ds : List (Int × β)}, DRel r G kvs ds → ∀ (k : Int), (kvs.any fun kv => decide (kv.1 = (Sum.inl k : Key))) = ds.any fun p => decide (p.1 = k)
  | _, _, .nil, k => rfl
  | (p :: _), (q :: _), .cons ⟨h1, _⟩ t, k => by
    rw [List.any_cons, List.any_cons, DRel.anyK t k, h1]
    congr 1
    by_cases e : q.1 = k
    · simp [e]
    · have : ¬ (Sum.inl q.1 : Key) = Sum.inl k := fun z => e (Sum.inl.inj z)
      simp [e, this]
theorem DRel.put {kvs : List (Key × V)} {ds : List (Int × β)} (h : DRel r G kvs ds) {k : Int} {v : V} {x : β} (hr : r G v x) : DRel r G (putK kvs (Sum.inl k) v) (put ds k x) := by
  unfold putK Y.put
  rw [h.anyK k]
  cases ds.any fun p => decide (p.1 = k) with
  | true =>
    rw [if_pos rfl, if_pos rfl]
    revert hr
    intro hr
    induction h with
    | nil => exact .nil
    | cons q t ih =>
      rename_i p q' _ _
      refine .cons ?_ ih
      dsimp only
      by_cases e : q'.1 = k
      · rw [if_pos e, if_pos (by rw [q.1, e])]
        exact ⟨q.1, hr⟩
      · rw [if_neg e, if_neg (by rw [q.1]; exact fun z => e (Sum.inl.inj z))]
        exact q
  | false =>
    rw [if_neg Bool.false_ne_true, if_neg Bool.false_ne_true]
    exact pd_snoc h ⟨rfl, hr⟩
theorem DRel.keys : ∀ {kvs : List (Key × V)} {ds : List (Int × β)}, DRel r G kvs ds → kvs.map (·.1) = (ds.map (·.1)).map Sum.inl
  | _, _, .nil => rfl
  | _, _, .cons q t => by rw [List.map_cons, List.map_cons, List.map_cons, DRel.keys t, q.1]
end
/-- a row of ints at an address -/
abbrev rowI (xs : List Int) : HO := .lst (xs.map V.int)
theorem cut_to (xs : List V) (n : Nat) : cutV xs none (some (n : Int)) = xs.take n := by
  unfold cutV
  rw [HT.sIx_none, HT.sIx_nat, List.drop_zero, Nat.sub_zero]
  by_cases h : n ≤ xs.length
  · rw [Nat.min_eq_left h]
  · rw [Nat.min_eq_right (by omega), List.take_of_length_le (Nat.le_refl _), List.take_of_length_le (by omega)]
theorem cut_from (xs : List V) (n : Nat) : cutV xs (some (n : Int)) none = xs.drop n := by
  unfold cutV
  rw [HT.sIx_none, HT.sIx_nat]
  by_cases h : n ≤ xs.length
  · rw [Nat.min_eq_left h, List.take_of_length_le (by rw [List.length_drop]; omega)]
  · rw [Nat.min_eq_right (by omega), List.drop_eq_nil_of_le (Nat.le_refl _), List.drop_eq_nil_of_le (by omega)]
    simp
end Y


/-! K51M: the disk as a plain record. -/
namespace K51
open Y
abbrev Sec := List Int
def blank : Sec := List.replicate 16 0
structure DS where
  sec : List (Int × Sec)
  wai : List (Int × Sec)
  left : Option Int
  rows : List (Int × Int)
  cut : Bool
def DS.whole (d : DS) (n : Int) : Sec := (look d.sec n).getD blank
def ofN (wai : List (Int × Sec)) (n : Int) : List Sec := (wai.filter fun p => decide (p.1 = n)).map (·.2)
def clip (z : Int) : Nat := (min 16 (max 0 z)).toNat
/-- one sector behind a crash -/
def torn (wai : List (Int × Sec)) (sec : List (Int × Sec)) (r : (Int × Int) × Int) : List (Int × Sec) :=
  if 0 ≤ r.1.1 ∧ r.1.1 < ((ofN wai r.2).length : Int) then put sec r.2 (((ofN wai r.2).getD r.1.1.toNat []).take (clip r.1.2) ++ ((look sec r.2).getD blank).drop (clip r.1.2)) else sec
def crashed (sec wai : List (Int × Sec)) (rows : List (Int × Int)) : List (Int × Sec) := (rows.zip (nums (wai.map (·.1)))).foldl (torn wai) sec
def DS.crash (d : DS) (rows : List (Int × Int)) : DS := { d with sec := crashed d.sec d.wai rows, wai := [] }
def DS.counts (d : DS) : DS := match d.left with
  | none => d
  | some l => if d.cut = true then d else if l - 1 ≤ 0 then { (({ d with left := some (l - 1) } : DS).crash d.rows) with cut := true } else { d with left := some (l - 1) }
def DS.write (d : DS) (n : Int) (x : Sec) : DS := let e := d.counts; if e.cut = true then e else { e with wai := e.wai ++ [(n, x)] }
def synS (sec wai : List (Int × Sec)) : List (Int × Sec) := wai.foldl (fun s p => put s p.1 p.2) sec
def DS.sync (d : DS) : DS := let e := d.counts; if e.cut = true then e else { e with sec := synS e.sec e.wai, wai := [] }
def lastOf (wai : List (Int × Sec)) (n : Int) (x : Sec) : Sec := wai.foldl (fun f p => if p.1 = n then p.2 else f) x
def DS.read (d : DS) (n : Int) : Sec := lastOf d.wai n (d.whole n)
/-- the sectors that are told, by ascending numbers -/
def told (sec : List (Int × Sec)) : List (Int × Sec) := ((nums (sec.map (·.1))).map fun n => (n, (look sec n).getD blank)).filter fun p => decide (p.2 ≠ blank)
def ofRows (xs : List (Int × Sec)) : List (Int × Sec) := xs.foldl (fun s p => put s p.1 p.2) []

/-! ### the told sectors make the same ones -/
theorem told_nodup (sec : List (Int × Sec)) : (told sec).Pairwise (fun a b => a.1 < b.1) := by
  unfold told
  refine List.Pairwise.filter _ ?_
  rw [List.pairwise_map]
  exact asc_nums _
theorem ofRows_asc : ∀ (xs : List (Int × Sec)) (acc : List (Int × Sec)), (acc ++ xs).Pairwise (fun a b => a.1 < b.1) → xs.foldl (fun s p => put s p.1 p.2) acc = acc ++ xs
  | [], acc, _ => by simp
  | x :: xs, acc, h => by
    rw [List.foldl_cons]
    have hn : (acc.any fun p => decide (p.1 = x.1)) = false := by
      rw [List.any_eq_false]
      intro p hp
      have ⟨_, _, h3⟩ := List.pairwise_append.mp h
      have := h3 p hp x List.mem_cons_self
      simp
      omega
    have e : put acc x.1 x.2 = acc ++ [x] := by
      unfold put
      rw [hn]
      rfl
    rw [e, ofRows_asc xs (acc ++ [x]) (by simpa using h)]
    simp
theorem nums_asc : ∀ {xs : List Int}, xs.Pairwise (· < ·) → nums xs = xs := fun {xs} h => asc_same (asc_nums xs) h fun k => mem_nums k xs
theorem told_told (sec : List (Int × Sec)) : told (ofRows (told sec)) = told sec := by
  have h := told_nodup sec
  have e : ofRows (told sec) = told sec := by
    have := ofRows_asc (told sec) [] (by simpa using h)
    simpa [ofRows] using this
  rw [e]
  have nd : ((told sec).map (·.1)).Nodup := by
    rw [List.nodup_iff_pairwise_ne, List.pairwise_map]
    exact h.imp fun q => by omega
  show ((nums ((told sec).map (·.1))).map fun n => (n, (look (told sec) n).getD blank)).filter _ = _
  rw [nums_asc (by rw [List.pairwise_map]; exact h), List.map_map]
  have e2 : (told sec).map ((fun n => (n, (look (told sec) n).getD blank)) ∘ (·.1)) = told sec := by
    have : ∀ p ∈ told sec, ((fun n => (n, (look (told sec) n).getD blank)) ∘ (·.1)) p = p := fun p hp => by
      show (p.1, (look (told sec) p.1).getD blank) = p
      rw [look_of_mem nd hp]
      rfl
    rw [List.map_congr_left this]
    simp
  rw [e2]
  refine List.filter_eq_self.mpr fun p hp => ?_
  exact (List.mem_filter.mp hp).2
end K51

/-! K51D: the text by places; the class Disk. -/

namespace K51
open PySem PySem.Spec PyProof.Rows L2 Y
def top (i : Nat) : Stmt := PySem.Challenge.pw_stonestairs_k51_disks_torn_in_any_order.main.body.getD i (.Pass ⟨0, 0, 0, 0⟩)
abbrev rSec : Rp (Int × Sec) := rP rI (rL rI)
theorem mSec : Mn (rL rI) := mI.l
theorem mRow : Mn rSec := mI.p mI.l
def lv : Option Int → V
  | none => .non
  | some l => .int l
/-- the attributes -/
def df (s wl : Addr) (l : V) (rl : Addr) (c : Bool) : List (Str × V) := [("sectors", .ref s), ("waiting", .ref wl), ("left", l), ("rows", .ref rl), ("is_cut", .bl c)]
section
variable {s wl rl : Addr} {l : V} {c : Bool}
theorem df_sectors : (df s wl l rl c).lookup ("sectors" : Str) = some (.ref s) := lk_hit
theorem df_waiting : (df s wl l rl c).lookup ("waiting" : Str) = some (.ref wl) := (lk_miss (by decide +kernel)).trans lk_hit
theorem df_left : (df s wl l rl c).lookup ("left" : Str) = some l := (lk_miss (by decide +kernel)).trans ((lk_miss (by decide +kernel)).trans lk_hit)
theorem df_rows : (df s wl l rl c).lookup ("rows" : Str) = some (.ref rl) := (lk_miss (by decide +kernel)).trans ((lk_miss (by decide +kernel)).trans ((lk_miss (by decide +kernel)).trans lk_hit))
theorem df_cut : (df s wl l rl c).lookup ("is_cut" : Str) = some (.bl c) := (lk_miss (by decide +kernel)).trans ((lk_miss (by decide +kernel)).trans ((lk_miss (by decide +kernel)).trans ((lk_miss (by decide +kernel)).trans lk_hit)))
theorem df_no {m : Str} (h1 : (m == ("sectors" : Str)) = false) (h2 : (m == ("waiting" : Str)) = false) (h3 : (m == ("left" : Str)) = false) (h4 : (m == ("rows" : Str)) = false) (h5 : (m == ("is_cut" : Str)) = false) : (df s wl l rl c).lookup m = none :=
  (lk_miss h1).trans ((lk_miss h2).trans ((lk_miss h3).trans ((lk_miss h4).trans ((lk_miss h5).trans rfl))))
theorem df_pw (w' : Addr) : putF "waiting" (.ref w') (df s wl l rl c) = df s w' l rl c := (pf_miss (by decide +kernel)).trans (congrArg _ pf_hit)
theorem df_pl (l' : V) : putF "left" l' (df s wl l rl c) = df s wl l' rl c := (pf_miss (by decide +kernel)).trans (congrArg _ ((pf_miss (by decide +kernel)).trans (congrArg _ pf_hit)))
theorem df_pr (r' : Addr) : putF "rows" (.ref r') (df s wl l rl c) = df s wl l r' c := (pf_miss (by decide +kernel)).trans (congrArg _ ((pf_miss (by decide +kernel)).trans (congrArg _ ((pf_miss (by decide +kernel)).trans (congrArg _ pf_hit)))))
theorem df_pc (c' : Bool) : putF "is_cut" (.bl c') (df s wl l rl c) = df s wl l rl c' := (pf_miss (by decide +kernel)).trans (congrArg _ ((pf_miss (by decide +kernel)).trans (congrArg _ ((pf_miss (by decide +kernel)).trans (congrArg _ ((pf_miss (by decide +kernel)).trans (congrArg _ pf_hit)))))))
end
/-- a Disk stands at p: its dict at s, its list at wl are its own; all else is data -/
structure DiskAt (C : Addr) (G H : Hp) (p s wl : Addr) (d : DS) : Prop where
  ob : ∃ dx rl, H p = some (.ins C dx (df s wl (lv d.left) rl d.cut)) ∧ rL (rP rI rI) G (.ref rl) d.rows
  sec : ∃ kvs, H s = some (.dK kvs) ∧ DRel (rL rI) G kvs d.sec
  wai : ∃ ws, H wl = some (.lst ws) ∧ Paired (rSec G) ws d.wai
  gp : G p = none
  gs : G s = none
  gw : G wl = none
structure Fit (d : DS) : Prop where
  nd : (d.sec.map (·.1)).Nodup
  sz : d.sec.length + d.wai.length ≤ 60
  rz : d.rows.length ≤ 60
  ls : ∀ x ∈ d.sec, x.2.length = 16
  lw : ∀ x ∈ d.wai, x.2.length = 16
def DOwn (p s wl : Addr) : Addr → Prop := fun b => b = p ∨ b = s ∨ b = wl
section
variable {C : Addr} {G H G' H' : Hp} {p s wl : Addr} {d : DS}
theorem DiskAt.ps (h : DiskAt C G H p s wl d) : p ≠ s := by
  obtain ⟨dx, rl, h1, _⟩ := h.ob
  obtain ⟨kvs, h2, _⟩ := h.sec
  exact ne_of h1 h2 (fun e => nomatch e)
theorem DiskAt.pw (h : DiskAt C G H p s wl d) : p ≠ wl := by
  obtain ⟨dx, rl, h1, _⟩ := h.ob
  obtain ⟨kvs, h2, _⟩ := h.wai
  exact ne_of h1 h2 (fun e => nomatch e)
theorem DiskAt.sw (h : DiskAt C G H p s wl d) : s ≠ wl := by
  obtain ⟨kvs, h1, _⟩ := h.sec
  obtain ⟨ws, h2, _⟩ := h.wai
  exact ne_of h1 h2 (fun e => nomatch e)
theorem DiskAt.stp {O : Addr → Prop} (h : DiskAt C G H p s wl d) (e : Stp O G H G' H') (n : ∀ b, DOwn p s wl b → ¬ O b) : DiskAt C G' H' p s wl d := by
  obtain ⟨dx, rl, h1, r1⟩ := h.ob
  obtain ⟨kvs, h2, r2⟩ := h.sec
  obtain ⟨ws, h3, r3⟩ := h.wai
  exact ⟨⟨dx, rl, e.kp _ _ h1 (n p (.inl rfl)), (mI.p mI).l _ _ _ _ e.gg r1⟩, ⟨kvs, e.kp _ _ h2 (n s (.inr (.inl rfl))), r2.mono mSec e.gg⟩, ⟨ws, e.kp _ _ h3 (n wl (.inr (.inr rfl))), mRow.ps e.gg r3⟩,
    e.nw p (ne_none h1) h.gp, e.nw s (ne_none h2) h.gs, e.nw wl (ne_none h3) h.gw⟩
end

/-- the text's facts -/
structure Txt (K : PySem.W.Frag) (mg : Str → Option Value) (C : Addr) (tS : Tok) : Prop where
  cl : Cls K C
  n1 : NoAttr K C "sectors"
  n2 : NoAttr K C "waiting"
  n3 : NoAttr K C "left"
  n4 : NoAttr K C "rows"
  n5 : NoAttr K C "is_cut"
  c_SECTOR : mg "SECTOR" = some (.int 16 tS)
  b_list : mg "list" = none
  b_len : mg "len" = none
  b_min : mg "min" = none
  b_max : mg "max" = none
  b_sorted : mg "sorted" = none
  b_set : mg "set" = none
  b_zip : mg "zip" = none
  b_range : mg "range" = none
  b_abs : mg "abs" = none
  b_int : mg "int" = none
  b_dict : mg "dict" = none

/-! ### promises -/
def spWhole (C : Addr) : Sp := fun vs H Q _ => ∃ (G : Hp) (p s wl : Addr) (d : DS) (n : Int), vs = [.ref p, .int n] ∧ Same G H ∧ DiskAt C G H p s wl d ∧
  ∀ q G' H', Stp O0 G H G' H' → H q = none → G' q = none → H' q = some (rowI (d.whole n)) → Q (.ref q) H'
def spRead (C : Addr) : Sp := fun vs H Q _ => ∃ (G : Hp) (p s wl : Addr) (d : DS) (n : Int), vs = [.ref p, .int n] ∧ Same G H ∧ DiskAt C G H p s wl d ∧
  ∀ q G' H', Stp O0 G H G' H' → H q = none → G' q = none → H' q = some (rowI (d.read n)) → Q (.ref q) H'
section
variable {P : Program} {w : World} {K : PySem.W.Frag} {mg : Str → Option Value} {base : Heap} {C : Addr} {tS : Tok}
abbrev s_Disk_whole : Stmt := inClass (top 2) 1
theorem sc_Disk_whole : FnScope ["self", "number"] ["self", "number"] (defScope s_Disk_whole) := ⟨rfl, rfl, rfl, by decide +kernel, rfl, by decide +kernel, by decide +kernel⟩
theorem ok_whole {f : Addr} {fd : FuncData} (F : Fun K "whole" "Disk.whole" s_Disk_whole f fd) (T : Txt K mg C tS) : FnOk P w K mg base CX0 1 f fd ["self", "number"] (spWhole C) := by
  refine F.ok sc_Disk_whole (fun vs H Q E h => ?_) (fun cdv A outer st H vs Q E hr h => ?_)
  · obtain ⟨G, p, s, wl, d, n, rfl, _⟩ := h
    rfl
  · obtain ⟨G, p, s, wl, d, n, rfl, gh, D, k⟩ := h
    have nd := sc_Disk_whole.nd
    have hu := hu_of hr
    refine ⟨_, (pss_one (ps_ret (pe_callTy call_list_of (by rfl) T.b_list (by decide +kernel) (pa_cons (pe_dget2 hu (pe_fld (pv 0) rfl) (pv 1) (pe_op op_rep (pe_lst (pa_cons pe_int pa_nil)) (pe_glob (v := .int 16) rfl T.c_SECTOR ⟨_, rfl⟩)) ⟨rfl, rfl, rfl, rfl⟩) pa_nil)))), ?_⟩
    obtain ⟨dx, rl, h1, r1⟩ := D.ob
    obtain ⟨kvs, h2, r2⟩ := D.sec
    refine ⟨_, rfl, p, C, dx, _, _, rfl, h1, T.cl, T.n1, df_sectors, s, rfl, .inl ⟨kvs, .inl h2⟩, _, rfl, (by show 1 ≤ sizeLine; decide), fun q0 n0 => ?_⟩
    refine ⟨q0, 16, _, rfl, rfl, upd_same, by decide, by decide, (by show 1 * 16 ≤ sizeLine; decide), fun q1 n1 => ?_⟩
    generalize e0 : upd H q0 _ = H1 at n1 ⊢
    obtain ⟨s1, _, _, _, _⟩ := own_of (Stp.refl (O := O0) gh) n0 e0
    generalize e1 : upd H1 q1 _ = H2
    obtain ⟨s2, f2, _, _, _⟩ := own_of s1 n1 e1
    have h2' := s2.kp s _ h2 (fun z => z)
    cases e : look d.sec n with
    | none =>
      refine ⟨none, ?_, q1, _, rfl, .inl (SqL.of f2), fun l nl => ?_⟩
      · have := DGet.k (k := Sum.inl n) h2'
        rw [r2.look_none e] at this
        exact this
      · refine k l G _ (s2.own nl) (s2.fr nl) (gn_of s2.gh nl) ?_
        unfold DS.whole
        rw [e]
        exact upd_same
    | some x =>
      obtain ⟨v, hv, hx⟩ := r2.look_some e
      obtain ⟨a, rfl, ha⟩ := rLI hx
      refine ⟨some (.ref a), ?_, a, _, rfl, .inl (SqL.of (s2.kp a _ (gh _ _ ha) fun z => z)), fun l nl => ?_⟩
      · have := DGet.k (k := Sum.inl n) h2'
        rw [hv] at this
        exact this
      · refine k l G _ (s2.own nl) (s2.fr nl) (gn_of s2.gh nl) ?_
        unfold DS.whole
        rw [e]
        exact upd_same
end
end K51

/-! K51E: read, cut_in, crash. -/
namespace K51
open PySem PySem.Spec PyProof.Rows L2 Y
theorem lastOf_more {wai : List (Int × Sec)} {i : Nat} {x : Int × Sec} (h : wai[i]? = some x) (n : Int) (z : Sec) : lastOf (wai.take (i + 1)) n z = if x.1 = n then x.2 else lastOf (wai.take i) n z := by
  unfold lastOf
  rw [List.take_add_one, h, List.foldl_append]
  rfl
section
variable {P : Program} {w : World} {K : PySem.W.Frag} {mg : Str → Option Value} {base : Heap} {C : Addr} {tS : Tok}
abbrev s_Disk_read : Stmt := inClass (top 2) 2
theorem sc_Disk_read : FnScope ["self", "number", "found", "at", "content"] ["self", "number"] (defScope s_Disk_read) := ⟨rfl, rfl, rfl, by decide +kernel, rfl, by decide +kernel, by decide +kernel⟩
theorem ok_read {f : Addr} {fd : FuncData} (F : Fun K "read" "Disk.read" s_Disk_read f fd) (T : Txt K mg C tS) (LW : MtC P w K mg base C "whole" 1 ["self", "number"] (spWhole C)) : FnOk P w K mg base CX0 2 f fd ["self", "number"] (spRead C) := by
  refine F.ok sc_Disk_read (fun vs H Q E h => ?_) (fun cdv A outer st H vs Q E hr h => ?_)
  · obtain ⟨G, p, s, wl, d, n, rfl, _⟩ := h
    rfl
  · obtain ⟨G, p, s, wl, d, n, rfl, gh, D, k⟩ := h
    have nd := sc_Disk_read.nd
    refine ⟨_, (pss_cons (ps_set (i := 2) nd rfl (Or.inl rfl) (pe_mtc (pv 0) LW (hr.mono (by decide)) (pa_cons (pv 1) pa_nil)))
    (pss_cons (ps_for PassesOwn.never rfl (pi_list (pe_fld (pv 0) rfl)) (pg_tup rfl (pgs_cons (pg_name (i := 3) nd rfl (Or.inl rfl)) (pgs_cons (pg_name (i := 4) nd rfl (Or.inl rfl)) pgs_nil)))
    (pss_one (ps_if (pt_cmpR op_eq (pv 3) (pv 1) (nomark _))
    (pss_one (ps_set (i := 2) nd rfl (Or.inl rfl) (pe_callTy call_list_of (by rfl) T.b_list (by decide +kernel) (pa_cons (pv 4) pa_nil))))
    pss_nil)))
    (pss_one (ps_ret (pv 2))))), ?_⟩
    obtain ⟨dx, rl, h1, _⟩ := id D.ob
    obtain ⟨ws, h3, r3⟩ := id D.wai
    refine ⟨_, rfl, p, dx, _, rfl, h1, df_no (by decide +kernel) (by decide +kernel) (by decide +kernel) (by decide +kernel) (by decide +kernel), _, rfl, G, p, s, wl, d, n, rfl, gh, D, fun a G1 H1 s1 na ga fa => ?_⟩
    have h1' := s1.kp p _ h1 fun z => z
    have h3' := s1.kp wl _ h3 fun z => z
    refine ⟨_, rfl, p, C, dx, _, _, rfl, h1', T.cl, T.n2, df_waiting, wl, rfl, ⟨_, SqL.of h3'⟩, for_list (K := K) (a := wl) (xs := ws)
      (fun i σ H2 => ∃ a v3 v4 G2, σ = [some (.ref p), some (.int n), some (.ref a), v3, v4] ∧ Stp O0 G H G2 H2 ∧ H a = none ∧ G2 a = none ∧ H2 a = some (rowI (lastOf (d.wai.take i) n (d.whole n))))
      ⟨a, _, _, G1, rfl, s1, na, ga, fa⟩ (fun i σ H2 _ ⟨_, _, _, _, _, s2, _⟩ => SqL.of (s2.kp wl _ h3 fun z => z)) ?_ ?_⟩
    · rintro i y σ H2 hi ⟨a, v3, v4, G2, rfl, s2, na, ga, fa⟩
      obtain ⟨x, hx, t, u, c0, rfl, ht, hu, hc⟩ := pd_get r3 hi
      cases hu
      obtain ⟨c, rfl, hcc⟩ := rLI hc
      have hh := fun b o (e : G b = some o) => s2.kp b o (gh b o e) fun z => z
      refine g_pair (hh _ _ ht) ⟨_, rfl, _, rfl, rfl, _, rfl, if_int (fun e => ?_) (fun e => ?_)⟩
      · refine ⟨_, rfl, c, _, rfl, .inl (SqL.of (hh _ _ hcc)), fun l nl => ?_⟩
        generalize e0 : upd H2 l _ = H3
        obtain ⟨s3, f3, _, g3, z3⟩ := own_of s2 nl e0
        refine ⟨l, _, _, G2, rfl, s3, z3, g3, ?_⟩
        rw [lastOf_more hx, if_pos e]
        exact f3
      · refine ⟨a, _, _, G2, rfl, s2, na, ga, ?_⟩
        rw [lastOf_more hx, if_neg e]
        exact fa
    · rintro σ H2 ⟨a, v3, v4, G2, rfl, s2, na, ga, fa⟩
      rw [pd_len r3, List.take_of_length_le (Nat.le_refl _)] at fa
      exact ⟨_, rfl, k a G2 H2 s2 na ga fa⟩
abbrev s_Disk_cut_in : Stmt := inClass (top 2) 3
theorem sc_Disk_cut_in : FnScope ["self", "many", "rows"] ["self", "many", "rows"] (defScope s_Disk_cut_in) := ⟨rfl, rfl, rfl, by decide +kernel, rfl, by decide +kernel, by decide +kernel⟩
def DS.cutIn (d : DS) (m : Int) (rows : List (Int × Int)) : DS := if d.cut = true then d else { d with left := some m, rows := rows }
def spCutIn (C : Addr) : Sp := fun vs H Q _ => ∃ (G : Hp) (p s wl : Addr) (d : DS) (m : Int) (a : Addr) (rows : List (Int × Int)), vs = [.ref p, .int m, .ref a] ∧ Same G H ∧ DiskAt C G H p s wl d ∧ LstAt (rP rI rI) G H a rows ∧
  ∀ G' H', Stp (DOwn p s wl) G H G' H' → DiskAt C G' H' p s wl (d.cutIn m rows) → Q .non H'
theorem ok_cut_in {f : Addr} {fd : FuncData} (F : Fun K "cut_in" "Disk.cut_in" s_Disk_cut_in f fd) (T : Txt K mg C tS) : FnOk P w K mg base CX0 1 f fd ["self", "many", "rows"] (spCutIn C) := by
  refine F.ok sc_Disk_cut_in (fun vs H Q E h => ?_) (fun cdv A outer st H vs Q E hr h => ?_)
  · obtain ⟨G, p, s, wl, d, m, a, rows, rfl, _⟩ := h
    rfl
  · obtain ⟨G, p, s, wl, d, m, a, rows, rfl, gh, D, hrows, k⟩ := h
    have nd := sc_Disk_cut_in.nd
    refine ⟨_, (pss_one (ps_if (pt_not (pt_val (pe_fld (pv 0) rfl)))
    (pss_cons (ps_fld (pv 0) (pv 1) rfl)
    (pss_one (ps_fld (pv 0) (pe_callTy call_list_of (by rfl) T.b_list (by decide +kernel) (pa_cons (pv 2) pa_nil)) rfl)))
    pss_nil)), ?_⟩
    obtain ⟨dx, rl, h1, r1⟩ := id D.ob
    obtain ⟨kvs, h2, r2⟩ := id D.sec
    obtain ⟨ws, h3, r3⟩ := id D.wai
    obtain ⟨rvs, h4, r4⟩ := hrows
    refine ⟨_, rfl, p, C, dx, _, _, rfl, h1, T.cl, T.n5, df_cut, _, rfl, if_nbool (fun e => ?_) (fun e => ?_)⟩
    · refine ⟨_, rfl, _, rfl, p, C, dx, _, rfl, h1, T.cl, T.n3, (by show 5 < 1000; decide), ?_⟩
      rw [df_pl]
      generalize e1 : upd H p _ = H1
      obtain ⟨s1, f1, k1⟩ := wr_of (Stp.refl (O := DOwn p s wl) gh) h1 D.gp (.inl (.inl rfl)) e1
      have hpa : a ≠ p := (ne_of h1 h4 fun z => nomatch z).symm
      refine ⟨_, rfl, a, _, rfl, .inl (SqL.of (k1 a _ hpa h4)), fun l nl => ?_⟩
      generalize e2 : upd H1 l _ = H2
      obtain ⟨G2, s2, g2, gg2, k2, gk2⟩ := data_of s1 nl e2
      refine ⟨_, rfl, p, C, dx, _, rfl, k2 _ _ f1, T.cl, T.n4, (by show 5 < 1000; decide), ?_⟩
      rw [df_pr]
      have npl : p ≠ l := ne_of_none f1 nl
      have nsl : s ≠ l := ne_of_none (k1 s _ D.ps.symm h2) nl
      have nwl : wl ≠ l := ne_of_none (k1 wl _ D.pw.symm h3) nl
      have gp2 : G2 p = none := by rw [gk2 p npl]; exact D.gp
      generalize e3 : upd H2 p _ = H3
      obtain ⟨s3, f3, k3⟩ := wr_of s2 (k2 _ _ f1) gp2 (.inl (.inl rfl)) e3
      have ed : d.cutIn m rows = { d with left := some m, rows := rows } := by
        unfold DS.cutIn
        rw [e]
        rfl
      refine k G2 H3 s3 ?_
      rw [ed]
      exact ⟨⟨dx, l, f3, l, _, rfl, g2, (mI.p mI).ps gg2 r4⟩, ⟨kvs, k3 _ _ D.ps.symm (k2 _ _ (k1 _ _ D.ps.symm h2)), r2.mono mSec gg2⟩, ⟨ws, k3 _ _ D.pw.symm (k2 _ _ (k1 _ _ D.pw.symm h3)), mRow.ps gg2 r3⟩,
        gp2, by rw [gk2 s nsl]; exact D.gs, by rw [gk2 wl nwl]; exact D.gw⟩
    · have ed : d.cutIn m rows = d := by
        unfold DS.cutIn
        rw [e]
        rfl
      refine k G H (Stp.refl gh) ?_
      rw [ed]
      exact D
end
end K51

/-! K51F: crash. -/
namespace K51
open PySem PySem.Spec PyProof.Rows L2 Y
theorem clip_eq (z : Int) : (if (if z > 0 then z else 0) < 16 then (if z > 0 then z else 0) else 16) = ((clip z : Nat) : Int) := by
  unfold clip
  simp only [Int.min_def, Int.max_def]
  by_cases h : z > 0
  · rw [if_pos h]
    by_cases h2 : z < 16
    · rw [if_pos h2, if_pos (by omega : (0 : Int) ≤ z), if_neg (by omega)]
      omega
    · rw [if_neg h2, if_pos (by omega : (0 : Int) ≤ z)]
      split <;> omega
  · rw [if_neg h, if_pos (by omega)]
    split <;> split <;> omega
theorem ofN_more {wai : List (Int × Sec)} {i : Nat} {x : Int × Sec} (h : wai[i]? = some x) (n : Int) : ofN (wai.take (i + 1)) n = if x.1 = n then ofN (wai.take i) n ++ [x.2] else ofN (wai.take i) n := by
  unfold ofN
  rw [List.take_add_one, h, List.filter_append, List.map_append]
  by_cases e : x.1 = n
  · rw [if_pos e]
    simp [e]
  · rw [if_neg e]
    simp [e]
theorem torn_nd {wai sec : List (Int × Sec)} {r : (Int × Int) × Int} (h : (sec.map (·.1)).Nodup) : ((torn wai sec r).map (·.1)).Nodup := by
  unfold torn
  split
  · exact put_nodup _ _ _ h
  · exact h
theorem torn_len (wai sec : List (Int × Sec)) (r : (Int × Int) × Int) : (torn wai sec r).length ≤ sec.length + 1 := by
  unfold torn
  split
  · exact put_len _ _ _
  · omega
theorem clip_le (z : Int) : clip z ≤ 16 := by
  unfold clip
  simp only [Int.min_def, Int.max_def]
  split <;> split <;> omega
theorem ofN_len {wai : List (Int × Sec)} (h : ∀ x ∈ wai, x.2.length = 16) {n : Int} : ∀ y ∈ ofN wai n, y.length = 16 := fun y hy => by
  obtain ⟨x, hx, e⟩ := List.mem_map.mp hy
  rw [← e]
  exact h x (List.mem_filter.mp hx).1
theorem whole_len {d : DS} (h : ∀ x ∈ d.sec, x.2.length = 16) (n : Int) : (d.whole n).length = 16 := by
  unfold DS.whole
  cases e : look d.sec n with
  | none => rfl
  | some x => exact h _ (look_some_mem e)
def spCrash (C : Addr) : Sp := fun vs H Q _ => ∃ (G : Hp) (p s wl : Addr) (d : DS) (a : Addr) (rows : List (Int × Int)), vs = [.ref p, .ref a] ∧ Same G H ∧ DiskAt C G H p s wl d ∧ Fit d ∧ LstAt (rP rI rI) G H a rows ∧ a ≠ wl ∧
  ∀ w' G' H', Stp (DOwn p s wl) G H G' H' → DiskAt C G' H' p s w' (d.crash rows) → H w' = none → Q .non H'
section
variable {P : Program} {w : World} {K : PySem.W.Frag} {mg : Str → Option Value} {base : Heap} {C : Addr} {tS : Tok}
abbrev s_Disk_crash : Stmt := inClass (top 2) 7
theorem sc_Disk_crash : FnScope ["self", "rows", "numbers", "number", "content", "writes", "which", "size", "at"] ["self", "rows"] (defScope s_Disk_crash) := ⟨rfl, rfl, rfl, by decide +kernel, rfl, by decide +kernel, by decide +kernel⟩
/-- what stands behind i rows of a crash -/
structure CInv (C : Addr) (G H : Hp) (p s wl : Addr) (d : DS) (a N1 dx rl : Addr) (ws rvs : List V) (rows : List (Int × Int)) (ns : List Int) (i : Nat) (H5 : Hp) : Prop where
  ex : ∃ G5 kvs5, Stp (DOwn p s wl) G H G5 H5 ∧ H5 s = some (.dK kvs5) ∧ DRel (rL rI) G5 kvs5 (((rows.zip ns).take i).foldl (torn d.wai) d.sec) ∧ G5 N1 = none
  ob : H5 p = some (.ins C dx (df s wl (lv d.left) rl d.cut))
  wa : H5 wl = some (.lst ws)
  ro : H5 a = some (.lst rvs)
  nu : H5 N1 = some (rowI ns)
  nd : ((((rows.zip ns).take i).foldl (torn d.wai) d.sec).map (·.1)).Nodup
  le : (((rows.zip ns).take i).foldl (torn d.wai) d.sec).length ≤ d.sec.length + i
  l6 : ∀ x ∈ ((rows.zip ns).take i).foldl (torn d.wai) d.sec, x.2.length = 16
theorem ok_crash {f : Addr} {fd : FuncData} (F : Fun K "crash" "Disk.crash" s_Disk_crash f fd) (T : Txt K mg C tS) (L_Disk_whole : MtC P w K mg base C "whole" 1 ["self", "number"] (spWhole C)) : FnOk P w K mg base CX0 2 f fd ["self", "rows"] (spCrash C) := by
  refine F.ok sc_Disk_crash (fun vs H Q E h => ?_) (fun cdv A outer st H vs Q E hr h => ?_)
  · obtain ⟨G, p, s, wl, d, a, rows, rfl, _⟩ := h
    rfl
  · obtain ⟨G, p, s, wl, d, a, rows, rfl, gh, D, fit, hrows, aw, k⟩ := h
    have nd := sc_Disk_crash.nd
    have hu := hu_of hr
    refine ⟨_, (pss_cons (ps_set (i := 2) nd rfl (Or.inl rfl) (pe_callB (cr_sortedSetK (w := w) rfl rfl) (by rfl) T.b_sorted (by decide +kernel) (pa_cons (pe_callTy (cr_setIK (K := K) (w := w) rfl rfl rfl) (by rfl) T.b_set (by decide +kernel) (pa_cons (pe_lc (own := [("number", 3), ("content", 4)]) rfl nd (pi_listK (K := K) rfl (pe_fldK (K := K) rfl (pv 0) rfl)) (blkOk_by (own := [("number", 3), ("content", 4)]) (N := ["self", "rows", "numbers", "number", "content", "writes", "which", "size", "at"]) (sc := defScope s_Disk_crash) (by decide +kernel)) (fun _ _ _ _ _ => (pg_tupK (K := K) (n := 2) rfl rfl (pgs_cons (pg_name (i := 3) nd rfl (Or.inl rfl)) (pgs_cons (pg_name (i := 4) nd rfl (Or.inl rfl)) pgs_nil)))) (fun _ _ _ _ _ => pts_nil) (fun _ _ _ _ _ => (pv 3))) pa_nil)) pa_nil)))
    (pss_cons (ps_for PassesOwn.never rfl (pi_zip rfl T.b_zip (pa_cons (pv 1) (pa_cons (pv 2) pa_nil))) (pg_tupK (K := K) (n := 2) rfl rfl (pgs_cons (pg_tupK (K := K) (n := 2) rfl rfl (pgs_cons (pg_name (i := 6) nd rfl (Or.inl rfl)) (pgs_cons (pg_name (i := 7) nd rfl (Or.inl rfl)) pgs_nil))) (pgs_cons (pg_name (i := 3) nd rfl (Or.inr rfl)) pgs_nil)))
    (pss_cons (ps_setLc (i := 5) (own := [("at", 8), ("content", 4)]) rfl nd rfl rfl (sw_true rfl rfl rfl (by decide +kernel)) (pi_listK (K := K) rfl (pe_fldK (K := K) rfl (pv 0) rfl)) (blkOk_by (own := [("at", 8), ("content", 4)]) (N := ["self", "rows", "numbers", "number", "content", "writes", "which", "size", "at"]) (sc := defScope s_Disk_crash) (by decide +kernel)) (fun _ _ _ _ _ => (pg_tupK (K := K) (n := 2) rfl rfl (pgs_cons (pg_name (i := 8) nd rfl (Or.inl rfl)) (pgs_cons (pg_name (i := 4) nd rfl (Or.inl rfl)) pgs_nil)))) (fun _ _ _ _ _ => (pts_one (pt_cmpR op_eq (pv 8) (pv 3) (nomark _)))) (fun _ _ _ _ _ => (pv 4)))
    (pss_one (ps_if (pt_chain op_le op_lt pe_int (pv 6) (pe_callB (call_len_seqK (K := K) rfl) (by rfl) T.b_len (by decide +kernel) (pa_cons (pv 5) pa_nil)))
    (pss_cons (ps_set (i := 7) nd rfl (Or.inl rfl) (pe_callB (call_min2 rfl) (by rfl) T.b_min (by decide +kernel) (pa_cons (pe_glob (v := .int 16) rfl T.c_SECTOR ⟨_, rfl⟩) (pa_cons (pe_callB (call_max2 rfl) (by rfl) T.b_max (by decide +kernel) (pa_cons pe_int (pa_cons (pv 7) pa_nil))) pa_nil))))
    (pss_one (ps_dput hu (pe_fldK (K := K) rfl (pv 0) rfl) (pv 3) (pe_op op_cat (pe_slice (sl_listK (K := K) rfl) (pe_ix (ix_listK (K := K) rfl) (pv 5) (pv 6) (fun _ _ => rfl)) po_none (po_some (pv 7))) (pe_slice (sl_listK (K := K) rfl) (pe_mtc (pv 0) L_Disk_whole (hr.mono (by decide)) (pa_cons (pv 3) pa_nil)) (po_some (pv 7)) po_none)) rfl)))
    pss_nil))))
    (pss_one (ps_fldK (K := K) rfl (pv 0) (pe_lst pa_nil) rfl)))), ?_⟩
    obtain ⟨dx, rl, h1, r1⟩ := id D.ob
    obtain ⟨kvs, h2, r2⟩ := id D.sec
    obtain ⟨ws, h3, r3⟩ := id D.wai
    obtain ⟨rvs, h4, r4⟩ := hrows
    have hap : a ≠ p := (ne_of h1 h4 fun z => nomatch z).symm
    have has : a ≠ s := (ne_of h2 h4 fun z => nomatch z).symm
    have s0 : Stp (DOwn p s wl) G H G H := Stp.refl gh
    -- the numbers of what waits
    refine ⟨_, rfl, p, C, dx, _, _, rfl, h1, T.cl, T.n2, df_waiting, wl, rfl, ⟨_, SqL.of h3⟩, fun L1 nL1 => ?_⟩
    obtain ⟨s1, f1, k1, g1, z1⟩ := own_of (o := .lst []) s0 nL1 rfl
    refine lc_list (K := K) (a := wl) (xs := ws) (fun i H2 => Stp (DOwn p s wl) G H G H2 ∧ Same H H2 ∧ H2 L1 = some (.lst (((d.wai.take i).map (·.1)).map V.int))) ?_ (fun i H2 _ ⟨_, q, _⟩ => SqL.of (q _ _ h3)) ?_ ?_
    · exact ⟨s1, k1, f1⟩
    · rintro i y H2 hi ⟨s2, k2, f2⟩
      obtain ⟨x, hx, t, u, c0, rfl, ht, hu', hc⟩ := pd_get r3 hi
      cases hu'
      refine g_pair (k2 _ _ (gh _ _ ht)) ⟨rfl, g_yes ⟨_, rfl, _, f2, ?_, ?_⟩⟩
      · have := fit.sz
        rw [List.length_map, List.length_map, List.length_take, sizeLine_eq]
        omega
      · generalize e2 : upd H2 L1 _ = H3
        obtain ⟨s3, f3, k3⟩ := wr_of s2 f2 g1 (.inr z1) e2
        refine ⟨s3, fun b o q => ?_, ?_⟩
        · exact k3 b o (fresh_ne (ne_none q) z1) (k2 b o q)
        · rw [f3, List.take_add_one, hx]
          simp
    · rintro H2 ⟨s2, k2, f2⟩
      rw [pd_len r3, List.take_of_length_le (Nat.le_refl _)] at f2
      refine ⟨L1, _, rfl, SqL.of f2, ?_, fun S1 c nS1 hc => ?_⟩
      · have := fit.sz
        rw [List.length_map]
        omega
      generalize e3 : upd H2 S1 _ = H3
      obtain ⟨s3, f3, k3, g3, z3⟩ := own_of s2 nS1 e3
      refine ⟨S1, _, c, rfl, f3, ?_, fun ns N1 asc hmem hlen nN1 => ?_⟩
      · have := fit.sz
        rw [List.length_map] at hc
        omega
      have ens : ns = nums (d.wai.map (·.1)) := asc_same asc (asc_nums _) fun q => by
        rw [hmem q, mem_nums]
        exact decide_eq_true_iff
      generalize e4 : upd H3 N1 _ = H4
      obtain ⟨s4, f4, k4, g4, z4⟩ := own_of s3 nN1 e4
      have k04 : Same H H4 := (k2.trans k3).trans k4
      have nsl : ns.length ≤ d.wai.length := by rw [ens]; exact Nat.le_trans (le_nums_len _) (by rw [List.length_map]; exact Nat.le_refl _)
      -- row by row
      refine ⟨_, rfl, _, rfl, a, N1, _, _, rfl, SqL.of (k04 _ _ h4), SqL.of f4, for_zipM (K := K) (a := a) (b := N1) (xs := rvs) (ys := ns.map V.int)
        (fun i σ H5 => (∃ x3 x4 x5 x6 x7 x8, σ = [some (.ref p), some (.ref a), some (.ref N1), x3, x4, x5, x6, x7, x8]) ∧ CInv C G H p s wl d a N1 dx rl ws rvs rows ns i H5)
        ⟨⟨_, _, _, _, _, _, rfl⟩, ⟨G, kvs, s4, k04 _ _ h2, r2, g4⟩, k04 _ _ h1, k04 _ _ h3, k04 _ _ h4, f4, fit.nd, Nat.le_refl _, fit.ls⟩ (fun i σ H5 ⟨_, q⟩ => ⟨SqL.of q.ro, SqL.of q.nu⟩) ?_ ?_⟩
      · rintro i xv yv T0 σ H5 hxi hyi ⟨⟨x3, x4, x5, x6, x7, x8, rfl⟩, I5⟩ nT
        obtain ⟨⟨G5, kvs5, s5, p2, p7, p6⟩, p1, p3, p4, p5, p8, p9, p10⟩ := I5
        obtain ⟨⟨wh, sz⟩, hrow, t0, u0, v0, rfl, ht0, hu0, hv0⟩ := pd_get r4 hxi
        cases hu0
        cases hv0
        obtain ⟨n, hn, rfl⟩ : ∃ n, ns[i]? = some n ∧ yv = V.int n := by
          rw [List.getElem?_map] at hyi
          cases e : ns[i]? with
          | none => rw [e] at hyi; cases hyi
          | some z => rw [e] at hyi; exact ⟨z, rfl, (Option.some.inj hyi).symm⟩
        have hz : (rows.zip ns)[i]? = some ((wh, sz), n) := by
          rw [List.getElem?_zip_eq_some]
          exact ⟨hrow, hn⟩
        have hfold : ((rows.zip ns).take (i + 1)).foldl (torn d.wai) d.sec = torn d.wai (((rows.zip ns).take i).foldl (torn d.wai) d.sec) ((wh, sz), n) := by
          rw [List.take_add_one, hz, List.foldl_append]
          rfl
        have hil : i < ns.length := (List.getElem?_eq_some_iff.mp hn).1
        generalize hsec : ((rows.zip ns).take i).foldl (torn d.wai) d.sec = sec at p7 p8 p9 p10 hfold
        generalize e6 : upd H5 T0 _ = H6
        obtain ⟨s6, f6, k6, g6, z6⟩ := own_of s5 nT e6
        refine g_pair f6 (g_pair (k6 _ _ (s5.gh _ _ (s5.gg _ _ ht0))) ?_)
        refine ⟨_, rfl, p, C, dx, _, _, rfl, k6 _ _ p1, T.cl, T.n2, df_waiting, wl, rfl, ⟨_, SqL.of (k6 _ _ p3)⟩, fun Lw nLw => ?_⟩
        obtain ⟨s7, f7, k7, g7, z7⟩ := own_of (o := .lst []) s6 nLw rfl
        have k57 := k6.trans k7
        refine lc_list (K := K) (a := wl) (xs := ws) (fun j H8 => Stp (DOwn p s wl) G H G5 H8 ∧ Same H5 H8 ∧ ∃ acc, H8 Lw = some (.lst acc) ∧ Paired (rL rI G5) acc (ofN (d.wai.take j) n) ∧ acc.length ≤ j) ?_ (fun j H8 _ ⟨_, q, _⟩ => SqL.of (q _ _ p3)) ?_ ?_
        · exact ⟨s7, k57, [], f7, .nil, Nat.le_refl _⟩
        · rintro j y H8 hj ⟨s8, k8, acc, f8, r8, l8⟩
          obtain ⟨x, hx, t, u, c0, rfl, ht, hu', hc⟩ := pd_get r3 hj
          cases hu'
          have hjl : j < d.wai.length := (List.getElem?_eq_some_iff.mp hx).1
          refine g_pair (s8.gh _ _ (s5.gg _ _ ht)) ⟨rfl, _, rfl, _, rfl, rfl, _, rfl, if_int (fun e => ?_) (fun e => ?_)⟩
          · refine ⟨_, rfl, acc, f8, ?_, ?_⟩
            · have := fit.sz
              rw [sizeLine_eq]
              omega
            · generalize e9 : upd H8 Lw _ = H9
              obtain ⟨s9, f9, k9⟩ := wr_of s8 f8 g7 (.inr z7) e9
              refine ⟨s9, fun b o q => k9 b o (fresh_ne (ne_none (k6 _ _ q)) nLw) (k8 b o q), _, f9, ?_, by rw [List.length_append]; exact Nat.succ_le_succ l8⟩
              rw [ofN_more hx, if_pos e]
              exact pd_snoc r8 (mSec _ _ _ _ s5.gg hc)
          · refine ⟨s8, k8, acc, f8, ?_, Nat.le_succ_of_le l8⟩
            rw [ofN_more hx, if_neg e]
            exact r8
        · rintro H8 ⟨s8, k8, acc, f8, r8, l8⟩
          rw [pd_len r3, List.take_of_length_le (Nat.le_refl _)] at r8
          have el := pd_len r8
          have no_put : ¬ (0 ≤ wh ∧ wh < ((ofN d.wai n).length : Int)) → CInv C G H p s wl d a N1 dx rl ws rvs rows ns (i + 1) H8 := fun hno => by
            have ht : torn d.wai sec ((wh, sz), n) = sec := if_neg hno
            have e9 : ((rows.zip ns).take (i + 1)).foldl (torn d.wai) d.sec = sec := hfold.trans ht
            exact ⟨⟨G5, kvs5, s8, k8 _ _ p2, by rw [e9]; exact p7, p6⟩, k8 _ _ p1, k8 _ _ p3, k8 _ _ p4, k8 _ _ p5, by rw [e9]; exact p8, by rw [e9]; exact Nat.le_succ_of_le p9, by rw [e9]; exact p10⟩
          refine ⟨_, rfl, _, _, rfl, rfl, _, rfl, if_dec (fun b1 => ?_) (fun b1 => ⟨_, rfl, ⟨_, _, _, _, _, _, rfl⟩, no_put fun z => b1 z.1⟩)⟩
          refine ⟨_, rfl, Lw, _, rfl, .inl (SqL.of f8), _, _, rfl, rfl, _, rfl, if_dec (fun b2 => ?_) (fun b2 => ⟨⟨_, _, _, _, _, _, rfl⟩, no_put fun z => b2 (by rw [el]; exact z.2)⟩)⟩
          rw [el] at b2
          -- the size, and the sector
          refine ⟨_, rfl, _, _, rfl, _, _, rfl, ?_⟩
          rw [clip_eq]
          obtain ⟨j, ej⟩ : ∃ j : Nat, wh = (j : Int) := ⟨wh.toNat, by omega⟩
          have hjl : j < (ofN d.wai n).length := by omega
          have hj16 : (ofN d.wai n)[j].length = 16 := ofN_len fit.lw _ (List.getElem_mem hjl)
          have hw16 : (({ d with sec := sec } : DS).whole n).length = 16 := whole_len (d := { d with sec := sec }) p10 n
          obtain ⟨vj, hvj, rvj⟩ := pd_get' r8 (List.getElem?_eq_getElem hjl)
          obtain ⟨cj, rfl, hcj⟩ := rLI rvj
          refine ⟨_, rfl, _, rfl, Lw, _, _, _, rfl, rfl, SqL.of f8, at_of (j := j) ej hvj, _, rfl, _, rfl, cj, _, rfl, SqL.of (s8.gh _ _ hcj), fun A1 nA1 => ?_⟩
          rw [cut_to]
          generalize e9 : upd H8 A1 _ = H9
          obtain ⟨s9, f9, k9, g9, z9⟩ := own_of s8 nA1 e9
          have D9 : DiskAt C G5 H9 p s wl { d with sec := sec } := ⟨⟨dx, rl, k9 _ _ (k8 _ _ p1), (mI.p mI).l _ _ _ _ s5.gg r1⟩, ⟨kvs5, k9 _ _ (k8 _ _ p2), p7⟩, ⟨ws, k9 _ _ (k8 _ _ p3), mRow.ps s5.gg r3⟩,
            s9.nw p (ne_none h1) D.gp, s9.nw s (ne_none h2) D.gs, s9.nw wl (ne_none h3) D.gw⟩
          refine ⟨_, rfl, p, dx, _, rfl, k9 _ _ (k8 _ _ p1), df_no (by decide +kernel) (by decide +kernel) (by decide +kernel) (by decide +kernel) (by decide +kernel), _, rfl, G5, p, s, wl, { d with sec := sec }, n, rfl, s9.gh, D9, fun B1 G10 H10 s10 nB1 gB1 fB1 => ?_⟩
          have s10' : Stp (DOwn p s wl) G H G10 H10 := s9.trans s10 fun _ z => z.elim
          refine ⟨_, rfl, _, rfl, B1, _, rfl, SqL.of fB1, fun A2 nA2 => ?_⟩
          rw [cut_from]
          generalize e11 : upd H10 A2 _ = H11
          obtain ⟨s11, f11, k11, g11, z11⟩ := own_of s10' nA2 e11
          have fA1 : H11 A1 = some _ := k11 _ _ (s10.kp _ _ f9 fun z => z)
          refine ⟨A1, A2, _, _, rfl, rfl, fA1, f11, ?_, fun A3 nA3 => ?_⟩
          · have q1 := hj16
            have q2 := hw16
            rw [List.length_take, List.length_drop, List.length_map, List.length_map, sizeLine_eq]
            omega
          generalize e12 : upd H11 A3 _ = H12
          obtain ⟨G12, s12, f12, gg12, k12, gk12⟩ := data_of s11 nA3 e12
          have keep' : Same H5 H11 := fun b o q => k11 _ _ (s10.kp _ _ (k9 _ _ (k8 _ _ q)) fun z => z)
          have keep : Same H5 H12 := fun b o q => k12 _ _ (k11 _ _ (s10.kp _ _ (k9 _ _ (k8 _ _ q)) fun z => z))
          refine ⟨_, rfl, p, C, dx, _, _, rfl, keep _ _ p1, T.cl, T.n1, df_sectors, _, rfl, s, _, rfl, DPut.k (k := Sum.inl n) (keep _ _ p2) ?_, ?_⟩
          · have := fit.sz
            have := pd_len p7
            rw [sizeLine_eq]
            omega
          · generalize e13 : upd H12 s _ = H13
            have A3s : A3 ≠ s := (ne_of_none (keep' _ _ p2) nA3).symm
            have N1A : N1 ≠ A3 := ne_of_none (keep' _ _ p5) nA3
            have gs12 : G12 s = none := by rw [gk12 s A3s.symm]; exact s11.nw s (ne_none h2) D.gs
            obtain ⟨s13, f13, k13⟩ := wr_of s12 (keep _ _ p2) gs12 (.inl (.inr (.inl rfl))) e13
            have ht : torn d.wai sec ((wh, sz), n) = put sec n ((ofN d.wai n)[j].take (clip sz) ++ (({ d with sec := sec } : DS).whole n).drop (clip sz)) := by
              unfold torn
              rw [if_pos ⟨b1, b2⟩]
              show put sec n (((ofN d.wai n).getD wh.toNat []).take (clip sz) ++ _) = _
              rw [ej, Int.toNat_natCast, List.getD_eq_getElem?_getD, List.getElem?_eq_getElem hjl]
              rfl
            have hl16 : ((ofN d.wai n)[j].take (clip sz) ++ (({ d with sec := sec } : DS).whole n).drop (clip sz)).length = 16 := by
              have q3 := clip_le sz
              rw [List.length_append, List.length_take, List.length_drop, hj16, hw16]
              omega
            have hval : rL rI G12 (.ref A3) ((ofN d.wai n)[j].take (clip sz) ++ (({ d with sec := sec } : DS).whole n).drop (clip sz)) := by
              refine rLI_of ?_
              rw [f12, List.map_append, List.map_take, List.map_drop]
            have hp := (p7.mono mSec (s10.gg.trans gg12)).put (k := n) hval
            refine ⟨⟨_, _, _, _, _, _, rfl⟩, ⟨G12, _, s13, f13, ?_, ?_⟩, k13 _ _ D.ps (keep _ _ p1), k13 _ _ D.sw.symm (keep _ _ p3), k13 _ _ has (keep _ _ p4), k13 _ _ (ne_of p5 p2 fun z => nomatch z) (keep _ _ p5), ?_, ?_, ?_⟩
            · rw [hfold, ht]
              exact hp
            · rw [gk12 N1 N1A]
              exact s10.nw N1 (ne_none (k9 _ _ (k8 _ _ p5))) p6
            · rw [hfold, ht]
              exact put_nodup _ _ _ p8
            · rw [hfold, ht]
              exact Nat.le_trans (put_len _ _ _) (Nat.succ_le_succ p9)
            · rw [hfold, ht]
              intro x hx
              rcases put_mem hx with e | e
              · rw [e]
                exact hl16
              · exact p10 x e
      · rintro σ H5 ⟨⟨x3, x4, x5, x6, x7, x8, rfl⟩, I5⟩
        obtain ⟨⟨G5, kvs5, s5, p2, p7, p6⟩, p1, p3, p4, p5, p8, p9, p10⟩ := I5
        have hn1 : rvs.length = rows.length := pd_len r4
        rw [hn1, List.length_map, List.take_of_length_le (by rw [List.length_zip]; exact Nat.le_refl _)] at p7
        refine ⟨(by show 0 ≤ sizeLine; decide), fun W1 nW1 => ?_⟩
        generalize e6 : upd H5 W1 _ = H6
        obtain ⟨s6, f6, k6, g6, z6⟩ := own_of s5 nW1 e6
        refine ⟨_, rfl, p, C, dx, _, rfl, k6 _ _ p1, T.cl, T.n2, (by show 5 < 1000; decide), ?_⟩
        rw [df_pw]
        generalize e7 : upd H6 p _ = H7
        have gp5 : G5 p = none := s6.nw p (ne_none h1) D.gp
        obtain ⟨s7, f7, k7⟩ := wr_of s6 (k6 _ _ p1) gp5 (.inl (.inl rfl)) e7
        refine k W1 G5 H7 s7 ⟨⟨dx, rl, f7, (mI.p mI).l _ _ _ _ s7.gg r1⟩, ⟨kvs5, k7 _ _ D.ps.symm (k6 _ _ p2), ?_⟩, ⟨[], k7 _ _ (ne_of_none p1 nW1).symm f6, .nil⟩, gp5, s7.nw s (ne_none h2) D.gs, g6⟩ z6
        show DRel (rL rI) G5 kvs5 (crashed d.sec d.wai rows)
        unfold crashed
        rw [← ens]
        exact p7
end
end K51

/-! K51G: counts, write, sync, synced, __init__. -/
namespace K51
open PySem PySem.Spec PyProof.Rows L2 Y
/-! ### what fits stays fitting -/
theorem synS_nd : ∀ (wai sec : List (Int × Sec)), (sec.map (·.1)).Nodup → ((synS sec wai).map (·.1)).Nodup
  | [], sec, h => h
  | x :: r, sec, h => synS_nd r _ (put_nodup _ _ _ h)
theorem synS_len : ∀ (wai sec : List (Int × Sec)), (synS sec wai).length ≤ sec.length + wai.length
  | [], sec => Nat.le_refl _
  | x :: r, sec => by
    have h := synS_len r (put sec x.1 x.2)
    have q := put_len sec x.1 x.2
    show (synS (put sec x.1 x.2) r).length ≤ _
    rw [List.length_cons]
    omega
theorem synS_16 : ∀ (wai sec : List (Int × Sec)), (∀ x ∈ sec, x.2.length = 16) → (∀ x ∈ wai, x.2.length = 16) → ∀ x ∈ synS sec wai, x.2.length = 16
  | [], sec, h, _ => h
  | y :: r, sec, h, k => synS_16 r _ (fun x hx => by
      rcases put_mem hx with e | e
      · rw [e]
        exact k y List.mem_cons_self
      · exact h x e) fun x hx => k x (List.mem_cons_of_mem _ hx)
theorem foldl_torn {wai : List (Int × Sec)} (hw : ∀ x ∈ wai, x.2.length = 16) : ∀ (rs : List ((Int × Int) × Int)) (sec : List (Int × Sec)), (sec.map (·.1)).Nodup → (∀ x ∈ sec, x.2.length = 16) →
    ((rs.foldl (torn wai) sec).map (·.1)).Nodup ∧ (rs.foldl (torn wai) sec).length ≤ sec.length + rs.length ∧ ∀ x ∈ rs.foldl (torn wai) sec, x.2.length = 16
  | [], sec, h, k => ⟨h, Nat.le_refl _, k⟩
  | r :: rs, sec, h, k => by
    have k' : ∀ x ∈ torn wai sec r, x.2.length = 16 := by
      unfold torn
      split
      · rename_i hb
        intro x hx
        rcases put_mem hx with e | e
        · rw [e]
          obtain ⟨b1, b2⟩ := hb
          have hj : r.1.1.toNat < (ofN wai r.2).length := by omega
          have h1 := ofN_len hw _ (List.getElem_mem hj)
          have h2 := whole_len (d := ⟨sec, [], none, [], false⟩) k r.2
          have h3 := clip_le r.1.2
          show (((ofN wai r.2).getD r.1.1.toNat []).take (clip r.1.2) ++ (DS.whole ⟨sec, [], none, [], false⟩ r.2).drop (clip r.1.2)).length = 16
          rw [List.getD_eq_getElem?_getD, List.getElem?_eq_getElem hj, Option.getD_some, List.length_append, List.length_take, List.length_drop, h1, h2]
          omega
        · exact k x e
      · exact k
    obtain ⟨a, b, c⟩ := foldl_torn hw rs (torn wai sec r) (torn_nd h) k'
    have := torn_len wai sec r
    exact ⟨a, by rw [List.foldl_cons, List.length_cons]; omega, c⟩
theorem Fit.crash {d : DS} (h : Fit d) (rows : List (Int × Int)) : Fit (d.crash rows) := by
  obtain ⟨a, b, c⟩ := foldl_torn h.lw (rows.zip (nums (d.wai.map (·.1)))) d.sec h.nd h.ls
  have q := le_nums_len (d.wai.map (·.1))
  have s := h.sz
  refine ⟨a, ?_, h.rz, c, fun x hx => by cases hx⟩
  show (crashed d.sec d.wai rows).length + 0 ≤ 60
  rw [List.length_zip] at b
  rw [List.length_map] at q
  unfold crashed
  omega
theorem Fit.counts {d : DS} (h : Fit d) : Fit d.counts := by
  unfold DS.counts
  split
  · exact h
  · split
    · exact h
    · split
      · rename_i l _ _ _
        have q : Fit (({ d with left := some (l - 1) } : DS).crash d.rows) := Fit.crash (d := { d with left := some (l - 1) }) ⟨h.nd, h.sz, h.rz, h.ls, h.lw⟩ _
        exact ⟨q.nd, q.sz, q.rz, q.ls, q.lw⟩
      · exact ⟨h.nd, h.sz, h.rz, h.ls, h.lw⟩
section
variable {P : Program} {w : World} {K : PySem.W.Frag} {mg : Str → Option Value} {base : Heap} {C : Addr} {tS : Tok}
def spCounts (C : Addr) : Sp := fun vs H Q _ => ∃ (G : Hp) (p s wl : Addr) (d : DS), vs = [.ref p] ∧ Same G H ∧ DiskAt C G H p s wl d ∧ Fit d ∧
  ∀ w' G' H', Stp (DOwn p s wl) G H G' H' → DiskAt C G' H' p s w' d.counts → (w' = wl ∨ H w' = none) → Q (.bl (!d.counts.cut)) H'
abbrev s_Disk_counts : Stmt := inClass (top 2) 4
theorem sc_Disk_counts : FnScope ["self"] ["self"] (defScope s_Disk_counts) := ⟨rfl, rfl, rfl, by decide +kernel, rfl, by decide +kernel, by decide +kernel⟩
theorem ok_counts {f : Addr} {fd : FuncData} (F : Fun K "counts" "Disk.counts" s_Disk_counts f fd) (T : Txt K mg C tS) (L_Disk_crash : MtC P w K mg base C "crash" 2 ["self", "rows"] (spCrash C)) : FnOk P w K mg base CX0 3 f fd ["self"] (spCounts C) := by
  refine F.ok sc_Disk_counts (fun vs H Q E h => ?_) (fun cdv A outer st H vs Q E hr h => ?_)
  · obtain ⟨G, p, s, wl, d, rfl, _⟩ := h
    rfl
  · obtain ⟨G, p, s, wl, d, rfl, gh, D, fit, k⟩ := h
    have nd := sc_Disk_counts.nd
    refine ⟨_, (pss_cons (ps_if (PW.pt (pw_and (pt_cmp (pc_notN (pe_fldK (K := K) rfl (pv 0) rfl))) (pw_and1 (pt_not (pt_val (pe_fldK (K := K) rfl (pv 0) rfl))))))
    (pss_cons (ps_fldK (K := K) rfl (pv 0) (pe_op op_sub (pe_fldK (K := K) rfl (pv 0) rfl) pe_int) rfl)
    (pss_one (ps_if (pt_cmpR op_le (pe_fldK (K := K) rfl (pv 0) rfl) pe_int (nomark _))
    (pss_cons (ps_expr (pe_mtc (pv 0) L_Disk_crash (hr.mono (by decide)) (pa_cons (pe_fldK (K := K) rfl (pv 0) rfl) pa_nil)))
    (pss_one (ps_fldK (K := K) rfl (pv 0) pe_bl rfl)))
    pss_nil)))
    pss_nil)
    (pss_one (ps_ret (pe_not (pe_fldK (K := K) rfl (pv 0) rfl))))), ?_⟩
    obtain ⟨dx, rl, h1, r1⟩ := id D.ob
    obtain ⟨kvs, h2, r2⟩ := id D.sec
    obtain ⟨ws, h3, r3⟩ := id D.wai
    have same : d.counts = d → ∃ v, ([some (.ref p)] : L2.St)[0]? = some (some v) ∧ ∃ a C dx fs v', v = V.ref a ∧ H a = some (.ins C dx fs) ∧ Cls K C ∧ NoAttr K C "is_cut" ∧ fs.lookup ("is_cut" : Str) = some v' ∧ ∃ c, v' = .bl c ∧ Q (.bl (!c)) H := fun e =>
      ⟨_, rfl, p, C, dx, _, _, rfl, h1, T.cl, T.n5, df_cut, _, rfl, by
        have q := k wl G H (Stp.refl gh) (by rw [e]; exact D) (.inl rfl)
        rw [e] at q
        exact q⟩
    refine ⟨_, rfl, p, C, dx, _, _, rfl, h1, T.cl, T.n3, df_left, _, rfl, ?_⟩
    cases el : d.left with
    | none =>
      refine iteF (iteF (same ?_))
      unfold DS.counts
      rw [el]
    | some l =>
      refine iteT ⟨_, rfl, p, C, dx, _, _, rfl, h1, T.cl, T.n5, df_cut, _, rfl, ?_⟩
      cases ec : d.cut with
      | true =>
        refine iteF (same ?_)
        unfold DS.counts
        rw [el]
        simp [ec]
      | false =>
        have h1' := h1
        rw [el, ec] at h1'
        refine iteT ⟨_, rfl, p, C, dx, _, _, rfl, h1', T.cl, T.n3, df_left, _, _, rfl, rfl, _, rfl, p, C, dx, _, rfl, h1', T.cl, T.n3, (by show 5 < 1000; decide), ?_⟩
        rw [df_pl]
        generalize e1 : upd H p _ = H1
        obtain ⟨s1, f1, k1⟩ := wr_of (Stp.refl (O := DOwn p s wl) gh) h1' D.gp (.inl (.inl rfl)) e1
        have D1 : DiskAt C G H1 p s wl { d with left := some (l - 1) } := ⟨⟨dx, rl, by rw [f1, ec]; rfl, r1⟩, ⟨kvs, k1 _ _ D.ps.symm h2, r2⟩, ⟨ws, k1 _ _ D.pw.symm h3, r3⟩, D.gp, D.gs, D.gw⟩
        refine ⟨_, rfl, p, C, dx, _, _, rfl, f1, T.cl, T.n3, df_left, _, _, rfl, rfl, _, rfl, if_dec (fun c1 => ?_) (fun c1 => ?_)⟩
        · have fit1 : Fit { d with left := some (l - 1) } := ⟨fit.nd, fit.sz, fit.rz, fit.ls, fit.lw⟩
          have ecnt : d.counts = { (({ d with left := some (l - 1) } : DS).crash d.rows) with cut := true } := by
            unfold DS.counts
            rw [el]
            show (if d.cut = true then d else if l - 1 ≤ 0 then _ else _) = _
            rw [ec, if_neg Bool.false_ne_true, if_pos c1]
          obtain ⟨ra, rvs, erl, hrl, prl⟩ := id r1
          cases erl
          have hrl1 : H1 rl = some (.lst rvs) := k1 _ _ (ne_of h1 (gh _ _ hrl) fun z => nomatch z).symm (gh _ _ hrl)
          refine ⟨_, rfl, p, dx, _, rfl, f1, df_no (by decide +kernel) (by decide +kernel) (by decide +kernel) (by decide +kernel) (by decide +kernel), _, rfl, p, C, dx, _, _, rfl, f1, T.cl, T.n4, df_rows,
            G, p, s, wl, { d with left := some (l - 1) }, rl, d.rows, rfl, s1.gh, D1, fit1, ⟨rvs, hrl1, prl⟩, fresh_ne (ne_none hrl) D.gw, fun w2 G2 H2 s2 D2 n2 => ?_⟩
          obtain ⟨dx2, rl2, g1, q1⟩ := id D2.ob
          obtain ⟨kvs2, g2, q2⟩ := id D2.sec
          obtain ⟨ws2, g3, q3⟩ := id D2.wai
          refine ⟨_, rfl, p, C, dx2, _, rfl, g1, T.cl, T.n5, (by show 5 < 1000; decide), ?_⟩
          rw [df_pc]
          generalize e3 : upd H2 p _ = H3
          obtain ⟨s3, f3, k3⟩ := wr_of (s1.trans s2 fun _ z => .inl z) g1 D2.gp (.inl (.inl rfl)) e3
          have D3 : DiskAt C G2 H3 p s w2 d.counts := by
            rw [ecnt]
            exact ⟨⟨dx2, rl2, f3, q1⟩, ⟨kvs2, k3 _ _ D2.ps.symm g2, q2⟩, ⟨ws2, k3 _ _ D2.pw.symm g3, q3⟩, D2.gp, D2.gs, D2.gw⟩
          refine ⟨_, rfl, p, C, dx2, _, _, rfl, f3, T.cl, T.n5, df_cut, _, rfl, ?_⟩
          have q := k w2 G2 H3 s3 D3 (.inr (s1.fr n2))
          rw [ecnt] at q
          exact q
        · have ecnt : d.counts = { d with left := some (l - 1) } := by
            unfold DS.counts
            rw [el]
            show (if d.cut = true then d else if l - 1 ≤ 0 then _ else _) = _
            rw [ec, if_neg Bool.false_ne_true, if_neg c1]
          refine ⟨_, rfl, p, C, dx, _, _, rfl, f1, T.cl, T.n5, df_cut, _, rfl, ?_⟩
          have q := k wl G H1 s1 (by rw [ecnt]; exact D1) (.inl rfl)
          rw [ecnt] at q
          show Q (.bl (!false)) H1
          rw [← ec]
          exact q
def spWrite (C : Addr) : Sp := fun vs H Q _ => ∃ (G : Hp) (p s wl : Addr) (d : DS) (n : Int) (a : Addr) (x : Sec), vs = [.ref p, .int n, .ref a] ∧ Same G H ∧ DiskAt C G H p s wl d ∧ Fit d ∧ H a = some (rowI x) ∧ a ≠ wl ∧
  ∀ w' G' H', Stp (DOwn p s wl) G H G' H' → DiskAt C G' H' p s w' (d.write n x) → (w' = wl ∨ H w' = none) → Q .non H'
abbrev s_Disk_write : Stmt := inClass (top 2) 5
theorem sc_Disk_write : FnScope ["self", "number", "content"] ["self", "number", "content"] (defScope s_Disk_write) := ⟨rfl, rfl, rfl, by decide +kernel, rfl, by decide +kernel, by decide +kernel⟩
theorem ok_write {f : Addr} {fd : FuncData} (F : Fun K "write" "Disk.write" s_Disk_write f fd) (T : Txt K mg C tS) (L_Disk_counts : MtC P w K mg base C "counts" 3 ["self"] (spCounts C)) : FnOk P w K mg base CX0 4 f fd ["self", "number", "content"] (spWrite C) := by
  refine F.ok sc_Disk_write (fun vs H Q E h => ?_) (fun cdv A outer st H vs Q E hr h => ?_)
  · obtain ⟨G, p, s, wl, d, n, a, x, rfl, _⟩ := h
    rfl
  · obtain ⟨G, p, s, wl, d, n, a, x, rfl, gh, D, fit, ha, aw, k⟩ := h
    have nd := sc_Disk_write.nd
    refine ⟨_, (pss_one (ps_if (pt_val (pe_mtc0 (pv 0) L_Disk_counts (hr.mono (by decide))))
    (pss_one (ps_expr (pe_bmK (K := K) rfl PySem.F.plainAttrs_list PySem.F.slot_list_append PySem.F.type_list_append mt_append (pe_fldK (K := K) rfl (pv 0) rfl) (pa_cons (pe_tup (pa_cons (pv 1) (pa_cons (pe_callTy (call_list_ofK (K := K) rfl) (by rfl) T.b_list (by decide +kernel) (pa_cons (pv 2) pa_nil)) pa_nil))) pa_nil))))
    pss_nil)), ?_⟩
    obtain ⟨dx, rl, h1, r1⟩ := id D.ob
    obtain ⟨kvs, h2, r2⟩ := id D.sec
    have hap : a ≠ p := (ne_of h1 ha fun z => nomatch z).symm
    have has : a ≠ s := (ne_of h2 ha fun z => nomatch z).symm
    refine ⟨_, rfl, p, dx, _, rfl, h1, df_no (by decide +kernel) (by decide +kernel) (by decide +kernel) (by decide +kernel) (by decide +kernel), G, p, s, wl, d, rfl, gh, D, fit, fun w1 G1 H1 s1 D1 n1 => ?_⟩
    obtain ⟨dx1, rl1, g1, q1⟩ := id D1.ob
    obtain ⟨kvs1, g2, q2⟩ := id D1.sec
    obtain ⟨ws1, g3, q3⟩ := id D1.wai
    have ha1 : H1 a = some (rowI x) := s1.kp _ _ ha fun z => by
      rcases z with z | z | z
      · exact hap z
      · exact has z
      · exact aw z
    refine ⟨_, rfl, if_nbool (fun c1 => ?_) (fun c1 => ?_)⟩
    · have ew : d.write n x = { d.counts with wai := d.counts.wai ++ [(n, x)] } := if_neg (by rw [c1]; exact Bool.false_ne_true)
      refine ⟨_, rfl, p, C, dx1, _, _, rfl, g1, T.cl, T.n2, df_waiting, .inl ⟨rfl, _, SqL.of g3⟩, _, rfl, _, rfl, a, _, rfl, .inl (SqL.of ha1), fun l nl => ?_⟩
      generalize e2 : upd H1 l _ = H2
      obtain ⟨G2, s2, f2, gg2, k2, gk2⟩ := data_of s1 nl e2
      refine ⟨(by show 2 ≤ sizeLine; decide), fun t nt => ?_⟩
      generalize e3 : upd H2 t _ = H3
      obtain ⟨G3, s3, f3, gg3, k3, gk3⟩ := data_of s2 nt e3
      have g3' := k3 _ _ (k2 _ _ g3)
      have npl : p ≠ l := ne_of_none g1 nl
      have npt : p ≠ t := ne_of_none (k2 _ _ g1) nt
      have nsl : s ≠ l := ne_of_none g2 nl
      have nst : s ≠ t := ne_of_none (k2 _ _ g2) nt
      have nwl : w1 ≠ l := ne_of_none g3 nl
      have nwt : w1 ≠ t := ne_of_none (k2 _ _ g3) nt
      have gw3 : G3 w1 = none := by rw [gk3 w1 nwt, gk2 w1 nwl]; exact D1.gw
      have fitc := fit.counts
      refine ⟨w1, ws1, _, rfl, rfl, g3', ?_, ?_⟩
      · have := fitc.sz
        rw [pd_len q3, sizeLine_eq]
        omega
      generalize e4 : upd H3 w1 _ = H4
      obtain ⟨s4, f4, k4⟩ := wr_of s3 g3' gw3 (n1.imp (fun z => .inr (.inr z)) id) e4
      refine k w1 G3 H4 s4 ?_ n1
      rw [ew]
      refine ⟨⟨dx1, rl1, k4 _ _ D1.pw (k3 _ _ (k2 _ _ g1)), (mI.p mI).l _ _ _ _ (gg2.trans gg3) q1⟩, ⟨kvs1, k4 _ _ D1.sw (k3 _ _ (k2 _ _ g2)), q2.mono mSec (gg2.trans gg3)⟩, ⟨_, f4, ?_⟩,
        by rw [gk3 p npt, gk2 p npl]; exact D1.gp, by rw [gk3 s nst, gk2 s nsl]; exact D1.gs, gw3⟩
      exact pd_snoc (mRow.ps (gg2.trans gg3) q3) ⟨t, _, _, rfl, f3, rfl, rLI_of (gg3 _ _ f2)⟩
    · have ew : d.write n x = d.counts := if_pos c1
      refine k w1 G1 H1 s1 ?_ n1
      rw [ew]
      exact D1
def spSync (C : Addr) : Sp := fun vs H Q _ => ∃ (G : Hp) (p s wl : Addr) (d : DS), vs = [.ref p] ∧ Same G H ∧ DiskAt C G H p s wl d ∧ Fit d ∧
  ∀ w' G' H', Stp (DOwn p s wl) G H G' H' → DiskAt C G' H' p s w' d.sync → (w' = wl ∨ H w' = none) → Q .non H'
abbrev s_Disk_sync : Stmt := inClass (top 2) 6
theorem sc_Disk_sync : FnScope ["self", "number", "content"] ["self"] (defScope s_Disk_sync) := ⟨rfl, rfl, rfl, by decide +kernel, rfl, by decide +kernel, by decide +kernel⟩
theorem ok_sync {f : Addr} {fd : FuncData} (F : Fun K "sync" "Disk.sync" s_Disk_sync f fd) (T : Txt K mg C tS) (L_Disk_counts : MtC P w K mg base C "counts" 3 ["self"] (spCounts C)) : FnOk P w K mg base CX0 4 f fd ["self"] (spSync C) := by
  refine F.ok sc_Disk_sync (fun vs H Q E h => ?_) (fun cdv A outer st H vs Q E hr h => ?_)
  · obtain ⟨G, p, s, wl, d, rfl, _⟩ := h
    rfl
  · obtain ⟨G, p, s, wl, d, rfl, gh, D, fit, k⟩ := h
    have nd := sc_Disk_sync.nd
    have hu := hu_of hr
    refine ⟨_, (pss_one (ps_if (pt_val (pe_mtc0 (pv 0) L_Disk_counts (hr.mono (by decide))))
    (pss_cons (ps_for PassesOwn.never rfl (pi_listK (K := K) rfl (pe_fldK (K := K) rfl (pv 0) rfl)) (pg_tupK (K := K) (n := 2) rfl rfl (pgs_cons (pg_name (i := 1) nd rfl (Or.inl rfl)) (pgs_cons (pg_name (i := 2) nd rfl (Or.inl rfl)) pgs_nil)))
    (pss_one (ps_dput hu (pe_fldK (K := K) rfl (pv 0) rfl) (pv 1) (pv 2) rfl)))
    (pss_one (ps_fldK (K := K) rfl (pv 0) (pe_lst pa_nil) rfl)))
    pss_nil)), ?_⟩
    obtain ⟨dx, rl, h1, r1⟩ := id D.ob
    refine ⟨_, rfl, p, dx, _, rfl, h1, df_no (by decide +kernel) (by decide +kernel) (by decide +kernel) (by decide +kernel) (by decide +kernel), G, p, s, wl, d, rfl, gh, D, fit, fun w1 G1 H1 s1 D1 n1 => ?_⟩
    obtain ⟨dx1, rl1, g1, q1⟩ := id D1.ob
    obtain ⟨kvs1, g2, q2⟩ := id D1.sec
    obtain ⟨ws1, g3, q3⟩ := id D1.wai
    refine ⟨_, rfl, if_nbool (fun c1 => ?_) (fun c1 => ?_)⟩
    · have ew : d.sync = { d.counts with sec := synS d.counts.sec d.counts.wai, wai := [] } := if_neg (by rw [c1]; exact Bool.false_ne_true)
      have fitc := fit.counts
      refine ⟨_, rfl, p, C, dx1, _, _, rfl, g1, T.cl, T.n2, df_waiting, w1, rfl, ⟨_, SqL.of g3⟩, for_list (K := K) (a := w1) (xs := ws1)
        (fun i σ H2 => (∃ x1 x2, σ = [some (.ref p), x1, x2]) ∧ Stp (DOwn p s wl) G H G1 H2 ∧ (∀ b o, b ≠ s → H1 b = some o → H2 b = some o) ∧ ∃ kvs2, H2 s = some (.dK kvs2) ∧ DRel (rL rI) G1 kvs2 (synS d.counts.sec (d.counts.wai.take i)))
        ⟨⟨_, _, rfl⟩, s1, fun _ _ _ z => z, kvs1, g2, q2⟩ (fun i σ H2 _ ⟨_, _, q, _⟩ => SqL.of (q _ _ D1.sw.symm g3)) ?_ ?_⟩
      · rintro i y σ H2 hi ⟨⟨x1, x2, rfl⟩, s2, k2, kvs2, g4, q4⟩
        obtain ⟨x, hx, t, u, c0, rfl, ht, hu', hc⟩ := pd_get q3 hi
        cases hu'
        refine g_pair (s2.gh _ _ ht) ⟨_, rfl, _, rfl, p, C, dx1, _, _, rfl, k2 _ _ D1.ps g1, T.cl, T.n1, df_sectors, _, rfl, s, _, rfl, DPut.k (k := Sum.inl x.1) g4 ?_, ?_⟩
        · have h5 := synS_len (d.counts.wai.take i) d.counts.sec
          have h6 := fitc.sz
          have h7 := pd_len q4
          rw [List.length_take] at h5
          rw [sizeLine_eq]
          omega
        · generalize e3 : upd H2 s _ = H3
          obtain ⟨s3, f3, k3⟩ := wr_of s2 g4 D1.gs (.inl (.inr (.inl rfl))) e3
          refine ⟨⟨_, _, rfl⟩, s3, fun b o hb e => k3 b o hb (k2 b o hb e), _, f3, ?_⟩
          have e5 : synS d.counts.sec (d.counts.wai.take (i + 1)) = put (synS d.counts.sec (d.counts.wai.take i)) x.1 x.2 := by
            unfold synS
            rw [List.take_add_one, hx, List.foldl_append]
            rfl
          rw [e5]
          exact q4.put hc
      · rintro σ H2 ⟨⟨x1, x2, rfl⟩, s2, k2, kvs2, g4, q4⟩
        rw [pd_len q3, List.take_of_length_le (Nat.le_refl _)] at q4
        refine ⟨(by show 0 ≤ sizeLine; decide), fun W1 nW1 => ?_⟩
        generalize e6 : upd H2 W1 _ = H6
        obtain ⟨s6, f6, k6, g6, z6⟩ := own_of s2 nW1 e6
        have p1 := k6 _ _ (k2 _ _ D1.ps g1)
        refine ⟨_, rfl, p, C, dx1, _, rfl, p1, T.cl, T.n2, (by show 5 < 1000; decide), ?_⟩
        rw [df_pw]
        generalize e7 : upd H6 p _ = H7
        obtain ⟨s7, f7, k7⟩ := wr_of s6 p1 D1.gp (.inl (.inl rfl)) e7
        refine k W1 G1 H7 s7 ?_ (.inr z6)
        rw [ew]
        exact ⟨⟨dx1, rl1, f7, q1⟩, ⟨kvs2, k7 _ _ D1.ps.symm (k6 _ _ g4), q4⟩, ⟨[], k7 _ _ (ne_of_none (k2 _ _ D1.ps g1) nW1).symm f6, .nil⟩, D1.gp, D1.gs, g6⟩
    · have ew : d.sync = d.counts := if_pos c1
      refine k w1 G1 H1 s1 ?_ n1
      rw [ew]
      exact D1
end
end K51

/-! K51H: synced, __init__. -/
namespace K51
open PySem PySem.Spec PyProof.Rows L2 Y
/-- a row of the told sectors, all of it new -/
def NewRow (H G' H' : Hp) (v : V) (x : Int × Sec) : Prop := ∃ t c, v = V.ref t ∧ H' t = some (.tup [.int x.1, .ref c]) ∧ H' c = some (rowI x.2) ∧ H t = none ∧ H c = none ∧ G' t = none ∧ G' c = none
theorem NewRow.keep {H G' H' H2 : Hp} (e : ∀ b o, H b = none → H' b = some o → H2 b = some o) {v : V} {x : Int × Sec} : NewRow H G' H' v x → NewRow H G' H2 v x := fun ⟨t, c, e1, h1, h2, n1, n2, g1, g2⟩ => ⟨t, c, e1, e _ _ n1 h1, e _ _ n2 h2, n1, n2, g1, g2⟩
/-- .. and apart from a list that is being made -/
def NewRowD (H G' H' : Hp) (D : Addr) (v : V) (x : Int × Sec) : Prop := ∃ t c, v = V.ref t ∧ H' t = some (.tup [.int x.1, .ref c]) ∧ H' c = some (rowI x.2) ∧ H t = none ∧ H c = none ∧ G' t = none ∧ G' c = none ∧ t ≠ D ∧ c ≠ D
theorem NewRowD.keep {H G' H' H2 : Hp} {D : Addr} (e : ∀ b o, b ≠ D → H' b = some o → H2 b = some o) {v : V} {x : Int × Sec} : NewRowD H G' H' D v x → NewRowD H G' H2 D v x := fun ⟨t, c, e1, h1, h2, n1, n2, g1, g2, d1, d2⟩ => ⟨t, c, e1, e _ _ d1 h1, e _ _ d2 h2, n1, n2, g1, g2, d1, d2⟩
theorem NewRowD.row {H G' H' : Hp} {D : Addr} {v : V} {x : Int × Sec} : NewRowD H G' H' D v x → NewRow H G' H' v x := fun ⟨t, c, e1, h1, h2, n1, n2, g1, g2, _, _⟩ => ⟨t, c, e1, h1, h2, n1, n2, g1, g2⟩
def spSynced (C : Addr) : Sp := fun vs H Q _ => ∃ (G : Hp) (p s wl : Addr) (d : DS), vs = [.ref p] ∧ Same G H ∧ DiskAt C G H p s wl d ∧ Fit d ∧
  ∀ q us H', Stp O0 G H G H' → H q = none → H' q = some (.lst us) → Paired (NewRowD H G H' q) us (told d.sec) → Q (.ref q) H'
section
variable {P : Program} {w : World} {K : PySem.W.Frag} {mg : Str → Option Value} {base : Heap} {C : Addr} {tS : Tok}
abbrev s_Disk_synced : Stmt := inClass (top 2) 8
theorem sc_Disk_synced : FnScope ["self", "rows", "number", "row"] ["self"] (defScope s_Disk_synced) := ⟨rfl, rfl, rfl, by decide +kernel, rfl, by decide +kernel, by decide +kernel⟩
theorem ok_synced {f : Addr} {fd : FuncData} (F : Fun K "synced" "Disk.synced" s_Disk_synced f fd) (T : Txt K mg C tS) : FnOk P w K mg base CX0 1 f fd ["self"] (spSynced C) := by
  refine F.ok sc_Disk_synced (fun vs H Q E h => ?_) (fun cdv A outer st H vs Q E hr h => ?_)
  · obtain ⟨G, p, s, wl, d, rfl, _⟩ := h
    rfl
  · obtain ⟨G, p, s, wl, d, rfl, gh, D, fit, k⟩ := h
    have nd := sc_Disk_synced.nd
    have hu := hu_of hr
    refine ⟨_, (pss_cons (ps_setLc (i := 1) (own := [("number", 2)]) rfl nd rfl rfl (sw_true rfl rfl rfl (by decide +kernel)) (pi_listK (K := K) rfl (pe_callB (call_sortedDI rfl) (by rfl) T.b_sorted (by decide +kernel) (pa_cons (pe_fldK (K := K) rfl (pv 0) rfl) pa_nil))) (blkOk_by (own := [("number", 2)]) (N := ["self", "rows", "number", "row"]) (sc := defScope s_Disk_synced) (by decide +kernel)) (fun _ _ _ _ _ => (pg_name (i := 2) nd rfl (Or.inl rfl))) (fun _ _ _ _ _ => pts_nil) (fun _ _ _ _ _ => (pe_tup (pa_cons (pv 2) (pa_cons (pe_callTy (call_list_ofK (K := K) rfl) (by rfl) T.b_list (by decide +kernel) (pa_cons (pe_dget hu (pe_fldK (K := K) rfl (pv 0) rfl) (pv 2) (fun _ _ => rfl)) pa_nil)) pa_nil)))))
    (pss_one (ps_ret (pe_lc (own := [("row", 3)]) rfl nd (pi_listK (K := K) rfl (pv 1)) (blkOk_by (own := [("row", 3)]) (N := ["self", "rows", "number", "row"]) (sc := defScope s_Disk_synced) (by decide +kernel)) (fun _ _ _ _ _ => (pg_name (i := 3) nd rfl (Or.inl rfl))) (fun _ _ _ _ _ => (pts_one (pt_cmpR (op_neDK (K := K) rfl hr.units) (pe_ix (ix_tupK (K := K) rfl) (pv 3) pe_int (fun _ _ => rfl)) (pe_op op_rep (pe_lst (pa_cons pe_int pa_nil)) (pe_glob (v := .int 16) rfl T.c_SECTOR ⟨_, rfl⟩)) (nomark _)))) (fun _ _ _ _ _ => (pv 3)))))), ?_⟩
    obtain ⟨dx, rl, h1, r1⟩ := id D.ob
    obtain ⟨kvs, h2, r2⟩ := id D.sec
    have s0 : Stp O0 G H G H := Stp.refl gh
    have hsz := fit.sz
    refine ⟨_, rfl, p, C, dx, _, _, rfl, h1, T.cl, T.n1, df_sectors, s, kvs, _, rfl, .inl h2, r2.keys, ?_, fun ys N1 pm asc nN1 => ?_⟩
    · rw [List.length_map]
      omega
    have eys : ys = nums (d.sec.map (·.1)) := asc_same (lt_of_le_nodup ys asc (pm.nodup_iff.mpr fit.nd)) (asc_nums _) fun q => by rw [pm.mem_iff, mem_nums]
    have ysl : ys.length ≤ 60 := by rw [pm.length_eq, List.length_map]; omega
    generalize e1 : upd H N1 _ = H1
    obtain ⟨s1, f1, k1, g1, z1⟩ := own_of s0 nN1 e1
    refine ⟨N1, rfl, ⟨_, SqL.of f1⟩, fun D1 nD1 => ?_⟩
    obtain ⟨s2, f2, k2, g2, z2⟩ := own_of (o := .lst []) s1 nD1 rfl
    refine lc_list (K := K) (a := N1) (xs := ys.map V.int) (fun i H3 => Stp O0 G H G H3 ∧ H3 N1 = some (rowI ys) ∧ ∃ acc, H3 D1 = some (.lst acc) ∧ Paired (NewRowD H G H3 D1) acc ((ys.take i).map fun n => (n, d.whole n)))
      ⟨s2, k2 _ _ f1, [], f2, .nil⟩ (fun i H3 _ ⟨_, q, _⟩ => SqL.of q) ?_ ?_
    · rintro i y H3 hi ⟨s3, q3, acc, f3, r3⟩
      obtain ⟨n, hn, rfl⟩ : ∃ n, ys[i]? = some n ∧ y = V.int n := by
        rw [List.getElem?_map] at hi
        cases e : ys[i]? with
        | none => rw [e] at hi; cases hi
        | some z => rw [e] at hi; exact ⟨z, rfl, (Option.some.inj hi).symm⟩
      have hmem : n ∈ d.sec.map (·.1) := by
        have := List.mem_of_getElem? hn
        rw [eys, mem_nums] at this
        exact this
      obtain ⟨x, hx⟩ := Option.isSome_iff_exists.mp (look_isSome.mpr hmem)
      obtain ⟨v, hv, rv⟩ := r2.look_some hx
      obtain ⟨c, rfl, hc⟩ := rLI rv
      have h2' := s3.kp _ _ h2 fun z => z
      refine ⟨rfl, g_yes ⟨_, rfl, _, rfl, p, C, dx, _, _, rfl, s3.kp _ _ h1 (fun z => z), T.cl, T.n1, df_sectors, _, rfl, s, _, rfl, ?_, c, _, rfl, .inl (SqL.of (s3.gh _ _ hc)), fun l nl => ?_⟩⟩
      · have q := DGet.k (k := Sum.inl n) h2'
        rw [hv] at q
        exact q
      generalize e4 : upd H3 l _ = H4
      obtain ⟨s4, f4, k4, g4, z4⟩ := own_of s3 nl e4
      refine ⟨(by show 2 ≤ sizeLine; decide), fun t nt => ?_⟩
      generalize e5 : upd H4 t _ = H5
      obtain ⟨s5, f5, k5, g5, z5⟩ := own_of s4 nt e5
      refine ⟨acc, k5 _ _ (k4 _ _ f3), ?_, ?_⟩
      · have := pd_len r3
        rw [List.length_map, List.length_take] at this
        rw [sizeLine_eq]
        omega
      generalize e6 : upd H5 D1 _ = H6
      obtain ⟨s6, f6, k6⟩ := wr_of s5 (k5 _ _ (k4 _ _ f3)) g2 (.inr z2) e6
      have ND : N1 ≠ D1 := ne_of_none f1 nD1
      have tD : t ≠ D1 := (ne_of_none (k4 _ _ f3) nt).symm
      have lD : l ≠ D1 := (ne_of_none f3 nl).symm
      refine ⟨s6, k6 _ _ ND (k5 _ _ (k4 _ _ q3)), _, f6, ?_⟩
      rw [List.take_add_one, hn, List.map_append]
      refine pd_snoc (pd_mono (fun _ _ q => q.keep fun b o hb e => k6 _ _ hb (k5 _ _ (k4 _ _ e))) r3) ⟨t, l, rfl, k6 _ _ tD f5, ?_, z5, z4, g5, g4, tD, lD⟩
      show H6 l = some (rowI (d.whole n))
      unfold DS.whole
      rw [hx]
      exact k6 _ _ lD (k5 _ _ f4)
    · rintro H3 ⟨s3, q3, acc, f3, r3⟩
      rw [List.length_map, List.take_of_length_le (Nat.le_refl _)] at r3
      refine ⟨_, rfl, D1, rfl, ⟨_, SqL.of f3⟩, fun D2 nD2 => ?_⟩
      obtain ⟨s4, f4, k4, g4, z4⟩ := own_of (o := .lst []) s3 nD2 rfl
      have nDD : D1 ≠ D2 := ne_of_none f3 nD2
      refine lc_list (K := K) (a := D1) (xs := acc) (fun i H5 => Stp O0 G H G H5 ∧ (∀ b o, b ≠ D2 → H3 b = some o → H5 b = some o) ∧ ∃ acc2, H5 D2 = some (.lst acc2) ∧ acc2.length ≤ i ∧ Paired (NewRowD H G H3 D1) acc2 (((ys.map fun n => (n, d.whole n)).take i).filter fun x => decide (x.2 ≠ blank)))
        ⟨s4, fun b o _ e => k4 b o e, [], f4, Nat.le_refl _, .nil⟩ (fun i H5 _ ⟨_, q, _⟩ => SqL.of (q _ _ nDD f3)) ?_ ?_
      · rintro i y H5 hi ⟨s5, k5, acc2, f5, l5, r5⟩
        obtain ⟨x, hx, t, c, rfl, ht, hc, a1, a2, a3, a4, a5, a6⟩ := pd_get r3 hi
        have tD : t ≠ D2 := ne_of_none ht nD2
        have cD : c ≠ D2 := ne_of_none hc nD2
        refine ⟨rfl, ⟨_, rfl, t, _, _, _, rfl, rfl, SqT.of (k5 _ _ tD ht), at_of (j := 1) rfl rfl, (by show 1 ≤ sizeLine; decide), fun A1 nA1 => ?_⟩⟩
        generalize e6 : upd H5 A1 _ = H6
        obtain ⟨s6, f6, k6, g6, z6⟩ := own_of s5 nA1 e6
        refine ⟨A1, 16, _, rfl, rfl, f6, by decide, by decide, (by show 1 * 16 ≤ sizeLine; decide), fun A2 nA2 => ?_⟩
        generalize e7 : upd H6 A2 _ = H7
        obtain ⟨s7, f7, k7, g7, z7⟩ := own_of s6 nA2 e7
        refine ⟨_, _, dp_ints (k7 _ _ (k6 _ _ (k5 _ _ cD hc))), dp_ints (xs := blank) f7, shaped_ints _, shaped_ints _, _, rfl, ?_⟩
        rw [eqv_ints]
        have hfilter : ((ys.map fun n => (n, d.whole n)).take (i + 1)).filter (fun x => decide (x.2 ≠ blank)) = ((ys.map fun n => (n, d.whole n)).take i).filter (fun x => decide (x.2 ≠ blank)) ++ (if x.2 = blank then [] else [x]) := by
          rw [List.take_add_one, hx, List.filter_append]
          congr 1
          by_cases e : x.2 = blank <;> simp [e]
        refine if_nbool (fun e => ?_) (fun e => ?_)
        · have e' : ¬ x.2 = blank := of_decide_eq_false e
          refine ⟨_, rfl, acc2, k7 _ _ (k6 _ _ f5), ?_, ?_⟩
          · have := pd_len r3
            rw [List.length_map] at this
            have := (List.getElem?_eq_some_iff.mp hi).1
            rw [sizeLine_eq]
            omega
          generalize e8 : upd H7 D2 _ = H8
          obtain ⟨s8, f8, k8⟩ := wr_of s7 (k7 _ _ (k6 _ _ f5)) g4 (.inr z4) e8
          refine ⟨s8, fun b o hb e => k8 b o hb (k7 _ _ (k6 _ _ (k5 b o hb e))), _, f8, by rw [List.length_append]; exact Nat.succ_le_succ l5, ?_⟩
          rw [hfilter, if_neg e']
          exact pd_snoc r5 ⟨t, c, rfl, ht, hc, a1, a2, a3, a4, a5, a6⟩
        · have e' : x.2 = blank := of_decide_eq_true e
          refine ⟨s7, fun b o hb e => k7 _ _ (k6 _ _ (k5 b o hb e)), acc2, k7 _ _ (k6 _ _ f5), Nat.le_succ_of_le l5, ?_⟩
          rw [hfilter, if_pos e', List.append_nil]
          exact r5
      · rintro H5 ⟨s5, k5, acc2, f5, l5, r5⟩
        refine k D2 acc2 H5 s5 z4 f5 ?_
        have el := pd_len r3
        rw [el, List.take_of_length_le (Nat.le_refl _), eys] at r5
        have aux : ∀ {us : List V} {xs : List (Int × Sec)}, Paired (NewRowD H G H3 D1) us xs → Paired (NewRowD H G H5 D2) us xs := fun h => pd_mono (fun v x q => by
          obtain ⟨t, c, e1, a1, a2, a3, a4, a5, a6, a7, a8⟩ := q
          exact ⟨t, c, e1, k5 _ _ (ne_of_none a1 nD2) a1, k5 _ _ (ne_of_none a2 nD2) a2, a3, a4, a5, a6, ne_of_none a1 nD2, ne_of_none a2 nD2⟩) h
        exact aux r5
end
end K51

/-! K51I: __init__; the law's draws. -/
namespace K51
open PySem PySem.Spec PyProof.Rows L2 Y
theorem df_i0 {s : Addr} : putF "sectors" (.ref s) ([] : List (Str × V)) = ([("sectors", .ref s)] : List (Str × V)) := pf_nil
theorem df_i1 {s : Addr} {wl : Addr} : putF "waiting" (.ref wl) ([("sectors", .ref s)] : List (Str × V)) = ([("sectors", .ref s), ("waiting", .ref wl)] : List (Str × V)) := (pf_miss (by decide +kernel)).trans (congrArg _ (pf_nil))
theorem df_i2 {s : Addr} {wl : Addr} {l : V} : putF "left" (l) ([("sectors", .ref s), ("waiting", .ref wl)] : List (Str × V)) = ([("sectors", .ref s), ("waiting", .ref wl), ("left", l)] : List (Str × V)) := (pf_miss (by decide +kernel)).trans (congrArg _ ((pf_miss (by decide +kernel)).trans (congrArg _ (pf_nil))))
theorem df_i3 {s : Addr} {wl : Addr} {l : V} {rl : Addr} : putF "rows" (.ref rl) ([("sectors", .ref s), ("waiting", .ref wl), ("left", l)] : List (Str × V)) = ([("sectors", .ref s), ("waiting", .ref wl), ("left", l), ("rows", .ref rl)] : List (Str × V)) := (pf_miss (by decide +kernel)).trans (congrArg _ ((pf_miss (by decide +kernel)).trans (congrArg _ ((pf_miss (by decide +kernel)).trans (congrArg _ (pf_nil))))))
theorem df_i4 {s : Addr} {wl : Addr} {l : V} {rl : Addr} {c : Bool} : putF "is_cut" (.bl c) ([("sectors", .ref s), ("waiting", .ref wl), ("left", l), ("rows", .ref rl)] : List (Str × V)) = ([("sectors", .ref s), ("waiting", .ref wl), ("left", l), ("rows", .ref rl), ("is_cut", .bl c)] : List (Str × V)) := (pf_miss (by decide +kernel)).trans (congrArg _ ((pf_miss (by decide +kernel)).trans (congrArg _ ((pf_miss (by decide +kernel)).trans (congrArg _ ((pf_miss (by decide +kernel)).trans (congrArg _ (pf_nil))))))))
def spInit (C : Addr) : Sp := fun vs H Q _ => ∃ (G : Hp) (p dx a : Addr) (us : List V) (xs : List (Int × Sec)), vs = [.ref p, .ref a] ∧ Same G H ∧ H p = some (.ins C dx []) ∧ G p = none ∧ H a = some (.lst us) ∧ Paired (rSec H) us xs ∧ xs.length ≤ 60 ∧
  ∀ s wl G' H', Stp (fun b => b = p) G H G' H' → DiskAt C G' H' p s wl ⟨ofRows xs, [], none, [], false⟩ → H s = none → H wl = none → Q .non H'
section
variable {P : Program} {w : World} {K : PySem.W.Frag} {mg : Str → Option Value} {base : Heap} {C : Addr} {tS : Tok}
abbrev s_Disk_init : Stmt := inClass (top 2) 0
theorem sc_Disk_init : FnScope ["self", "sectors", "number", "content"] ["self", "sectors"] (defScope s_Disk_init) := ⟨rfl, rfl, rfl, by decide +kernel, rfl, by decide +kernel, by decide +kernel⟩
theorem ok_init {f : Addr} {fd : FuncData} (F : Fun K "__init__" "Disk.__init__" s_Disk_init f fd) (T : Txt K mg C tS) : FnOk P w K mg base CX0 1 f fd ["self", "sectors"] (spInit C) := by
  refine F.ok sc_Disk_init (fun vs H Q E h => ?_) (fun cdv A outer st H vs Q E hr h => ?_)
  · obtain ⟨G, p, dx, a, us, xs, rfl, _⟩ := h
    rfl
  · obtain ⟨G, p, dx, a, us, xs, rfl, gh, hp, gp, ha, hus, hlen, k⟩ := h
    have nd := sc_Disk_init.nd
    refine ⟨_, (pss_cons (ps_fldK (K := K) rfl (pv 0) (pe_dc (own := [("number", 2), ("content", 3)]) rfl nd (pi_listK (K := K) rfl (pv 1)) (blkOk_by (own := [("number", 2), ("content", 3)]) (N := ["self", "sectors", "number", "content"]) (sc := defScope s_Disk_init) (by decide +kernel)) (fun _ _ _ _ _ => (pg_tupK (K := K) (n := 2) rfl rfl (pgs_cons (pg_name (i := 2) nd rfl (Or.inl rfl)) (pgs_cons (pg_name (i := 3) nd rfl (Or.inl rfl)) pgs_nil)))) (fun _ _ _ _ _ => pts_nil) (fun _ _ _ _ _ => (pv 2)) (fun _ _ _ _ _ => (pe_callTy (call_list_ofK (K := K) rfl) (by rfl) T.b_list (by decide +kernel) (pa_cons (pv 3) pa_nil)))) rfl)
    (pss_cons (ps_fldK (K := K) rfl (pv 0) (pe_lst pa_nil) rfl)
    (pss_cons (ps_fldK (K := K) rfl (pv 0) pe_non rfl)
    (pss_cons (ps_fldK (K := K) rfl (pv 0) (pe_lst pa_nil) rfl)
    (pss_one (ps_fldK (K := K) rfl (pv 0) pe_bl rfl)))))), ?_⟩
    have s0 : Stp (fun b => b = p) G H G H := Stp.refl gh
    refine ⟨_, rfl, a, rfl, ⟨_, SqL.of ha⟩, fun D1 nD1 => ?_⟩
    obtain ⟨s1, f1, k1, g1, z1⟩ := own_of (o := .dK []) s0 nD1 rfl
    refine dc_list (K := K) (a := a) (xs := us) (fun i H3 => ∃ G3 kvs, Stp (fun b => b = p) G H G3 H3 ∧ Same H H3 ∧ H3 D1 = some (.dK kvs) ∧ G3 D1 = none ∧ G3 p = none ∧ DRel (rL rI) G3 kvs (ofRows (xs.take i)) ∧ kvs.length ≤ i)
      ⟨G, [], s1, k1, f1, g1, gp, .nil, Nat.le_refl _⟩ (fun i H3 _ ⟨_, _, _, q, _⟩ => SqL.of (q _ _ ha)) ?_ ?_
    · rintro i y H3 hi ⟨G3, kvs, s3, k3, f3, g3, gp3, r3, l3⟩
      obtain ⟨x, hx, t, u, c0, rfl, ht, hu', hc⟩ := pd_get hus hi
      cases hu'
      obtain ⟨c, rfl, hcc⟩ := rLI hc
      have hi60 := (List.getElem?_eq_some_iff.mp hx).1
      refine g_pair (k3 _ _ ht) ⟨rfl, g_yes ⟨_, rfl, _, rfl, c, _, rfl, .inl (SqL.of (k3 _ _ hcc)), fun l nl => ?_⟩⟩
      generalize e4 : upd H3 l _ = H4
      obtain ⟨G4, s4, f4, gg4, k4, gk4⟩ := data_of s3 nl e4
      have Dl : D1 ≠ l := ne_of_none f3 nl
      refine ⟨kvs, Sum.inl x.1, rfl, k4 _ _ f3, by rw [sizeLine_eq]; omega, ?_⟩
      generalize e5 : upd H4 D1 _ = H5
      have gD4 : G4 D1 = none := by rw [gk4 D1 Dl]; exact g3
      obtain ⟨s5, f5, k5⟩ := wr_of s4 (k4 _ _ f3) gD4 (.inr z1) e5
      have npl : p ≠ l := ne_of_none (k3 _ _ hp) nl
      refine ⟨G4, _, s5, fun b o e => k5 b o (fresh_ne (ne_none e) z1) (k4 _ _ (k3 _ _ e)), f5, gD4, by rw [gk4 p npl]; exact gp3, ?_, ?_⟩
      · have e6 : ofRows (xs.take (i + 1)) = put (ofRows (xs.take i)) x.1 x.2 := by
          unfold ofRows
          rw [List.take_add_one, hx, List.foldl_append]
          rfl
        rw [e6]
        exact (r3.mono mSec gg4).put (rLI_of f4)
      · exact Nat.le_trans (length_putK _ _ _) (Nat.succ_le_succ l3)
    · rintro H3 ⟨G3, kvs, s3, k3, f3, g3, gp3, r3, l3⟩
      rw [pd_len hus, List.take_of_length_le (Nat.le_refl _)] at r3
      refine ⟨_, rfl, p, C, dx, _, rfl, k3 _ _ hp, T.cl, T.n1, (by show 0 < 1000; decide), ?_⟩
      rw [df_i0]
      generalize e4 : upd H3 p _ = H4
      obtain ⟨s4, f4, k4⟩ := wr_of s3 (k3 _ _ hp) gp3 (.inl rfl) e4
      have Dp : D1 ≠ p := (ne_of_none hp z1).symm
      refine ⟨(by show 0 ≤ sizeLine; decide), fun W1 nW1 => ?_⟩
      generalize e5 : upd H4 W1 _ = H5
      obtain ⟨s5, f5, k5, g5, z5⟩ := own_of s4 nW1 e5
      refine ⟨_, rfl, p, C, dx, _, rfl, k5 _ _ f4, T.cl, T.n2, (by show 1 < 1000; decide), ?_⟩
      rw [df_i1]
      generalize e6 : upd H5 p _ = H6
      obtain ⟨s6, f6, k6⟩ := wr_of s5 (k5 _ _ f4) gp3 (.inl rfl) e6
      refine ⟨_, rfl, p, C, dx, _, rfl, f6, T.cl, T.n3, (by show 2 < 1000; decide), ?_⟩
      rw [df_i2]
      generalize e7 : upd H6 p _ = H7
      obtain ⟨s7, f7, k7⟩ := wr_of s6 f6 gp3 (.inl rfl) e7
      refine ⟨(by show 0 ≤ sizeLine; decide), fun R1 nR1 => ?_⟩
      generalize e8 : upd H7 R1 _ = H8
      obtain ⟨G8, s8, f8, gg8, k8, gk8⟩ := data_of s7 nR1 e8
      refine ⟨_, rfl, p, C, dx, _, rfl, k8 _ _ f7, T.cl, T.n4, (by show 3 < 1000; decide), ?_⟩
      rw [df_i3]
      have npR : p ≠ R1 := ne_of_none f7 nR1
      have gp8 : G8 p = none := by rw [gk8 p npR]; exact gp3
      generalize e9 : upd H8 p _ = H9
      obtain ⟨s9, f9, k9⟩ := wr_of s8 (k8 _ _ f7) gp8 (.inl rfl) e9
      refine ⟨_, rfl, p, C, dx, _, rfl, f9, T.cl, T.n5, (by show 4 < 1000; decide), ?_⟩
      rw [df_i4]
      generalize e10 : upd H9 p _ = H10
      obtain ⟨s10, f10, k10⟩ := wr_of s9 f9 gp8 (.inl rfl) e10
      have Wp : W1 ≠ p := (ne_of_none f4 nW1).symm
      have WR : W1 ≠ R1 := ne_of_none (k7 _ _ Wp (k6 _ _ Wp f5)) nR1
      have fD6 := k6 _ _ Dp (k5 _ _ (k4 _ _ Dp f3))
      have DR : D1 ≠ R1 := ne_of_none (k7 _ _ Dp fD6) nR1
      refine k D1 W1 G8 H10 s10 ⟨⟨dx, R1, f10, R1, [], rfl, f8, .nil⟩, ⟨kvs, k10 _ _ Dp (k9 _ _ Dp (k8 _ _ (k7 _ _ Dp fD6))), r3.mono mSec gg8⟩, ⟨[], k10 _ _ Wp (k9 _ _ Wp (k8 _ _ (k7 _ _ Wp (k6 _ _ Wp f5)))), .nil⟩,
        gp8, by rw [gk8 D1 DR]; exact g3, by rw [gk8 W1 WR]; exact g5⟩ z1 z5
/-! ### the draws -/
structure StAt (G H : Hp) (s c : Addr) : Prop where
  ex : ∃ (n : Int) (cells : List Int), H s = some (.lst [.int n, .ref c]) ∧ H c = some (rowI cells) ∧ 0 ≤ n ∧ 0 < cells.length ∧ ∀ x ∈ cells, 0 ≤ x
  gs : G s = none
  gc : G c = none
  ne : s ≠ c
theorem StAt.stp {O : Addr → Prop} {G H G' H' : Hp} {s c : Addr} (h : StAt G H s c) (e : Stp O G H G' H') (n1 : ¬ O s) (n2 : ¬ O c) : StAt G' H' s c := by
  obtain ⟨n, cells, h1, h2, r⟩ := h.ex
  exact ⟨⟨n, cells, e.kp _ _ h1 n1, e.kp _ _ h2 n2, r⟩, e.nw _ (ne_none h1) h.gs, e.nw _ (ne_none h2) h.gc, h.ne⟩
def spState (K : PySem.W.Frag) : Sp := fun vs H Q _ => ∃ (G : Hp) (a : Addr) (ns : List Int), vs = [.ref a] ∧ Same G H ∧ SqL K H a (ns.map V.int) ∧
  ∀ s c H', Stp O0 G H G H' → StAt G H' s c → H s = none → H c = none → Q (.ref s) H'
abbrev s__law_state : Stmt := top 4
theorem sc__law_state : FnScope ["script", "cells", "cell"] ["script"] (defScope s__law_state) := ⟨rfl, rfl, rfl, by decide +kernel, rfl, by decide +kernel, by decide +kernel⟩
theorem ok_state {f : Addr} {fd : FuncData} (F : Fun K "_law_state" "_law_state" s__law_state f fd) (T : Txt K mg C tS) : FnOk P w K mg base CX0 1 f fd ["script"] (spState K) := by
  refine F.ok sc__law_state (fun vs H Q E h => ?_) (fun cdv A outer st H vs Q E hr h => ?_)
  · obtain ⟨G, a, ns, rfl, _⟩ := h
    rfl
  · obtain ⟨G, a, ns, rfl, gh, ha, k⟩ := h
    have nd := sc__law_state.nd
    refine ⟨_, (pss_cons (ps_setLc (i := 1) (own := [("cell", 2)]) rfl nd rfl rfl (sw_true rfl rfl rfl (by decide +kernel)) (pi_listK (K := K) rfl (pe_slice (sl_listK (K := K) rfl) (pv 0) po_none (po_some pe_int))) (blkOk_by (own := [("cell", 2)]) (N := ["script", "cells", "cell"]) (sc := defScope s__law_state) (by decide +kernel)) (fun _ _ _ _ _ => (pg_name (i := 2) nd rfl (Or.inl rfl))) (fun _ _ _ _ _ => pts_nil) (fun _ _ _ _ _ => (pe_callB call_abs (by rfl) T.b_abs (by decide +kernel) (pa_cons (pv 2) pa_nil))))
    (pss_cons (ps_if (pt_cmpR op_eq (pe_callB (call_len_seqK (K := K) rfl) (by rfl) T.b_len (by decide +kernel) (pa_cons (pv 1) pa_nil)) pe_int (nomark _))
    (pss_one (ps_set (i := 1) nd rfl (Or.inl rfl) (pe_lst (pa_cons pe_int pa_nil))))
    pss_nil)
    (pss_one (ps_ret (pe_lst (pa_cons pe_int (pa_cons (pv 1) pa_nil))))))), ?_⟩
    refine ⟨_, rfl, _, rfl, a, _, rfl, ha, fun S1 nS1 => ?_⟩
    rw [show ((63 : Int)) = ((63 : Nat) : Int) from rfl, cut_to]
    generalize e1 : upd H S1 _ = H1
    obtain ⟨s1, f1, k1, g1, z1⟩ := own_of (Stp.refl (O := O0) gh) nS1 e1
    rw [← List.map_take] at f1
    have hms : (ns.take 63).length ≤ 63 := by rw [List.length_take]; omega
    generalize ns.take 63 = ms at f1 hms
    refine ⟨S1, rfl, ⟨_, SqL.of f1⟩, fun D1 nD1 => ?_⟩
    obtain ⟨s2, f2, k2, g2, z2⟩ := own_of (o := .lst []) s1 nD1 rfl
    refine lc_list (K := K) (a := S1) (xs := ms.map V.int) (fun i H3 => Stp O0 G H G H3 ∧ H3 S1 = some (rowI ms) ∧ ∃ acc, H3 D1 = some (rowI acc) ∧ acc.length ≤ i ∧ ∀ x ∈ acc, 0 ≤ x)
      ⟨s2, k2 _ _ f1, [], f2, Nat.le_refl _, fun x hx => by cases hx⟩ (fun i H3 _ ⟨_, q, _⟩ => SqL.of q) ?_ ?_
    · rintro i y H3 hi ⟨s3, q3, acc, f3, l3, p3⟩
      obtain ⟨n, hn, rfl⟩ : ∃ n, ms[i]? = some n ∧ y = V.int n := by
        rw [List.getElem?_map] at hi
        cases e : ms[i]? with
        | none => rw [e] at hi; cases hi
        | some z => rw [e] at hi; exact ⟨z, rfl, (Option.some.inj hi).symm⟩
      have hi63 := (List.getElem?_eq_some_iff.mp hn).1
      refine ⟨rfl, g_yes ⟨_, rfl, _, rfl, acc.map V.int, f3, by rw [List.length_map, sizeLine_eq]; omega, ?_⟩⟩
      generalize e4 : upd H3 D1 _ = H4
      obtain ⟨s4, f4, k4⟩ := wr_of s3 f3 g2 (.inr z2) e4
      refine ⟨s4, k4 _ _ (ne_of_none f1 nD1) q3, acc ++ [if n < 0 then -n else n], by rw [f4]; show _ = some (HO.lst ((acc ++ [_]).map V.int)); rw [List.map_append]; rfl, by rw [List.length_append]; exact Nat.succ_le_succ l3, fun x hx => ?_⟩
      rcases List.mem_append.mp hx with e | e
      · exact p3 x e
      · have e := List.mem_singleton.mp e
        rw [e]
        split <;> omega
    · rintro H3 ⟨s3, q3, acc, f3, l3, p3⟩
      refine ⟨_, rfl, D1, _, rfl, .inl (SqL.of f3), rfl, _, rfl, ?_⟩
      rw [List.length_map]
      refine if_int (fun e => ?_) (fun e => ?_)
      · refine ⟨(by show 1 ≤ sizeLine; decide), fun C1 nC1 => ?_⟩
        generalize e4 : upd H3 C1 _ = H4
        obtain ⟨s4, f4, k4, g4, z4⟩ := own_of s3 nC1 e4
        refine ⟨_, rfl, (by show 2 ≤ sizeLine; decide), fun S2 nS2 => ?_⟩
        generalize e5 : upd H4 S2 _ = H5
        obtain ⟨s5, f5, k5, g5, z5⟩ := own_of s4 nS2 e5
        exact k S2 C1 H5 s5 ⟨⟨0, [0], f5, k5 _ _ f4, Int.le_refl _, by decide, fun x hx => by rw [List.mem_singleton.mp hx]; exact Int.le_refl _⟩, g5, g4, (ne_of_none f4 nS2).symm⟩ z5 z4
      · refine ⟨_, rfl, (by show 2 ≤ sizeLine; decide), fun S2 nS2 => ?_⟩
        generalize e5 : upd H3 S2 _ = H5
        obtain ⟨s5, f5, k5, g5, z5⟩ := own_of s3 nS2 e5
        exact k S2 D1 H5 s5 ⟨⟨0, acc, f5, k5 _ _ f3, Int.le_refl _, by omega, p3⟩, g5, g2, (ne_of_none f3 nS2).symm⟩ z5 z2
def spTake : Sp := fun vs H Q _ => ∃ (G : Hp) (s c : Addr) (m : Int), vs = [.ref s, .int m] ∧ Same G H ∧ StAt G H s c ∧ 0 < m ∧ m < 1073741824 ∧
  ∀ r H', 0 ≤ r → r < m → Stp (fun b => b = s ∨ b = c) G H G H' → StAt G H' s c → Q (.int r) H'
abbrev s__law_take : Stmt := top 5
theorem sc__law_take : FnScope ["state", "most", "cells", "at", "cell", "mixed"] ["state", "most"] (defScope s__law_take) := ⟨rfl, rfl, rfl, by decide +kernel, rfl, by decide +kernel, by decide +kernel⟩
theorem ok_take {f : Addr} {fd : FuncData} (F : Fun K "_law_take" "_law_take" s__law_take f fd) (T : Txt K mg C tS) : FnOk P w K mg base CX0 1 f fd ["state", "most"] (spTake) := by
  refine F.ok sc__law_take (fun vs H Q E h => ?_) (fun cdv A outer st H vs Q E hr h => ?_)
  · obtain ⟨G, s, c, m, rfl, _⟩ := h
    rfl
  · obtain ⟨G, s, c, m, rfl, gh, S, m0, m1, k⟩ := h
    have nd := sc__law_take.nd
    refine ⟨_, (pss_cons (ps_set (i := 2) nd rfl (Or.inl rfl) (pe_ix (ix_listK (K := K) rfl) (pv 0) pe_int (fun _ _ => rfl)))
    (pss_cons (ps_set (i := 3) nd rfl (Or.inl rfl) (pe_op op_mod (pe_ix (ix_listK (K := K) rfl) (pv 0) pe_int (fun _ _ => rfl)) (pe_callB (call_len_seqK (K := K) rfl) (by rfl) T.b_len (by decide +kernel) (pa_cons (pv 2) pa_nil))))
    (pss_cons (ps_set (i := 4) nd rfl (Or.inl rfl) (pe_ix (ix_listK (K := K) rfl) (pv 2) (pv 3) (fun _ _ => rfl)))
    (pss_cons (ps_if (pt_cmpR op_ge (pv 4) pe_int (nomark _))
    (pss_cons (ps_asg (pe_op op_fdiv (pv 4) (pv 1)) (pg_sub (pv 2) (pv 3) set_list))
    (pss_one (ps_ret (pe_op op_mod (pv 4) (pv 1)))))
    pss_nil)
    (pss_cons (ps_asg (pe_op op_add (pe_ix (ix_listK (K := K) rfl) (pv 0) pe_int (fun _ _ => rfl)) pe_int) (pg_sub (pv 0) pe_int set_list))
    (pss_cons (ps_set (i := 5) nd rfl (Or.inl rfl) (pe_op op_mod (pe_callTy call_int1 (by rfl) T.b_int (by decide +kernel) (pa_cons (pe_op op_add (pe_op op_mul (pv 4) pe_int) (pe_op op_mul (pe_ix (ix_listK (K := K) rfl) (pv 0) pe_int (fun _ _ => rfl)) pe_int)) pa_nil)) pe_int))
    (pss_cons (ps_set (i := 5) nd rfl (Or.inl rfl) (pe_op op_mod (pe_callTy call_int1 (by rfl) T.b_int (by decide +kernel) (pa_cons (pe_op op_add (pe_op op_mul (pv 5) pe_int) (pe_op op_mul (pe_ix (ix_listK (K := K) rfl) (pv 0) pe_int (fun _ _ => rfl)) pe_int)) pa_nil)) pe_int))
    (pss_one (ps_ret (pe_op op_mod (pe_op op_fdiv (pv 5) pe_int) (pv 1))))))))))), ?_⟩
    obtain ⟨n, cells, h1, h2, n0, cl, cp⟩ := id S.ex
    have s0 : Stp (fun b => b = s ∨ b = c) G H G H := Stp.refl gh
    have lc : (0 : Int) < ((cells.map V.int).length : Int) := by rw [List.length_map]; omega
    have r0 := Int.emod_nonneg n (Int.ne_of_gt lc)
    have r1 := Int.emod_lt_of_pos n lc
    obtain ⟨j, ej⟩ : ∃ j : Nat, n % ((cells.map V.int).length : Int) = (j : Int) := ⟨(n % ((cells.map V.int).length : Int)).toNat, by omega⟩
    have hj : j < cells.length := by rw [List.length_map] at r1 ej; omega
    have hcell : (cells.map V.int)[j]? = some (.int cells[j]) := by rw [List.getElem?_map, List.getElem?_eq_getElem hj]; rfl
    have c0 := cp _ (List.getElem_mem hj)
    refine ⟨_, rfl, s, _, _, _, rfl, rfl, SqL.of h1, at_of (j := 1) rfl rfl, ?_⟩
    refine ⟨_, rfl, s, _, _, _, rfl, rfl, SqL.of h1, at_of (j := 0) rfl rfl, _, rfl, c, _, rfl, .inl (SqL.of h2), _, _, rfl, rfl, lc, ?_⟩
    refine ⟨_, rfl, _, rfl, c, _, _, _, rfl, rfl, SqL.of h2, at_of ej hcell, ?_⟩
    refine ⟨_, rfl, _, _, rfl, rfl, _, rfl, if_dec (fun b => ?_) (fun b => ?_)⟩
    · refine ⟨_, rfl, _, rfl, _, _, rfl, rfl, ⟨m0, m1⟩, _, rfl, _, rfl, c, _, _, j, rfl, rfl, h2, ?_, ?_⟩
      · rw [ej]
        unfold ixN
        rw [if_pos (by omega), if_pos (by rw [List.length_map]; omega), Int.toNat_natCast]
      generalize e1 : upd H c _ = H1
      obtain ⟨s1, f1, k1⟩ := wr_of s0 h2 S.gc (.inl (.inr rfl)) e1
      refine ⟨_, rfl, _, rfl, _, _, rfl, rfl, m0, ?_⟩
      refine k _ H1 (Int.emod_nonneg _ (by omega)) (Int.emod_lt_of_pos _ m0) s1 ⟨⟨n, cells.set j (cells[j] / m), k1 _ _ S.ne h1, by rw [f1]; show _ = some (HO.lst ((cells.set j _).map V.int)); rw [List.map_set], n0, by rw [List.length_set]; exact cl, fun x hx => ?_⟩, S.gs, S.gc, S.ne⟩
      rcases List.mem_or_eq_of_mem_set hx with e | e
      · exact cp x e
      · rw [e]
        exact Int.ediv_nonneg c0 (by omega)
    · refine ⟨_, rfl, s, _, _, _, rfl, rfl, SqL.of h1, at_of (j := 0) rfl rfl, _, _, rfl, rfl, _, rfl, s, _, _, 0, rfl, rfl, h1, rfl, ?_⟩
      generalize e1 : upd H s _ = H1
      obtain ⟨s1, f1, k1⟩ := wr_of s0 h1 S.gs (.inl (.inl rfl)) e1
      have f1' : H1 s = some (.lst [.int (n + 1), .ref c]) := f1
      refine ⟨_, rfl, _, _, rfl, rfl, .inr ⟨by decide, by decide⟩, _, rfl, s, _, _, _, rfl, rfl, SqL.of f1', at_of (j := 0) rfl rfl, _, _, rfl, rfl, .inr ⟨by decide, by decide⟩, _, _, rfl, rfl, .inl ⟨_, rfl, ?_⟩⟩
      refine ⟨_, _, rfl, rfl, (by show (0 : Int) < 2147483647; decide), ?_⟩
      refine ⟨_, rfl, _, _, rfl, rfl, .inr ⟨by decide, by decide⟩, _, rfl, s, _, _, _, rfl, rfl, SqL.of f1', at_of (j := 0) rfl rfl, _, _, rfl, rfl, .inr ⟨by decide, by decide⟩, _, _, rfl, rfl, .inl ⟨_, rfl, ?_⟩⟩
      refine ⟨_, _, rfl, rfl, (by show (0 : Int) < 1000000007; decide), ?_⟩
      refine ⟨_, rfl, _, _, rfl, rfl, ⟨by decide, by decide⟩, _, rfl, _, _, rfl, rfl, m0, ?_⟩
      exact k _ H1 (Int.emod_nonneg _ (by omega)) (Int.emod_lt_of_pos _ m0) s1 ⟨⟨n + 1, cells, f1', k1 _ _ S.ne.symm h2, by omega, cl, cp⟩, S.gs, S.gc, S.ne⟩
end
end K51

/-! K51J: the law's own crash. -/
namespace K51
open PySem PySem.Spec PyProof.Rows L2 Y
def spLCr : Sp := fun vs H Q _ => ∃ (G : Hp) (sd wa ra : Addr) (kvs : List (Key × V)) (sec wai : List (Int × Sec)) (rows : List (Int × Int)), vs = [.ref sd, .ref wa, .ref ra] ∧ Same G H ∧ H sd = some (.dK kvs) ∧ DRel (rL rI) G kvs sec ∧ G sd = none ∧ LstAt rSec G H wa wai ∧ LstAt (rP rI rI) G H ra rows ∧
  (sec.map (·.1)).Nodup ∧ sec.length + wai.length ≤ 60 ∧ rows.length ≤ 60 ∧ (∀ x ∈ sec, x.2.length = 16) ∧ (∀ x ∈ wai, x.2.length = 16) ∧
  ∀ kvs' G' H', Stp (fun b => b = sd) G H G' H' → H' sd = some (.dK kvs') → DRel (rL rI) G' kvs' (crashed sec wai rows) → G' sd = none → Q .non H'
structure LInv (G H : Hp) (sd wa ra N1 : Addr) (ws rvs : List V) (sec wai : List (Int × Sec)) (rows : List (Int × Int)) (ns : List Int) (i : Nat) (H5 : Hp) : Prop where
  ex : ∃ G5 kvs5, Stp (fun b => b = sd) G H G5 H5 ∧ H5 sd = some (.dK kvs5) ∧ DRel (rL rI) G5 kvs5 (((rows.zip ns).take i).foldl (torn wai) sec) ∧ G5 sd = none ∧ G5 N1 = none
  wa : H5 wa = some (.lst ws)
  ro : H5 ra = some (.lst rvs)
  nu : H5 N1 = some (rowI ns)
  le : (((rows.zip ns).take i).foldl (torn wai) sec).length ≤ sec.length + i
  l6 : ∀ x ∈ ((rows.zip ns).take i).foldl (torn wai) sec, x.2.length = 16
section
variable {P : Program} {w : World} {K : PySem.W.Frag} {mg : Str → Option Value} {base : Heap} {C : Addr} {tS : Tok}
abbrev s__law_crashed : Stmt := top 6
theorem sc__law_crashed : FnScope ["sectors", "waiting", "rows", "numbers", "number", "content", "k", "writes", "which", "size"] ["sectors", "waiting", "rows"] (defScope s__law_crashed) := ⟨rfl, rfl, rfl, by decide +kernel, rfl, by decide +kernel, by decide +kernel⟩
theorem ok_lcr {f : Addr} {fd : FuncData} (F : Fun K "_law_crashed" "_law_crashed" s__law_crashed f fd) (T : Txt K mg C tS) : FnOk P w K mg base CX0 1 f fd ["sectors", "waiting", "rows"] spLCr := by
  refine F.ok sc__law_crashed (fun vs H Q E h => ?_) (fun cdv A outer st H vs Q E hr h => ?_)
  · obtain ⟨G, sd, wa, ra, kvs, sec0, wai, rows, rfl, _⟩ := h
    rfl
  · obtain ⟨G, sd, wa, ra, kvs, sec0, wai, rows, rfl, gh, h2, r2, gs, ⟨ws, h3, r3⟩, ⟨rvs, h4, r4⟩, snd, ssz, rsz, ls, lw, k⟩ := h
    have nd := sc__law_crashed.nd
    have hu := hu_of hr
    refine ⟨_, (pss_cons (ps_set (i := 3) nd rfl (Or.inr rfl) (pe_callB (cr_sortedSetK (w := w) rfl rfl) (by rfl) T.b_sorted (by decide +kernel) (pa_cons (pe_callTy (cr_setIK (K := K) (w := w) rfl rfl rfl) (by rfl) T.b_set (by decide +kernel) (pa_cons (pe_lc (own := [("number", 4), ("content", 5)]) rfl nd (pi_listK (K := K) rfl (pv 1)) (blkOk_by (own := [("number", 4), ("content", 5)]) (N := ["sectors", "waiting", "rows", "numbers", "number", "content", "k", "writes", "which", "size"]) (sc := defScope s__law_crashed) (by decide +kernel)) (fun _ _ _ _ _ => (pg_tupK (K := K) (n := 2) rfl rfl (pgs_cons (pg_name (i := 4) nd rfl (Or.inl rfl)) (pgs_cons (pg_name (i := 5) nd rfl (Or.inl rfl)) pgs_nil)))) (fun _ _ _ _ _ => pts_nil) (fun _ _ _ _ _ => (pv 4))) pa_nil)) pa_nil)))
    (pss_one (ps_for PassesOwn.never rfl (pi_range1 rfl T.b_range (pa_cons (pe_callB (call_min2 rfl) (by rfl) T.b_min (by decide +kernel) (pa_cons (pe_callB (call_len_seqK (K := K) rfl) (by rfl) T.b_len (by decide +kernel) (pa_cons (pv 2) pa_nil)) (pa_cons (pe_callB (call_len_seqK (K := K) rfl) (by rfl) T.b_len (by decide +kernel) (pa_cons (pv 3) pa_nil)) pa_nil))) pa_nil)) (pg_name (i := 6) nd rfl (Or.inr rfl))
    (pss_cons (ps_asg (pe_ix (ix_listK (K := K) rfl) (pv 2) (pv 6) (fun _ _ => rfl)) (pg_tupK (K := K) (n := 2) rfl rfl (pgs_cons (pg_name (i := 8) nd rfl (Or.inl rfl)) (pgs_cons (pg_name (i := 9) nd rfl (Or.inl rfl)) pgs_nil))))
    (pss_cons (ps_setLc (i := 7) (own := [("number", 4), ("content", 5)]) rfl nd rfl rfl (sw_true rfl rfl rfl (by decide +kernel)) (pi_listK (K := K) rfl (pv 1)) (blkOk_by (own := [("number", 4), ("content", 5)]) (N := ["sectors", "waiting", "rows", "numbers", "number", "content", "k", "writes", "which", "size"]) (sc := defScope s__law_crashed) (by decide +kernel)) (fun _ _ _ _ _ => (pg_tupK (K := K) (n := 2) rfl rfl (pgs_cons (pg_name (i := 4) nd rfl (Or.inl rfl)) (pgs_cons (pg_name (i := 5) nd rfl (Or.inl rfl)) pgs_nil)))) (fun _ _ _ _ _ => (pts_one (pt_cmpR op_eq (pv 4) (pe_ix (ix_listK (K := K) rfl) (pv 3) (pv 6) (fun _ _ => rfl)) (nomark _)))) (fun _ _ _ _ _ => (pv 5)))
    (pss_one (ps_if (pt_chain op_le op_lt pe_int (pv 8) (pe_callB (call_len_seqK (K := K) rfl) (by rfl) T.b_len (by decide +kernel) (pa_cons (pv 7) pa_nil)))
    (pss_cons (ps_set (i := 9) nd rfl (Or.inl rfl) (pe_callB (call_min2 rfl) (by rfl) T.b_min (by decide +kernel) (pa_cons pe_int (pa_cons (pe_callB (call_max2 rfl) (by rfl) T.b_max (by decide +kernel) (pa_cons pe_int (pa_cons (pv 9) pa_nil))) pa_nil))))
    (pss_one (ps_dput hu (pv 0) (pe_ix (ix_listK (K := K) rfl) (pv 3) (pv 6) (fun _ _ => rfl)) (pe_op op_cat (pe_slice (sl_listK (K := K) rfl) (pe_ix (ix_listK (K := K) rfl) (pv 7) (pv 8) (fun _ _ => rfl)) po_none (po_some (pv 9))) (pe_slice (sl_listK (K := K) rfl) (pe_dget2 hu (pv 0) (pe_ix (ix_listK (K := K) rfl) (pv 3) (pv 6) (fun _ _ => rfl)) (pe_op op_rep (pe_lst (pa_cons pe_int pa_nil)) pe_int) ⟨rfl, rfl, rfl, rfl⟩) (po_some (pv 9)) po_none)) rfl)))
    pss_nil))))))), ?_⟩
    have was : wa ≠ sd := ne_of h3 h2 fun z => nomatch z
    have ras : ra ≠ sd := ne_of h4 h2 fun z => nomatch z
    have s0 : Stp (fun b => b = sd) G H G H := Stp.refl gh
    refine ⟨_, rfl, wa, rfl, ⟨_, SqL.of h3⟩, fun L1 nL1 => ?_⟩
    obtain ⟨s1, f1, k1, g1, z1⟩ := own_of (o := .lst []) s0 nL1 rfl
    refine lc_list (K := K) (a := wa) (xs := ws) (fun i H2 => Stp (fun b => b = sd) G H G H2 ∧ Same H H2 ∧ H2 L1 = some (.lst (((wai.take i).map (·.1)).map V.int))) ⟨s1, k1, f1⟩ (fun i H2 _ ⟨_, q, _⟩ => SqL.of (q _ _ h3)) ?_ ?_
    · rintro i y H2 hi ⟨s2, k2, f2⟩
      obtain ⟨x, hx, t, u, c0, rfl, ht, hu', hc⟩ := pd_get r3 hi
      cases hu'
      refine g_pair (k2 _ _ (gh _ _ ht)) ⟨rfl, g_yes ⟨_, rfl, _, f2, ?_, ?_⟩⟩
      · rw [List.length_map, List.length_map, List.length_take, sizeLine_eq]
        omega
      · generalize e2 : upd H2 L1 _ = H3
        obtain ⟨s3, f3, k3⟩ := wr_of s2 f2 g1 (.inr z1) e2
        refine ⟨s3, fun b o q => k3 b o (fresh_ne (ne_none q) z1) (k2 b o q), ?_⟩
        rw [f3, List.take_add_one, hx]
        simp
    · rintro H2 ⟨s2, k2, f2⟩
      rw [pd_len r3, List.take_of_length_le (Nat.le_refl _)] at f2
      refine ⟨L1, _, rfl, SqL.of f2, ?_, fun S1 c nS1 hc => ?_⟩
      · rw [List.length_map]
        omega
      generalize e3 : upd H2 S1 _ = H3
      obtain ⟨s3, f3, k3, g3, z3⟩ := own_of s2 nS1 e3
      refine ⟨S1, _, c, rfl, f3, ?_, fun ns N1 asc hmem hlen nN1 => ?_⟩
      · rw [List.length_map] at hc
        omega
      have ens : ns = nums (wai.map (·.1)) := asc_same asc (asc_nums _) fun q => by
        rw [hmem q, mem_nums]
        exact decide_eq_true_iff
      generalize e4 : upd H3 N1 _ = H4
      obtain ⟨s4, f4, k4, g4, z4⟩ := own_of s3 nN1 e4
      have k04 : Same H H4 := (k2.trans k3).trans k4
      have nsl : ns.length ≤ wai.length := by rw [ens]; exact Nat.le_trans (le_nums_len _) (by rw [List.length_map]; exact Nat.le_refl _)
      have hmin : ((if (((ns.map V.int).length : Nat) : Int) < (rvs.length : Nat) then ((ns.map V.int).length : Int) else (rvs.length : Int))).toNat = min rvs.length ns.length := by
        rw [List.length_map]
        split <;> omega
      refine ⟨_, rfl, ra, _, rfl, .inl (SqL.of (k04 _ _ h4)), _, rfl, N1, _, rfl, .inl (SqL.of f4), _, _, rfl, _, rfl, ?_, ?_, ?_⟩
      · split <;> omega
      · have := pd_len r4
        rw [List.length_map]
        split <;> omega
      rw [hmin]
      refine for_range (lo := 0) (n := min rvs.length ns.length)
        (fun i σ H5 => (∃ x4 x5 x6 x7 x8 x9, σ = [some (.ref sd), some (.ref wa), some (.ref ra), some (.ref N1), x4, x5, x6, x7, x8, x9]) ∧ LInv G H sd wa ra N1 ws rvs sec0 wai rows ns i H5)
        ⟨⟨_, _, _, _, _, _, rfl⟩, ⟨G, kvs, s4, k04 _ _ h2, r2, gs, g4⟩, k04 _ _ h3, k04 _ _ h4, f4, Nat.le_refl _, ls⟩ ?_ ?_
      · rintro i σ H5 hi ⟨⟨x4, x5, x6, x7, x8, x9, rfl⟩, I5⟩
        obtain ⟨⟨G5, kvs5, s5, p2, p7, gs5, p6⟩, p3, p4, p5, p9, p10⟩ := I5
        have hir : i < rvs.length := by omega
        have hil : i < ns.length := by omega
        obtain ⟨⟨wh, sz⟩, hrow, t0, u0, v0, erow, ht0, hu0, hv0⟩ := pd_get r4 (List.getElem?_eq_getElem hir)
        cases hu0
        cases hv0
        have hrv : rvs[i]? = some (.ref t0) := by rw [List.getElem?_eq_getElem hir, erow]
        obtain ⟨n, hn⟩ : ∃ n, ns[i]? = some n := ⟨_, List.getElem?_eq_getElem hil⟩
        have hnv : (ns.map V.int)[i]? = some (.int n) := by rw [List.getElem?_map, hn]; rfl
        have hz : (rows.zip ns)[i]? = some ((wh, sz), n) := by
          rw [List.getElem?_zip_eq_some]
          exact ⟨hrow, hn⟩
        have hfold : ((rows.zip ns).take (i + 1)).foldl (torn wai) sec0 = torn wai (((rows.zip ns).take i).foldl (torn wai) sec0) ((wh, sz), n) := by
          rw [List.take_add_one, hz, List.foldl_append]
          rfl
        generalize hsec : ((rows.zip ns).take i).foldl (torn wai) sec0 = sec at p7 p9 p10 hfold
        refine ⟨_, rfl, _, rfl, ra, _, _, _, rfl, rfl, SqL.of p4, at_of (j := i) (Int.zero_add _) hrv, ?_⟩
        refine g_pair (s5.gh _ _ (s5.gg _ _ ht0)) ?_
        refine ⟨_, rfl, wa, rfl, ⟨_, SqL.of p3⟩, fun Lw nLw => ?_⟩
        obtain ⟨s7, f7, k57, g7, z7⟩ := own_of (o := .lst []) s5 nLw rfl
        refine lc_list (K := K) (a := wa) (xs := ws) (fun j H8 => Stp (fun b => b = sd) G H G5 H8 ∧ Same H5 H8 ∧ ∃ acc, H8 Lw = some (.lst acc) ∧ Paired (rL rI G5) acc (ofN (wai.take j) n) ∧ acc.length ≤ j)
          ⟨s7, k57, [], f7, .nil, Nat.le_refl _⟩ (fun j H8 _ ⟨_, q, _⟩ => SqL.of (q _ _ p3)) ?_ ?_
        · rintro j y H8 hj ⟨s8, k8, acc, f8, r8, l8⟩
          obtain ⟨x, hx, t, u, c0, rfl, ht, hu', hc⟩ := pd_get r3 hj
          cases hu'
          have hjl : j < wai.length := (List.getElem?_eq_some_iff.mp hx).1
          refine g_pair (s8.gh _ _ (s5.gg _ _ ht)) ⟨rfl, _, rfl, _, rfl, _, rfl, N1, _, _, _, rfl, rfl, SqL.of (k8 _ _ p5), at_of (j := i) (Int.zero_add _) hnv, rfl, _, rfl, if_int (fun e => ?_) (fun e => ?_)⟩
          · refine ⟨_, rfl, acc, f8, by rw [sizeLine_eq]; omega, ?_⟩
            generalize e9 : upd H8 Lw _ = H9
            obtain ⟨s9, f9, k9⟩ := wr_of s8 f8 g7 (.inr z7) e9
            refine ⟨s9, fun b o q => k9 b o (fresh_ne (ne_none q) nLw) (k8 b o q), _, f9, ?_, by rw [List.length_append]; exact Nat.succ_le_succ l8⟩
            rw [ofN_more hx, if_pos e]
            exact pd_snoc r8 (mSec _ _ _ _ s5.gg hc)
          · refine ⟨s8, k8, acc, f8, ?_, Nat.le_succ_of_le l8⟩
            rw [ofN_more hx, if_neg e]
            exact r8
        · rintro H8 ⟨s8, k8, acc, f8, r8, l8⟩
          rw [pd_len r3, List.take_of_length_le (Nat.le_refl _)] at r8
          have el := pd_len r8
          have no_put : ¬ (0 ≤ wh ∧ wh < ((ofN wai n).length : Int)) → LInv G H sd wa ra N1 ws rvs sec0 wai rows ns (i + 1) H8 := fun hno => by
            have ht : torn wai sec ((wh, sz), n) = sec := if_neg hno
            have e9 : ((rows.zip ns).take (i + 1)).foldl (torn wai) sec0 = sec := hfold.trans ht
            exact ⟨⟨G5, kvs5, s8, k8 _ _ p2, by rw [e9]; exact p7, gs5, p6⟩, k8 _ _ p3, k8 _ _ p4, k8 _ _ p5, by rw [e9]; exact Nat.le_succ_of_le p9, by rw [e9]; exact p10⟩
          refine ⟨_, rfl, _, _, rfl, rfl, _, rfl, if_dec (fun b1 => ?_) (fun b1 => ⟨_, rfl, ⟨_, _, _, _, _, _, rfl⟩, no_put fun z => b1 z.1⟩)⟩
          refine ⟨_, rfl, Lw, _, rfl, .inl (SqL.of f8), _, _, rfl, rfl, _, rfl, if_dec (fun b2 => ?_) (fun b2 => ⟨⟨_, _, _, _, _, _, rfl⟩, no_put fun z => b2 (by rw [el]; exact z.2)⟩)⟩
          rw [el] at b2
          refine ⟨_, rfl, _, _, rfl, _, _, rfl, ?_⟩
          rw [clip_eq]
          obtain ⟨j, ej⟩ : ∃ j : Nat, wh = (j : Int) := ⟨wh.toNat, by omega⟩
          have hjl : j < (ofN wai n).length := by omega
          have hj16 : (ofN wai n)[j].length = 16 := ofN_len lw _ (List.getElem_mem hjl)
          have hw16 := whole_len (d := ⟨sec, [], none, [], false⟩) p10 n
          obtain ⟨vj, hvj, rvj⟩ := pd_get' r8 (List.getElem?_eq_getElem hjl)
          obtain ⟨cj, rfl, hcj⟩ := rLI rvj
          refine ⟨_, rfl, _, rfl, Lw, _, _, _, rfl, rfl, SqL.of f8, at_of (j := j) ej hvj, _, rfl, _, rfl, cj, _, rfl, SqL.of (s8.gh _ _ hcj), fun A1 nA1 => ?_⟩
          rw [cut_to]
          generalize e9 : upd H8 A1 _ = H9
          obtain ⟨s9, f9, k9, g9, z9⟩ := own_of s8 nA1 e9
          -- the sector as it stands
          refine ⟨_, rfl, sd, rfl, .inl ⟨kvs5, .inl (k9 _ _ (k8 _ _ p2))⟩, _, rfl, _, rfl, N1, _, _, _, rfl, rfl, SqL.of (k9 _ _ (k8 _ _ p5)), at_of (j := i) (Int.zero_add _) hnv, (by show 1 ≤ sizeLine; decide), fun q0 n0 => ?_⟩
          generalize e10 : upd H9 q0 _ = H10
          obtain ⟨s10, f10, k10, g10, z10⟩ := own_of s9 n0 e10
          refine ⟨q0, 16, _, rfl, rfl, f10, by decide, by decide, (by show 1 * 16 ≤ sizeLine; decide), fun q1 n1 => ?_⟩
          generalize e11 : upd H10 q1 _ = H11
          obtain ⟨s11, f11, k11, g11, z11⟩ := own_of s10 n1 e11
          have keep : Same H5 H11 := fun b o q => k11 _ _ (k10 _ _ (k9 _ _ (k8 _ _ q)))
          have fA1 := k11 _ _ (k10 _ _ f9)
          have ⟨B1, hget, hB1⟩ : ∃ (B1 : Addr), (∃ o, DGet H11 sd (.int n) o ∧ o.getD (.ref q1) = .ref B1) ∧ H11 B1 = some (rowI (DS.whole ⟨sec, [], none, [], false⟩ n)) := by
            have q := DGet.k (k := Sum.inl n) (keep _ _ p2)
            cases e : look sec n with
            | none =>
              rw [p7.look_none e] at q
              refine ⟨q1, ⟨_, q, rfl⟩, ?_⟩
              show H11 q1 = some (rowI ((look sec n).getD blank))
              rw [e]
              exact f11
            | some x =>
              obtain ⟨v, hv, hx⟩ := p7.look_some e
              obtain ⟨a, rfl, ha⟩ := rLI hx
              rw [hv] at q
              refine ⟨a, ⟨_, q, rfl⟩, ?_⟩
              show H11 a = some (rowI ((look sec n).getD blank))
              rw [e]
              exact s11.gh _ _ ha
          obtain ⟨o, hget, eo⟩ := hget
          refine ⟨o, hget, ?_⟩
          rw [eo]
          refine ⟨_, rfl, _, rfl, B1, _, rfl, SqL.of hB1, fun A2 nA2 => ?_⟩
          rw [cut_from]
          generalize e12 : upd H11 A2 _ = H12
          obtain ⟨s12, f12, k12, g12, z12⟩ := own_of s11 nA2 e12
          refine ⟨A1, A2, _, _, rfl, rfl, k12 _ _ fA1, f12, ?_, fun A3 nA3 => ?_⟩
          · rw [List.length_take, List.length_drop, List.length_map, List.length_map, sizeLine_eq]
            omega
          generalize e13 : upd H12 A3 _ = H13
          obtain ⟨G13, s13, f13, gg13, k13, gk13⟩ := data_of s12 nA3 e13
          have keep2 : Same H5 H13 := fun b o q => k13 _ _ (k12 _ _ (keep _ _ q))
          refine ⟨_, rfl, _, rfl, _, rfl, N1, _, _, _, rfl, rfl, SqL.of (keep2 _ _ p5), at_of (j := i) (Int.zero_add _) hnv, sd, _, rfl, DPut.k (k := Sum.inl n) (keep2 _ _ p2) ?_, ?_⟩
          · have := pd_len p7
            rw [sizeLine_eq]
            omega
          · generalize e14 : upd H13 sd _ = H14
            have A3s : sd ≠ A3 := ne_of_none (k12 _ _ (keep _ _ p2)) nA3
            have N1A : N1 ≠ A3 := ne_of_none (k12 _ _ (keep _ _ p5)) nA3
            have gs13 : G13 sd = none := by rw [gk13 sd A3s]; exact gs5
            obtain ⟨s14, f14, k14⟩ := wr_of s13 (keep2 _ _ p2) gs13 (.inl rfl) e14
            have ht : torn wai sec ((wh, sz), n) = put sec n ((ofN wai n)[j].take (clip sz) ++ (DS.whole ⟨sec, [], none, [], false⟩ n).drop (clip sz)) := by
              unfold torn
              rw [if_pos ⟨b1, b2⟩]
              show put sec n (((ofN wai n).getD wh.toNat []).take (clip sz) ++ _) = _
              rw [ej, Int.toNat_natCast, List.getD_eq_getElem?_getD, List.getElem?_eq_getElem hjl]
              rfl
            have hl16 : ((ofN wai n)[j].take (clip sz) ++ (DS.whole ⟨sec, [], none, [], false⟩ n).drop (clip sz)).length = 16 := by
              have q3 := clip_le sz
              rw [List.length_append, List.length_take, List.length_drop, hj16, hw16]
              omega
            have hval : rL rI G13 (.ref A3) ((ofN wai n)[j].take (clip sz) ++ (DS.whole ⟨sec, [], none, [], false⟩ n).drop (clip sz)) := by
              refine rLI_of ?_
              rw [f13, List.map_append, List.map_take, List.map_drop]
            have hp := (p7.mono mSec gg13).put (k := n) hval
            refine ⟨⟨_, _, _, _, _, _, rfl⟩, ⟨G13, _, s14, f14, ?_, gs13, ?_⟩, k14 _ _ was (keep2 _ _ p3), k14 _ _ ras (keep2 _ _ p4), k14 _ _ (ne_of p5 p2 fun z => nomatch z) (keep2 _ _ p5), ?_, ?_⟩
            · rw [hfold, ht]
              exact hp
            · rw [gk13 N1 N1A]
              exact p6
            · rw [hfold, ht]
              exact Nat.le_trans (put_len _ _ _) (Nat.succ_le_succ p9)
            · rw [hfold, ht]
              intro x hx
              rcases put_mem hx with e | e
              · rw [e]
                exact hl16
              · exact p10 x e
      · rintro σ H5 ⟨⟨x4, x5, x6, x7, x8, x9, rfl⟩, I5⟩
        obtain ⟨⟨G5, kvs5, s5, p2, p7, gs5, p6⟩, p3, p4, p5, p9, p10⟩ := I5
        rw [pd_len r4, List.take_of_length_le (by rw [List.length_zip]; exact Nat.le_refl _)] at p7
        refine k kvs5 G5 H5 s5 p2 ?_ gs5
        unfold crashed
        rw [← ens]
        exact p7
end
end K51

/-! K51K: what stands between two turns of the law. -/
namespace K51
open PySem PySem.Spec PyProof.Rows L2 Y
/-- the law's world: the draws at s, c; the disk at p (ds, wl) is d; the law's own record is e: its dict at sd, its lists at wv, rv -/
structure LW (C : Addr) (G H : Hp) (s c p ds sd wl : Addr) (d e : DS) (wv rv : Addr) : Prop where
  gh : Same G H
  st : StAt G H s c
  dk : DiskAt C G H p ds wl d
  dc : ∃ kvs, H sd = some (.dK kvs) ∧ DRel (rL rI) G kvs e.sec
  gd : G sd = none
  n1 : s ≠ wl
  n2 : c ≠ wl
  n3 : sd ≠ ds
  wa : rL rSec G (.ref wv) e.wai
  ro : rL (rP rI rI) G (.ref rv) e.rows
def Own (s c p ds sd wl : Addr) : Addr → Prop := fun b => b = s ∨ b = c ∨ DOwn p ds wl b ∨ b = sd
section
variable {C : Addr} {G H G' H' : Hp} {s c p ds sd wl : Addr} {d e : DS} {wv rv : Addr}
theorem LW.sD (h : LW C G H s c p ds sd wl d e wv rv) : ∀ b, DOwn p ds wl b → b ≠ s ∧ b ≠ c ∧ b ≠ sd := by
  obtain ⟨n, cells, h1, h2, _⟩ := h.st.ex
  obtain ⟨dx, rl, h3, _⟩ := h.dk.ob
  obtain ⟨kvs, h4, _⟩ := h.dk.sec
  obtain ⟨ws, h5, _⟩ := h.dk.wai
  obtain ⟨kvs2, h6, _⟩ := h.dc
  rintro b (z | z | z)
  · subst z
    exact ⟨ne_of h3 h1 (fun z => nomatch z), ne_of h3 h2 (fun z => nomatch z), ne_of h3 h6 fun z => nomatch z⟩
  · subst z
    exact ⟨ne_of h4 h1 (fun z => nomatch z), ne_of h4 h2 (fun z => nomatch z), h.n3.symm⟩
  · subst z
    exact ⟨h.n1.symm, h.n2.symm, ne_of h5 h6 fun z => nomatch z⟩
theorem LW.sdn (h : LW C G H s c p ds sd wl d e wv rv) : sd ≠ s ∧ sd ≠ c := by
  obtain ⟨n, cells, h1, h2, _⟩ := h.st.ex
  obtain ⟨kvs2, h6, _⟩ := h.dc
  exact ⟨ne_of h6 h1 (fun z => nomatch z), ne_of h6 h2 fun z => nomatch z⟩
/-- what is new is apart -/
theorem LW.off (h : LW C G H s c p ds sd wl d e wv rv) {a : Addr} (n : H a = none) : ¬ Own s c p ds sd wl a := by
  obtain ⟨m, cells, h1, h2, _⟩ := h.st.ex
  obtain ⟨dx, rl, h3, _⟩ := h.dk.ob
  obtain ⟨kvs, h4, _⟩ := h.dk.sec
  obtain ⟨ws, h5, _⟩ := h.dk.wai
  obtain ⟨kvs2, h6, _⟩ := h.dc
  rintro (z | z | (z | z | z) | z) <;> (subst z; rw [n] at *; first | cases h1 | cases h2 | cases h3 | cases h4 | cases h5 | cases h6)
theorem LW.al {O : Addr → Prop} (h : LW C G H s c p ds sd wl d e wv rv) (t : Stp O G H G' H') (no : ∀ b, Own s c p ds sd wl b → ¬ O b) : LW C G' H' s c p ds sd wl d e wv rv := by
  obtain ⟨kvs2, h6, r6⟩ := h.dc
  exact ⟨t.gh, h.st.stp t (no _ (.inl rfl)) (no _ (.inr (.inl rfl))), h.dk.stp t fun b hb => no b (.inr (.inr (.inl hb))), ⟨kvs2, t.kp _ _ h6 (no _ (.inr (.inr (.inr rfl)))), r6.mono mSec t.gg⟩, t.nw _ (ne_none h6) h.gd, h.n1, h.n2, h.n3,
    mRow.l _ _ _ _ t.gg h.wa, (mI.p mI).l _ _ _ _ t.gg h.ro⟩
theorem LW.al0 (h : LW C G H s c p ds sd wl d e wv rv) (t : Stp O0 G H G' H') : LW C G' H' s c p ds sd wl d e wv rv := h.al t fun _ _ z => z
theorem LW.tk (h : LW C G H s c p ds sd wl d e wv rv) (t : Stp (fun b => b = s ∨ b = c) G H G' H') (st : StAt G' H' s c) : LW C G' H' s c p ds sd wl d e wv rv := by
  obtain ⟨kvs2, h6, r6⟩ := h.dc
  have q := h.sD
  have q2 := h.sdn
  exact ⟨t.gh, st, h.dk.stp t fun b hb z => z.elim (q b hb).1 (q b hb).2.1, ⟨kvs2, t.kp _ _ h6 fun z => z.elim q2.1 q2.2, r6.mono mSec t.gg⟩, t.nw _ (ne_none h6) h.gd, h.n1, h.n2, h.n3, mRow.l _ _ _ _ t.gg h.wa, (mI.p mI).l _ _ _ _ t.gg h.ro⟩
theorem LW.dsk (h : LW C G H s c p ds sd wl d e wv rv) {w' : Addr} {d' : DS} (t : Stp (DOwn p ds wl) G H G' H') (dk : DiskAt C G' H' p ds w' d') (n : w' = wl ∨ H w' = none) : LW C G' H' s c p ds sd w' d' e wv rv := by
  obtain ⟨m, cells, h1, h2, _⟩ := id h.st.ex
  obtain ⟨kvs2, h6, r6⟩ := h.dc
  have q := h.sD
  have e1 : s ≠ w' := by
    rcases n with z | z
    · rw [z]; exact h.n1
    · exact ne_of_none h1 z
  have e2 : c ≠ w' := by
    rcases n with z | z
    · rw [z]; exact h.n2
    · exact ne_of_none h2 z
  exact ⟨t.gh, h.st.stp t (fun z => (q _ z).1 rfl) (fun z => (q _ z).2.1 rfl), dk, ⟨kvs2, t.kp _ _ h6 fun z => (q _ z).2.2 rfl, r6.mono mSec t.gg⟩, t.nw _ (ne_none h6) h.gd, e1, e2, h.n3, mRow.l _ _ _ _ t.gg h.wa, (mI.p mI).l _ _ _ _ t.gg h.ro⟩
theorem LW.sec (h : LW C G H s c p ds sd wl d e wv rv) {kvs' : List (Key × V)} {es : List (Int × Sec)} (t : Stp (fun b => b = sd) G H G' H') (hd : H' sd = some (.dK kvs')) (r : DRel (rL rI) G' kvs' es) (g : G' sd = none) : LW C G' H' s c p ds sd wl d { e with sec := es } wv rv := by
  have q := h.sD
  have q2 := h.sdn
  exact ⟨t.gh, h.st.stp t (fun z => q2.1 z.symm) (fun z => q2.2 z.symm), h.dk.stp t fun b hb z => (q b hb).2.2 z, ⟨kvs', hd, r⟩, g, h.n1, h.n2, h.n3, mRow.l _ _ _ _ t.gg h.wa, (mI.p mI).l _ _ _ _ t.gg h.ro⟩
end
/-- the slots of the law at a turn's head -/
def sig (a s p sd wv rv : Addr) (e : DS) (f : V) (x9 x10 x11 x12 x13 x14 x15 x16 x17 x18 x19 x20 : Option V) : L2.St :=
  [some (.ref a), some (.ref s), some f, some (.ref p), some (.ref sd), some (.ref wv), some (lv e.left), some (.ref rv), some (.bl e.cut), x9, x10, x11, x12, x13, x14, x15, x16, x17, x18, x19, x20]
theorem DRel.merge {r : Rp Sec} {G : Hp} : ∀ {more : List (Key × V)} {xs : List (Int × Sec)} {kvs : List (Key × V)} {ds : List (Int × Sec)}, DRel r G more xs → DRel r G kvs ds → DRel r G (mergeK kvs more) (xs.foldl (fun s p => put s p.1 p.2) ds)
  | _, _, kvs, ds, .nil, h => h
  | (m :: ms), (x :: xs), kvs, ds, .cons q t, h => by
    have e : mergeK kvs (m :: ms) = mergeK (putK kvs (Sum.inl x.1) m.2) ms := by
      show mergeK (putK kvs m.1 m.2) ms = _
      rw [q.1]
    rw [e, List.foldl_cons]
    exact DRel.merge t (h.put q.2)
/-- nothing is left to be counted below 1 -/
def Lf (d : DS) : Prop := ∀ l, d.left = some l → d.cut = false → 1 ≤ l
/-- what stands at a turn's head -/
def Hd (C a s c p ds sd : Addr) (f : V) (n : Nat) (σ : L2.St) (H : Hp) : Prop := ∃ (G : Hp) (wl : Addr) (d : DS) (wv rv : Addr) (x9 x10 x11 x12 x13 x14 x15 x16 x17 x18 x19 x20 : Option V),
  σ = sig a s p sd wv rv d f x9 x10 x11 x12 x13 x14 x15 x16 x17 x18 x19 x20 ∧ LW C G H s c p ds sd wl d d wv rv ∧ Fit d ∧ Lf d ∧ d.sec.length + d.wai.length ≤ n ∧ d.rows.length ≤ 5
section
variable {P : Program} {w : World} {K : PySem.W.Frag} {mg : Str → Option Value} {base : Heap} {C : Addr} {tS : Tok}
/-- rows of sectors as the library's trees -/
theorem eRows : En (rL rSec) (fun xs => .list (xs.map fun x => .tuple [.int x.1, .list (x.2.map PyData.int)])) (fun xs => ∀ x ∈ xs, True ∧ ∀ y ∈ x.2, True) 3 := (eI.p eI.l).l
theorem okRows (xs : List (Int × Sec)) : ∀ x ∈ xs, True ∧ ∀ y ∈ x.2, True := fun _ _ => ⟨trivial, fun _ _ => trivial⟩
theorem told_16 {sec : List (Int × Sec)} (h : ∀ x ∈ sec, x.2.length = 16) : ∀ x ∈ told sec, x.2.length = 16 := fun x hx => by
  obtain ⟨n, _, e⟩ := List.mem_map.mp (List.mem_filter.mp hx).1
  rw [← e]
  exact whole_len (d := ⟨sec, [], none, [], false⟩) h n
theorem told_len (sec : List (Int × Sec)) : (told sec).length ≤ sec.length := by
  unfold told
  refine Nat.le_trans (List.length_filter_le _ _) ?_
  rw [List.length_map]
  refine Nat.le_trans (le_nums_len _) ?_
  rw [List.length_map]
  exact Nat.le_refl _
def spLaw (K : PySem.W.Frag) : Sp := fun vs H Q _ => ∃ (a : Addr) (ns : List Int), vs = [.ref a] ∧ SqL K H a (ns.map V.int) ∧ ∀ H', Q (.bl true) H'
abbrev s_law : Stmt := top 7
theorem sc_law : FnScope ["script", "state", "first", "disk", "sectors", "waiting", "left", "rows", "cut", "number", "content", "turn", "made", "one", "told", "kind", "many", "due", "k", "other", "row"] ["script"] (defScope s_law) := ⟨rfl, rfl, rfl, by decide +kernel, rfl, by decide +kernel, by decide +kernel⟩
theorem ok_law {f : Addr} {fd : FuncData} (F : Fun K "law" "law" s_law f fd) (T : Txt K mg C tS) (L__law_state : FnC P w K mg base "_law_state" 1 ["script"] (spState K)) (L__law_take : FnC P w K mg base "_law_take" 1 ["state", "most"] spTake)
    (L__law_crashed : FnC P w K mg base "_law_crashed" 1 ["sectors", "waiting", "rows"] spLCr) (L_c_Disk : CsC P w K mg base "Disk" C 1 ["self", "sectors"] (spInit C)) (L_Disk_cut_in : MtC P w K mg base C "cut_in" 1 ["self", "many", "rows"] (spCutIn C))
    (L_Disk_crash : MtC P w K mg base C "crash" 2 ["self", "rows"] (spCrash C)) (L_Disk_write : MtC P w K mg base C "write" 4 ["self", "number", "content"] (spWrite C)) (L_Disk_sync : MtC P w K mg base C "sync" 4 ["self"] (spSync C))
    (L_Disk_read : MtC P w K mg base C "read" 2 ["self", "number"] (spRead C)) (L_Disk_synced : MtC P w K mg base C "synced" 1 ["self"] (spSynced C)) : FnOk P w K mg base CX0 5 f fd ["script"] (spLaw K) := by
  refine F.ok sc_law (fun vs H Q E h => ?_) (fun cdv A outer st H vs Q E hr h => ?_)
  · obtain ⟨a, ns, rfl, _⟩ := h
    rfl
  · obtain ⟨a, ns, rfl, ha, k⟩ := h
    have nd := sc_law.nd
    have hu := hu_of hr
    refine ⟨_, (pss_cons (ps_set (i := 1) nd rfl (Or.inr rfl) (pe_fnc L__law_state (hr.mono (by decide)) rfl (pa_cons (pv 0) pa_nil)))
    (C8.pss_cut (ps_set (i := 2) nd rfl (Or.inl rfl) (pe_ifExp (pt_cmpR op_eq (pe_fnc L__law_take (hr.mono (by decide)) rfl (pa_cons (pv 1) (pa_cons pe_int pa_nil))) pe_int (nomark _)) (pe_lst (pa_cons (pe_tup (pa_cons pe_int (pa_cons (pe_op op_rep (pe_lst (pa_cons pe_int pa_nil)) pe_int) pa_nil))) pa_nil)) (pe_lst pa_nil)))
    (pss_cons (ps_asg (pe_tup (pa_cons (pe_mkc L_c_Disk (hr.mono (by decide)) rfl (pa_cons (pv 2) pa_nil)) (pa_cons (pe_callTy (call_dictP rfl) (by rfl) T.b_dict (by decide +kernel) (pa_cons (pe_lc (own := [("number", 9), ("content", 10)]) rfl nd (pi_listK (K := K) rfl (pv 2)) (blkOk_by (own := [("number", 9), ("content", 10)]) (N := ["script", "state", "first", "disk", "sectors", "waiting", "left", "rows", "cut", "number", "content", "turn", "made", "one", "told", "kind", "many", "due", "k", "other", "row"]) (sc := defScope s_law) (by decide +kernel)) (fun _ _ _ _ _ => (pg_tupK (K := K) (n := 2) rfl rfl (pgs_cons (pg_name (i := 9) nd rfl (Or.inl rfl)) (pgs_cons (pg_name (i := 10) nd rfl (Or.inl rfl)) pgs_nil)))) (fun _ _ _ _ _ => pts_nil) (fun _ _ _ _ _ => (pe_tup (pa_cons (pv 9) (pa_cons (pe_callTy (call_list_ofK (K := K) rfl) (by rfl) T.b_list (by decide +kernel) (pa_cons (pv 10) pa_nil)) pa_nil))))) pa_nil)) (pa_cons (pe_lst pa_nil) (pa_cons pe_non (pa_cons (pe_lst pa_nil) (pa_cons pe_bl pa_nil))))))) (pg_tupK (K := K) (n := 6) rfl rfl (pgs_cons (pg_name (i := 3) nd rfl (Or.inl rfl)) (pgs_cons (pg_name (i := 4) nd rfl (Or.inr rfl)) (pgs_cons (pg_name (i := 5) nd rfl (Or.inl rfl)) (pgs_cons (pg_name (i := 6) nd rfl (Or.inl rfl)) (pgs_cons (pg_name (i := 7) nd rfl (Or.inl rfl)) (pgs_cons (pg_name (i := 8) nd rfl (Or.inl rfl)) pgs_nil))))))))
    (pss_cons (ps_for PassesOwn.never rfl (pi_range1 rfl T.b_range (pa_cons (pe_op op_add pe_int (pe_fnc L__law_take (hr.mono (by decide)) rfl (pa_cons (pv 1) (pa_cons pe_int pa_nil)))) pa_nil)) (pg_name (i := 11) nd rfl (Or.inl rfl))
    (pss_cons (ps_par (i := 15) (j := 9) rfl nd rfl rfl (by decide) rfl rfl (pa_cons (pe_fnc L__law_take (hr.mono (by decide)) rfl (pa_cons (pv 1) (pa_cons pe_int pa_nil))) (pa_cons (pe_fnc L__law_take (hr.mono (by decide)) rfl (pa_cons (pv 1) (pa_cons pe_int pa_nil))) pa_nil)) rfl)
    (pss_cons (ps_setLc (i := 12) (own := [("k", 18)]) rfl nd rfl rfl (sw_true rfl rfl rfl (by decide +kernel)) (pi_range1 rfl T.b_range (pa_cons (pe_fnc L__law_take (hr.mono (by decide)) rfl (pa_cons (pv 1) (pa_cons pe_int pa_nil))) pa_nil)) (blkOk_by (own := [("k", 18)]) (N := ["script", "state", "first", "disk", "sectors", "waiting", "left", "rows", "cut", "number", "content", "turn", "made", "one", "told", "kind", "many", "due", "k", "other", "row"]) (sc := defScope s_law) (by decide +kernel)) (fun _ _ _ _ _ => (pg_name (i := 18) nd rfl (Or.inl rfl))) (fun _ _ _ _ _ => pts_nil) (fun _ _ _ _ _ => (pe_tup (pa_cons (pe_op op_sub (pe_fnc L__law_take (hr.mono (by decide)) rfl (pa_cons (pv 1) (pa_cons pe_int pa_nil))) pe_int) (pa_cons (pe_op op_sub (pe_fnc L__law_take (hr.mono (by decide)) rfl (pa_cons (pv 1) (pa_cons pe_int pa_nil))) pe_int) pa_nil)))))
    (C8.pss_cut (ps_if (pt_cmpR op_eq (pv 15) pe_int (nomark _))
    (pss_cons (ps_set (i := 16) nd rfl (Or.inl rfl) (pe_op op_add pe_int (pe_fnc L__law_take (hr.mono (by decide)) rfl (pa_cons (pv 1) (pa_cons pe_int pa_nil)))))
    (pss_cons (ps_expr (pe_mtc (pv 3) L_Disk_cut_in (hr.mono (by decide)) (pa_cons (pv 16) (pa_cons (pv 12) pa_nil))))
    (C8.pss_cut (ps_if (pt_not (pt_val (pv 8)))
    (pss_one (ps_par (i := 6) (j := 7) rfl nd rfl rfl (by decide) rfl rfl (pa_cons (pv 16) (pa_cons (pe_callTy (call_list_ofK (K := K) rfl) (by rfl) T.b_list (by decide +kernel) (pa_cons (pv 12) pa_nil)) pa_nil)) rfl))
    pss_nil)
    (pss_one (ps_expr (pe_bmK (K := K) rfl PySem.F.plainAttrs_list PySem.F.slot_list_append PySem.F.type_list_append mt_append (pv 12) (pa_cons (pe_tup (pa_cons pe_int (pa_cons pe_int pa_nil))) pa_nil)))))))
    (pss_one (ps_if (pt_cmpR op_eq (pv 15) pe_int (nomark _))
    (pss_cons (ps_expr (pe_mtc (pv 3) L_Disk_crash (hr.mono (by decide)) (pa_cons (pv 12) pa_nil)))
    (pss_cons (ps_expr (pe_fnc L__law_crashed (hr.mono (by decide)) rfl (pa_cons (pv 4) (pa_cons (pv 5) (pa_cons (pv 12) pa_nil)))))
    (pss_one (ps_set (i := 5) nd rfl (Or.inl rfl) (pe_lst pa_nil)))))
    (pss_cons (ps_set (i := 10) nd rfl (Or.inl rfl) (pe_op op_rep (pe_lst (pa_cons (pe_op op_add pe_int (pe_fnc L__law_take (hr.mono (by decide)) rfl (pa_cons (pv 1) (pa_cons pe_int pa_nil)))) pa_nil)) (pe_op op_add pe_int (pe_fnc L__law_take (hr.mono (by decide)) rfl (pa_cons (pv 1) (pa_cons pe_int pa_nil))))))
    (pss_cons (ps_set (i := 10) nd rfl (Or.inl rfl) (pe_op op_cat (pv 10) (pe_op op_rep (pe_lst (pa_cons (pe_fnc L__law_take (hr.mono (by decide)) rfl (pa_cons (pv 1) (pa_cons pe_int pa_nil))) pa_nil)) (pe_op op_sub pe_int (pe_callB (call_len_seqK (K := K) rfl) (by rfl) T.b_len (by decide +kernel) (pa_cons (pv 10) pa_nil))))))
    (C8.pss_cut (ps_if (PW.pt (pw_and (pt_cmp (pc_notN (pv 6))) (pw_and1 (pt_not (pt_val (pv 8))))))
    (pss_cons (ps_set (i := 6) nd rfl (Or.inl rfl) (pe_op op_sub (pv 6) pe_int))
    (pss_one (ps_if (pt_cmpR op_eq (pv 6) pe_int (nomark _))
    (pss_cons (ps_expr (pe_fnc L__law_crashed (hr.mono (by decide)) rfl (pa_cons (pv 4) (pa_cons (pv 5) (pa_cons (pv 7) pa_nil)))))
    (pss_one (ps_par (i := 5) (j := 8) rfl nd rfl rfl (by decide) rfl rfl (pa_cons (pe_lst pa_nil) (pa_cons pe_bl pa_nil)) rfl)))
    pss_nil)))
    pss_nil)
    (pss_one (ps_if (pt_cmpR op_lt (pv 15) pe_int (nomark _))
    (pss_cons (ps_expr (pe_mtc (pv 3) L_Disk_write (hr.mono (by decide)) (pa_cons (pv 9) (pa_cons (pv 10) pa_nil))))
    (pss_cons (ps_set (i := 5) nd rfl (Or.inl rfl) (pe_op op_cat (pv 5) (pe_ifExp (pt_not (pt_val (pv 8))) (pe_lst (pa_cons (pe_tup (pa_cons (pv 9) (pa_cons (pe_callTy (call_list_ofK (K := K) rfl) (by rfl) T.b_list (by decide +kernel) (pa_cons (pv 10) pa_nil)) pa_nil))) pa_nil)) (pe_lst pa_nil))))
    (pss_one (ps_asg pe_int (pg_sub (pv 10) pe_int set_list)))))
    (pss_cons (ps_expr (pe_mtc0 (pv 3) L_Disk_sync (hr.mono (by decide))))
    (pss_cons (ps_for PassesOwn.never rfl (pi_listK (K := K) rfl (pe_ifExp (pt_not (pt_val (pv 8))) (pv 5) (pe_lst pa_nil))) (pg_tupK (K := K) (n := 2) rfl rfl (pgs_cons (pg_name (i := 13) nd rfl (Or.inl rfl)) (pgs_cons (pg_name (i := 20) nd rfl (Or.inl rfl)) pgs_nil)))
    (pss_one (ps_dput hu (pv 4) (pv 13) (pv 20) rfl)))
    (pss_one (ps_set (i := 5) nd rfl (Or.inl rfl) (pe_ifExp (pt_val (pv 8)) (pv 5) (pe_lst pa_nil))))))))))))))
    (pss_cons (ps_if (pt_cmpR op_ne (pe_fldK (K := K) rfl (pv 3) rfl) (pv 8) (nomark _))
    (pss_one (ps_ret pe_bl))
    pss_nil)
    (C8.pss_cut (ps_for PassesOwn.never rfl (pi_range1 rfl T.b_range (pa_cons pe_int pa_nil)) (pg_name (i := 13) nd rfl (Or.inl rfl))
    (pss_cons (ps_set (i := 17) nd rfl (Or.inl rfl) (pe_dget2 hu (pv 4) (pv 13) (pe_op op_rep (pe_lst (pa_cons pe_int pa_nil)) pe_int) ⟨rfl, rfl, rfl, rfl⟩))
    (pss_cons (ps_for PassesOwn.never rfl (pi_listK (K := K) rfl (pv 5)) (pg_tupK (K := K) (n := 2) rfl rfl (pgs_cons (pg_name (i := 19) nd rfl (Or.inl rfl)) (pgs_cons (pg_name (i := 20) nd rfl (Or.inl rfl)) pgs_nil)))
    (pss_one (ps_set (i := 17) nd rfl (Or.inl rfl) (pe_ifExp (pt_cmpR op_eq (pv 19) (pv 13) (nomark _)) (pv 20) (pv 17)))))
    (pss_cons (ps_set (i := 14) nd rfl (Or.inl rfl) (pe_mtc (pv 3) L_Disk_read (hr.mono (by decide)) (pa_cons (pv 13) pa_nil)))
    (pss_cons (ps_if (pt_cmpR (op_neDK (K := K) rfl hr.units) (pv 14) (pv 17) (nomark _))
    (pss_one (ps_ret pe_bl))
    pss_nil)
    (pss_one (ps_asg pe_int (pg_sub (pv 14) pe_int set_list))))))))
    (pss_cons (ps_set (i := 14) nd rfl (Or.inl rfl) (pe_mtc0 (pv 3) L_Disk_synced (hr.mono (by decide))))
    (pss_cons (ps_if (pt_cmpR (op_neDK (K := K) rfl hr.units) (pv 14) (pe_lc (own := [("one", 13)]) rfl nd (pi_listK (K := K) rfl (pe_callB (call_sortedDI rfl) (by rfl) T.b_sorted (by decide +kernel) (pa_cons (pv 4) pa_nil))) (blkOk_by (own := [("one", 13)]) (N := ["script", "state", "first", "disk", "sectors", "waiting", "left", "rows", "cut", "number", "content", "turn", "made", "one", "told", "kind", "many", "due", "k", "other", "row"]) (sc := defScope s_law) (by decide +kernel)) (fun _ _ _ _ _ => (pg_name (i := 13) nd rfl (Or.inl rfl))) (fun _ _ _ _ _ => (pts_one (pt_cmpR (op_neDK (K := K) rfl hr.units) (pe_dget hu (pv 4) (pv 13) (fun _ _ => rfl)) (pe_op op_rep (pe_lst (pa_cons pe_int pa_nil)) pe_int) (nomark _)))) (fun _ _ _ _ _ => (pe_tup (pa_cons (pv 13) (pa_cons (pe_dget hu (pv 4) (pv 13) (fun _ _ => rfl)) pa_nil))))) (nomark _))
    (pss_one (ps_ret pe_bl))
    pss_nil)
    (pss_one (ps_for PassesOwn.never rfl (pi_listK (K := K) rfl (pv 14)) (pg_tupK (K := K) (n := 2) rfl rfl (pgs_cons (pg_name (i := 13) nd rfl (Or.inl rfl)) (pgs_cons (pg_name (i := 10) nd rfl (Or.inl rfl)) pgs_nil)))
    (pss_one (ps_asg pe_int (pg_sub (pv 10) pe_int set_list)))))))))))))
    (pss_one (ps_ret (pe_cmpR (op_eqDK (K := K) rfl hr.units) (pe_mtc0 (pe_mkc L_c_Disk (hr.mono (by decide)) rfl (pa_cons (pe_mtc0 (pv 3) L_Disk_synced (hr.mono (by decide))) pa_nil)) L_Disk_synced (hr.mono (by decide))) (pe_mtc0 (pv 3) L_Disk_synced (hr.mono (by decide))) (nomark _)))))))), ?_⟩
    -- nothing is data at first
    have gh : Same (fun _ => none) H := fun b o e => by cases e
    refine ⟨_, rfl, _, a, ns, rfl, gh, ha, fun s c H1 s1 S1 z1 z2 => ?_⟩
    refine ⟨fun σ H => ∃ (G : Hp) (fl : Addr) (us : List V) (xs : List (Int × Sec)), σ = [some (.ref a), some (.ref s), some (.ref fl), none, none, none, none, none, none, none, none, none, none, none, none, none, none, none, none, none, none] ∧
      Same G H ∧ StAt G H s c ∧ H fl = some (.lst us) ∧ Paired (rSec H) us xs ∧ xs.length ≤ 1 ∧ ∀ x ∈ xs, x.2.length = 16, ?_, ?_⟩
    · refine ⟨_, rfl, _, s, c, 2, rfl, s1.gh, S1, by decide, by decide, fun r0 H2 _ _ s2 S2 => ⟨rfl, _, rfl, if_int (fun _ => ?_) (fun _ => ?_)⟩⟩
      · refine ⟨(by show 1 ≤ sizeLine; decide), fun q0 n0 => ?_⟩
        generalize e3 : upd H2 q0 _ = H3
        obtain ⟨s3, f3, k3, _, _⟩ := own_of (Stp.refl (O := O0) s2.gh) n0 e3
        refine ⟨q0, 16, _, rfl, rfl, f3, by decide, by decide, (by show 1 * 16 ≤ sizeLine; decide), fun q1 n1 => ?_⟩
        generalize e4 : upd H3 q1 _ = H4
        obtain ⟨s4, f4, k4, _, _⟩ := own_of s3 n1 e4
        refine ⟨(by show 2 ≤ sizeLine; decide), fun q2 n2 => ?_⟩
        generalize e5 : upd H4 q2 _ = H5
        obtain ⟨s5, f5, k5, _, _⟩ := own_of s4 n2 e5
        refine ⟨(by show 1 ≤ sizeLine; decide), fun q3 n3 => ?_⟩
        generalize e6 : upd H5 q3 _ = H6
        obtain ⟨s6, f6, k6, _, _⟩ := own_of s5 n3 e6
        exact ⟨_, q3, _, [(2, List.replicate 16 7)], rfl, s6.gh, S2.stp s6 (fun z => z) (fun z => z), f6, .cons ⟨q2, _, _, rfl, k6 _ _ f5, rfl, rLI_of (k6 _ _ (k5 _ _ f4))⟩ .nil, Nat.le_refl _, fun x hx => by rw [List.mem_singleton.mp hx]; rfl⟩
      · refine ⟨(by show 0 ≤ sizeLine; decide), fun q3 n3 => ?_⟩
        generalize e6 : upd H2 q3 _ = H6
        obtain ⟨s6, f6, k6, _, _⟩ := own_of (Stp.refl (O := O0) s2.gh) n3 e6
        exact ⟨_, q3, _, [], rfl, s6.gh, S2.stp s6 (fun z => z) (fun z => z), f6, .nil, Nat.zero_le _, fun x hx => by cases hx⟩
    clear s1 S1 gh
    rintro σ H2 ⟨G2, fl, us, xs, rfl, gh2, S2, hfl, hus, hx1, h16⟩
    -- the disk, and the law's own record
    refine ⟨_, rfl, fun p dx np ndx nex => ⟨G2, p, dx, fl, us, xs, rfl, ?_, upd_same, gn_of gh2 np, ?_, ?_, by omega, fun ds wl G3 H3 t3 D3 z3 z4 => ⟨rfl, ?_⟩⟩⟩
    · intro b o e
      rw [upd_ne (fresh_ne (ne_none (gh2 b o e)) np), upd_ne (fresh_ne (ne_none (gh2 b o e)) ndx)]
      exact gh2 b o e
    · rw [upd_ne (ne_of_none hfl np), upd_ne (ne_of_none hfl ndx)]
      exact hfl
    · refine Mn.ps mRow (fun b o e => ?_) hus
      rw [upd_ne (ne_of_none e np), upd_ne (ne_of_none e ndx)]
      exact e
    have kx : ∀ b o, H2 b = some o → (upd (upd H2 dx (.own p)) p (.ins C dx [])) b = some o := fun b o e => by rw [upd_ne (ne_of_none e np), upd_ne (ne_of_none e ndx)]; exact e
    have k3 : Same H2 H3 := fun b o e => t3.kp b o (kx b o e) (ne_of_none e np)
    have ds2 : H2 ds = none := by
      cases e : H2 ds with
      | none => rfl
      | some o => rw [kx _ _ e] at z3; cases z3
    have wl2 : H2 wl = none := by
      cases e : H2 wl with
      | none => rfl
      | some o => rw [kx _ _ e] at z4; cases z4
    have S3 : StAt G3 H3 s c := by
      obtain ⟨n, cells, h1, h2, r⟩ := S2.ex
      exact ⟨⟨n, cells, k3 _ _ h1, k3 _ _ h2, r⟩, t3.nw _ (ne_none (kx _ _ h1)) S2.gs, t3.nw _ (ne_none (kx _ _ h2)) S2.gc, S2.ne⟩
    have swl : s ≠ wl ∧ c ≠ wl := by
      obtain ⟨n, cells, h1, h2, r⟩ := S2.ex
      exact ⟨ne_of_none h1 wl2, ne_of_none h2 wl2⟩
    have s3 : Stp O0 G3 H3 G3 H3 := Stp.refl t3.gh
    refine ⟨_, rfl, fl, rfl, ⟨_, SqL.of (k3 _ _ hfl)⟩, fun Dm nDm => ?_⟩
    obtain ⟨s4, f4, k4, g4, z4'⟩ := own_of (o := .lst []) s3 nDm rfl
    refine lc_list (K := K) (a := fl) (xs := us) (fun i H5 => ∃ G5 ps kvs, Stp O0 G3 H3 G5 H5 ∧ Same H3 H5 ∧ H5 Dm = some (.lst (ps.map V.ref)) ∧ G5 Dm = none ∧ Paired (fun q kv => H5 q = some (.tup [kV kv.1, kv.2]) ∧ q ≠ Dm) ps kvs ∧ DRel (rL rI) G5 kvs (xs.take i) ∧ ps.length ≤ i)
      ⟨G3, [], [], s4, k4, f4, g4, .nil, .nil, Nat.le_refl _⟩ (fun i H5 _ ⟨_, _, _, _, q, _⟩ => SqL.of (q _ _ (k3 _ _ hfl))) ?_ ?_
    · rintro i y H5 hi ⟨G5, ps, kvs, s5, k5, f5, g5, p5, r5, l5⟩
      obtain ⟨x, hx, t, u, c0, rfl, ht, hu', hc⟩ := pd_get hus hi
      cases hu'
      obtain ⟨cc, rfl, hcc⟩ := rLI hc
      have hil := (List.getElem?_eq_some_iff.mp hx).1
      refine g_pair (k5 _ _ (k3 _ _ ht)) ⟨rfl, g_yes ⟨_, rfl, _, rfl, cc, _, rfl, .inl (SqL.of (k5 _ _ (k3 _ _ hcc))), fun l nl => ?_⟩⟩
      generalize e6 : upd H5 l _ = H6
      obtain ⟨G6, s6, f6, gg6, k6, gk6⟩ := data_of s5 nl e6
      refine ⟨(by show 2 ≤ sizeLine; decide), fun t2 nt2 => ?_⟩
      generalize e7 : upd H6 t2 _ = H7
      obtain ⟨s7, f7, k7, g7, z7⟩ := own_of s6 nt2 e7
      have Dl : Dm ≠ l := ne_of_none f5 nl
      have Dt : Dm ≠ t2 := ne_of_none (k6 _ _ f5) nt2
      refine ⟨ps.map V.ref, k7 _ _ (k6 _ _ f5), by rw [List.length_map, sizeLine_eq]; omega, ?_⟩
      generalize e8 : upd H7 Dm _ = H8
      have gD6 : G6 Dm = none := by rw [gk6 Dm Dl]; exact g5
      obtain ⟨s8, f8, k8⟩ := wr_of s7 (k7 _ _ (k6 _ _ f5)) gD6 (.inr z4') e8
      refine ⟨G6, ps ++ [t2], kvs ++ [(Sum.inl x.1, .ref l)], s8, fun b o e => k8 b o (fresh_ne (ne_none e) z4') (k7 _ _ (k6 _ _ (k5 _ _ e))), by rw [f8, List.map_append]; rfl, gD6, ?_, ?_, by rw [List.length_append]; exact Nat.succ_le_succ l5⟩
      · refine pd_snoc (pd_mono (fun q kv h => ⟨k8 _ _ h.2 (k7 _ _ (k6 _ _ h.1)), h.2⟩) p5) ⟨k8 _ _ Dt.symm f7, Dt.symm⟩
      · rw [List.take_add_one, hx]
        exact pd_snoc (r5.mono mSec gg6) ⟨rfl, rLI_of f6⟩
    rintro H5 ⟨G5, ps, kvs, s5, k5, f5, g5, p5, r5, l5⟩
    rw [pd_len hus, List.take_of_length_le (Nat.le_refl _)] at r5
    refine ⟨Dm, ps, kvs, rfl, SqL.of f5, pd_mono (fun q kv h => SqT.of h.1) p5, fun sd nsd => ?_⟩
    generalize e6 : upd H5 sd _ = H6
    obtain ⟨s6, f6, k6, g6, z6⟩ := own_of s5 nsd e6
    refine ⟨(by show 0 ≤ sizeLine; decide), fun wv nwv => ?_⟩
    generalize e7 : upd H6 wv _ = H7
    obtain ⟨G7, s7, f7, gg7, k7, gk7⟩ := data_of s6 nwv e7
    refine ⟨(by show 0 ≤ sizeLine; decide), fun rv nrv => ?_⟩
    generalize e8 : upd H7 rv _ = H8
    obtain ⟨G8, s8, f8, gg8, k8, gk8⟩ := data_of s7 nrv e8
    refine ⟨(by show 6 ≤ sizeLine; decide), fun t6 nt6 => ?_⟩
    generalize e9 : upd H8 t6 _ = H9
    obtain ⟨s9, f9, k9, g9, z9⟩ := own_of s8 nt6 e9
    refine ⟨t6, _, rfl, SqT.of f9, rfl, _, _, rfl, _, _, rfl, _, _, rfl, _, _, rfl, _, _, rfl, _, _, rfl, rfl, ?_⟩
    have wsd : sd ≠ wv := ne_of_none f6 nwv
    have rsd : sd ≠ rv := ne_of_none (k7 _ _ f6) nrv
    have gsd : G8 sd = none := by rw [gk8 sd rsd, gk7 sd wsd]; exact g6
    obtain ⟨kv3, hd3, _⟩ := id D3.sec
    have W0 : LW C G8 H9 s c p ds sd wl ⟨ofRows xs, [], none, [], false⟩ ⟨ofRows xs, [], none, [], false⟩ wv rv :=
      ⟨s9.gh, S3.stp s9 (fun z => z) (fun z => z), D3.stp s9 (fun _ _ z => z), ⟨_, k9 _ _ (k8 _ _ (k7 _ _ f6)), DRel.merge (r5.mono mSec (gg7.trans gg8)) .nil⟩, gsd, swl.1, swl.2, (ne_of_none (k5 _ _ hd3) nsd).symm, ⟨wv, [], rfl, gg8 _ _ f7, .nil⟩, ⟨rv, [], rfl, f8, .nil⟩⟩
    have fit0 : Fit ⟨ofRows xs, [], none, [], false⟩ := by
      have e : ofRows xs = synS [] xs := rfl
      have q := synS_len xs []
      refine ⟨by rw [e]; exact synS_nd xs [] List.nodup_nil, ?_, Nat.zero_le _, by rw [e]; exact synS_16 xs [] (fun x hx => by cases hx) h16, fun x hx => by cases hx⟩
      rw [e]
      show (synS [] xs).length + 0 ≤ 60
      rw [List.length_nil] at q
      omega
    have sz0 : (ofRows xs).length + 0 ≤ 1 := by
      have e : ofRows xs = synS [] xs := rfl
      have q := synS_len xs []
      rw [e]
      rw [List.length_nil] at q
      omega
    -- turn by turn
    refine ⟨_, rfl, G8, s, c, 45, rfl, W0.gh, W0.st, by decide, by decide, fun r1 H10 r10 r11 t10 S10 => ?_⟩
    refine ⟨_, _, rfl, rfl, _, rfl, by omega, by omega, ?_⟩
    refine for_range (lo := 0) (n := ((8 : Int) + r1).toNat) (fun i σ H => Hd C a s c p ds sd (.ref fl) (i + 1) σ H)
      ⟨G8, wl, _, wv, rv, _, _, _, _, _, _, _, _, _, _, _, _, rfl, W0.tk t10 S10, fit0, (fun l e => by cases e), sz0, Nat.zero_le _⟩ ?_ ?_
    · rintro i σ H hi ⟨G, wl, d, wv, rv, x9, x10, x11, x12, x13, x14, x15, x16, x17, x18, x19, x20, rfl, W, fit, lf, sz, rz⟩
      refine ⟨_, rfl, G, s, c, 8, rfl, W.gh, W.st, by decide, by decide, fun kd H1 k0 k1 t1 S1 => ?_⟩
      have W1 := W.tk t1 S1
      refine ⟨_, rfl, G, s, c, 4, rfl, W1.gh, W1.st, by decide, by decide, fun nb H2 b0 b1 t2 S2 => ⟨_, _, rfl, ?_⟩⟩
      have W2 := W1.tk t2 S2
      refine ⟨_, rfl, G, s, c, 5, rfl, W2.gh, W2.st, by decide, by decide, fun m H3 m0 m1 t3 S3 => ⟨_, rfl, by omega, by omega, fun Dm nDm => ?_⟩⟩
      have W3 := W2.tk t3 S3
      have off := W3.off nDm
      have offSC : ¬ (Dm = s ∨ Dm = c) := fun z => off (z.elim .inl fun z => .inr (.inl z))
      obtain ⟨t4, f4, _, g4, _⟩ := own_of (o := .lst []) (Stp.refl (O := O0) W3.gh) nDm rfl
      refine lc_range (lo := 0) (n := m.toNat) (fun j H' => ∃ G' acc ms, LW C G' H' s c p ds sd wl d d wv rv ∧ H' Dm = some (.lst acc) ∧ Paired (rP rI rI G') acc ms ∧ ms.length = j ∧ G' Dm = none)
        ⟨G, [], [], W3.al0 t4, f4, .nil, rfl, g4⟩ ?_ ?_
      · rintro j H5 hj ⟨G5, acc, ms, W5, f5, p5, l5, g5⟩
        refine ⟨rfl, g_yes ⟨_, rfl, G5, s, c, 4, rfl, W5.gh, W5.st, by decide, by decide, fun u H6 u0 u1 t6 S6 => ?_⟩⟩
        have W6 := W5.tk t6 S6
        have f6 := t6.kp _ _ f5 offSC
        refine ⟨_, _, rfl, rfl, _, rfl, G5, s, c, 20, rfl, W6.gh, W6.st, by decide, by decide, fun v H7 v0 v1 t7 S7 => ⟨_, _, rfl, rfl, (by show 2 ≤ sizeLine; decide), fun t nt => ?_⟩⟩
        have W7 := W6.tk t7 S7
        have f7 := t7.kp _ _ f6 offSC
        generalize e8 : upd H7 t _ = H8
        obtain ⟨G8, t8, f8, gg8, k8, gk8⟩ := data_of (Stp.refl (O := O0) W7.gh) nt e8
        have W8 := W7.al0 t8
        have nDt : Dm ≠ t := ne_of_none f7 nt
        have gD8 : G8 Dm = none := by rw [gk8 Dm nDt]; exact g5
        refine ⟨acc, k8 _ _ f7, by have := pd_len p5; rw [sizeLine_eq]; omega, ?_⟩
        generalize e9 : upd H8 Dm _ = H9
        obtain ⟨t9, f9, k9⟩ := wr_of (Stp.refl (O := fun b => b = Dm) W8.gh) (k8 _ _ f7) gD8 (.inl rfl) e9
        exact ⟨G8, _, ms ++ [(u - 1, v - 2)], W8.al t9 fun b hb z => off (z ▸ hb), f9, pd_snoc ((mI.p mI).ps gg8 p5) ⟨t, _, _, rfl, f8, rfl, rfl⟩, by rw [List.length_append, l5]; rfl, gD8⟩
      rintro H4 ⟨G4, acc, ms, W4, fD, pD, lD, gD⟩
      have offD : ¬ DOwn p ds wl Dm := fun z => off (.inr (.inr (.inl z)))
      have offS : Dm ≠ sd := fun z => off (.inr (.inr (.inr z)))
      have offW : Dm ≠ wl := fun z => offD (.inr (.inr z))
      have lm4 : ms.length ≤ 4 := by omega
      refine ⟨fun σ' H' => Hd C a s c p ds sd (.ref fl) (i + 2) σ' H', ?_, ?_⟩
      · refine ⟨_, rfl, rfl, _, rfl, if_int (fun e7 => ?_) (fun e7 => ?_)⟩
        · -- a cut is told
          refine ⟨_, rfl, G4, s, c, 6, rfl, W4.gh, W4.st, by decide, by decide, fun u H5 u0 u1 t5 S5 => ⟨_, _, rfl, rfl, ?_⟩⟩
          have W5 := W4.tk t5 S5
          have fD5 := t5.kp _ _ fD offSC
          obtain ⟨dx, rl, h1, _⟩ := id W5.dk.ob
          refine ⟨_, rfl, p, dx, _, rfl, h1, df_no (by decide +kernel) (by decide +kernel) (by decide +kernel) (by decide +kernel) (by decide +kernel), _, rfl, _, rfl, G4, p, ds, wl, d, 1 + u, Dm, ms, rfl, W5.gh, W5.dk, ⟨acc, fD5, pD⟩, fun G6 H6 t6 D6 => ?_⟩
          have W6 := W5.dsk t6 D6 (.inl rfl)
          have fD6 := t6.kp _ _ fD5 offD
          have gD6 := t6.nw _ (ne_none fD5) gD
          have fit6 : Fit (d.cutIn (1 + u) ms) := by
            unfold DS.cutIn
            split
            · exact fit
            · exact ⟨fit.nd, fit.sz, by show ms.length ≤ 60; omega, fit.ls, fit.lw⟩
          have lf6 : Lf (d.cutIn (1 + u) ms) := by
            unfold DS.cutIn
            split
            · exact lf
            · intro l e _
              cases e
              omega
          have sz6 : (d.cutIn (1 + u) ms).sec.length + (d.cutIn (1 + u) ms).wai.length ≤ i + 2 ∧ (d.cutIn (1 + u) ms).rows.length ≤ 5 := by
            unfold DS.cutIn
            split
            · exact ⟨by omega, rz⟩
            · exact ⟨by show d.sec.length + d.wai.length ≤ i + 2; omega, by show ms.length ≤ 5; omega⟩
          refine ⟨fun σ' H' => ∃ G' rv', σ' = sig a s p sd wv rv' (d.cutIn (1 + u) ms) (.ref fl) (some (.int nb)) x10 (some (.int (0 + i))) (some (.ref Dm)) x13 x14 (some (.int kd)) (some (.int (1 + u))) x17 x18 x19 x20 ∧ LW C G' H' s c p ds sd wl (d.cutIn (1 + u) ms) (d.cutIn (1 + u) ms) wv rv' ∧ H' Dm = some (.lst acc) ∧ G' Dm = none, ?_, ?_⟩
          · refine ⟨_, rfl, _, rfl, if_nbool (fun c1 => ?_) (fun c1 => ?_)⟩
            · have ed : d.cutIn (1 + u) ms = { d with left := some (1 + u), rows := ms } := if_neg (by rw [c1]; exact Bool.false_ne_true)
              refine ⟨_, rfl, _, rfl, Dm, _, rfl, .inl (SqL.of fD6), fun l nl => ⟨_, _, rfl, ?_⟩⟩
              generalize e7 : upd H6 l _ = H7
              obtain ⟨G7, t7, f7, gg7, k7, gk7⟩ := data_of (Stp.refl (O := O0) W6.gh) nl e7
              have W7 := W6.al0 t7
              refine ⟨G7, l, ?_, ⟨W7.gh, W7.st, W7.dk, by rw [ed]; exact W7.dc, W7.gd, W7.n1, W7.n2, W7.n3, by rw [ed]; exact W7.wa, ?_⟩, k7 _ _ fD6, by rw [gk7 Dm (ne_of_none fD6 nl)]; exact gD6⟩
              · rw [ed]
                rfl
              · rw [ed]
                exact ⟨l, acc, rfl, f7, (mI.p mI).ps (t6.gg.trans gg7) pD⟩
            · have ed : d.cutIn (1 + u) ms = d := if_pos c1
              rw [ed] at W6
              refine ⟨G6, rv, ?_, by rw [ed]; exact W6, fD6, gD6⟩
              rw [ed]
              rfl
          · rintro σ7 H7 ⟨G7, rv7, rfl, W7, fD7, gD7⟩
            refine ⟨_, rfl, .inl ⟨rfl, _, SqL.of fD7⟩, (by show 2 ≤ sizeLine; decide), fun t nt => ?_⟩
            generalize e8 : upd H7 t _ = H8
            obtain ⟨t8, f8, k8, _, _⟩ := own_of (Stp.refl (O := O0) W7.gh) nt e8
            have W8 := W7.al0 t8
            refine ⟨Dm, acc, _, rfl, rfl, k8 _ _ fD7, by have := pd_len pD; rw [sizeLine_eq]; omega, ?_⟩
            generalize e9 : upd H8 Dm _ = H9
            obtain ⟨t9, f9, k9⟩ := wr_of (Stp.refl (O := fun b => b = Dm) W8.gh) (k8 _ _ fD7) gD7 (.inl rfl) e9
            exact ⟨G7, wl, _, wv, rv7, _, _, _, _, _, _, _, _, _, _, _, _, rfl, W8.al t9 fun b hb z => off (z ▸ hb), fit6, lf6, sz6.1, sz6.2⟩
        · refine ⟨_, rfl, rfl, _, rfl, if_int (fun e6 => ?_) (fun e6 => ?_)⟩
          · -- a crash
            obtain ⟨dx, rl, h1, _⟩ := id W4.dk.ob
            refine ⟨_, rfl, p, dx, _, rfl, h1, df_no (by decide +kernel) (by decide +kernel) (by decide +kernel) (by decide +kernel) (by decide +kernel), _, rfl, G4, p, ds, wl, d, Dm, ms, rfl, W4.gh, W4.dk, fit, ⟨acc, fD, pD⟩, offW, fun w5 G5 H5 t5 D5 n5 => ?_⟩
            have W5 := W4.dsk t5 D5 (.inr n5)
            have fD5 := t5.kp _ _ fD offD
            obtain ⟨kvs, hd5, rd5⟩ := id W5.dc
            obtain ⟨wv', ws, ew, hw5, pw5⟩ := id W5.wa
            cases ew
            refine ⟨_, rfl, _, rfl, _, rfl, G5, sd, wv, Dm, kvs, d.sec, d.wai, ms, rfl, W5.gh, hd5, rd5, W5.gd, ⟨ws, W5.gh _ _ hw5, pw5⟩, ⟨acc, fD5, (mI.p mI).ps t5.gg pD⟩, fit.nd, fit.sz, by omega, fit.ls, fit.lw, fun kvs6 G6 H6 t6 f6 r6 g6 => ?_⟩
            have W6 := W5.sec t6 f6 r6 g6
            refine ⟨(by show 0 ≤ sizeLine; decide), fun wv7 n7 => ?_⟩
            generalize e7 : upd H6 wv7 _ = H7
            obtain ⟨G7, t7, f7, gg7, k7, gk7⟩ := data_of (Stp.refl (O := O0) W6.gh) n7 e7
            have W7 := W6.al0 t7
            have fit7 := fit.crash ms
            have len7 : (d.crash ms).sec.length + (d.crash ms).wai.length ≤ i + 2 := by
              obtain ⟨_, q, _⟩ := foldl_torn fit.lw (ms.zip (nums (d.wai.map (·.1)))) d.sec fit.nd fit.ls
              have q2 := le_nums_len (d.wai.map (·.1))
              rw [List.length_zip] at q
              rw [List.length_map] at q2
              show (crashed d.sec d.wai ms).length + 0 ≤ i + 2
              unfold crashed
              omega
            exact ⟨G7, w5, d.crash ms, wv7, rv, _, _, _, _, _, _, _, _, _, _, _, _, rfl, ⟨W7.gh, W7.st, W7.dk, W7.dc, W7.gd, W7.n1, W7.n2, W7.n3, ⟨wv7, [], rfl, f7, .nil⟩, W7.ro⟩, fit7, lf, len7, rz⟩
          · -- a write or a sync
            refine ⟨_, rfl, G4, s, c, 255, rfl, W4.gh, W4.st, by decide, by decide, fun u H5 u0 u1 t5 S5 => ⟨_, _, rfl, rfl, (by show 1 ≤ sizeLine; decide), fun q0 n0 => ?_⟩⟩
            have W5 := W4.tk t5 S5
            generalize e6' : upd H5 q0 _ = H6
            obtain ⟨t6, f6, k6, g6, _⟩ := own_of (Stp.refl (O := O0) W5.gh) n0 e6'
            have W6 := W5.al0 t6
            have off0 := W5.off n0
            refine ⟨_, rfl, G4, s, c, 15, rfl, W6.gh, W6.st, by decide, by decide, fun v H7 v0 v1 t7 S7 => ⟨_, _, rfl, rfl, ?_⟩⟩
            have W7 := W6.tk t7 S7
            have f7 := t7.kp _ _ f6 fun z => off0 (z.elim .inl fun z => .inr (.inl z))
            obtain ⟨vn, ev⟩ : ∃ vn : Nat, 1 + v = (vn : Int) := ⟨(1 + v).toNat, by omega⟩
            have flat1 : ∀ (n : Nat) (z : Int), (List.replicate n [V.int z]).flatten = (List.replicate n z).map V.int := fun n z => by
              rw [List.flatten_replicate_singleton, List.map_replicate]
            refine ⟨q0, (vn : Int), _, rfl, congrArg V.int ev, f7, by omega, by omega, by rw [sizeLine_eq, List.length_singleton, Int.toNat_natCast]; omega, fun q1 n1 => ?_⟩
            rw [Int.toNat_natCast, flat1]
            generalize e8 : upd H7 q1 _ = H8
            obtain ⟨t8, f8, k8, g8, _⟩ := own_of (Stp.refl (O := O0) W7.gh) n1 e8
            have W8 := W7.al0 t8
            have off1 := W7.off n1
            -- filled up
            refine ⟨_, rfl, _, rfl, G4, s, c, 3, rfl, W8.gh, W8.st, by decide, by decide, fun x H9 x0 x1 t9 S9 => ⟨(by show 1 ≤ sizeLine; decide), fun q2 n2 => ?_⟩⟩
            have W9 := W8.tk t9 S9
            have f9 := t9.kp _ _ f8 fun z => off1 (z.elim .inl fun z => .inr (.inl z))
            generalize e10 : upd H9 q2 _ = H10
            obtain ⟨t10, f10, k10, g10, _⟩ := own_of (Stp.refl (O := O0) W9.gh) n2 e10
            have W10 := W9.al0 t10
            refine ⟨_, rfl, q1, _, rfl, .inl (SqL.of (k10 _ _ f9)), _, _, rfl, rfl, ?_⟩
            obtain ⟨wn, ew⟩ : ∃ wn : Nat, (16 : Int) - (vn : Int) = (wn : Int) := ⟨((16 : Int) - (vn : Int)).toNat, by omega⟩
            refine ⟨q2, (wn : Int), _, rfl, congrArg V.int (by rw [List.length_map, List.length_replicate]; exact ew), f10, by omega, by omega, by rw [sizeLine_eq, List.length_singleton, Int.toNat_natCast]; omega, fun q3 n3 => ?_⟩
            rw [Int.toNat_natCast, flat1]
            generalize e11 : upd H10 q3 _ = H11
            obtain ⟨t11, f11, k11, g11, _⟩ := own_of (Stp.refl (O := O0) W10.gh) n3 e11
            have W11 := W10.al0 t11
            refine ⟨q1, q3, _, _, rfl, rfl, k11 _ _ (k10 _ _ f9), f11, by rw [sizeLine_eq, List.length_map, List.length_map, List.length_replicate, List.length_replicate]; omega, fun ca nca => ?_⟩
            rw [← List.map_append]
            generalize e12 : upd H11 ca _ = H12
            obtain ⟨t12, f12, k12, gca, _⟩ := own_of (Stp.refl (O := O0) W11.gh) nca e12
            have W12 := W11.al0 t12
            have offC := W11.off nca
            have len16 : (List.replicate vn (1 + u) ++ List.replicate wn x).length = 16 := by
              rw [List.length_append, List.length_replicate, List.length_replicate]
              omega
            generalize List.replicate vn (1 + u) ++ List.replicate wn x = xs16 at f12 len16
            clear f6 f7 f8 f9 f10 f11 k6 k8 k10 k11 k12 t5 t6 t7 t8 t9 t10 t11 t12 S5 S7 S9 W5 W6 W7 W8 W9 W10 W11
            clear e8 e10 e11 e12 e6'
            refine ⟨fun σ' H' => ∃ G' wv', σ' = [some (.ref a), some (.ref s), some (.ref fl), some (.ref p), some (.ref sd), some (.ref wv'), some (lv d.counts.left), some (.ref rv), some (.bl d.counts.cut), some (.int nb), some (.ref ca), some (.int (0 + i)), some (.ref Dm), x13, x14, some (.int kd), x16, x17, x18, x19, x20] ∧
              LW C G' H' s c p ds sd wl d d.counts wv' rv ∧ H' ca = some (rowI xs16) ∧ G' ca = none, ?_, ?_⟩
            · -- the count
              have stay : d.counts = d → ∃ G' wv', ([some (.ref a), some (.ref s), some (.ref fl), some (.ref p), some (.ref sd), some (.ref wv), some (lv d.left), some (.ref rv), some (.bl d.cut), some (.int nb), some (.ref ca), some (.int (0 + i)), some (.ref Dm), x13, x14, some (.int kd), x16, x17, x18, x19, x20] : L2.St) = [some (.ref a), some (.ref s), some (.ref fl), some (.ref p), some (.ref sd), some (.ref wv'), some (lv d.counts.left), some (.ref rv), some (.bl d.counts.cut), some (.int nb), some (.ref ca), some (.int (0 + i)), some (.ref Dm), x13, x14, some (.int kd), x16, x17, x18, x19, x20] ∧
                  LW C G' H12 s c p ds sd wl d d.counts wv' rv ∧ H12 ca = some (rowI xs16) ∧ G' ca = none := fun e => by
                rw [e]
                exact ⟨G4, wv, rfl, W12, f12, gca⟩
              refine ⟨_, rfl, _, rfl, ?_⟩
              cases el : d.left with
              | none =>
                refine iteF (iteF (stay ?_))
                unfold DS.counts
                rw [el]
              | some l =>
                refine iteT ⟨_, rfl, _, rfl, ?_⟩
                refine if_nbool (fun c1 => ?_) (fun c1 => stay ?_)
                · have l1 := lf l el c1
                  refine ⟨_, rfl, _, _, (show lv d.left = V.int l by rw [el]; rfl), rfl, _, rfl, rfl, _, rfl, if_int (fun e0 => ?_) (fun e0 => ?_)⟩
                  · have ecnt : d.counts = { (({ d with left := some (l - 1) } : DS).crash d.rows) with cut := true } := by
                      unfold DS.counts
                      rw [el]
                      show (if d.cut = true then d else if l - 1 ≤ 0 then _ else _) = _
                      rw [c1, if_neg Bool.false_ne_true, if_pos (by omega)]
                    obtain ⟨kvs, hd5, rd5⟩ := id W12.dc
                    obtain ⟨wv', ws, ewv, hw5, pw5⟩ := id W12.wa
                    cases ewv
                    obtain ⟨rv', rvs, erv, hr5, pr5⟩ := id W12.ro
                    cases erv
                    refine ⟨_, rfl, _, rfl, _, rfl, G4, sd, wv, rv, kvs, d.sec, d.wai, d.rows, rfl, W12.gh, hd5, rd5, W12.gd, ⟨ws, W12.gh _ _ hw5, pw5⟩, ⟨rvs, W12.gh _ _ hr5, pr5⟩, fit.nd, fit.sz, by omega, fit.ls, fit.lw, fun kvs6 G6 H13 t6 f6 r6 g6 => ?_⟩
                    have W13 := W12.sec t6 f6 r6 g6
                    have offcs : ca ≠ sd := fun z => offC (.inr (.inr (.inr z)))
                    have fca := t6.kp _ _ f12 offcs
                    have gca13 := t6.nw _ (ne_none f12) gca
                    refine ⟨(by show 0 ≤ sizeLine; decide), fun wv7 n7 => ⟨_, _, rfl, ?_⟩⟩
                    generalize e7 : upd H13 wv7 _ = H14
                    obtain ⟨G7, t7, f7, gg7, k7, gk7⟩ := data_of (Stp.refl (O := O0) W13.gh) n7 e7
                    have W14 := W13.al0 t7
                    refine ⟨G7, wv7, ?_, ?_, k7 _ _ fca, by rw [gk7 ca (ne_of_none fca n7)]; exact gca13⟩
                    · rw [ecnt]
                      rfl
                    · rw [ecnt]
                      exact ⟨W14.gh, W14.st, W14.dk, W14.dc, W14.gd, W14.n1, W14.n2, W14.n3, ⟨wv7, [], rfl, f7, .nil⟩, W14.ro⟩
                  · have ecnt : d.counts = { d with left := some (l - 1) } := by
                      unfold DS.counts
                      rw [el]
                      show (if d.cut = true then d else if l - 1 ≤ 0 then _ else _) = _
                      rw [c1, if_neg Bool.false_ne_true, if_neg (by omega)]
                    refine ⟨G4, wv, ?_, ?_, f12, gca⟩
                    · rw [ecnt]
                      rfl
                    · rw [ecnt]
                      exact ⟨W12.gh, W12.st, W12.dk, W12.dc, W12.gd, W12.n1, W12.n2, W12.n3, W12.wa, W12.ro⟩
                · unfold DS.counts
                  rw [el]
                  exact if_pos c1
            · rintro σ13 H13 ⟨G13, wv13, rfl, W13, fca, gca13⟩
              have fitc := fit.counts
              have cwl : ca ≠ wl := fun z => offC (.inr (.inr (.inl (.inr (.inr z)))))
              have cOwn : ¬ DOwn p ds wl ca := fun z => offC (.inr (.inr (.inl z)))
              obtain ⟨dx, rl, h1, _⟩ := id W13.dk.ob
              have lfc : Lf d.counts := by
                unfold DS.counts
                split
                · exact lf
                · rename_i l el
                  split
                  · exact lf
                  · split
                    · intro l' _ e
                      cases e
                    · intro l' e _
                      cases e
                      omega
              have szc : d.counts.sec.length + d.counts.wai.length ≤ i + 1 ∧ d.counts.rows.length ≤ 5 := by
                unfold DS.counts
                split
                · exact ⟨sz, rz⟩
                · split
                  · exact ⟨sz, rz⟩
                  · split
                    · obtain ⟨_, q, _⟩ := foldl_torn fit.lw (d.rows.zip (nums (d.wai.map (·.1)))) d.sec fit.nd fit.ls
                      have q2 := le_nums_len (d.wai.map (·.1))
                      rw [List.length_zip] at q
                      rw [List.length_map] at q2
                      refine ⟨?_, rz⟩
                      show (crashed d.sec d.wai d.rows).length + 0 ≤ i + 1
                      unfold crashed
                      omega
                    · exact ⟨sz, rz⟩
              refine ⟨_, rfl, _, _, rfl, rfl, _, rfl, if_dec (fun k4 => ?_) (fun k4 => ?_)⟩
              · -- a write
                refine ⟨_, rfl, p, dx, _, rfl, h1, df_no (by decide +kernel) (by decide +kernel) (by decide +kernel) (by decide +kernel) (by decide +kernel), _, rfl, _, rfl, G13, p, ds, wl, d, nb, ca, xs16, rfl, W13.gh, W13.dk, fit, fca, cwl, fun w14 G14 H14 t14 D14 n14 => ?_⟩
                have W14 := W13.dsk t14 D14 n14
                have fca14 := t14.kp _ _ fca cOwn
                have gca14 := t14.nw _ (ne_none fca) gca13
                obtain ⟨wv', ws, ewv, hw5, pw5⟩ := id W14.wa
                cases ewv
                refine ⟨_, rfl, _, rfl, _, rfl, if_nbool (fun c1 => ?_) (fun c1 => ?_)⟩
                · have ew : d.write nb xs16 = { d.counts with wai := d.counts.wai ++ [(nb, xs16)] } := if_neg (by rw [c1]; exact Bool.false_ne_true)
                  refine ⟨_, rfl, _, rfl, ca, _, rfl, .inl (SqL.of fca14), fun l nl => ?_⟩
                  generalize e15 : upd H14 l _ = H15
                  obtain ⟨G15, t15, f15, gg15, k15, gk15⟩ := data_of (Stp.refl (O := O0) W14.gh) nl e15
                  refine ⟨(by show 2 ≤ sizeLine; decide), fun t nt => ?_⟩
                  generalize e16 : upd H15 t _ = H16
                  obtain ⟨G16, t16, f16, gg16, k16, gk16⟩ := data_of t15 nt e16
                  refine ⟨(by show 1 ≤ sizeLine; decide), fun q nq => ?_⟩
                  generalize e17 : upd H16 q _ = H17
                  obtain ⟨t17, f17, k17, g17, _⟩ := own_of t16 nq e17
                  refine ⟨wv13, q, _, _, rfl, rfl, k17 _ _ (k16 _ _ (k15 _ _ (W14.gh _ _ hw5))), f17, ?_, fun wv8 n8 => ?_⟩
                  · have := pd_len pw5
                    rw [sizeLine_eq, List.length_singleton]
                    omega
                  generalize e18 : upd H17 wv8 _ = H18
                  obtain ⟨G18, t18, f18, gg18, k18, gk18⟩ := data_of t17 n8 e18
                  have W18 := W14.al0 t18
                  have fca18 := k18 _ _ (k17 _ _ (k16 _ _ (k15 _ _ fca14)))
                  have gca18 : G18 ca = none := by
                    rw [gk18 ca (ne_of_none (k17 _ _ (k16 _ _ (k15 _ _ fca14))) n8), gk16 ca (ne_of_none (k15 _ _ fca14) nt), gk15 ca (ne_of_none fca14 nl)]
                    exact gca14
                  refine ⟨_, rfl, ca, _, _, 0, rfl, rfl, fca18, ?_, ?_⟩
                  · unfold ixN
                    rw [if_pos (by decide), if_pos (by rw [List.length_map, len16]; decide)]
                    rfl
                  generalize e19 : upd H18 ca _ = H19
                  obtain ⟨t19, f19, k19⟩ := wr_of (Stp.refl (O := fun b => b = ca) W18.gh) fca18 gca18 (.inl rfl) e19
                  have W19 := W18.al t19 (fun b hb z => by
                    subst z
                    rcases hb with z | z | z | z
                    · exact offC (.inl z)
                    · exact offC (.inr (.inl z))
                    · rcases z with z | z | z
                      · exact offC (.inr (.inr (.inl (.inl z))))
                      · exact offC (.inr (.inr (.inl (.inr (.inl z)))))
                      · rcases n14 with e | e
                        · exact cwl (z.trans e)
                        · rw [← z] at e
                          rw [fca] at e
                          cases e
                    · exact offC (.inr (.inr (.inr z))))
                  refine ⟨G18, w14, d.write nb xs16, wv8, rv, some (.int nb), some (.ref ca), some (.int (0 + i)), some (.ref Dm), x13, x14, some (.int kd), x16, x17, x18, x19, x20, ?_, ⟨W19.gh, W19.st, W19.dk, by rw [ew]; exact W19.dc, W19.gd, W19.n1, W19.n2, W19.n3, ?_, by rw [ew]; exact W19.ro⟩, ?_, ?_, ?_, ?_⟩
                  · rw [ew]
                    rfl
                  · rw [ew]
                    refine ⟨wv8, _, rfl, f18, pd_snoc (mRow.ps ((gg15.trans gg16).trans gg18) pw5) ⟨t, _, _, rfl, gg18 _ _ f16, rfl, rLI_of (gg18 _ _ (gg16 _ _ f15))⟩⟩
                  · rw [ew]
                    refine ⟨fitc.nd, ?_, fitc.rz, fitc.ls, fun y hy => ?_⟩
                    · show d.counts.sec.length + (d.counts.wai ++ [(nb, xs16)]).length ≤ 60
                      rw [List.length_append, List.length_singleton]
                      omega
                    · rcases List.mem_append.mp hy with e | e
                      · exact fitc.lw y e
                      · rw [List.mem_singleton.mp e]
                        exact len16
                  · rw [ew]
                    exact lfc
                  · rw [ew]
                    show d.counts.sec.length + (d.counts.wai ++ [(nb, xs16)]).length ≤ i + 2
                    rw [List.length_append, List.length_singleton]
                    omega
                  · rw [ew]
                    exact szc.2
                · have ew : d.write nb xs16 = d.counts := if_pos c1
                  refine ⟨(by show 0 ≤ sizeLine; decide), fun q nq => ?_⟩
                  generalize e17 : upd H14 q _ = H17
                  obtain ⟨t17, f17, k17, g17, _⟩ := own_of (Stp.refl (O := O0) W14.gh) nq e17
                  refine ⟨wv13, q, _, _, rfl, rfl, k17 _ _ (W14.gh _ _ hw5), f17, ?_, fun wv8 n8 => ?_⟩
                  · have := pd_len pw5
                    rw [sizeLine_eq, List.length_nil]
                    omega
                  rw [List.append_nil]
                  generalize e18 : upd H17 wv8 _ = H18
                  obtain ⟨G18, t18, f18, gg18, k18, gk18⟩ := data_of t17 n8 e18
                  have W18 := W14.al0 t18
                  have fca18 := k18 _ _ (k17 _ _ fca14)
                  have gca18 : G18 ca = none := by
                    rw [gk18 ca (ne_of_none (k17 _ _ fca14) n8)]
                    exact gca14
                  refine ⟨_, rfl, ca, _, _, 0, rfl, rfl, fca18, ?_, ?_⟩
                  · unfold ixN
                    rw [if_pos (by decide), if_pos (by rw [List.length_map, len16]; decide)]
                    rfl
                  generalize e19 : upd H18 ca _ = H19
                  obtain ⟨t19, f19, k19⟩ := wr_of (Stp.refl (O := fun b => b = ca) W18.gh) fca18 gca18 (.inl rfl) e19
                  have W19 := W18.al t19 (fun b hb z => by
                    subst z
                    rcases hb with z | z | z | z
                    · exact offC (.inl z)
                    · exact offC (.inr (.inl z))
                    · rcases z with z | z | z
                      · exact offC (.inr (.inr (.inl (.inl z))))
                      · exact offC (.inr (.inr (.inl (.inr (.inl z)))))
                      · rcases n14 with e | e
                        · exact cwl (z.trans e)
                        · rw [← z] at e
                          rw [fca] at e
                          cases e
                    · exact offC (.inr (.inr (.inr z))))
                  refine ⟨G18, w14, d.write nb xs16, wv8, rv, some (.int nb), some (.ref ca), some (.int (0 + i)), some (.ref Dm), x13, x14, some (.int kd), x16, x17, x18, x19, x20, ?_, ⟨W19.gh, W19.st, W19.dk, by rw [ew]; exact W19.dc, W19.gd, W19.n1, W19.n2, W19.n3, ?_, by rw [ew]; exact W19.ro⟩, by rw [ew]; exact fitc, by rw [ew]; exact lfc, by rw [ew]; omega, by rw [ew]; exact szc.2⟩
                  · rw [ew]
                    rfl
                  · rw [ew]
                    exact ⟨wv8, _, rfl, f18, mRow.ps gg18 pw5⟩
              · -- a sync
                refine ⟨_, rfl, p, dx, _, rfl, h1, df_no (by decide +kernel) (by decide +kernel) (by decide +kernel) (by decide +kernel) (by decide +kernel), G13, p, ds, wl, d, rfl, W13.gh, W13.dk, fit, fun w14 G14 H14 t14 D14 n14 => ?_⟩
                have W14 := W13.dsk t14 D14 n14
                obtain ⟨wv', ws, ewv, hw5, pw5⟩ := id W14.wa
                cases ewv
                have hl := pd_len pw5
                refine ⟨_, rfl, _, rfl, if_nbool (fun c1 => ?_) (fun c1 => ?_)⟩
                · have ew : d.sync = { d.counts with sec := synS d.counts.sec d.counts.wai, wai := [] } := if_neg (by rw [c1]; exact Bool.false_ne_true)
                  refine ⟨_, rfl, wv13, rfl, ⟨_, SqL.of (W14.gh _ _ hw5)⟩, for_list (K := K) (a := wv13) (xs := ws)
                    (fun j σ H => (∃ y13 y20, σ = [some (.ref a), some (.ref s), some (.ref fl), some (.ref p), some (.ref sd), some (.ref wv13), some (lv d.counts.left), some (.ref rv), some (.bl d.counts.cut), some (.int nb), some (.ref ca), some (.int (0 + i)), some (.ref Dm), y13, x14, some (.int kd), x16, x17, x18, x19, y20]) ∧
                      LW C G14 H s c p ds sd w14 d.sync { d.counts with sec := synS d.counts.sec (d.counts.wai.take j) } wv13 rv)
                    ⟨⟨_, _, rfl⟩, W14⟩ (fun j σ H _ ⟨_, q⟩ => SqL.of (q.gh _ _ hw5)) ?_ ?_⟩
                  · rintro j y σ H hj ⟨⟨y13, y20, rfl⟩, Wj⟩
                    obtain ⟨x, hx, t, u0, c0, rfl, ht, hu', hc⟩ := pd_get pw5 hj
                    cases hu'
                    obtain ⟨kvs, hk, rk⟩ := id Wj.dc
                    refine g_pair (Wj.gh _ _ ht) ⟨_, rfl, _, rfl, _, rfl, sd, _, rfl, DPut.k (k := Sum.inl x.1) hk ?_, ?_⟩
                    · have h5 := synS_len (d.counts.wai.take j) d.counts.sec
                      have h6 := fitc.sz
                      have h7 := pd_len rk
                      rw [List.length_take] at h5
                      have h7 : kvs.length = (synS d.counts.sec (d.counts.wai.take j)).length := h7
                      rw [sizeLine_eq]
                      omega
                    generalize e15 : upd H sd _ = H15
                    obtain ⟨t15, f15, k15⟩ := wr_of (Stp.refl (O := fun b => b = sd) Wj.gh) hk Wj.gd (.inl rfl) e15
                    have e16 : synS d.counts.sec (d.counts.wai.take (j + 1)) = put (synS d.counts.sec (d.counts.wai.take j)) x.1 x.2 := by
                      unfold synS
                      rw [List.take_add_one, hx, List.foldl_append]
                      rfl
                    refine ⟨⟨_, _, rfl⟩, ?_⟩
                    rw [e16]
                    exact Wj.sec t15 f15 (rk.put hc) Wj.gd
                  · rintro σ H ⟨⟨y13, y20, rfl⟩, Wj⟩
                    rw [hl, List.take_of_length_le (Nat.le_refl _)] at Wj
                    refine ⟨_, rfl, _, rfl, ?_⟩
                    rw [c1]
                    refine iteF ⟨(by show 0 ≤ sizeLine; decide), fun wv8 n8 => ?_⟩
                    generalize e17 : upd H wv8 _ = H17
                    obtain ⟨G17, t17, f17, gg17, k17, gk17⟩ := data_of (Stp.refl (O := O0) Wj.gh) n8 e17
                    have W17 := Wj.al0 t17
                    have q := synS_len d.counts.wai d.counts.sec
                    refine ⟨G17, w14, d.sync, wv8, rv, some (.int nb), some (.ref ca), some (.int (0 + i)), some (.ref Dm), y13, x14, some (.int kd), x16, x17, x18, x19, y20, ?_, ⟨W17.gh, W17.st, W17.dk, by rw [ew]; exact W17.dc, W17.gd, W17.n1, W17.n2, W17.n3, ?_, by rw [ew]; exact W17.ro⟩, ?_, by rw [ew]; exact lfc, ?_, by rw [ew]; exact szc.2⟩
                    · rw [ew, ← c1]
                      rfl
                    · rw [ew]
                      exact ⟨wv8, [], rfl, f17, .nil⟩
                    · rw [ew]
                      refine ⟨synS_nd _ _ fitc.nd, ?_, fitc.rz, synS_16 _ _ fitc.ls fitc.lw, fun y hy => by cases hy⟩
                      show (synS d.counts.sec d.counts.wai).length + 0 ≤ 60
                      have := fitc.sz
                      omega
                    · rw [ew]
                      show (synS d.counts.sec d.counts.wai).length + 0 ≤ i + 2
                      omega
                · have ew : d.sync = d.counts := if_pos c1
                  refine ⟨(by show 0 ≤ sizeLine; decide), fun q nq => ?_⟩
                  generalize e17 : upd H14 q _ = H17
                  obtain ⟨t17, f17, k17, g17, _⟩ := own_of (Stp.refl (O := O0) W14.gh) nq e17
                  have W17 := W14.al0 t17
                  refine ⟨q, rfl, ⟨_, SqL.of f17⟩, for_list (K := K) (a := q) (xs := [])
                    (fun j σ H => σ = [some (.ref a), some (.ref s), some (.ref fl), some (.ref p), some (.ref sd), some (.ref wv13), some (lv d.counts.left), some (.ref rv), some (.bl d.counts.cut), some (.int nb), some (.ref ca), some (.int (0 + i)), some (.ref Dm), x13, x14, some (.int kd), x16, x17, x18, x19, x20] ∧ H = H17)
                    ⟨rfl, rfl⟩ (fun j σ H _ ⟨_, e⟩ => by rw [e]; exact SqL.of f17) (fun j y σ H hj _ => by cases hj) ?_⟩
                  rintro σ H ⟨rfl, rfl⟩
                  refine ⟨_, rfl, _, rfl, ?_⟩
                  rw [c1]
                  refine iteT ⟨_, rfl, ?_⟩
                  refine ⟨G14, w14, d.sync, wv13, rv, some (.int nb), some (.ref ca), some (.int (0 + i)), some (.ref Dm), x13, x14, some (.int kd), x16, x17, x18, x19, x20, ?_, by rw [ew] at W17 ⊢; exact W17, by rw [ew]; exact fitc, by rw [ew]; exact lfc, by rw [ew]; omega, by rw [ew]; exact szc.2⟩
                  rw [ew, ← c1]
                  rfl
      · clear W W1 W2 W3 W4 S1 S2 S3 t1 t2 t3 t4 f4 g4 nDm off offSC offD offS offW fit lf sz rz
        rintro σ H5 ⟨G, wl, d, wv, rv, y9, y10, y11, y12, y13, y14, y15, y16, y17, y18, y19, y20, rfl, W, fit, lf, sz, rz⟩
        obtain ⟨dx, rl, h1, _⟩ := id W.dk.ob
        refine ⟨_, rfl, p, C, dx, _, _, rfl, h1, T.cl, T.n5, df_cut, _, rfl, rfl, _, rfl, ?_⟩
        rw [decide_eq_true (rfl : V.bl d.cut = V.bl d.cut)]
        refine iteF ⟨fun σ' H' => Hd C a s c p ds sd (.ref fl) (i + 2) σ' H', ?_, ?_⟩
        · -- each sector is read
          refine ⟨5, rfl, by decide, by decide, for_range (lo := 0) (n := 5) (fun j σ H => Hd C a s c p ds sd (.ref fl) (i + 2) σ H)
            ⟨G, wl, d, wv, rv, _, _, _, _, _, _, _, _, _, _, _, _, rfl, W, fit, lf, sz, rz⟩ ?_ fun _ _ z => z⟩
          rintro j σ H6 hj ⟨G, wl, d, wv, rv, y9, y10, y11, y12, y13, y14, y15, y16, y17, y18, y19, y20, rfl, W, fit, lf, sz, rz⟩
          obtain ⟨kvs, hk, rk⟩ := id W.dc
          refine ⟨_, rfl, sd, rfl, .inl ⟨kvs, .inl hk⟩, _, rfl, (by show 1 ≤ sizeLine; decide), fun q0 n0 => ?_⟩
          generalize e7 : upd H6 q0 _ = H7
          obtain ⟨t7, f7, k7, _, _⟩ := own_of (Stp.refl (O := O0) W.gh) n0 e7
          refine ⟨q0, 16, _, rfl, rfl, f7, by decide, by decide, (by show 1 * 16 ≤ sizeLine; decide), fun q1 n1 => ?_⟩
          generalize e8 : upd H7 q1 _ = H8
          obtain ⟨t8, f8, k8, _, _⟩ := own_of t7 n1 e8
          have W8 := W.al0 t8
          have hk8 := t8.kp _ _ hk fun z => z
          have ⟨B1, hget, hB1⟩ : ∃ (B1 : Addr), (∃ o, DGet H8 sd (.int (0 + (j : Int))) o ∧ o.getD (.ref q1) = .ref B1) ∧ H8 B1 = some (rowI (d.whole (0 + (j : Int)))) := by
            have q := DGet.k (k := Sum.inl (0 + (j : Int))) hk8
            cases e : look d.sec (0 + (j : Int)) with
            | none =>
              rw [rk.look_none e] at q
              refine ⟨q1, ⟨_, q, rfl⟩, ?_⟩
              show H8 q1 = some (rowI ((look d.sec (0 + (j : Int))).getD blank))
              rw [e]
              exact f8
            | some x =>
              obtain ⟨v, hv, hx⟩ := rk.look_some e
              obtain ⟨b, rfl, hb⟩ := rLI hx
              rw [hv] at q
              refine ⟨b, ⟨_, q, rfl⟩, ?_⟩
              show H8 b = some (rowI ((look d.sec (0 + (j : Int))).getD blank))
              rw [e]
              exact t8.gh _ _ hb
          obtain ⟨o, hget, eo⟩ := hget
          refine ⟨o, hget, ?_⟩
          rw [eo]
          obtain ⟨wv', ws, ewv, hw8, pw8⟩ := id W8.wa
          cases ewv
          refine ⟨_, rfl, wv, rfl, ⟨_, SqL.of (W8.gh _ _ hw8)⟩, for_list (K := K) (a := wv) (xs := ws)
            (fun m σ H => (∃ B z19 z20, σ = sig a s p sd wv rv d (.ref fl) y9 y10 y11 y12 (some (.int (0 + (j : Int)))) y14 y15 y16 (some (.ref B)) y18 z19 z20 ∧ H8 B = some (rowI (lastOf (d.wai.take m) (0 + (j : Int)) (d.whole (0 + (j : Int)))))) ∧ H = H8)
            ⟨⟨B1, _, _, rfl, hB1⟩, rfl⟩ (fun m σ H _ ⟨_, e⟩ => by rw [e]; exact SqL.of (W8.gh _ _ hw8)) ?_ ?_⟩
          · rintro m y σ H hm ⟨⟨B, z19, z20, rfl, hB⟩, rfl⟩
            obtain ⟨x, hx, t, u0, c0, rfl, ht, hu', hc⟩ := pd_get pw8 hm
            cases hu'
            obtain ⟨cc, rfl, hcc⟩ := rLI hc
            refine g_pair (W8.gh _ _ ht) ⟨_, rfl, _, rfl, rfl, _, rfl, if_int (fun e => ?_) (fun e => ?_)⟩
            · refine ⟨_, rfl, ⟨cc, _, _, rfl, ?_⟩, rfl⟩
              rw [lastOf_more hx, if_pos e]
              exact W8.gh _ _ hcc
            · refine ⟨_, rfl, ⟨B, _, _, rfl, ?_⟩, rfl⟩
              rw [lastOf_more hx, if_neg e]
              exact hB
          · rintro σ H ⟨⟨B, z19, z20, rfl, hB⟩, rfl⟩
            rw [pd_len pw8, List.take_of_length_le (Nat.le_refl _)] at hB
            obtain ⟨dx8, rl8, h18, _⟩ := id W8.dk.ob
            refine ⟨_, rfl, p, dx8, _, rfl, h18, df_no (by decide +kernel) (by decide +kernel) (by decide +kernel) (by decide +kernel) (by decide +kernel), _, rfl, G, p, ds, wl, d, 0 + (j : Int), rfl, W8.gh, W8.dk, fun q G9 H9 t9 nq gq fq => ?_⟩
            have W9 := W8.al0 t9
            have offq := W8.off nq
            refine ⟨_, rfl, _, rfl, _, _, dp_ints fq, dp_ints (t9.kp _ _ hB fun z => z), shaped_ints _, shaped_ints _, _, rfl, ?_⟩
            rw [eqv_ints, decide_eq_true (show d.read (0 + (j : Int)) = lastOf d.wai (0 + (j : Int)) (d.whole (0 + (j : Int))) from rfl)]
            refine iteF ⟨_, rfl, q, _, _, 0, rfl, rfl, fq, ?_, ?_⟩
            · have q16 : (d.read (0 + (j : Int))).length = 16 := by
                have aux : ∀ (l : List (Int × Sec)) (z : Sec), (∀ x ∈ l, x.2.length = 16) → z.length = 16 → (lastOf l (0 + (j : Int)) z).length = 16 := by
                  intro l
                  induction l with
                  | nil => intro z _ hz; exact hz
                  | cons y l ih =>
                    intro z hl hz
                    refine ih _ (fun x hx => hl x (List.mem_cons_of_mem _ hx)) ?_
                    show (if y.1 = 0 + (j : Int) then y.2 else z).length = 16
                    split
                    · exact hl y List.mem_cons_self
                    · exact hz
                exact aux _ _ fit.lw (whole_len fit.ls _)
              unfold ixN
              rw [if_pos (by decide), if_pos (by rw [List.length_map, q16]; decide)]
              rfl
            · generalize e10 : upd H9 q _ = H10
              obtain ⟨t10, f10, k10⟩ := wr_of (Stp.refl (O := fun b => b = q) W9.gh) fq gq (.inl rfl) e10
              exact ⟨G9, wl, d, wv, rv, _, _, _, _, _, _, _, _, _, _, _, _, rfl, W9.al t10 fun b hb z => offq (z ▸ hb), fit, lf, sz, rz⟩
        · clear W fit lf sz rz h1
          rintro σ H6 ⟨G, wl, d, wv, rv, y9, y10, y11, y12, y13, y14, y15, y16, y17, y18, y19, y20, rfl, W, fit, lf, sz, rz⟩
          obtain ⟨dx, rl, h1, _⟩ := id W.dk.ob
          refine ⟨_, rfl, p, dx, _, rfl, h1, df_no (by decide +kernel) (by decide +kernel) (by decide +kernel) (by decide +kernel) (by decide +kernel), G, p, ds, wl, d, rfl, W.gh, W.dk, fit, fun q us7 H7 t7 nq fq pq => ?_⟩
          have W7 := W.al0 t7
          have offq := W.off nq
          obtain ⟨kvs, hk, rk⟩ := id W7.dc
          refine ⟨_, rfl, _, rfl, sd, kvs, _, rfl, .inl hk, rk.keys, ?_, fun ys N1 pm asc nN1 => ?_⟩
          · have := fit.sz
            rw [List.length_map]
            omega
          have eys : ys = nums (d.sec.map (·.1)) := asc_same (lt_of_le_nodup ys asc (pm.nodup_iff.mpr fit.nd)) (asc_nums _) fun z => by rw [pm.mem_iff, mem_nums]
          have ysl : ys.length ≤ 60 := by have := fit.sz; rw [pm.length_eq, List.length_map]; omega
          generalize e8 : upd H7 N1 _ = H8
          obtain ⟨t8, f8, k8, g8, z8⟩ := own_of (Stp.refl (O := O0) W7.gh) nN1 e8
          refine ⟨N1, rfl, ⟨_, SqL.of f8⟩, fun Dm nDm => ?_⟩
          obtain ⟨t9, f9, k9, g9, z9⟩ := own_of (o := .lst []) t8 nDm rfl
          refine lc_list (K := K) (a := N1) (xs := ys.map V.int) (fun m H9 => Stp O0 G H7 G H9 ∧ H9 N1 = some (rowI ys) ∧ ∃ acc, H9 Dm = some (.lst acc) ∧ acc.length ≤ m ∧
            Paired (fun (v : V) (x : Int × Sec) => ∃ t c, v = V.ref t ∧ H9 t = some (.tup [.int x.1, .ref c]) ∧ t ≠ Dm ∧ H7 c = some (rowI x.2)) acc (((ys.take m).map fun n => (n, d.whole n)).filter (fun (x : Int × Sec) => decide (x.2 ≠ blank))))
            ⟨t9, k9 _ _ f8, [], f9, Nat.le_refl _, .nil⟩ (fun m H9 _ ⟨_, z, _⟩ => SqL.of z) ?_ ?_
          · rintro m y H9 hm ⟨s9, n9, acc, f9, l9, p9⟩
            obtain ⟨n, hn, rfl⟩ : ∃ n, ys[m]? = some n ∧ y = V.int n := by
              rw [List.getElem?_map] at hm
              cases e : ys[m]? with
              | none => rw [e] at hm; cases hm
              | some z => rw [e] at hm; exact ⟨z, rfl, (Option.some.inj hm).symm⟩
            have hm60 := (List.getElem?_eq_some_iff.mp hn).1
            have hmem : n ∈ d.sec.map (·.1) := by
              have := List.mem_of_getElem? hn
              rw [eys, mem_nums] at this
              exact this
            obtain ⟨x, hx⟩ := Option.isSome_iff_exists.mp (look_isSome.mpr hmem)
            obtain ⟨v, hv, rv'⟩ := rk.look_some hx
            obtain ⟨cc, rfl, hcc⟩ := rLI rv'
            have ewh : d.whole n = x := by
              unfold DS.whole
              rw [hx]
              rfl
            have get : ∀ H', Same H7 H' → DGet H' sd (.int n) (some (.ref cc)) := fun H' e => by
              have z := DGet.k (k := Sum.inl n) (e _ _ hk)
              rw [hv] at z
              exact z
            have h79 : Same H7 H9 := fun b o e => s9.kp b o e fun z => z
            refine ⟨rfl, ⟨_, rfl, _, rfl, sd, _, rfl, get H9 h79, (by show 1 ≤ sizeLine; decide), fun q0 n0 => ?_⟩⟩
            generalize e10 : upd H9 q0 _ = H10
            obtain ⟨t10, f10, k10, _, _⟩ := own_of s9 n0 e10
            refine ⟨q0, 16, _, rfl, rfl, f10, by decide, by decide, (by show 1 * 16 ≤ sizeLine; decide), fun q1 n1 => ?_⟩
            generalize e11 : upd H10 q1 _ = H11
            obtain ⟨t11, f11, k11, _, _⟩ := own_of t10 n1 e11
            have h7c := W7.gh _ _ hcc
            have h711 : Same H7 H11 := fun b o e => t11.kp b o e fun z => z
            refine ⟨_, _, dp_ints (xs := x) (h711 _ _ h7c), dp_ints (xs := blank) f11, shaped_ints _, shaped_ints _, _, rfl, ?_⟩
            rw [eqv_ints]
            have hfilter : ((ys.take (m + 1)).map fun n => (n, d.whole n)).filter (fun (x : Int × Sec) => decide (x.2 ≠ blank)) = ((ys.take m).map fun n => (n, d.whole n)).filter (fun (x : Int × Sec) => decide (x.2 ≠ blank)) ++ (if x = blank then [] else [(n, x)]) := by
              rw [List.take_add_one, hn, List.map_append, List.filter_append]
              congr 1
              show List.filter _ [(n, d.whole n)] = _
              rw [ewh]
              by_cases e : x = blank <;> simp [e]
            refine if_nbool (fun e => ?_) (fun e => ?_)
            · have e' : ¬ x = blank := of_decide_eq_false e
              refine ⟨_, rfl, _, rfl, _, rfl, sd, _, rfl, get H11 h711, (by show 2 ≤ sizeLine; decide), fun t nt => ?_⟩
              generalize e12 : upd H11 t _ = H12
              obtain ⟨t12, f12, k12, _, _⟩ := own_of t11 nt e12
              have fD := k12 _ _ (k11 _ _ (k10 _ _ f9))
              refine ⟨acc, fD, by rw [sizeLine_eq]; omega, ?_⟩
              generalize e13 : upd H12 Dm _ = H13
              obtain ⟨t13, f13, k13⟩ := wr_of t12 fD g9 (.inr z9) e13
              have tD : t ≠ Dm := (ne_of_none (k11 _ _ (k10 _ _ f9)) nt).symm
              refine ⟨t13, k13 _ _ (ne_of_none f8 nDm) (k12 _ _ (k11 _ _ (k10 _ _ n9))), _, f13, by rw [List.length_append]; exact Nat.succ_le_succ l9, ?_⟩
              rw [hfilter, if_neg e']
              refine pd_snoc (pd_mono (fun v x z => ?_) p9) ⟨t, cc, rfl, k13 _ _ tD f12, tD, h7c⟩
              obtain ⟨t', c', e1, a1, a2, a3⟩ := z
              exact ⟨t', c', e1, k13 _ _ a2 (k12 _ _ (k11 _ _ (k10 _ _ a1))), a2, a3⟩
            · have e' : x = blank := of_decide_eq_true e
              refine ⟨t11, k11 _ _ (k10 _ _ n9), acc, k11 _ _ (k10 _ _ f9), Nat.le_succ_of_le l9, ?_⟩
              rw [hfilter, if_pos e', List.append_nil]
              refine pd_mono (fun v x z => ?_) p9
              obtain ⟨t', c', e1, a1, a2, a3⟩ := z
              exact ⟨t', c', e1, k11 _ _ (k10 _ _ a1), a2, a3⟩
          · rintro H9 ⟨s9, n9, acc, f9, l9, p9⟩
            rw [List.length_map, List.take_of_length_le (Nat.le_refl _), eys] at p9
            have h79 : Same H7 H9 := fun b o e => s9.kp b o e fun z => z
            have r1 : rL rSec H9 (.ref q) (told d.sec) := ⟨q, us7, rfl, h79 _ _ fq, pd_mono (fun v x z => by
              obtain ⟨t', c', e1, a1, a2, _⟩ := z
              exact ⟨t', _, _, e1, h79 _ _ a1, rfl, rLI_of (h79 _ _ a2)⟩) pq⟩
            have r2 : rL rSec H9 (.ref Dm) (told d.sec) := ⟨Dm, acc, rfl, f9, pd_mono (fun v x z => by
              obtain ⟨t', c', e1, a1, a2, a3⟩ := z
              exact ⟨t', _, _, e1, a1, rfl, rLI_of (h79 _ _ a3)⟩) p9⟩
            refine ⟨_, _, eRows.dp (Same.refl H9) r1, eRows.dp (Same.refl H9) r2, eRows.shaped (by decide) (okRows _), eRows.shaped (by decide) (okRows _), _, rfl, ?_⟩
            rw [eRows.refl (okRows _)]
            have W9 := W7.al0 s9
            refine iteF ⟨_, rfl, q, rfl, ⟨_, SqL.of (h79 _ _ fq)⟩, for_list (K := K) (a := q) (xs := us7)
              (fun j σ H => (∃ z10 z13, σ = sig a s p sd wv rv d (.ref fl) y9 z10 y11 y12 z13 (some (.ref q)) y15 y16 y17 y18 y19 y20) ∧ LW C G H s c p ds sd wl d d wv rv ∧ H q = some (.lst us7) ∧
                Paired (fun v x => ∃ t c', v = V.ref t ∧ H t = some (.tup [.int x.1, .ref c']) ∧ (∃ zs, H c' = some (.lst zs) ∧ zs.length = 16) ∧ G c' = none ∧ ¬ Own s c p ds sd wl c' ∧ c' ≠ q) us7 (told d.sec))
              ⟨⟨_, _, rfl⟩, W9, h79 _ _ fq, ?_⟩ (fun j σ H _ ⟨_, _, z, _⟩ => SqL.of z) ?_ ?_⟩
            · have aux : ∀ {us : List V} {xs : List (Int × Sec)}, (∀ x ∈ xs, x.2.length = 16) → Paired (NewRowD H6 G H7 q) us xs → Paired (fun v x => ∃ t c', v = V.ref t ∧ H9 t = some (.tup [.int x.1, .ref c']) ∧ (∃ zs, H9 c' = some (.lst zs) ∧ zs.length = 16) ∧ G c' = none ∧ ¬ Own s c p ds sd wl c' ∧ c' ≠ q) us xs := by
                intro us xs h16 h
                induction h with
                | nil => exact .nil
                | cons z _ ih =>
                  refine .cons ?_ (ih fun x hx => h16 x (List.mem_cons_of_mem _ hx))
                  obtain ⟨t', c', e1, a1, a2, a3, a4, a5, a6, a7, a8⟩ := z
                  exact ⟨t', c', e1, h79 _ _ a1, ⟨_, h79 _ _ a2, by rw [List.length_map]; exact h16 _ List.mem_cons_self⟩, a6, W.off a4, a8⟩
              exact aux (told_16 fit.ls) pq
            · rintro j y σ H hj ⟨⟨z10, z13, rfl⟩, Wj, fj, pj⟩
              obtain ⟨x, hx, t, c', rfl, ht, ⟨zs, hc', hz⟩, gc', oc', cq⟩ := pd_get pj hj
              refine g_pair ht ⟨_, rfl, c', zs, 3, 3, rfl, rfl, hc', ?_, ?_⟩
              · unfold ixN
                rw [if_pos (by decide), if_pos (by rw [hz]; decide)]
                rfl
              generalize e10 : upd H c' _ = H10
              obtain ⟨t10, f10, k10⟩ := wr_of (Stp.refl (O := fun b => b = c') Wj.gh) hc' gc' (.inl rfl) e10
              refine ⟨⟨_, _, rfl⟩, Wj.al t10 fun b hb z => oc' (z ▸ hb), k10 _ _ cq.symm fj, pd_mono (fun v x z => ?_) pj⟩
              obtain ⟨t', c2, e1, a1, ⟨z2, a2, a3⟩, a4, a5, a6⟩ := z
              refine ⟨t', c2, e1, k10 _ _ (ne_of a1 hc' fun z => nomatch z) a1, ?_, a4, a5, a6⟩
              by_cases e : c2 = c'
              · subst e
                exact ⟨_, f10, by rw [List.length_set]; exact hz⟩
              · exact ⟨z2, k10 _ _ e a2, a3⟩
            · rintro σ H ⟨⟨z10, z13, rfl⟩, Wj, fj, pj⟩
              exact ⟨G, wl, d, wv, rv, _, _, _, _, _, _, _, _, _, _, _, _, rfl, Wj, fit, lf, sz, rz⟩
    · rintro σ H ⟨G, wl, d, wv, rv, x9, x10, x11, x12, x13, x14, x15, x16, x17, x18, x19, x20, rfl, W, fit, lf, sz, rz⟩
      -- a disk of the told sectors tells the same
      obtain ⟨dx, rl, h1, _⟩ := id W.dk.ob
      have tl := told_len d.sec
      have fsz := fit.sz
      refine ⟨_, rfl, p, dx, _, rfl, h1, df_no (by decide +kernel) (by decide +kernel) (by decide +kernel) (by decide +kernel) (by decide +kernel), G, p, ds, wl, d, rfl, W.gh, W.dk, fit, fun q us H1 t1 nq fq pq => fun p2 dx2 np ndx nex => ?_⟩
      have kx : ∀ b o, H1 b = some o → (upd (upd H1 dx2 (.own p2)) p2 (.ins C dx2 [])) b = some o := fun b o e => by rw [upd_ne (ne_of_none e np), upd_ne (ne_of_none e ndx)]; exact e
      have W1 := W.al0 t1
      refine ⟨G, p2, dx2, q, us, told d.sec, rfl, fun b o e => kx b o (t1.gh b o e), upd_same, gn_of t1.gh np, kx _ _ fq, pd_mono (fun v x z => by
          obtain ⟨t', c', e1, a1, a2, _⟩ := z
          exact ⟨t', _, _, e1, kx _ _ a1, rfl, rLI_of (kx _ _ a2)⟩) pq, by omega, fun ds2 wl2 G3 H3 t3 D3 z3 z4 => ⟨rfl, ?_⟩⟩
      have k3 : Same H1 H3 := fun b o e => t3.kp b o (kx b o e) (ne_of_none e np)
      have fit3 : Fit ⟨ofRows (told d.sec), [], none, [], false⟩ := by
        have e : ofRows (told d.sec) = synS [] (told d.sec) := rfl
        have z := synS_len (told d.sec) []
        refine ⟨by rw [e]; exact synS_nd _ [] List.nodup_nil, ?_, Nat.zero_le _, by rw [e]; exact synS_16 _ [] (fun x hx => by cases hx) (told_16 fit.ls), fun x hx => by cases hx⟩
        rw [e]
        show (synS [] (told d.sec)).length + 0 ≤ 60
        rw [List.length_nil] at z
        omega
      obtain ⟨dx3, rl3, h3, _⟩ := id D3.ob
      refine ⟨p2, dx3, _, rfl, h3, df_no (by decide +kernel) (by decide +kernel) (by decide +kernel) (by decide +kernel) (by decide +kernel), G3, p2, ds2, wl2, _, rfl, t3.gh, D3, fit3, fun q4 us4 H4 t4 nq4 fq4 pq4 => ?_⟩
      -- the first disk still stands
      have D1 : DiskAt C G3 H4 p ds wl d := by
        obtain ⟨dx', rl', b1, b2⟩ := W1.dk.ob
        obtain ⟨kvs', b3, b4⟩ := W1.dk.sec
        obtain ⟨ws', b5, b6⟩ := W1.dk.wai
        exact ⟨⟨dx', rl', t4.kp _ _ (k3 _ _ b1) (fun z => z), (mI.p mI).l _ _ _ _ t3.gg b2⟩, ⟨kvs', t4.kp _ _ (k3 _ _ b3) (fun z => z), b4.mono mSec t3.gg⟩, ⟨ws', t4.kp _ _ (k3 _ _ b5) (fun z => z), mRow.ps t3.gg b6⟩,
          t3.nw _ (ne_none (kx _ _ b1)) W1.dk.gp, t3.nw _ (ne_none (kx _ _ b3)) W1.dk.gs, t3.nw _ (ne_none (kx _ _ b5)) W1.dk.gw⟩
      obtain ⟨dx5, rl5, h5, _⟩ := id D1.ob
      refine ⟨_, rfl, p, dx5, _, rfl, h5, df_no (by decide +kernel) (by decide +kernel) (by decide +kernel) (by decide +kernel) (by decide +kernel), G3, p, ds, wl, d, rfl, t4.gh, D1, fit, fun q5 us5 H5 t5 nq5 fq5 pq5 => ?_⟩
      have k45 : Same H4 H5 := fun b o e => t5.kp b o e fun z => z
      have r1 : rL rSec H5 (.ref q4) (told d.sec) := ⟨q4, us4, rfl, k45 _ _ fq4, by
        rw [← told_told d.sec]
        exact pd_mono (fun v x z => by
          obtain ⟨t', c', e1, a1, a2, _⟩ := z
          exact ⟨t', _, _, e1, k45 _ _ a1, rfl, rLI_of (k45 _ _ a2)⟩) pq4⟩
      have r2 : rL rSec H5 (.ref q5) (told d.sec) := ⟨q5, us5, rfl, fq5, pd_mono (fun v x z => by
          obtain ⟨t', c', e1, a1, a2, _⟩ := z
          exact ⟨t', _, _, e1, a1, rfl, rLI_of a2⟩) pq5⟩
      refine ⟨_, _, eRows.dp (Same.refl H5) r1, eRows.dp (Same.refl H5) r2, eRows.shaped (by decide) (okRows _), eRows.shaped (by decide) (okRows _), ?_⟩
      rw [eRows.refl (okRows _)]
      exact k _
end
end K51

/-! the end: what the top has written; the law. -/
namespace K51
open PySem PySem.Spec PyProof.Rows L2 Y
theorem all_mk {l : PySem.W.OpenLaw} {w : World} {K : PySem.W.Frag} {h : Heap} {mg : Str → Option Value} {fa C f1 f2 f3 f4 f5 f6 f7 f8 f9 f10 f11 f12 f13 : Addr} {tS : Tok} (X : K.In h) (G : h.Ns mainGlobals mg) (hfa : mg "law" = some (.ref fa))
    {od1 an1 od2 an2 od3 an3 od4 an4 od5 an5 od6 an6 od7 an7 od8 an8 od9 an9 od10 an10 od11 an11 od12 an12 od13 an13 : Option Addr} {sl1 sl2 sl3 sl4 sl5 sl6 sl7 sl8 sl9 sl10 sl11 sl12 sl13 : Array (Option Value)} {oc1 kV1 dc1 pm1 cd1 ct1 oc2 kV2 dc2 pm2 cd2 ct2 oc3 kV3 dc3 pm3 cd3 ct3 oc4 kV4 dc4 pm4 cd4 ct4 oc5 kV5 dc5 pm5 cd5 ct5 oc6 kV6 dc6 pm6 cd6 ct6 oc7 kV7 dc7 pm7 cd7 ct7 oc8 kV8 dc8 pm8 cd8 ct8 oc9 kV9 dc9 pm9 cd9 ct9 oc10 kV10 dc10 pm10 cd10 ct10 oc11 kV11 dc11 pm11 cd11 ct11 oc12 kV12 dc12 pm12 cd12 ct12 oc13 kV13 dc13 pm13 cd13 ct13 : Value}
    (aCC : PySem.W.nsIn K mainGlobals "Disk" = some (some (.ref C)))
    (a1 : PySem.W.findIn K (.ref C) "__init__" = some (some (.ref f1)))
    (i1 : PySem.W.isFn K (.ref f1) = true)
    (l1 : K.lookup f1 = some ⟨oc1, od1, .func (PySem.W.fnOf "__init__" "Disk.__init__" (defArgs s_Disk_init) (defBody s_Disk_init) (defScope s_Disk_init) .none kV1 dc1 pm1 an1 cd1 ct1), sl1⟩) (c1 : PySem.W.codeIn K cd1 "Disk.__init__" = true) (k1 : PySem.W.keepIn K (.ref f1) = true)
    (a2 : PySem.W.findIn K (.ref C) "whole" = some (some (.ref f2)))
    (i2 : PySem.W.isFn K (.ref f2) = true)
    (l2 : K.lookup f2 = some ⟨oc2, od2, .func (PySem.W.fnOf "whole" "Disk.whole" (defArgs s_Disk_whole) (defBody s_Disk_whole) (defScope s_Disk_whole) .none kV2 dc2 pm2 an2 cd2 ct2), sl2⟩) (c2 : PySem.W.codeIn K cd2 "Disk.whole" = true) (k2 : PySem.W.keepIn K (.ref f2) = true)
    (a3 : PySem.W.findIn K (.ref C) "read" = some (some (.ref f3)))
    (i3 : PySem.W.isFn K (.ref f3) = true)
    (l3 : K.lookup f3 = some ⟨oc3, od3, .func (PySem.W.fnOf "read" "Disk.read" (defArgs s_Disk_read) (defBody s_Disk_read) (defScope s_Disk_read) .none kV3 dc3 pm3 an3 cd3 ct3), sl3⟩) (c3 : PySem.W.codeIn K cd3 "Disk.read" = true) (k3 : PySem.W.keepIn K (.ref f3) = true)
    (a4 : PySem.W.findIn K (.ref C) "cut_in" = some (some (.ref f4)))
    (i4 : PySem.W.isFn K (.ref f4) = true)
    (l4 : K.lookup f4 = some ⟨oc4, od4, .func (PySem.W.fnOf "cut_in" "Disk.cut_in" (defArgs s_Disk_cut_in) (defBody s_Disk_cut_in) (defScope s_Disk_cut_in) .none kV4 dc4 pm4 an4 cd4 ct4), sl4⟩) (c4 : PySem.W.codeIn K cd4 "Disk.cut_in" = true) (k4 : PySem.W.keepIn K (.ref f4) = true)
    (a5 : PySem.W.findIn K (.ref C) "counts" = some (some (.ref f5)))
    (i5 : PySem.W.isFn K (.ref f5) = true)
    (l5 : K.lookup f5 = some ⟨oc5, od5, .func (PySem.W.fnOf "counts" "Disk.counts" (defArgs s_Disk_counts) (defBody s_Disk_counts) (defScope s_Disk_counts) .none kV5 dc5 pm5 an5 cd5 ct5), sl5⟩) (c5 : PySem.W.codeIn K cd5 "Disk.counts" = true) (k5 : PySem.W.keepIn K (.ref f5) = true)
    (a6 : PySem.W.findIn K (.ref C) "write" = some (some (.ref f6)))
    (i6 : PySem.W.isFn K (.ref f6) = true)
    (l6 : K.lookup f6 = some ⟨oc6, od6, .func (PySem.W.fnOf "write" "Disk.write" (defArgs s_Disk_write) (defBody s_Disk_write) (defScope s_Disk_write) .none kV6 dc6 pm6 an6 cd6 ct6), sl6⟩) (c6 : PySem.W.codeIn K cd6 "Disk.write" = true) (k6 : PySem.W.keepIn K (.ref f6) = true)
    (a7 : PySem.W.findIn K (.ref C) "sync" = some (some (.ref f7)))
    (i7 : PySem.W.isFn K (.ref f7) = true)
    (l7 : K.lookup f7 = some ⟨oc7, od7, .func (PySem.W.fnOf "sync" "Disk.sync" (defArgs s_Disk_sync) (defBody s_Disk_sync) (defScope s_Disk_sync) .none kV7 dc7 pm7 an7 cd7 ct7), sl7⟩) (c7 : PySem.W.codeIn K cd7 "Disk.sync" = true) (k7 : PySem.W.keepIn K (.ref f7) = true)
    (a8 : PySem.W.findIn K (.ref C) "crash" = some (some (.ref f8)))
    (i8 : PySem.W.isFn K (.ref f8) = true)
    (l8 : K.lookup f8 = some ⟨oc8, od8, .func (PySem.W.fnOf "crash" "Disk.crash" (defArgs s_Disk_crash) (defBody s_Disk_crash) (defScope s_Disk_crash) .none kV8 dc8 pm8 an8 cd8 ct8), sl8⟩) (c8 : PySem.W.codeIn K cd8 "Disk.crash" = true) (k8 : PySem.W.keepIn K (.ref f8) = true)
    (a9 : PySem.W.findIn K (.ref C) "synced" = some (some (.ref f9)))
    (i9 : PySem.W.isFn K (.ref f9) = true)
    (l9 : K.lookup f9 = some ⟨oc9, od9, .func (PySem.W.fnOf "synced" "Disk.synced" (defArgs s_Disk_synced) (defBody s_Disk_synced) (defScope s_Disk_synced) .none kV9 dc9 pm9 an9 cd9 ct9), sl9⟩) (c9 : PySem.W.codeIn K cd9 "Disk.synced" = true) (k9 : PySem.W.keepIn K (.ref f9) = true)
    (a10 : PySem.W.nsIn K mainGlobals "_law_state" = some (some (.ref f10)))
    (l10 : K.lookup f10 = some ⟨oc10, od10, .func (PySem.W.fnOf "_law_state" "_law_state" (defArgs s__law_state) (defBody s__law_state) (defScope s__law_state) .none kV10 dc10 pm10 an10 cd10 ct10), sl10⟩) (c10 : PySem.W.codeIn K cd10 "_law_state" = true) (k10 : PySem.W.keepIn K (.ref f10) = true)
    (a11 : PySem.W.nsIn K mainGlobals "_law_take" = some (some (.ref f11)))
    (l11 : K.lookup f11 = some ⟨oc11, od11, .func (PySem.W.fnOf "_law_take" "_law_take" (defArgs s__law_take) (defBody s__law_take) (defScope s__law_take) .none kV11 dc11 pm11 an11 cd11 ct11), sl11⟩) (c11 : PySem.W.codeIn K cd11 "_law_take" = true) (k11 : PySem.W.keepIn K (.ref f11) = true)
    (a12 : PySem.W.nsIn K mainGlobals "_law_crashed" = some (some (.ref f12)))
    (l12 : K.lookup f12 = some ⟨oc12, od12, .func (PySem.W.fnOf "_law_crashed" "_law_crashed" (defArgs s__law_crashed) (defBody s__law_crashed) (defScope s__law_crashed) .none kV12 dc12 pm12 an12 cd12 ct12), sl12⟩) (c12 : PySem.W.codeIn K cd12 "_law_crashed" = true) (k12 : PySem.W.keepIn K (.ref f12) = true)
    (a13 : PySem.W.nsIn K mainGlobals "law" = some (some (.ref f13)))
    (l13 : K.lookup f13 = some ⟨oc13, od13, .func (PySem.W.fnOf "law" "law" (defArgs s_law) (defBody s_law) (defScope s_law) .none kV13 dc13 pm13 an13 cd13 ct13), sl13⟩) (c13 : PySem.W.codeIn K cd13 "law" = true) (k13 : PySem.W.keepIn K (.ref f13) = true)
    (pgC : PySem.W.plainGet K C Str.empty = true)
    (hdC : PySem.W.hasDictIn K C = true)
    (poC : PySem.W.plainOver K C = true)
    (saC : PySem.W.findIn K (.ref C) "__setattr__" = some (some (.builtin "object.__setattr__")))
    (mkC : PySem.W.makesIn K C = true)
    (kcC : PySem.W.keepIn K (.ref C) = true)
    (nC_sectors : PySem.W.findIn K (.ref C) "sectors" = some none)
    (nC_waiting : PySem.W.findIn K (.ref C) "waiting" = some none)
    (nC_left : PySem.W.findIn K (.ref C) "left" = some none)
    (nC_rows : PySem.W.findIn K (.ref C) "rows" = some none)
    (nC_is_cut : PySem.W.findIn K (.ref C) "is_cut" = some none)
    (z_SECTOR : PySem.W.nsIn K mainGlobals "SECTOR" = some (some (.int 16 tS)))
    (b_list : PySem.W.nsIn K mainGlobals "list" = some none)
    (b_len : PySem.W.nsIn K mainGlobals "len" = some none)
    (b_min : PySem.W.nsIn K mainGlobals "min" = some none)
    (b_max : PySem.W.nsIn K mainGlobals "max" = some none)
    (b_sorted : PySem.W.nsIn K mainGlobals "sorted" = some none)
    (b_set : PySem.W.nsIn K mainGlobals "set" = some none)
    (b_zip : PySem.W.nsIn K mainGlobals "zip" = some none)
    (b_range : PySem.W.nsIn K mainGlobals "range" = some none)
    (b_abs : PySem.W.nsIn K mainGlobals "abs" = some none)
    (b_int : PySem.W.nsIn K mainGlobals "int" = some none)
    (b_dict : PySem.W.nsIn K mainGlobals "dict" = some none)
    : ∃ fd : FuncData, (∀ (s : Shared) (v : Value), BindsTo s fd ⟨[v], []⟩ [("script", v)]) ∧ ∀ base : Heap, K.In base → base.Ns mainGlobals mg → FnOk l.prog w K mg base CX0 5 fa fd ["script"] (spLaw K) := by
  have e := hfa.symm.trans (PySem.W.mg_of X G a13)
  cases e
  have T : Txt K mg C tS := ⟨⟨pgC, hdC, poC, saC⟩, nC_sectors, nC_waiting, nC_left, nC_rows, nC_is_cut, PySem.W.mg_of X G z_SECTOR, PySem.W.mg_none_of X G b_list, PySem.W.mg_none_of X G b_len, PySem.W.mg_none_of X G b_min, PySem.W.mg_none_of X G b_max, PySem.W.mg_none_of X G b_sorted, PySem.W.mg_none_of X G b_set, PySem.W.mg_none_of X G b_zip, PySem.W.mg_none_of X G b_range, PySem.W.mg_none_of X G b_abs, PySem.W.mg_none_of X G b_int, PySem.W.mg_none_of X G b_dict⟩
  have F1 := fun_mk (st := s_Disk_init) l1 c1 k1
  have F2 := fun_mk (st := s_Disk_whole) l2 c2 k2
  have F3 := fun_mk (st := s_Disk_read) l3 c3 k3
  have F4 := fun_mk (st := s_Disk_cut_in) l4 c4 k4
  have F5 := fun_mk (st := s_Disk_counts) l5 c5 k5
  have F6 := fun_mk (st := s_Disk_write) l6 c6 k6
  have F7 := fun_mk (st := s_Disk_sync) l7 c7 k7
  have F8 := fun_mk (st := s_Disk_crash) l8 c8 k8
  have F9 := fun_mk (st := s_Disk_synced) l9 c9 k9
  have F10 := fun_mk (st := s__law_state) l10 c10 k10
  have F11 := fun_mk (st := s__law_take) l11 c11 k11
  have F12 := fun_mk (st := s__law_crashed) l12 c12 k12
  have F13 := fun_mk (st := s_law) l13 c13 k13
  have B1 := F1.binds (ps := ["self", "sectors"]) fun _ _ _ _ _ _ us hl => match us, hl with | [_, _], _ => rfl
  have B2 := F2.binds (ps := ["self", "number"]) fun _ _ _ _ _ _ us hl => match us, hl with | [_, _], _ => rfl
  have B3 := F3.binds (ps := ["self", "number"]) fun _ _ _ _ _ _ us hl => match us, hl with | [_, _], _ => rfl
  have B4 := F4.binds (ps := ["self", "many", "rows"]) fun _ _ _ _ _ _ us hl => match us, hl with | [_, _, _], _ => rfl
  have B5 := F5.binds (ps := ["self"]) fun _ _ _ _ _ _ us hl => match us, hl with | [_], _ => rfl
  have B6 := F6.binds (ps := ["self", "number", "content"]) fun _ _ _ _ _ _ us hl => match us, hl with | [_, _, _], _ => rfl
  have B7 := F7.binds (ps := ["self"]) fun _ _ _ _ _ _ us hl => match us, hl with | [_], _ => rfl
  have B8 := F8.binds (ps := ["self", "rows"]) fun _ _ _ _ _ _ us hl => match us, hl with | [_, _], _ => rfl
  have B9 := F9.binds (ps := ["self"]) fun _ _ _ _ _ _ us hl => match us, hl with | [_], _ => rfl
  have B10 := F10.binds (ps := ["script"]) fun _ _ _ _ _ _ us hl => match us, hl with | [_], _ => rfl
  have B11 := F11.binds (ps := ["state", "most"]) fun _ _ _ _ _ _ us hl => match us, hl with | [_, _], _ => rfl
  have B12 := F12.binds (ps := ["sectors", "waiting", "rows"]) fun _ _ _ _ _ _ us hl => match us, hl with | [_, _, _], _ => rfl
  refine ⟨PySem.W.fnOf "law" "law" (defArgs s_law) (defBody s_law) (defScope s_law) .none kV13 dc13 pm13 an13 cd13 ct13, fun s v => .of_eq rfl, fun base _ _ => ?_⟩
  have L_c_Disk : CsC l.prog w K mg base "Disk" C 1 ["self", "sectors"] (spInit C) := ⟨⟨_, _, ok_init (P := l.prog) (w := w) (base := base) F1 T , ⟨mkC, a1, i1, kcC⟩, B1⟩, PySem.W.mg_of X G aCC⟩
  have L_Disk_whole : MtC l.prog w K mg base C "whole" 1 ["self", "number"] (spWhole C) := ⟨⟨_, _, ok_whole (P := l.prog) (w := w) (base := base) F2 T , ⟨a2, i2, k2⟩, B2⟩, ⟨pgC, hdC, poC, saC⟩⟩
  have L_Disk_cut_in : MtC l.prog w K mg base C "cut_in" 1 ["self", "many", "rows"] (spCutIn C) := ⟨⟨_, _, ok_cut_in (P := l.prog) (w := w) (base := base) F4 T , ⟨a4, i4, k4⟩, B4⟩, ⟨pgC, hdC, poC, saC⟩⟩
  have L_Disk_synced : MtC l.prog w K mg base C "synced" 1 ["self"] (spSynced C) := ⟨⟨_, _, ok_synced (P := l.prog) (w := w) (base := base) F9 T , ⟨a9, i9, k9⟩, B9⟩, ⟨pgC, hdC, poC, saC⟩⟩
  have L__law_state : FnC l.prog w K mg base "_law_state" 1 ["script"] (spState K) := ⟨⟨_, _, ok_state (P := l.prog) (w := w) (base := base) F10 T , PySem.W.mg_of X G a10, k10, B10⟩⟩
  have L__law_take : FnC l.prog w K mg base "_law_take" 1 ["state", "most"] (spTake) := ⟨⟨_, _, ok_take (P := l.prog) (w := w) (base := base) F11 T , PySem.W.mg_of X G a11, k11, B11⟩⟩
  have L__law_crashed : FnC l.prog w K mg base "_law_crashed" 1 ["sectors", "waiting", "rows"] (spLCr) := ⟨⟨_, _, ok_lcr (P := l.prog) (w := w) (base := base) F12 T , PySem.W.mg_of X G a12, k12, B12⟩⟩
  have L_Disk_read : MtC l.prog w K mg base C "read" 2 ["self", "number"] (spRead C) := ⟨⟨_, _, ok_read (P := l.prog) (w := w) (base := base) F3 T L_Disk_whole, ⟨a3, i3, k3⟩, B3⟩, ⟨pgC, hdC, poC, saC⟩⟩
  have L_Disk_crash : MtC l.prog w K mg base C "crash" 2 ["self", "rows"] (spCrash C) := ⟨⟨_, _, ok_crash (P := l.prog) (w := w) (base := base) F8 T L_Disk_whole, ⟨a8, i8, k8⟩, B8⟩, ⟨pgC, hdC, poC, saC⟩⟩
  have L_Disk_counts : MtC l.prog w K mg base C "counts" 3 ["self"] (spCounts C) := ⟨⟨_, _, ok_counts (P := l.prog) (w := w) (base := base) F5 T L_Disk_crash, ⟨a5, i5, k5⟩, B5⟩, ⟨pgC, hdC, poC, saC⟩⟩
  have L_Disk_write : MtC l.prog w K mg base C "write" 4 ["self", "number", "content"] (spWrite C) := ⟨⟨_, _, ok_write (P := l.prog) (w := w) (base := base) F6 T L_Disk_counts, ⟨a6, i6, k6⟩, B6⟩, ⟨pgC, hdC, poC, saC⟩⟩
  have L_Disk_sync : MtC l.prog w K mg base C "sync" 4 ["self"] (spSync C) := ⟨⟨_, _, ok_sync (P := l.prog) (w := w) (base := base) F7 T L_Disk_counts, ⟨a7, i7, k7⟩, B7⟩, ⟨pgC, hdC, poC, saC⟩⟩
  exact ok_law F13 T L__law_state L__law_take L__law_crashed L_c_Disk L_Disk_cut_in L_Disk_crash L_Disk_write L_Disk_sync L_Disk_read L_Disk_synced
theorem walk {l : PySem.W.OpenLaw} {q : Program} {loose : List Str} {XP : (Str → Option Value) → Heap → Prop} {YP : World → Heap → Prop} {d : DefRec} {K : Params → PySem.W.Frag} (hn : l.most = some 63) (hdf : d.params.defaults = [])
    (hY : ∀ (w : World) (h : Heap), YP w h → (K w.params).In h)
    (F : ∀ (w : World) (mg : Str → Option Value) (fa : Addr) (h : Heap), (K w.params).In h → h.Ns mainGlobals mg → mg d.name = some (.ref fa) →
      ∃ fd : FuncData, (∀ (s : Shared) (u : Value), BindsTo s fd ⟨[u], []⟩ [("script", u)]) ∧ ∀ base : Heap, (K w.params).In base → base.Ns mainGlobals mg → FnOk l.prog w (K w.params) mg base CX0 5 fa fd ["script"] (spLaw (K w.params))) :
    PySem.W.WalkO q loose XP YP l.row.toRowW d [] (fun f vs => PySem.call f vs) :=
  L2.walk_of (n := 63) (k := 5) (x := "script") (CX := fun _ => CX0) (sp := fun w => spLaw (K w.params)) hn (by decide) hdf ⟨rfl, by decide, by decide⟩ hY F (fun _ _ a ns hl _ hS => ⟨a, ns, rfl, hS, fun _ => rfl⟩) fun _ _ _ _ _ z => z
end K51
open PySem PySem.W PyProof.Rows
set_option maxRecDepth 100000 in
set_option maxHeartbeats 0 in
theorem PySem.Challenge.cw_stonestairs_k51_disks_torn_in_any_order_holds : PySem.Challenge.rw_stonestairs_k51_disks_torn_in_any_order.Holds := by
  w_on; o_law; k_head; (case hw => w_witness2)
  k_fill
  refine K51.walk (l := PySem.Challenge.rw_stonestairs_k51_disks_torn_in_any_order) rfl rfl (fun w h Y => PySem.W.kIn_of Y) ?F
  case F =>
    intro w mg fa h KX G hmg
    refine' K51.all_mk KX G hmg ?aCC ?a1 ?i1 ?l1 ?c1 ?k1 ?a2 ?i2 ?l2 ?c2 ?k2 ?a3 ?i3 ?l3 ?c3 ?k3 ?a4 ?i4 ?l4 ?c4 ?k4 ?a5 ?i5 ?l5 ?c5 ?k5 ?a6 ?i6 ?l6 ?c6 ?k6 ?a7 ?i7 ?l7 ?c7 ?k7 ?a8 ?i8 ?l8 ?c8 ?k8 ?a9 ?i9 ?l9 ?c9 ?k9 ?a10 ?l10 ?c10 ?k10 ?a11 ?l11 ?c11 ?k11 ?a12 ?l12 ?c12 ?k12 ?a13 ?l13 ?c13 ?k13 ?pgC ?hdC ?poC ?saC ?mkC ?kcC ?nC_sectors ?nC_waiting ?nC_left ?nC_rows ?nC_is_cut ?z_SECTOR ?b_list ?b_len ?b_min ?b_max ?b_sorted ?b_set ?b_zip ?b_range ?b_abs ?b_int ?b_dict
    (case aCC => k_is)
    (case a1 => k_is)
    (case i1 => k_is)
    (case l1 => k_is)
    (case c1 => k_is)
    (case k1 => k_is)
    (case a2 => k_is)
    (case i2 => k_is)
    (case l2 => k_is)
    (case c2 => k_is)
    (case k2 => k_is)
    (case a3 => k_is)
    (case i3 => k_is)
    (case l3 => k_is)
    (case c3 => k_is)
    (case k3 => k_is)
    (case a4 => k_is)
    (case i4 => k_is)
    (case l4 => k_is)
    (case c4 => k_is)
    (case k4 => k_is)
    (case a5 => k_is)
    (case i5 => k_is)
    (case l5 => k_is)
    (case c5 => k_is)
    (case k5 => k_is)
    (case a6 => k_is)
    (case i6 => k_is)
    (case l6 => k_is)
    (case c6 => k_is)
    (case k6 => k_is)
    (case a7 => k_is)
    (case i7 => k_is)
    (case l7 => k_is)
    (case c7 => k_is)
    (case k7 => k_is)
    (case a8 => k_is)
    (case i8 => k_is)
    (case l8 => k_is)
    (case c8 => k_is)
    (case k8 => k_is)
    (case a9 => k_is)
    (case i9 => k_is)
    (case l9 => k_is)
    (case c9 => k_is)
    (case k9 => k_is)
    (case a10 => k_is)
    (case l10 => k_is)
    (case c10 => k_is)
    (case k10 => k_is)
    (case a11 => k_is)
    (case l11 => k_is)
    (case c11 => k_is)
    (case k11 => k_is)
    (case a12 => k_is)
    (case l12 => k_is)
    (case c12 => k_is)
    (case k12 => k_is)
    (case a13 => k_is)
    (case l13 => k_is)
    (case c13 => k_is)
    (case k13 => k_is)
    (case pgC => k_is)
    (case hdC => k_is)
    (case poC => k_is)
    (case saC => k_is)
    (case mkC => k_is)
    (case kcC => k_is)
    (case nC_sectors => k_is)
    (case nC_waiting => k_is)
    (case nC_left => k_is)
    (case nC_rows => k_is)
    (case nC_is_cut => k_is)
    (case z_SECTOR => k_is)
    (case b_list => k_is)
    (case b_len => k_is)
    (case b_min => k_is)
    (case b_max => k_is)
    (case b_sorted => k_is)
    (case b_set => k_is)
    (case b_zip => k_is)
    (case b_range => k_is)
    (case b_abs => k_is)
    (case b_int => k_is)
    (case b_dict => k_is)
#print axioms PySem.Challenge.cw_stonestairs_k51_disks_torn_in_any_order_holds

