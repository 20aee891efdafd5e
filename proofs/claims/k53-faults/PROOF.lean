import PyProof.Rows.All
import Wide.All
import OpenK.AllK
import Wide.FinOn
import HandS.ForMost
import HandS.SortInts
import HandS.Strs
import HandS.SetFor
import HandS.DictComp
import HandS.More
import HandS.Wide
import HandS.Flow
import HandS.Conv
import HandS.Codes
import HandS.Defaults
import KE.DataFind
import PyProof.AssignAttr
import PyProof.ReprRoads
import KE.DatumOrd
import HandS.DictTup
import PySem.Challenge.RW_stonestairs_k53_faults_of_pages
import HandS.Style
import KE.OsRunLaw
set_option maxHeartbeats 4000000
set_option Elab.async false
set_option linter.all false
set_option maxRecDepth 100000
/-! YBase: data over a heap that only grows (G), owned objects beside it (H), callees in one word, readings in short. -/
namespace Y
open PySem PySem.Spec PyProof.Rows L2

/-! ### pairs of lists -/
section
variable {α β γ : Type} {F : α → β → Prop}
theorem pd_len {xs : List α} {ys : List β} (h : Paired F xs ys) : xs.length = ys.length := Paired.length h
theorem pd_get : ∀ {xs : List α} {ys : List β}, Paired F xs ys → ∀ {i : Nat} {x : α}, xs[i]? = some x → ∃ y, ys[i]? = some y ∧ F x y
  | _, _, .nil, i, x, e => by simp at e
  | _, _, .cons r _, 0, x, e => by simp at e; subst e; exact ⟨_, rfl, r⟩
  | _, _, .cons _ t, i + 1, x, e => by
    have ⟨y, h1, h2⟩ := pd_get t (i := i) (x := x) (by simpa using e)
    exact ⟨y, by simpa using h1, h2⟩
theorem pd_get' : ∀ {xs : List α} {ys : List β}, Paired F xs ys → ∀ {i : Nat} {y : β}, ys[i]? = some y → ∃ x, xs[i]? = some x ∧ F x y
  | _, _, .nil, i, x, e => by simp at e
  | _, _, .cons r _, 0, x, e => by simp at e; subst e; exact ⟨_, rfl, r⟩
  | _, _, .cons _ t, i + 1, x, e => by
    have ⟨y, h1, h2⟩ := pd_get' t (i := i) (y := x) (by simpa using e)
    exact ⟨y, by simpa using h1, h2⟩
theorem pd_mono {F' : α → β → Prop} (h : ∀ a b, F a b → F' a b) : ∀ {xs : List α} {ys : List β}, Paired F xs ys → Paired F' xs ys
  | _, _, .nil => .nil
  | _, _, .cons r t => .cons (h _ _ r) (pd_mono h t)
theorem pd_app : ∀ {xs : List α} {ys : List β} {us : List α} {ws : List β}, Paired F xs ys → Paired F us ws → Paired F (xs ++ us) (ys ++ ws)
  | _, _, _, _, .nil, s => s
  | _, _, _, _, .cons r t, s => .cons r (pd_app t s)
theorem pd_snoc {xs : List α} {ys : List β} {u : α} {w : β} (h : Paired F xs ys) (k : F u w) : Paired F (xs ++ [u]) (ys ++ [w]) := pd_app h (.cons k .nil)
theorem pd_take (n : Nat) : ∀ {xs : List α} {ys : List β}, Paired F xs ys → Paired F (xs.take n) (ys.take n) := by
  induction n with
  | zero => intro xs ys _; exact .nil
  | succ n ih =>
    intro xs ys h
    cases h with
    | nil => exact .nil
    | cons r t => exact .cons r (ih t)
theorem pd_drop (n : Nat) : ∀ {xs : List α} {ys : List β}, Paired F xs ys → Paired F (xs.drop n) (ys.drop n) := by
  induction n with
  | zero => intro xs ys h; exact h
  | succ n ih =>
    intro xs ys h
    cases h with
    | nil => exact .nil
    | cons r t => exact ih t
theorem pd_map (f : γ → α) (g : γ → β) (h : ∀ c, F (f c) (g c)) : ∀ l : List γ, Paired F (l.map f) (l.map g)
  | [] => .nil
  | c :: l => .cons (h c) (pd_map f g h l)
end

/-! ### data: what a value stands for, over a heap that only grows -/
abbrev Rp (α : Type) := Hp → V → α → Prop
/-- what is so stays so -/
def Mn {α : Type} (r : Rp α) : Prop := ∀ (G G' : Hp) (v : V) (x : α), Same G G' → r G v x → r G' v x
def rI : Rp Int := fun _ v x => v = .int x
def rT : Rp Str := fun _ v x => v = .str x
def rB : Rp Bool := fun _ v x => v = .bl x
def rP {α β : Type} (r : Rp α) (s : Rp β) : Rp (α × β) := fun G v x => ∃ a u w, v = .ref a ∧ G a = some (.tup [u, w]) ∧ r G u x.1 ∧ s G w x.2
def rL {α : Type} (r : Rp α) : Rp (List α) := fun G v xs => ∃ a vs, v = .ref a ∧ G a = some (.lst vs) ∧ Paired (r G) vs xs
def rO {α : Type} (r : Rp α) : Rp (Option α) := fun G v x => match x with
  | none => v = .non
  | some y => r G v y
theorem mI : Mn rI := fun _ _ _ _ _ h => h
theorem mT : Mn rT := fun _ _ _ _ _ h => h
theorem mB : Mn rB := fun _ _ _ _ _ h => h
theorem Mn.p {α β : Type} {r : Rp α} {s : Rp β} (hr : Mn r) (hs : Mn s) : Mn (rP r s) := fun _ _ _ _ e ⟨a, u, w, e1, e2, h1, h2⟩ => ⟨a, u, w, e1, e _ _ e2, hr _ _ _ _ e h1, hs _ _ _ _ e h2⟩
theorem Mn.l {α : Type} {r : Rp α} (hr : Mn r) : Mn (rL r) := fun _ _ _ _ e ⟨a, vs, e1, e2, h⟩ => ⟨a, vs, e1, e _ _ e2, pd_mono (fun _ _ q => hr _ _ _ _ e q) h⟩
theorem Mn.o {α : Type} {r : Rp α} (hr : Mn r) : Mn (rO r) := fun _ _ _ x e h => match x, h with
  | none, h => h
  | some _, h => hr _ _ _ _ e h
theorem Mn.ps {α : Type} {r : Rp α} (hr : Mn r) {G G' : Hp} {vs : List V} {xs : List α} (e : Same G G') (h : Paired (r G) vs xs) : Paired (r G') vs xs := pd_mono (fun _ _ q => hr _ _ _ _ e q) h
theorem rI_map {vs : List V} {xs : List Int} {G : Hp} : Paired (rI G) vs xs → vs = xs.map V.int
  | .nil => rfl
  | .cons r t => by rw [List.map_cons, ← rI_map t]; exact congrArg (· :: _) r
theorem rI_of (G : Hp) : ∀ xs : List Int, Paired (rI G) (xs.map V.int) xs
  | [] => .nil
  | x :: xs => .cons rfl (rI_of G xs)
theorem rLI {G : Hp} {v : V} {xs : List Int} (h : rL rI G v xs) : ∃ a, v = .ref a ∧ G a = some (.lst (xs.map V.int)) := by
  obtain ⟨a, vs, e, h, p⟩ := h
  rw [rI_map p] at h
  exact ⟨a, e, h⟩
theorem rLI_of {G : Hp} {a : Addr} {xs : List Int} (h : G a = some (.lst (xs.map V.int))) : rL rI G (.ref a) xs := ⟨a, _, rfl, h, rI_of G xs⟩

/-! ### data as the library's trees, for == -/
structure En {α : Type} (r : Rp α) (enc : α → PyData) (ok : α → Prop) (n : Nat) : Prop where
  dp : ∀ {K : PySem.W.Frag} {G H : Hp} {v : V} {x : α}, Same G H → r G v x → Dp K H v (enc x)
  lay : ∀ x, ok x → (enc x).canLay0 = true
  dep : ∀ x, (enc x).depth ≤ n
theorem En.shaped {α : Type} {r : Rp α} {enc : α → PyData} {ok : α → Prop} {n : Nat} (e : En r enc ok n) (hn : n ≤ 64) {x : α} (h : ok x) : SeqAt.shaped (enc x) = true := by
  unfold SeqAt.shaped
  rw [e.lay x h, decide_eq_true (Nat.le_trans (e.dep x) hn)]
  rfl
theorem En.refl {α : Type} {r : Rp α} {enc : α → PyData} {ok : α → Prop} {n : Nat} (e : En r enc ok n) {x : α} (h : ok x) : PyData.eqv (enc x) (enc x) = true := SeqAt.eqv_refl _ (e.lay x h)
theorem eI : En rI PyData.int (fun _ => True) 0 := ⟨fun _ h => by cases h; exact .int _, fun _ _ => rfl, fun _ => Nat.le_refl _⟩
theorem eT : En rT PyData.str (fun x => PyData.strOk x = true) 0 := ⟨fun _ h => by cases h; exact .str _, fun _ h => h, fun _ => Nat.le_refl _⟩
theorem dpAll_of {α : Type} {r : Rp α} {enc : α → PyData} {ok : α → Prop} {n : Nat} (e : En r enc ok n) {K : PySem.W.Frag} {G H : Hp} (s : Same G H) : ∀ {vs : List V} {xs : List α}, Paired (r G) vs xs → DpAll K H vs (xs.map enc)
  | _, _, .nil => .nil
  | _, _, .cons h t => .cons (e.dp s h) (dpAll_of e s t)
theorem layAll_of {α : Type} {enc : α → PyData} {ok : α → Prop} (h : ∀ x, ok x → (enc x).canLay0 = true) : ∀ xs : List α, (∀ x ∈ xs, ok x) → PyData.canLayAll0 (xs.map enc) = true
  | [], _ => rfl
  | x :: xs, q => by
    rw [List.map_cons, PyData.canLayAll0, h x (q x List.mem_cons_self), layAll_of h xs fun y hy => q y (List.mem_cons_of_mem _ hy)]
    rfl
theorem depAll_of {α : Type} {enc : α → PyData} {n : Nat} (h : ∀ x, (enc x).depth ≤ n) : ∀ xs : List α, PyData.depthAll (xs.map enc) ≤ n
  | [] => Nat.zero_le _
  | x :: xs => by
    rw [List.map_cons, PyData.depthAll]
    exact Nat.max_le.mpr ⟨h x, depAll_of h xs⟩
theorem En.l {α : Type} {r : Rp α} {enc : α → PyData} {ok : α → Prop} {n : Nat} (e : En r enc ok n) : En (rL r) (fun xs => .list (xs.map enc)) (fun xs => ∀ x ∈ xs, ok x) (n + 1) :=
  ⟨fun s ⟨a, vs, e1, h, p⟩ => by subst e1; exact .lst (SqL.of (s _ _ h)) (dpAll_of e s p), fun xs h => by rw [PyData.canLay0]; exact layAll_of e.lay xs h, fun xs => by
    rw [PyData.depth]
    exact Nat.succ_le_succ (depAll_of e.dep xs)⟩
theorem En.p {α β : Type} {r : Rp α} {s : Rp β} {f : α → PyData} {g : β → PyData} {ok : α → Prop} {ok' : β → Prop} {n m : Nat} (e : En r f ok n) (e' : En s g ok' m) :
    En (rP r s) (fun x => .tuple [f x.1, g x.2]) (fun x => ok x.1 ∧ ok' x.2) (max n m + 1) :=
  ⟨fun q ⟨a, u, w, e1, h, h1, h2⟩ => by subst e1; exact .tup (SqT.of (q _ _ h)) (.cons (e.dp q h1) (.cons (e'.dp q h2) .nil)), fun x h => by
    simp only [PyData.canLay0, PyData.canLayAll0, e.lay _ h.1, e'.lay _ h.2, Bool.and_true], fun x => by
    have h1 := e.dep x.1
    have h2 := e'.dep x.2
    simp only [PyData.depth, PyData.depthAll]
    omega⟩

theorem eqvAll_ints : ∀ (xs ys : List Int), PyData.eqvAll (xs.map PyData.int) (ys.map PyData.int) = decide (xs = ys)
  | [], [] => rfl
  | [], _ :: _ => rfl
  | _ :: _, [] => rfl
  | x :: xs, y :: ys => by
    rw [List.map_cons, List.map_cons, PyData.eqvAll, eqvAll_ints xs ys, PyData.eqv]
    by_cases h : x = y
    · subst h
      by_cases h2 : xs = ys <;> simp [h2]
    · simp [h]
theorem eqv_ints (xs ys : List Int) : PyData.eqv (.list (xs.map PyData.int)) (.list (ys.map PyData.int)) = decide (xs = ys) := by
  rw [PyData.eqv]
  exact eqvAll_ints xs ys
theorem dp_ints {K : PySem.W.Frag} {H : Hp} {a : Addr} {xs : List Int} (h : H a = some (.lst (xs.map V.int))) : Dp K H (.ref a) (.list (xs.map PyData.int)) := eI.l.dp (Same.refl H) (rLI_of h)
theorem shaped_ints (xs : List Int) : SeqAt.shaped (.list (xs.map PyData.int)) = true := eI.l.shaped (by decide) fun _ _ => trivial

/-! ### a step of the world: G the data (it only grows), H all that is tracked; O what may be written -/
structure Stp (O : Addr → Prop) (G H G' H' : Hp) : Prop where
  gg : Same G G'
  gh : Same G' H'
  kp : ∀ b o, H b = some o → ¬ O b → H' b = some o
  nw : ∀ b, H b ≠ none → G b = none → G' b = none
  al : ∀ b, H b ≠ none → H' b ≠ none
section
variable {O : Addr → Prop} {G H G' H' G1 H1 : Hp} {p a : Addr} {o o' : HO}
theorem ne_none {H : Hp} {b : Addr} {o : HO} (h : H b = some o) : H b ≠ none := by rw [h]; exact fun e => nomatch e
theorem fresh_ne {H : Hp} {b c : Addr} (h : H b ≠ none) (n : H c = none) : b ≠ c := fun e => h (by rw [e]; exact n)
theorem Stp.refl (h : Same G H) : Stp O G H G H := ⟨Same.refl _, h, fun _ _ e _ => e, fun _ _ e => e, fun _ e => e⟩
theorem Stp.fr (s : Stp O G H G' H') {b : Addr} (n : H' b = none) : H b = none := by
  cases e : H b with
  | none => rfl
  | some o => exact absurd n (s.al b (ne_none e))
theorem Stp.own (s : Stp O G H G' H') (n : H' p = none) : Stp O G H G' (upd H' p o) :=
  ⟨s.gg, fun b u e => by rw [upd_ne (fresh_ne (ne_none (s.gh b u e)) n)]; exact s.gh b u e, fun b u e q => by rw [upd_ne (fresh_ne (s.al b (ne_none e)) n)]; exact s.kp b u e q, s.nw, fun b e => by rw [upd_ne (fresh_ne (s.al b e) n)]; exact s.al b e⟩
theorem Stp.data (s : Stp O G H G' H') (n : H' p = none) : Stp O G H (upd G' p o) (upd H' p o) := by
  have gn : G' p = none := by
    cases e : G' p with
    | none => rfl
    | some u => rw [s.gh p u e] at n; cases n
  refine ⟨fun b u e => ?_, fun b u e => ?_, (s.own n).kp, fun b e q => ?_, (s.own n).al⟩
  · have h := s.gg b u e
    rw [upd_ne (fresh_ne (ne_none h) gn)]
    exact h
  · by_cases hb : b = p
    · subst hb
      rw [upd_same] at e ⊢
      exact e
    · rw [upd_ne hb] at e ⊢
      exact s.gh b u e
  · rw [upd_ne (fresh_ne (s.al b e) n)]
    exact s.nw b e q
/-- an object of one's own is written -/
theorem Stp.wr (s : Stp O G H G' H') (hp : H' p = some o') (g : G' p = none) (m : O p ∨ H p = none) : Stp O G H G' (upd H' p o) := by
  refine ⟨s.gg, fun b u e => ?_, fun b u e q => ?_, s.nw, fun b e => ?_⟩
  · rw [upd_ne (fresh_ne (ne_none e) g)]
    exact s.gh b u e
  · have hb : b ≠ p := fun z => by
      subst z
      rcases m with m | m
      · exact q m
      · rw [m] at e; cases e
    rw [upd_ne hb]
    exact s.kp b u e q
  · by_cases hb : b = p
    · subst hb
      rw [upd_same]
      exact fun z => nomatch z
    · rw [upd_ne hb]
      exact s.al b e
/-- an object of one's own, new since the begin, becomes data -/
theorem Stp.pub (s : Stp O G H G' H') (hp : H' p = some o) (g : G' p = none) (n : H p = none) : Stp O G H (upd G' p o) H' := by
  refine ⟨fun b u e => ?_, fun b u e => ?_, s.kp, fun b e q => ?_, s.al⟩
  · have h := s.gg b u e
    rw [upd_ne (fresh_ne (ne_none h) g)]
    exact h
  · by_cases hb : b = p
    · subst hb
      rw [upd_same] at e
      rw [← e]
      exact hp
    · rw [upd_ne hb] at e
      exact s.gh b u e
  · rw [upd_ne (fresh_ne e n)]
    exact s.nw b e q
theorem Stp.trans {O' : Addr → Prop} (s : Stp O G H G' H') (t : Stp O' G' H' G1 H1) (m : ∀ b, O' b → O b ∨ H b = none) : Stp O G H G1 H1 :=
  ⟨s.gg.trans t.gg, t.gh, fun b u e q => t.kp b u (s.kp b u e q) fun z => (m b z).elim q fun y => (by rw [y] at e; cases e), fun b e q => t.nw b (s.al b e) (s.nw b e q), fun b e => t.al b (s.al b e)⟩
theorem Stp.mono {O' : Addr → Prop} (s : Stp O G H G' H') (m : ∀ b, O b → O' b) : Stp O' G H G' H' := ⟨s.gg, s.gh, fun b u e q => s.kp b u e fun z => q (m b z), s.nw, s.al⟩
/-- what is not data and new stays no data -/
theorem gn_of (h : Same G H) (n : H p = none) : G p = none := by
  cases e : G p with
  | none => rfl
  | some u => rw [h p u e] at n; cases n
end
/-! ### the same, a heap named by its equation -/
section
variable {O : Addr → Prop} {G H G0 H0 H1 : Hp} {p : Addr} {o o' : HO}
theorem own_of (s : Stp O G0 H0 G H) (n : H p = none) (e : upd H p o = H1) : Stp O G0 H0 G H1 ∧ H1 p = some o ∧ Same H H1 ∧ G p = none ∧ H0 p = none := by
  subst e
  exact ⟨s.own n, upd_same, fun b u q => by rw [upd_ne (fresh_ne (ne_none q) n)]; exact q, gn_of s.gh n, s.fr n⟩
theorem wr_of (s : Stp O G0 H0 G H) (hp : H p = some o') (g : G p = none) (m : O p ∨ H0 p = none) (e : upd H p o = H1) : Stp O G0 H0 G H1 ∧ H1 p = some o ∧ ∀ b u, b ≠ p → H b = some u → H1 b = some u := by
  subst e
  exact ⟨s.wr hp g m, upd_same, fun b u hb q => by rw [upd_ne hb]; exact q⟩
theorem data_of (s : Stp O G0 H0 G H) (n : H p = none) (e : upd H p o = H1) : ∃ G1, Stp O G0 H0 G1 H1 ∧ G1 p = some o ∧ Same G G1 ∧ Same H H1 ∧ (∀ b, b ≠ p → G1 b = G b) := by
  subst e
  refine ⟨_, s.data n, upd_same, fun b u q => ?_, fun b u q => by rw [upd_ne (fresh_ne (ne_none q) n)]; exact q, fun b hb => upd_ne hb⟩
  rw [upd_ne (fresh_ne (ne_none (s.gh b u q)) n)]
  exact q
theorem pub_of (s : Stp O G0 H0 G H) (hp : H p = some o) (g : G p = none) (n : H0 p = none) : ∃ G1, Stp O G0 H0 G1 H ∧ G1 p = some o ∧ Same G G1 ∧ (∀ b, b ≠ p → G1 b = G b) :=
  ⟨_, s.pub hp g n, upd_same, fun b u q => by rw [upd_ne (fresh_ne (ne_none q) g)]; exact q, fun b hb => upd_ne hb⟩
end
abbrev O0 : Addr → Prop := fun _ => False

/-! ### callees in one word -/
section
variable (P : Program) (w : World) (K : PySem.W.Frag) (mg : Str → Option Value) (base : Heap)
structure FnC (x : Str) (k : Nat) (ps : List Str) (sp : Sp) : Prop where
  ex : ∃ (f : Addr) (fd : FuncData), FnOk P w K mg base CX0 k f fd ps sp ∧ mg x = some (.ref f) ∧ PySem.W.keepIn K (.ref f) = true ∧ Binds K fd ps []
structure MtC (C : Addr) (m : Str) (k : Nat) (ps : List Str) (sp : Sp) : Prop where
  ex : ∃ (f : Addr) (fd : FuncData), FnOk P w K mg base CX0 k f fd ps sp ∧ Meth K C m f ∧ Binds K fd ps []
  cl : Cls K C
structure CsC (x : Str) (C : Addr) (k : Nat) (ps : List Str) (sp : Sp) : Prop where
  ex : ∃ (f : Addr) (fd : FuncData), FnOk P w K mg base CX0 k f fd ps sp ∧ Mk K C f ∧ Binds K fd ps []
  mg : mg x = some (.ref C)
end
section
variable {X : Cx} {k : Nat} {C : Addr} {ps : List Str} {sp : Sp} {x m : Str} {p pos apos : Pos} {e o : Expr} {es : List Expr} {ta : TE} {t : TA}
theorem pe_fnc (L : FnC X.prog X.w X.K X.mg X.base x k ps sp) (hr : Room k X.A) (hg : Gl X x) (ha : PA X (e :: es) t)
    (hdb : (x == ("__debug__" : Str)) = false := by decide) (he : starEach (e :: es) X.env = (false, eval e X.env) :: starEach es X.env := by rfl) (hpl : (backTo pos (starEach es X.env)).any (·.1) = false := by rfl) :
    PE X (.Call (.Name x p) (e :: es) [] pos) (tCall sp [] E0 t) := by
  obtain ⟨f, fd, F, h1, h2, h3⟩ := L.ex
  exact pe_call F hr hg h1 h2 h3 .nil pass0 ha hdb he hpl
theorem pe_fnc0 (L : FnC X.prog X.w X.K X.mg X.base x k ps sp) (hr : Room k X.A) (hg : Gl X x)
    (hdb : (x == ("__debug__" : Str)) = false := by decide) : PE X (.Call (.Name x p) [] [] pos) (tCall sp [] E0 tNil) := by
  obtain ⟨f, fd, F, h1, h2, h3⟩ := L.ex
  exact pe_call0 F hr hg h1 h2 h3 .nil pass0 hdb
theorem pe_mtc {pl : Sem Bool} (he : PE X o ta) (L : MtC X.prog X.w X.K X.mg X.base C m k ps sp) (hr : Room k X.A) (ha : PA X (e :: es) t)
    (hst : starEach (e :: es) X.env = (false, eval e X.env) :: starEach es X.env := by rfl) (hpl : (backTo pos (starEach es X.env)).any (·.1) = false := by rfl)
    (ht : eval (.Call (.Attribute o m apos) (e :: es) [] pos) X.env = (do
      let ov ← eval o X.env
      standAt apos.atName
      let (f, first) ← holding [ov] (getMethod ov m pl)
      callWith pos f first (backTo pos (starEach (e :: es) X.env)) (backToKw pos (keywordEach [] X.env))) := by rfl) :
    PE X (.Call (.Attribute o m apos) (e :: es) [] pos) (tMeth C m sp [] E0 ta t) := by
  obtain ⟨f, fd, F, h1, h3⟩ := L.ex
  exact pe_meth he L.cl h1 F hr h3 .nil pass0 ha hst hpl ht
theorem pe_mtc0 {pl : Sem Bool} (he : PE X o ta) (L : MtC X.prog X.w X.K X.mg X.base C m k ps sp) (hr : Room k X.A)
    (ht : eval (.Call (.Attribute o m apos) [] [] pos) X.env = (do
      let ov ← eval o X.env
      standAt apos.atName
      let (f, first) ← holding [ov] (getMethod ov m pl)
      callWith pos f first (backTo pos (starEach [] X.env)) (backToKw pos (keywordEach [] X.env))) := by rfl) :
    PE X (.Call (.Attribute o m apos) [] [] pos) (tMeth C m sp [] E0 ta tNil) := by
  obtain ⟨f, fd, F, h1, h3⟩ := L.ex
  exact pe_meth0 he L.cl h1 F hr h3 .nil pass0 ht
theorem pe_mkc (L : CsC X.prog X.w X.K X.mg X.base x C k ps sp) (hr : Room (k + 1) X.A) (hg : Gl X x) (ha : PA X (e :: es) t)
    (hdb : (x == ("__debug__" : Str)) = false := by decide) (he : starEach (e :: es) X.env = (false, eval e X.env) :: starEach es X.env := by rfl) (hpl : (backTo pos (starEach es X.env)).any (·.1) = false := by rfl) :
    PE X (.Call (.Name x p) (e :: es) [] pos) (tMake C sp [] E0 t) := by
  obtain ⟨f, fd, F, h1, h3⟩ := L.ex
  exact pe_make h1 F hr hg L.mg h3 .nil pass0 ha hdb he hpl
theorem pe_mkc0 (L : CsC X.prog X.w X.K X.mg X.base x C k ps sp) (hr : Room (k + 1) X.A) (hg : Gl X x)
    (hdb : (x == ("__debug__" : Str)) = false := by decide) : PE X (.Call (.Name x p) [] [] pos) (tMake C sp [] E0 tNil) := by
  obtain ⟨f, fd, F, h1, h3⟩ := L.ex
  exact pe_make0 h1 F hr hg L.mg h3 .nil pass0 hdb
end

/-! ### rules with the written part named (for the blocks of comprehensions) -/
section
variable {X : Cx} {K : PySem.W.Frag}
theorem ix_listK (h : X.K = K) : IxR X (rIxL K) := by subst h; exact ix_list
theorem ix_tupK (h : X.K = K) : IxR X (rIxT K) := by subst h; exact ix_tup
theorem sl_listK (h : X.K = K) : SlR X (rSlL K) := by subst h; exact sl_list
theorem sl_tupK (h : X.K = K) : SlR X (rSlT K) := by subst h; exact sl_tup
def rListOf (K : PySem.W.Frag) : List V → Hp → VK → Prop := fun xs H Q => ∃ p ys, xs = [.ref p] ∧ (SqL K H p ys ∨ SqT K H p ys) ∧ ∀ l, H l = none → Q (.ref l) (upd H l (.lst ys))
theorem call_list_ofK (h : X.K = K) : CallR X (.type "list") (rListOf K) := by subst h; exact call_list_of
def rTupleOf (K : PySem.W.Frag) : List V → Hp → VK → Prop := fun xs H Q => ∃ p ys, xs = [.ref p] ∧ ((SqL K H p ys ∧ ∀ l, H l = none → Q (.ref l) (upd H l (.tup ys))) ∨ (SqT K H p ys ∧ Q (.ref p) H))
theorem call_tuple_ofK (h : X.K = K) : CallR X (.type "tuple") (rTupleOf K) := by subst h; exact call_tuple_of
def rLenSeq (K : PySem.W.Frag) : List V → Hp → VK → Prop := fun xs H Q => ∃ p ys, xs = [.ref p] ∧ (SqL K H p ys ∨ SqT K H p ys) ∧ Q (.int ys.length) H
theorem call_len_seqK (h : X.K = K) : CallR X (.builtin "len") (rLenSeq K) := by subst h; exact call_len_seq
theorem op_eqDK (h : X.K = K) (hu : X.A.units + 64 < cLine) : OpR X (compareOp .Eq) (rEqD K) := by subst h; exact op_eqD hu
theorem op_neDK (h : X.K = K) (hu : X.A.units + 64 < cLine) : OpR X (compareOp .NotEq) (rNeD K) := by subst h; exact op_neD hu
theorem op_in_seqK (h : X.K = K) : OpR X (compareOp .In) (rIn K false) := by subst h; exact op_in_seq
theorem op_notIn_seqK (h : X.K = K) : OpR X (compareOp .NotIn) (rIn K true) := by subst h; exact op_notIn_seq
theorem op_catTK (h : X.K = K) : OpR X (binaryOp .Add) (rCatT K) := by subst h; exact op_catT
theorem cr_sumK (h : X.K = K) (hc : X.calm = true) : CallR X (.builtin "sum") (rSum K) := by subst h; exact cr_sum hc
theorem cr_maxK (h : X.K = K) (hc : X.calm = true) : CallR X (.builtin "max") (rMax K) := by subst h; exact cr_max hc
theorem cr_minK (h : X.K = K) (hc : X.calm = true) : CallR X (.builtin "min") (rMin K) := by subst h; exact cr_min hc
theorem cr_anyK (h : X.K = K) (hc : X.calm = true) : CallR X (.builtin "any") (rAny K) := by subst h; exact cr_any hc
theorem cr_allK (h : X.K = K) (hc : X.calm = true) : CallR X (.builtin "all") (rAll K) := by subst h; exact cr_all hc
theorem cr_sortedIK (h : X.K = K) : CallR X (.builtin "sorted") (rSortedI K) := by subst h; exact cr_sortedI
theorem cr_sortedSetK {w : World} (h : X.w = w) (hc : X.calm = true) : CallR X (.builtin "sorted") (rSortedSet w) := by subst h; exact cr_sortedSet hc
theorem mt_indexK (h : X.K = K) : MtR X "list.index" (rIndex K) := by subst h; exact mt_index
variable {o e : Expr} {es : List Expr} {to te : TE} {t : TA} {name f : Str} {apos cpos pos : Pos} {T id : String} {r : V → List V → Hp → VK → Prop} {tg : Expr}
theorem pe_fldK (h : X.K = K) (he : PE X e te) (hb : attributeBase e f X.env (eval e X.env) = eval e X.env) : PE X (.Attribute e f pos) (tFld K te f) := by subst h; exact pe_fld he hb
theorem pe_bm0K (h : X.K = K) (pa : PlainAttrs T) (slot : Slot T name id) (hty : typeOf (.builtin id) = pure (.type "method_descriptor")) (hm : MtR X id r) (ho : PE X o to)
    (hbase : attributeBase o name X.env (eval o X.env) = eval o X.env := by rfl) (hline : (apos.endLine == cpos.line) = true := by rfl) : PE X (.Call (.Attribute o name apos) [] [] cpos) (tBM0 K T r to) := by
  subst h
  exact pe_bm0 pa slot hty hm ho hbase hline
theorem pe_bmK (h : X.K = K) (pa : PlainAttrs T) (slot : Slot T name id) (hty : typeOf (.builtin id) = pure (.type "method_descriptor")) (hm : MtR X id r) (ho : PE X o to) (ha : PA X (e :: es) t)
    (hbase : attributeBase o name X.env (eval o X.env) = eval o X.env := by rfl)
    (hfew : ((backTo cpos (starEach (e :: es) X.env)).all (fun x => !x.1) && (backToKw cpos (keywordEach [] X.env)).all (fun x => x.1.isSome)
      && decide ((e :: es).length + ([] : List Keyword).length + (if ([] : List Keyword).isEmpty then 0 else 1) < 30)) = true := by rfl)
    (hline : (apos.endLine == cpos.line) = true := by rfl) (hs : starEach (e :: es) X.env = (false, eval e X.env) :: starEach es X.env := by rfl) (hplain : (backTo cpos (starEach es X.env)).any (·.1) = false := by rfl) :
    PE X (.Call (.Attribute o name apos) (e :: es) [] cpos) (tBM K T r to t) := by
  subst h
  exact pe_bm pa slot hty hm ho ha hbase hfew hline hs hplain
theorem pi_listK (h : X.K = K) (hl : PE X e te) : PI X tg e (iList K te) := by subst h; exact pi_list hl
theorem pi_tupK (h : X.K = K) (hl : PE X e te) : PI X tg e (iTup K te) := by subst h; exact pi_tup hl
theorem ps_fldK {value : Expr} {tv : TE} {pos' : Pos} (h : X.K = K) (ha : PE X o to) (hv : PE X value tv) (hs : swapsWith value (some (.Attribute o f pos')) pos.line X.env = pure false) : PS X (.Assign [.Attribute o f pos'] value pos) (sFld K to tv f) := by
  subst h
  exact ps_fld ha hv hs
theorem pt_truthK {a : Expr} {ta : TE} (h : X.K = K) (ha : PE X a ta) (he : ∀ whole, isTrue a X.env whole = (do let v ← whole; standAt a.pos; holding [v] (truthy v))) : PT X a (fun σ H Q => ta σ H fun x H1 => ∃ k, TruV K x H1 k ∧ Q k H1) := by
  subst h
  exact pt_truth ha he
end
section
variable {X : Cx} {pos : Pos}
/-- a tuple as a target, the written part named -/
theorem pg_tupK {K : PySem.W.Frag} {es : List Expr} {k : Nat} {t : TGs} {n : Nat} (hK : X.K = K) (hc : X.calm = true) (h : PGs X es t)
    (hn : (assignEach es X.env).length = n := by rfl) (hst : (assignEach es X.env).findIdx? (·.1) = none := by rfl) : PG X (.Tuple es k pos) (gTup K n t) := by
  subst hK
  exact pg_tup hc h hn hst
end
/-! ### an instance's attributes as a written list -/
theorem lk_hit {f : Str} {v : V} {r : List (Str × V)} : List.lookup f ((f, v) :: r) = some v := by simp [List.lookup]
theorem lk_miss {f g : Str} {v : V} {r : List (Str × V)} (h : (f == g) = false) : List.lookup f ((g, v) :: r) = List.lookup f r := by simp [List.lookup, h]
theorem pf_nil {f : Str} {v : V} : putF f v [] = [(f, v)] := rfl
theorem pf_hit {f : Str} {v u : V} {r : List (Str × V)} : putF f v ((f, u) :: r) = (f, v) :: r := by
  show (if f = f then _ else _) = _
  rw [if_pos rfl]
theorem pf_miss {f g : Str} {v u : V} {r : List (Str × V)} (h : (f == g) = false) : putF f v ((g, u) :: r) = (g, u) :: putF f v r := by
  show (if g = f then _ else _) = _
  rw [if_neg]
  intro e
  subst e
  simp at h

/-! ### readings in short -/
section
variable {K : PySem.W.Frag} {σ : L2.St} {H : Hp} {Q : VK} {v x : V} {i : Nat} {ta tb : TE} {t u : TS} {D : Ends}
theorem g_var (h : σ[i]? = some (some v)) (k : Q v H) : tVar i σ H Q := ⟨v, h, k⟩
theorem g_pair {a : Addr} {u w : V} {tu tw : TG} {Q : L2.St → Hp → Prop} (h : H a = some (.tup [u, w])) (k : tu u σ H fun σ' H' => tw w σ' H' Q) : gTup K 2 (gCons tu (gCons tw gNil)) (.ref a) σ H Q :=
  ⟨a, _, rfl, SqT.of h, rfl, u, _, rfl, by
    show tu u σ H fun σ' H' => ∃ v r, [w] = v :: r ∧ tw v σ' H' fun σ' H' => r = [] ∧ Q σ' H'
    have e : (fun σ' H' => tw w σ' H' Q) = (fun σ' H' => ∃ v r, [w] = v :: r ∧ tw v σ' H' fun σ' H' => r = [] ∧ Q σ' H') := by
      funext σ' H'
      apply propext
      constructor
      · intro q
        refine ⟨w, [], rfl, ?_⟩
        have e2 : (fun σ' H' => ([] : List V) = [] ∧ Q σ' H') = Q := by
          funext a b
          simp
        rw [e2]
        exact q
      · rintro ⟨v, r, e, q⟩
        injection e with e1 e2
        subst e1
        subst e2
        have e2 : (fun σ' H' => ([] : List V) = [] ∧ Q σ' H') = Q := by
          funext a b
          simp
        rw [e2] at q
        exact q
    rw [← e]
    exact k⟩
theorem g_yes {A B : Hp → Prop} (h : A H) : tYes σ H fun b H3 => if b = true then A H3 else B H3 := h
theorem if_int {i j : Int} {A B : Prop} (h1 : i = j → A) (h2 : i ≠ j → B) : if decide (V.int i = V.int j) = true then A else B := by
  by_cases e : i = j
  · rw [if_pos (decide_eq_true (by rw [e]))]
    exact h1 e
  · rw [if_neg (by rw [decide_eq_false (fun z => e (V.int.inj z))]; exact Bool.false_ne_true)]
    exact h2 e
theorem if_dec {c A B : Prop} [Decidable c] (h1 : c → A) (h2 : ¬ c → B) : if decide c = true then A else B := by
  by_cases e : c
  · rw [if_pos (decide_eq_true e)]
    exact h1 e
  · rw [if_neg (by rw [decide_eq_false e]; exact Bool.false_ne_true)]
    exact h2 e
theorem if_bool {b : Bool} {A B : Prop} (h1 : b = true → A) (h2 : b = false → B) : if b = true then A else B := by
  cases b
  · rw [if_neg Bool.false_ne_true]
    exact h2 rfl
  · rw [if_pos rfl]
    exact h1 rfl
theorem if_nbool {b : Bool} {A B : Prop} (h1 : b = false → A) (h2 : b = true → B) : if (!b) = true then A else B := by
  cases b
  · exact h1 rfl
  · exact h2 rfl
/-- a list at an address, its items data -/
def LstAt {α : Type} (r : Rp α) (G H : Hp) (a : Addr) (xs : List α) : Prop := ∃ vs, H a = some (.lst vs) ∧ Paired (r G) vs xs
/-- a loop over zip of two lists -/
theorem for_zipM {K : PySem.W.Frag} {a b : Addr} {xs ys : List V} {g : TG} {tb : TS} {D : Ends} {σ : L2.St} {H : Hp} (Pv : Nat → L2.St → Hp → Prop) (h0 : Pv 0 σ H) (hq : ∀ i σ H, Pv i σ H → SqL K H a xs ∧ SqL K H b ys)
    (hs : ∀ (i : Nat) (x y : V) (T : Addr) (σ : L2.St) (H : Hp), xs[i]? = some x → ys[i]? = some y → Pv i σ H → H T = none → g (.ref T) σ (upd H T (.tup [x, y])) fun σ2 H2 => tb { D with nx := Pv (i + 1), ct := Pv (i + 1), bk := D.nx } σ2 H2)
    (hd : ∀ σ H, Pv (min xs.length ys.length) σ H → D.nx σ H) :
    ∃ W : Nat → Nat → L2.St → Hp → Prop, (∃ m, W 0 m σ H) ∧ ∀ i m σ H, W i m σ H →
      ((Itz K a b).stop i H ∧ D.nx σ H) ∨ ((Itz K a b).go i H ∧ ∃ N : L2.St → Hp → Prop, (∀ σ' H', N σ' H' → ∃ m', m' < m ∧ W (i + 1) m' σ' H') ∧ ∀ v H', (Itz K a b).yld i H v H' → g v σ H' fun σ2 H2 => tb { D with nx := N, ct := N, bk := D.nx } σ2 H2) := by
  refine ⟨fun i m σ H => m = min xs.length ys.length - i ∧ i ≤ min xs.length ys.length ∧ Pv i σ H, ⟨_, rfl, Nat.zero_le _, h0⟩, ?_⟩
  rintro i m σ H ⟨rfl, hi, p⟩
  obtain ⟨qx, qy⟩ := hq i σ H p
  by_cases hlt : i < min xs.length ys.length
  · have l1 : i < xs.length := by omega
    have l2 : i < ys.length := by omega
    refine .inr ⟨⟨xs, ys, _, _, qx, qy, List.getElem?_eq_getElem l1, List.getElem?_eq_getElem l2⟩, Pv (i + 1), fun σ' H' p' => ⟨_, by omega, rfl, by omega, p'⟩, fun v H' y => ?_⟩
    obtain ⟨T, x', y', rfl, hT, rfl, f1, f2⟩ := y
    exact hs i x' y' T σ H (f1 xs qx) (f2 ys qy) p hT
  · have e : i = min xs.length ys.length := by omega
    subst e
    exact .inl ⟨⟨xs, ys, qx, qy, by omega⟩, hd σ H p⟩
/-- a dict comprehension over a list -/
theorem dc_list {K : PySem.W.Frag} {a : Addr} {xs : List V} {g : TG} {tt : TT} {tk tv : TE} {vs : List Nat} {σ : L2.St} {H1 : Hp} {D : Addr} {Qd : Hp → Prop} (Pv : Nat → Hp → Prop) (h0 : Pv 0 (upd H1 D (.dK []))) (hl : ∀ i H, i ≤ xs.length → Pv i H → SqL K H a xs)
    (hs : ∀ i x H, xs[i]? = some x → Pv i H → g x (wipe σ vs) H fun σ2 H2 => wipe σ2 vs = wipe σ vs ∧ tt σ2 H2 fun b H3 =>
      if b = true then tk σ2 H3 fun y H4 => tv σ2 H4 fun z H5 => ∃ kvs k, y = kV k ∧ H5 D = some (.dK kvs) ∧ kvs.length < sizeLine ∧ Pv (i + 1) (upd H5 D (.dK (putK kvs k z))) else Pv (i + 1) H3) (hd : ∀ H, Pv xs.length H → Qd H) :
    ∃ W : Nat → Nat → Hp → Prop, (∃ m, W 0 m (upd H1 D (.dK []))) ∧ ∀ i m H, W i m H →
      ((Itl K a).stop i H ∧ Qd H) ∨ ((Itl K a).go i H ∧ ∃ Nx : Hp → Prop, (∀ H', Nx H' → ∃ m', m' < m ∧ W (i + 1) m' H') ∧ ∀ x H', (Itl K a).yld i H x H' → g x (wipe σ vs) H' fun σ2 H2 => wipe σ2 vs = wipe σ vs ∧ tt σ2 H2 fun b H3 =>
        if b = true then tk σ2 H3 fun y H4 => tv σ2 H4 fun z H5 => ∃ kvs k, y = kV k ∧ H5 D = some (.dK kvs) ∧ kvs.length < sizeLine ∧ Nx (upd H5 D (.dK (putK kvs k z))) else Nx H3) := by
  refine ⟨fun i m H => m = xs.length - i ∧ i ≤ xs.length ∧ Pv i H, ⟨_, rfl, Nat.zero_le _, h0⟩, ?_⟩
  rintro i m H ⟨rfl, hi, p⟩
  have q := hl i H hi p
  by_cases hlt : i < xs.length
  · refine .inr ⟨⟨xs, _, q, List.getElem?_eq_getElem hlt⟩, Pv (i + 1), fun H' p' => ⟨_, by omega, rfl, hlt, p'⟩, fun x H' y => ?_⟩
    obtain ⟨e, y⟩ := y
    subst e
    exact hs i x _ (y xs q) p
  · have e : i = xs.length := by omega
    subst e
    exact .inl ⟨⟨xs, q, Nat.le_refl _⟩, hd H p⟩
end
end Y

/-! YSet: set(a list of ints), sorted of it. -/
namespace Y
open PySem PySem.Spec PyProof.Rows L2
section
variable {P : Program} {w : World} {A : Around} {E : Value → Shared → Prop} {s : Shared}
set_option maxHeartbeats 3200000 in
theorem set_of_list {l : Addr} {items : Array Value} (ns : List Int) {Q : Value → Shared → Prop} (hh : A.handled = none) (hl : s.heap.IsList l items) (hit : IntsAre items.toList ns) (hb : ns.length + 1 < scanBound)
    (h : ∀ (h' : Heap) (tk c : Nat), SetR w h' s.heap.objs.size (fun j => decide (j ∈ ns)) c → c ≤ ns.length → (∀ b o, s.heap.get? b = some o → h'.get? b = some o) → Q (.ref s.heap.objs.size) { s with heap := h', toks := tk }) :
    wpAny (model P w) A (call (.type "set") [.ref l]) Q E s := by
  have len : items.size = ns.length := by
    have q := IntsAre.length hit
    rwa [Array.length_toList] at q
  obtain ⟨c, tl, hmro⟩ := F.called_set.mro
  have hmade := F.called_set.made
  have hsub := F.called_set.sub
  refine wpAny_call (codeAny_of_tree ?_)
  show wpAny _ _ (callAny (.type "set") _) _ _ _
  refine wpAny_pure ⟨Code.quiet_builtin _ (by decide +kernel), codeAny_builtin F.entry_type_call ?_⟩
  rw [Around.under_plain (weight_type_call_type "set" [.ref l] []) rfl]
  have h1 := F.called_set.notType
  have h2 := F.called_set.canCreate
  have hct := F.typeCall_set_1 (.ref l)
  repeat (any_goals (first | assumption | wp_step))
  let o0 : Obj := { cls := .type "set", dict := none, data := .set #[] 0 (.fresh 0 0 (!w.params.followText "set-order")) }
  refine codeAny_mono (code_set_led1 (.ref l) (E := E) (Q₁ := fun obj t => obj = .ref s.heap.objs.size ∧ t = { s with heap := s.heap.push o0 }) ⟨rfl, rfl⟩) fun r t hr => ?_
  cases r with
  | error e => exact hr
  | ok fl =>
    cases fl with
    | ret obj =>
      obtain ⟨rfl, rfl⟩ := hr
      have hS : (s.heap.push o0).get? s.heap.objs.size = some o0 := Heap.get?_push_size _ rfl
      have hT : Shared.TypeIs { s with heap := s.heap.push o0 } (.ref s.heap.objs.size) "set" := ⟨_, hS, rfl⟩
      have hli := F.called_set.init.lookup
      have hbi := F.called_set.init.bind (.ref s.heap.objs.size)
      repeat (any_goals (first | assumption | wp_step))
      refine codeAny_mono (codeAny_call_builtin (R := wants (fun r t => r = .none ∧ ∃ h' tk c, t = { s with heap := h', toks := tk } ∧ SetR w h' s.heap.objs.size (fun j => decide (j ∈ ns)) c ∧ c ≤ ns.length ∧
          (∀ b o, s.heap.get? b = some o → h'.get? b = some o)) E) F.called_set.init.plain F.entry_set_init (check_set_init_1 hT ?_)) fun r₂ t₂ hr₂ => ?_
      · obtain ⟨ol, hol, hcl, nl, hdl⟩ := hl
        obtain ⟨ocls, odict, odata, oslots⟩ := ol
        simp only at hcl hdl
        subst hcl; subst hdl
        have hol' : (s.heap.push o0).get? l = some { cls := .type "list", dict := odict, data := .seq items nl, slots := oslots } := Heap.get?_push_of_some _ hol
        have hsls := F.sub_list_set
        have hslf := F.sub_list_frozenset
        have hne : (Value.type "list" == Value.type "dict") = false := by decide
        have hl1 : (s.heap.push o0).IsList l items := ⟨_, hol', rfl, nl, rfl⟩
        unfold Builtin.«set.__init__» noKeywords Builtin.Frozenset.updateFrom
        generalize hPI : pyIter = PI
        wp_walk
        subst hPI
        refine wpAny_pyIter_list hl1 ?_
        refine wpAny_bind (wpAny_runValue ?_)
        have hlS : l < s.heap.objs.size := Heap.lt_size hol
        have hh3 : A.in1.in1.in1.handled = none := by simp [hh]
        have hneI : l ≠ (s.heap.push o0).objs.size := by
          rw [Heap.size_push]; exact Nat.ne_of_lt (Nat.lt_succ_of_lt hlS)
        have hSf : s.heap.objs.size ∉ [(s.heap.push o0).objs.size, l] := by
          rw [Heap.size_push]; simp only [List.mem_cons, List.mem_singleton, List.not_mem_nil, or_false, not_or]
          exact ⟨Nat.ne_of_lt (Nat.lt_succ_self _), Nat.ne_of_gt hlS⟩
        have hval : ∀ (i : Nat) (v : Value), items[i]? = some v → ∃ k t, ns[i]? = some k ∧ v = .int k t := fun i v hv => by
          have hi : i < ns.length := by rw [← len]; exact (Array.getElem?_eq_some_iff.mp hv).1
          obtain ⟨t, e⟩ := PyProof.Rows.IntsAre.int_at hit i v (by rw [Array.getElem?_toList]; exact hv)
          refine ⟨ns[i], t, List.getElem?_eq_getElem hi, ?_⟩
          rw [e, List.getD_eq_getElem?_getD, List.getElem?_eq_getElem hi] <;> rfl
        refine set_update_ints ((Walks.list hh3 _ l hneI items).toS) s.heap.objs.size
          hSf ns len hb hval (items.size - 0) 0 _ (by omega) (Nat.zero_le _)
          ⟨⟨_, Heap.get?_push_size _ rfl, rfl, rfl⟩, (hl1.push _)⟩ ?hS0 ?hR
        case hS0 =>
          have hget : ((s.heap.push o0).push { cls := .type "list_iterator", data := .fields #[.ref l, .int 0 0] }).get? s.heap.objs.size = some o0 := Heap.get?_push_of_some _ hS
          exact ⟨0, Nat.le_refl 0, setR_new_at hget⟩
        case hR =>
          intro s' c' hm hc' hS'
          obtain ⟨h', g2, d', tk', os'⟩ := s'
          have eg : g2 = s.gens := hm.gens
          have ed : d' = s.drawn := hm.drawn
          have eo : os' = s.os := hm.os
          subst eg; subst ed; subst eo
          show wpAny _ _ _ _ _ _
          refine wpAny_pure ?_
          show wpAny _ _ (ret Value.none) _ _ _
          rw [len] at hc'
          refine wpAny_pure ⟨rfl, h', tk', c', rfl, hS', hc', fun b o e => ?_⟩
          have hb0 : b < s.heap.objs.size := Heap.lt_size e
          have hb1 : b ≠ s.heap.objs.size := Nat.ne_of_lt hb0
          have hb2 : b ≠ (s.heap.push o0).objs.size := by
            rw [Heap.size_push]; exact Nat.ne_of_lt (Nat.lt_succ_of_lt hb0)
          exact hm.heap b o (by simp only [List.mem_cons, List.mem_singleton, List.not_mem_nil, or_false, not_or]; exact ⟨hb1, hb2⟩) (Heap.get?_push_of_some _ (Heap.get?_push_of_some _ e))
      · cases r₂ with
        | error e => exact hr₂
        | ok fl₂ =>
          cases fl₂ with
          | ret r =>
            obtain ⟨rfl, h', tk, c', rfl, hS', hc', hk'⟩ := hr₂
            repeat (any_goals (first | assumption | wp_step))
            exact h _ _ _ hS' hc' hk'
          | _ => exact hr₂.elim
    | _ => exact hr.elim
end
section
variable {X : Cx}
/-- set(xs), xs a list of ints -/
def rSetI (K : PySem.W.Frag) (w : World) : List V → Hp → VK → Prop := fun vs H Q => ∃ (l : Addr) (ns : List Int), vs = [V.ref l] ∧ SqL K H l (ns.map V.int) ∧ ns.length ≤ 4000 ∧
  ∀ p c, H p = none → c ≤ ns.length → Q (.ref p) (upd H p (SetO w p (fun j => decide (j ∈ ns)) c))
theorem cr_setI (hc : X.calm = true) : CallR X (.type "set") (rSetI X.K X.w) := by
  intro pins s σ H vs us Q I r h
  obtain ⟨l, ns, rfl, hq, hn, q⟩ := h
  obtain ⟨u, rfl, ru⟩ := vals1 r
  cases ru
  obtain ⟨its, rv, p, hz⟩ := I.list hq
  refine set_of_list (items := its.toArray) ns (I.ok.hd hc) p.isList (by simpa using Vals.ints rv) (by unfold scanBound; omega) fun h' tk c R hc' hk => ?_
  have n := I.fresh
  exact ⟨.ref s.heap.objs.size, _, I.laid (o := SetO X.w s.heap.objs.size (fun j => decide (j ∈ ns)) c) hk (Nat.le_refl _) (setO_new R), rfl, q _ c n hc'⟩
theorem cr_setIK {K : PySem.W.Frag} {w : World} (h : X.K = K) (hw : X.w = w) (hc : X.calm = true) : CallR X (.type "set") (rSetI K w) := by
  subst h hw
  exact cr_setI hc
end
end Y


/-! YMath: ascending numbers, dicts as pairs: plain Lean. -/
namespace Y
/-! ### ascending numbers, each once -/
def insU (x : Int) : List Int → List Int
  | [] => [x]
  | y :: r => if x < y then x :: y :: r else if x = y then y :: r else y :: insU x r
def nums (xs : List Int) : List Int := xs.foldr insU []
theorem mem_insU (x k : Int) : ∀ l : List Int, k ∈ insU x l ↔ k = x ∨ k ∈ l
  | [] => by simp [insU]
  | y :: r => by
    unfold insU
    split
    · simp
    · split
      · rename_i h; subst h; simp
      · have ih := mem_insU x k r
        simp only [List.mem_cons, ih]
        constructor
        · rintro (h | h | h) <;> simp [h]
        · rintro (h | h | h) <;> simp [h]
theorem mem_nums (k : Int) : ∀ xs : List Int, k ∈ nums xs ↔ k ∈ xs
  | [] => by simp [nums]
  | x :: xs => by
    show k ∈ insU x (nums xs) ↔ _
    rw [mem_insU, mem_nums k xs, List.mem_cons]
theorem asc_insU (x : Int) : ∀ l : List Int, l.Pairwise (· < ·) → (insU x l).Pairwise (· < ·)
  | [], _ => by simp [insU]
  | y :: r, h => by
    have ⟨h1, h2⟩ := List.pairwise_cons.mp h
    unfold insU
    split
    · rename_i hx
      refine List.pairwise_cons.mpr ⟨fun z hz => ?_, h⟩
      rcases List.mem_cons.mp hz with e | e
      · omega
      · have := h1 z e; omega
    · split
      · exact h
      · refine List.pairwise_cons.mpr ⟨fun z hz => ?_, asc_insU x r h2⟩
        rcases (mem_insU x z r).mp hz with e | e
        · omega
        · exact h1 z e
theorem asc_nums : ∀ xs : List Int, (nums xs).Pairwise (· < ·)
  | [] => List.Pairwise.nil
  | x :: xs => asc_insU x _ (asc_nums xs)
/-- two ascending lists with the same members are one -/
theorem asc_same : ∀ {a b : List Int}, a.Pairwise (· < ·) → b.Pairwise (· < ·) → (∀ k, k ∈ a ↔ k ∈ b) → a = b
  | [], [], _, _, _ => rfl
  | [], y :: b, _, _, h => absurd ((h y).mpr (by simp)) (by simp)
  | x :: a, [], _, _, h => absurd ((h x).mp (by simp)) (by simp)
  | x :: a, y :: b, ha, hb, h => by
    have ⟨a1, a2⟩ := List.pairwise_cons.mp ha
    have ⟨b1, b2⟩ := List.pairwise_cons.mp hb
    have e : x = y := by
      rcases List.mem_cons.mp ((h x).mp (by simp)) with e | e
      · exact e
      · rcases List.mem_cons.mp ((h y).mpr (by simp)) with e' | e'
        · exact e'.symm
        · have := a1 y e'
          have := b1 x e
          omega
    subst e
    have t : a = b := asc_same a2 b2 fun k => by
      have q := h k
      constructor
      · intro hk
        rcases List.mem_cons.mp (q.mp (List.mem_cons_of_mem _ hk)) with e | e
        · have := a1 k hk; omega
        · exact e
      · intro hk
        rcases List.mem_cons.mp (q.mpr (List.mem_cons_of_mem _ hk)) with e | e
        · have := b1 k hk; omega
        · exact e
    rw [t]
theorem le_nums_len : ∀ xs : List Int, (nums xs).length ≤ xs.length
  | [] => Nat.le_refl _
  | x :: xs => by
    have h : ∀ l : List Int, (insU x l).length ≤ l.length + 1 := by
      intro l
      induction l with
      | nil => exact Nat.le_refl _
      | cons y r ih =>
        unfold insU
        split
        · simp
        · split
          · simp
          · simp only [List.length_cons]; omega
    have := h (nums xs)
    have := le_nums_len xs
    show (insU x (nums xs)).length ≤ _
    simp only [List.length_cons]
    omega

/-! ### dicts as pairs -/
section
variable {β : Type}
def look (ds : List (Int × β)) (k : Int) : Option β := (ds.find? fun p => decide (p.1 = k)).map (·.2)
def put (ds : List (Int × β)) (k : Int) (x : β) : List (Int × β) := if ds.any (fun p => decide (p.1 = k)) then ds.map (fun p => if p.1 = k then (p.1, x) else p) else ds ++ [(k, x)]
theorem put_len (ds : List (Int × β)) (k : Int) (x : β) : (put ds k x).length ≤ ds.length + 1 := by
  unfold put
  split <;> simp
theorem look_cons (p : Int × β) (ds : List (Int × β)) (k : Int) : look (p :: ds) k = if p.1 = k then some p.2 else look ds k := by
  unfold look
  rw [List.find?_cons]
  by_cases h : p.1 = k <;> simp [h]
theorem look_any (ds : List (Int × β)) (k : Int) : (ds.any fun p => decide (p.1 = k)) = (look ds k).isSome := by
  induction ds with
  | nil => rfl
  | cons p ds ih =>
    rw [look_cons, List.any_cons, ih]
    by_cases h : p.1 = k <;> simp [h]
theorem put_keys (ds : List (Int × β)) (k : Int) (x : β) : (put ds k x).map (·.1) = if ds.any (fun p => decide (p.1 = k)) then ds.map (·.1) else ds.map (·.1) ++ [k] := by
  unfold put
  split
  · rw [List.map_map]
    apply List.map_congr_left
    intro p _
    show (if p.1 = k then (p.1, x) else p).1 = p.1
    split <;> rfl
  · simp
theorem put_nodup (ds : List (Int × β)) (k : Int) (x : β) (h : (ds.map (·.1)).Nodup) : ((put ds k x).map (·.1)).Nodup := by
  rw [put_keys]
  split
  · exact h
  · rename_i hn
    refine List.nodup_append.mpr ⟨h, by simp, fun a ha b hb e => ?_⟩
    have hb := List.mem_singleton.mp hb
    subst hb
    subst e
    obtain ⟨p, hp, e⟩ := List.mem_map.mp ha
    exact hn (List.any_eq_true.mpr ⟨p, hp, decide_eq_true e⟩)
theorem look_of_mem {ds : List (Int × β)} (h : (ds.map (·.1)).Nodup) {p : Int × β} (hp : p ∈ ds) : look ds p.1 = some p.2 := by
  induction ds with
  | nil => cases hp
  | cons q ds ih =>
    rw [look_cons]
    have ⟨h1, h2⟩ := List.nodup_cons.mp (show (q.1 :: ds.map (·.1)).Nodup from h)
    rcases List.mem_cons.mp hp with e | e
    · subst e; rw [if_pos rfl]
    · have : ¬ q.1 = p.1 := fun e' => h1 (e' ▸ List.mem_map.mpr ⟨p, e, rfl⟩)
      rw [if_neg this]
      exact ih h2 e
theorem look_some_mem {ds : List (Int × β)} {k : Int} {x : β} (h : look ds k = some x) : (k, x) ∈ ds := by
  induction ds with
  | nil => cases h
  | cons q ds ih =>
    rw [look_cons] at h
    split at h
    · rename_i e
      have : x = q.2 := (Option.some.inj h).symm
      subst this
      subst e
      exact List.mem_cons_self
    · exact List.mem_cons_of_mem _ (ih h)
theorem look_isSome {ds : List (Int × β)} {k : Int} : (look ds k).isSome = true ↔ k ∈ ds.map (·.1) := by
  rw [← look_any, List.any_eq_true]
  constructor
  · rintro ⟨p, hp, e⟩
    exact List.mem_map.mpr ⟨p, hp, of_decide_eq_true e⟩
  · intro h
    obtain ⟨p, hp, e⟩ := List.mem_map.mp h
    exact ⟨p, hp, decide_eq_true e⟩
theorem put_mem {ds : List (Int × β)} {k : Int} {x : β} {p : Int × β} (h : p ∈ put ds k x) : p = (k, x) ∨ p ∈ ds := by
  unfold put at h
  split at h
  · obtain ⟨q, hq, e⟩ := List.mem_map.mp h
    split at e
    · rename_i e1
      left
      rw [← e, e1]
    · right
      rw [← e]
      exact hq
  · rcases List.mem_append.mp h with h | h
    · exact .inr h
    · exact .inl (List.mem_singleton.mp h)
end
end Y

/-! YDict: dicts with int keys as lists of pairs; slices. -/
namespace Y
open PySem PySem.Spec PyProof.Rows L2
section
variable {β : Type} {r : Rp β} {G G' : Hp}
/-- a dict's pairs, keys ints, values data -/
def DRel (r : Rp β) (G : Hp) : List (Key × V) → List (Int × β) → Prop := Paired fun p q => p.1 = Sum.inl q.1 ∧ r G p.2 q.2
theorem DRel.mono (m : Mn r) (e : Same G G') {kvs : List (Key × V)} {ds : List (Int × β)} (h : DRel r G kvs ds) : DRel r G' kvs ds := pd_mono (fun _ _ q => ⟨q.1, m _ _ _ _ e q.2⟩) h
theorem DRel.look_some : ∀ {kvs : List (Key × V)} {ds : List (Int × β)}, DRel r G kvs ds → ∀ {k : Int} {x : β}, look ds k = some x → ∃ v, valV kvs (Sum.inl k) = some v ∧ r G v x
  | _, _, .nil, k, x, h => by cases h
  | (p :: _), (q :: _), .cons ⟨h1, h2⟩ t, k, x, h => by
    rw [look_cons] at h
    by_cases e : q.1 = k
    · rw [if_pos e] at h
      cases h
      exact ⟨p.2, valV_pos (by rw [h1, e]), h2⟩
    · rw [if_neg e] at h
      obtain ⟨v, hv, hr⟩ := DRel.look_some t h
      exact ⟨v, by rw [valV_neg (by rw [h1]; exact fun z => e (Sum.inl.inj z))]; exact hv, hr⟩
theorem DRel.look_none : ∀ {kvs : List (Key × V)} {ds : List (Int × β)}, DRel r G kvs ds → ∀ {k : Int}, look ds k = none → valV kvs (Sum.inl k) = none
  | _, _, .nil, k, h => rfl
  | (p :: _), (q :: _), .cons ⟨h1, h2⟩ t, k, h => by
    rw [look_cons] at h
    by_cases e : q.1 = k
    · rw [if_pos e] at h
      cases h
    · rw [if_neg e] at h
      rw [valV_neg (by rw [h1]; exact fun z => e (Sum.inl.inj z))]
      exact DRel.look_none t h
theorem DRel.anyK : ∀ {kvs : List (Key × V)} {ds : List (Int × β)}, DRel r G kvs ds → ∀ (k : Int), (kvs.any fun kv => decide (kv.1 = (Sum.inl k : Key))) = ds.any fun p => decide (p.1 = k)
  | _, _, .nil, k => rfl
  | (p :: _), (q :: _), .cons ⟨h1, _⟩ t, k => by
    rw [List.any_cons, List.any_cons, DRel.anyK t k, h1]
    congr 1
    by_cases e : q.1 = k
    · simp [e]
    · have : ¬ (Sum.inl q.1 : Key) = Sum.inl k := fun z => e (Sum.inl.inj z)
      simp [e, this]
theorem DRel.put {kvs : List (Key × V)} {ds : List (Int × β)} (h : DRel r G kvs ds) {k : Int} {v : V} {x : β} (hr : r G v x) : DRel r G (putK kvs (Sum.inl k) v) (put ds k x) := by
  unfold putK Y.put
  rw [h.anyK k]
  cases ds.any fun p => decide (p.1 = k) with
  | true =>
    rw [if_pos rfl, if_pos rfl]
    revert hr
    intro hr
    induction h with
    | nil => exact .nil
    | cons q t ih =>
      rename_i p q' _ _
      refine .cons ?_ ih
      dsimp only
      by_cases e : q'.1 = k
      · rw [if_pos e, if_pos (by rw [q.1, e])]
        exact ⟨q.1, hr⟩
      · rw [if_neg e, if_neg (by rw [q.1]; exact fun z => e (Sum.inl.inj z))]
        exact q
  | false =>
    rw [if_neg Bool.false_ne_true, if_neg Bool.false_ne_true]
    exact pd_snoc h ⟨rfl, hr⟩
theorem DRel.keys : ∀ {kvs : List (Key × V)} {ds : List (Int × β)}, DRel r G kvs ds → kvs.map (·.1) = (ds.map (·.1)).map Sum.inl
  | _, _, .nil => rfl
  | _, _, .cons q t => by rw [List.map_cons, List.map_cons, List.map_cons, DRel.keys t, q.1]
end
/-- a row of ints at an address -/
abbrev rowI (xs : List Int) : HO := .lst (xs.map V.int)
theorem cut_to (xs : List V) (n : Nat) : cutV xs none (some (n : Int)) = xs.take n := by
  unfold cutV
  rw [HT.sIx_none, HT.sIx_nat, List.drop_zero, Nat.sub_zero]
  by_cases h : n ≤ xs.length
  · rw [Nat.min_eq_left h]
  · rw [Nat.min_eq_right (by omega), List.take_of_length_le (Nat.le_refl _), List.take_of_length_le (by omega)]
theorem cut_from (xs : List V) (n : Nat) : cutV xs (some (n : Int)) none = xs.drop n := by
  unfold cutV
  rw [HT.sIx_none, HT.sIx_nat]
  by_cases h : n ≤ xs.length
  · rw [Nat.min_eq_left h, List.take_of_length_le (by rw [List.length_drop]; omega)]
  · rw [Nat.min_eq_right (by omega), List.drop_eq_nil_of_le (Nat.le_refl _), List.drop_eq_nil_of_le (by omega)]
    simp
end Y


/-! YMore: rules that the bundles lack: a field as a target among several, dead statements, sorted(dict) at any length, remove over data, a class made with a default. -/
namespace Y
open PySem PySem.Spec PyProof.Rows L2
section
variable {X : Cx} {K : PySem.W.Frag}
/-- o.f = .. as a target -/
def gFld (K : PySem.W.Frag) (to : TE) (f : Str) : TG := fun v σ H Q => to σ H fun x H2 => ∃ a C dx fs, x = .ref a ∧ H2 a = some (.ins C dx fs) ∧ Cls K C ∧ NoAttr K C f ∧ fs.length < 1000 ∧ Q σ (upd H2 a (.ins C dx (putF f v fs)))
theorem pg_fld {o : Expr} {f : Str} {pos : Pos} {to : TE} (ho : PE X o to) : PG X (.Attribute o f pos) (gFld X.K to f) := by
  refine ⟨fun pins s σ H v u Q I r h => ?_⟩
  rw [assign_Attribute]
  refine wpAny_bind (wpAny_holding (thn (ho.run pins s σ H _ I h) fun ov s1 ⟨x, H1, I1, rx, a, C, dx, fs, ex, ea, c, n, l, q⟩ => ?_))
  subst ex
  obtain rfl : ov = Value.ref a := rx
  refine wpAny_bind (wpAny_standAt (wpAny_bind (wpAny_holding ?_)))
  exact setattr_ok I1 ea c n l r fun s3 I3 => wpAny_release ⟨σ, _, I3, q⟩
theorem pg_fldK {o : Expr} {f : Str} {pos : Pos} {to : TE} (h : X.K = K) (ho : PE X o to) : PG X (.Attribute o f pos) (gFld K to f) := by subst h; exact pg_fld ho
/-- a statement that is never reached -/
theorem ps_dead {st : Stmt} : PS X st (fun _ _ _ => False) := ⟨fun _ _ _ _ _ _ h => h.elim⟩
theorem pss_dead {st : List Stmt} : PSs X st (fun _ _ _ => False) := ⟨fun _ _ _ _ _ _ h => h.elim⟩
/-- sorted(d): its keys, ints, any number of them -/
theorem call_sortedDA (hcalm : X.calm = true) : CallR X (.builtin "sorted") (fun xs H Q => ∃ (a : Addr) (kvs : List (Key × V)) (ks : List Int), xs = [.ref a] ∧ Rd H a (.dK kvs) ∧ kvs.map (·.1) = ks.map Sum.inl ∧ ks.length ≤ 100000 ∧
    ∀ (ys : List Int) (p : Addr), ys.Perm ks → ys.Pairwise (· ≤ ·) → H p = none → Q (.ref p) (upd H p (.lst (ys.map V.int)))) := by
  intro pins s σ H xs us Q I r q
  obtain ⟨a, kvs, ks, ex, hd, hks, h64, q⟩ := q
  subst ex
  obtain ⟨u, eu, rx⟩ := vals1 r
  subst eu
  cases rx
  obtain ⟨z, lo, vs, rel, dd⟩ := dk_rd I.hok hd
  obtain ⟨ep, hat⟩ := dd.dictAt
  have hkeys : vs.map (·.1) = ks.map Sum.inl := rel.keys.symm.trans hks
  have hl : vs.length = ks.length := by
    have e := congrArg List.length hkeys
    rw [List.length_map, List.length_map] at e
    exact e
  have h16 : vs.length ≤ sizeLine := by rw [hl, sizeLine_eq]; omega
  refine Calls.call_function_entry PyProof.Rows.kind_sorted PyProof.Rows.plain_sorted PyProof.Rows.entry_sorted (PyProof.Rows.args_sorted1 _) ?_
  unfold Builtin.«sorted»
  refine wpAny_bind (m := checkCount "sorted" 1 1 _) (wpAny_pure ?_)
  refine wpAny_bind (PySem.W.kdu_collect (A := X.A.in1) (PySem.W.kdl_dict (knd := mixKind X.prog X.w) (kvs := vs) (ep := ep) lo) (I.ok.hd hcalm) hat h16 fun h' tk acc hk hacc => ?_)
  have hal : acc.toList.length = ks.length := by rw [Array.length_toList, hacc.1, hl]
  have hS : IntsAre acc.toList ks := ints_each hal fun j v e => by
    obtain ⟨k, x, e1, e2⟩ := hacc.2 j v (by rw [← Array.getElem?_toList]; exact e)
    have e3 : (vs.map (·.1))[j]? = some k := by rw [List.getElem?_map, e1]; rfl
    rw [hkeys, List.getElem?_map] at e3
    cases e4 : ks[j]? with
    | none => rw [e4] at e3; cases e3
    | some y =>
      rw [e4] at e3
      have e5 : Sum.inl y = k := Option.some.inj e3
      subst e5
      rcases keyIs_shape (show keyIs (Sum.inl y) v = true from e2) with ⟨i, t, ek, ev⟩ | ⟨z, t, ek, ev⟩
      · cases ek
        exact ⟨y, t, rfl, ev⟩
      · cases ek
  have I1 : Inv X pins σ H { s with heap := h', toks := tk } := I.kept hk
  refine wpAny_bind (wpAny_newList ?_ (by rw [hal, sizeLine_eq]; omega))
  have hoL : (h'.push (seqObj "list" acc.toList.toArray 0)).get? h'.objs.size = some (seqObj "list" acc.toList.toArray 0) := Heap.get?_push_size _ rfl
  show wpAny _ _ _ _ _ { s with heap := h'.push (seqObj "list" acc.toList.toArray 0), toks := tk }
  refine wpAny_bind (wpAny_holding (wpAny_call_entry PyProof.Rows.slot_list_sort ⟨_, hoL, rfl⟩ PyProof.Rows.entry_list_sort
    (SrtO.list_sort_ord (s := { s with heap := h'.push (seqObj "list" acc.toList.toArray 0), toks := tk }) SrtO.swo_int hoL (by rw [hal, sizeLine_eq]; omega) (fun h2 => SrtO.ints_sortable hS h2) fun out k1 k2 => ⟨_, rfl, ?_⟩) (PyProof.Rows.args_list_sort _)))
  obtain ⟨g1, g2, g3⟩ := SrtO.ints_out hS k1 k2
  obtain ⟨e', he'⟩ := PyProof.Rows.sortedHeap_at (vs := acc.toList) (out := out.toArray) hoL
  have hlen : ((out.map SrtO.iv).map V.int).length ≤ sizeLine := by
    rw [List.length_map, g2.length_eq, sizeLine_eq]
    omega
  refine wpAny_pure ⟨_, rfl, .ref h'.objs.size, upd H h'.objs.size (.lst ((out.map SrtO.iv).map V.int)), I1.laid (t' := tk) (fun b u e => ?_) (Nat.le_refl _)
    (show ObjOk X.prog X.w _ _ _ (.lst ((out.map SrtO.iv).map V.int)) from ⟨hlen, out, e', vals_of_ints g1, he'⟩), rfl, q _ _ g2 g3 (I1.hok.fresh (Nat.le_refl _))⟩
  have hb : b < h'.objs.size := Heap.lt_size e
  rw [PyProof.Rows.sortedHeap_old (Nat.ne_of_lt hb) (by rw [size_push']; exact Nat.lt_succ_of_lt hb)]
  exact Heap.get?_push_of_some _ e
/-- l.remove(x) over data: the first that is equal goes -/
def rRemD (K : PySem.W.Frag) : V → List V → Hp → VK → Prop := fun x xs H Q => ∃ (l : Addr) (vs : List V) (ds : List PyData) (y : V) (d : PyData) (j : Nat), x = .ref l ∧ xs = [y] ∧ H l = some (.lst vs) ∧ DpAll K H vs ds ∧ Dp K H y d ∧
  PyData.plainAll ds = true ∧ d.plain = true ∧ d.depth ≤ 60 ∧ SeqAt.dataPlace ds d = some j ∧ Q .non (upd H l (.lst (vs.eraseIdx j)))
theorem mt_removeD (hK : X.K = K) (hu : X.A.units + 64 < cLine) : MtR X "list.remove" (rRemD K) := by
  subst hK
  intro pins s σ H x xs v us Q I rx rxs h
  obtain ⟨l, vs, ds, y, d, j, rfl, rfl, hH, ha, hy, p1, p2, p3, hp, q⟩ := h
  cases rx
  obtain ⟨u, rfl, ru⟩ := rxs.one
  obtain ⟨z, its, n, r, hl, e⟩ := I.lstM hH
  obtain ⟨as, rs⟩ := Dp.readsAll I ds vs its ha r
  obtain ⟨bs, ry⟩ := Dp.reads I d y u hy ru
  refine SeqAt.remove_list_data (j := j) ⟨_, e, rfl, _, rfl⟩ (by simpa using rs) ry p1 p2 (by have := Nat.min_le_right (PyData.depthAll ds) d.depth; omega) hp (by rw [List.size_toArray]; omega) ?_
  refine ⟨.non, _, I.lset (its' := its.eraseIdx j) (t' := s.toks) hH e ?_ (r.eraseIdx j) ?_, rfl, q⟩
  · show its.toArray.eraseIdxIfInBounds j = (its.eraseIdx j).toArray
    rw [List.eraseIdxIfInBounds_toArray]
  · have := List.length_eraseIdx_le vs j
    omega
end
theorem pi_enumK {X : Cx} {K : PySem.W.Frag} {e : Expr} {ta : TA} {p pos tpos : Pos} {elts : List Expr} {kk : Nat} (h : X.K = K) (hg : Gl X "enumerate") (hm : X.mg "enumerate" = none) (ha : PA X [e] ta) (hs : starEach [e] X.env = [(false, eval e X.env)] := by rfl) :
    PI X (.Tuple elts kk tpos) (.Call (.Name "enumerate" p) [e] [] pos) (iEnum K ta) := by subst h; exact pi_enum hg hm ha hs
/-- a class, its __init__ with defaults behind what is written -/
structure CsD (P : Program) (w : World) (K : PySem.W.Frag) (mg : Str → Option Value) (base : Heap) (x : Str) (C : Addr) (k : Nat) (ps : List Str) (dvs : List V) (sp : Sp) : Prop where
  ex : ∃ (f : Addr) (fd : FuncData) (ds : List Value), FnOk P w K mg base CX0 k f fd ps sp ∧ Mk K C f ∧ Binds K fd ps ds ∧ Vals dvs ds
  mg : mg x = some (.ref C)
section
variable {X : Cx} {k : Nat} {C : Addr} {ps : List Str} {dvs : List V} {sp : Sp} {x : Str} {p pos : Pos} {e : Expr} {es : List Expr} {t : TA}
theorem pe_mkd (L : CsD X.prog X.w X.K X.mg X.base x C k ps dvs sp) (hr : Room (k + 1) X.A) (hg : Gl X x) (ha : PA X (e :: es) t)
    (hdb : (x == ("__debug__" : Str)) = false := by decide) (he : starEach (e :: es) X.env = (false, eval e X.env) :: starEach es X.env := by rfl) (hpl : (backTo pos (starEach es X.env)).any (·.1) = false := by rfl) :
    PE X (.Call (.Name x p) (e :: es) [] pos) (tMake C sp dvs E0 t) := by
  obtain ⟨f, fd, ds, F, h1, h3, h4⟩ := L.ex
  exact pe_make h1 F hr hg L.mg h3 h4 pass0 ha hdb he hpl
end
/-- a def as it stands behind the top, whatever its defaults -/
structure FunX (K : PySem.W.Frag) (x qual : Str) (st : Stmt) (f : Addr) (fd : FuncData) : Prop where
  ex : ∃ (oc : Value) (od : Option Addr) (dV kV doc pm : Value) (an : Option Addr) (cdv ct : Value) (osl : Array (Option Value)),
    fd = PySem.W.fnOf x qual (defArgs st) (defBody st) (defScope st) dV kV doc pm an cdv ct ∧ K.lookup f = some ⟨oc, od, .func fd, osl⟩ ∧ PySem.W.codeIn K cdv qual = true
section
variable {P : Program} {w : World} {K : PySem.W.Frag} {mg : Str → Option Value} {base : Heap} {x qual : Str} {st : Stmt} {f : Addr} {fd : FuncData}
theorem FunX.ok {N ps : List Str} {k : Nat} {sp : Sp} (F : FunX K x qual st f fd) (S : FnScope N ps (defScope st)) (len : ∀ vs H Q E, sp vs H Q E → vs.length = ps.length)
    (hbody : ∀ (cdv : Value) (A : Around) (outer : List Env) (s : Shared) (H : Hp) (vs : List V) (Q : VK) (E : XK), Room k (A.deeper (envOfC qual (defScope st) s.heap.objs.size f cdv)) → sp vs H Q E →
      ∃ t, PSs (cxOf CX0 P w K mg base N qual (defScope st) f cdv A outer s H E).nox (defBody st) t ∧ t { nx := fun _ H' => Q .non H', rt := Q } (start N vs) H) : FnOk P w K mg base CX0 (k + 1) f fd ps sp := by
  obtain ⟨oc, od, dV, kV, doc, pm, an, cdv, ct, osl, rfl, lk, hcd⟩ := F.ex
  refine fn_of lk hcd S len fun A outer s H vs Q E hr hsp => ?_
  obtain ⟨t, h, q⟩ := hbody cdv A outer s H vs Q E hr hsp
  exact ⟨t, h.nox, q⟩
end
theorem _root_.L2.FunD.x {K : PySem.W.Frag} {x qual : Str} {st : Stmt} {dvs : List V} {kws : List (Str × V)} {f : Addr} {fd : FuncData} (F : FunD K x qual (defArgs st) (defBody st) (defScope st) dvs kws f fd) : FunX K x qual st f fd := by
  obtain ⟨oc, od, dV, kV, doc, pm, an, cdv, ct, osl, e, lk, hcd, _, _⟩ := F.ex
  exact ⟨oc, od, dV, kV, doc, pm, an, cdv, ct, osl, e, lk, hcd⟩
end Y

/-! YRepr: repr of data. What is under way around a call must be known for it, so the promises here (FnG) hold where nothing of that kind is under way. -/
namespace Y
open PySem PySem.Spec PyProof.Rows L2
/-- a def's promise, where no repr is under way -/
structure FnG (P : Program) (w : World) (K : PySem.W.Frag) (mg : Str → Option Value) (base : Heap) (CX : CXT) (k : Nat) (f : Addr) (fd : FuncData) (ps : List Str) (sp : Sp) : Prop where
  len : ∀ vs H Q E, sp vs H Q E → vs.length = ps.length
  go : ∀ (A : Around) (out : List Env) (t : Shared) (H : Hp) (ar : Args) (us : List Value) (vs : List V) (Q : VK) (E : XK), Room k A → A.guards = some [] → Env0 P w K mg base A out t H → BindsTo t fd ar (ps.zip us) → Vals vs us → sp vs H Q E →
    codeAny (model P w) A (.call (.ref f) ar) (CR CX out P w H t Q E) t
section
variable {P : Program} {w : World} {K : PySem.W.Frag} {mg : Str → Option Value} {base : Heap} {CX : CXT} {k : Nat} {f : Addr} {fd : FuncData} {ps : List Str} {sp : Sp}
theorem FnG.of (F : FnOk P w K mg base CX k f fd ps sp) : FnG P w K mg base CX k f fd ps sp := ⟨F.len, fun A out t H ar us vs Q E hr _ => F.run A out t H ar us vs Q E hr⟩
theorem fnG_of {name qual : Str} {params : Arguments} {body : List Stmt} {scope : Scope} {dV kV doc pm cdv ct oc : Value} {an od : Option Addr} {osl : Array (Option Value)} {N : List Str}
    (look : K.lookup f = some ⟨oc, od, .func (PySem.W.fnOf name qual params body scope dV kV doc pm an cdv ct), osl⟩) (code : PySem.W.codeIn K cdv qual = true) (S : FnScope N ps scope) (len : ∀ vs H Q E, sp vs H Q E → vs.length = ps.length)
    (main : ∀ (A : Around) (out : List Env) (t : Shared) (H : Hp) (vs : List V) (Q : VK) (E : XK), Room k (A.deeper (envOfC qual scope t.heap.objs.size f cdv)) → A.guards = some [] → sp vs H Q E →
      ∃ b, PSs (cxOf CX P w K mg base N qual scope f cdv A out t H E) body b ∧ b { nx := fun _ H' => Q .non H', rt := Q } (start N vs) H) : FnG P w K mg base CX (k + 1) f (PySem.W.fnOf name qual params body scope dV kV doc pm an cdv ct) ps sp := by
  constructor
  · exact len
  intro A out t H ar us vs Q E hr hg e0 hb r h
  have el := len _ _ _ _ h
  have KX : K.In t.heap := e0.mod.kin.keeps fun b o e => (e0.bs b o e).1
  have nl : t.heap.NoLimit := e0.mod.nolimit.keeps fun b o e => (e0.bs b o e).1
  have kinds : ∀ y ∈ ps.zip us, scope.names.lookup y.1 = some .local ∨ (scope.names.lookup y.1 = some .cell ∧ ((cellsFrom (t.heap.objs.size + 1) scope.names []).lookup y.1).isSome = true) := by
    rintro ⟨n, v⟩ hy
    rcases S.par n (List.of_mem_zip hy).1 with q | q
    · exact Or.inl q
    · exact Or.inr ⟨q, PySem.W.cellsFrom_some _ _ _ (Or.inl q)⟩
  refine codeAny_call_function hr.depth (KX _ _ look) rfl S.co S.gen rfl (PySem.W.codeRec_of KX code) (hb _ _ _ _ (wpAny_newFunctionEnv_cells S.kind kinds fun env he t1 x => ?_))
  subst he
  refine ⟨nl.keeps x.toInCall.keep, codeAny_func ?_⟩
  obtain ⟨b, hb1, hb2⟩ := main A out t H vs Q E (hr.deeper _) hg h
  have I : Inv (cxOf CX P w K mg base N qual scope f cdv A out t H E) [] (start N vs) H t1 := inv_start S hr.hd e0 el r x
  refine wpAny_mono (hb1.run [] t1 (start N vs) H _ I hb2) (fun fl t2 z => ?_) fun _ _ z => z
  have done : ∀ {σ2 : L2.St} {H2 : Hp} {v : V} {u : Value}, Inv (cxOf CX P w K mg base N qual scope f cdv A out t H E) [] σ2 H2 t2 → RelV v u → Q v H2 → CE out P w H t Q u t2 := fun {_ H2 v _} J rv q => ⟨v, H2, J.os, J.bare, J.base, J.hok, rv, q⟩
  match fl, z with
  | .ret u, ⟨v, σ2, H2, J, rv, q⟩ => exact done J rv q
  | .next, ⟨σ2, H2, J, q⟩ => exact done (v := V.non) (u := Value.none) J rfl q
  | .brk, ⟨_, _, _, q⟩ => exact False.elim q
  | .cont, ⟨_, _, _, q⟩ => exact False.elim q
/-- the rule for a def's body, where no repr is under way -/
theorem FunG.ok {x qual : Str} {st : Stmt} {N : List Str} (F : L2.Fun K x qual st f fd) (S : FnScope N ps (defScope st)) (len : ∀ vs H Q E, sp vs H Q E → vs.length = ps.length)
    (main : ∀ (cdv : Value) (A : Around) (out : List Env) (t : Shared) (H : Hp) (vs : List V) (Q : VK) (E : XK), Room k (A.deeper (envOfC qual (defScope st) t.heap.objs.size f cdv)) → A.guards = some [] → sp vs H Q E →
      ∃ b, PSs (cxOf CX0 P w K mg base N qual (defScope st) f cdv A out t H E).nox (defBody st) b ∧ b { nx := fun _ H' => Q .non H', rt := Q } (start N vs) H) : FnG P w K mg base CX0 (k + 1) f fd ps sp := by
  obtain ⟨oc, od, kV, doc, pm, an, cdv, ct, osl, rfl, lk, hcd⟩ := F.ex
  refine fnG_of lk hcd S len fun A out t H vs Q E hr hg h => ?_
  obtain ⟨b, h1, h2⟩ := main cdv A out t H vs Q E hr hg h
  exact ⟨b, h1.nox, h2⟩
end
section
variable {X : Cx}
/-- repr of data in lists and tuples -/
def rRepr (K : PySem.W.Frag) : List V → Hp → VK → Prop := fun xs H Q => ∃ (a : Addr) (d : PyData), xs = [.ref a] ∧ Dp K H (.ref a) d ∧ d.showable = true ∧ d.hasDict = false ∧ d.depth ≤ 60 ∧ d.shown.length ≤ sizeLine ∧ Q (.str d.shown) H
theorem cr_repr (hg : X.A.guards = some []) (hu : X.A.units + 64 < cLine) : CallR X (.builtin "repr") (rRepr X.K) := by
  intro pins s σ H xs us Q I r q
  obtain ⟨a, d, rfl, hd, h1, h2, h3, h4, q⟩ := q
  obtain ⟨u, rfl, ru⟩ := vals1 r
  obtain ⟨bs, ry⟩ := Dp.reads I d (.ref a) u hd ru
  cases ru
  exact repr_of_reads' ry h1 (fun z => by rw [h2] at z; cases z) hg (by omega) (fun _ _ e => e) (fun h' u tk hk => ⟨.str d.shown, H, I.kept hk, ⟨u, rfl⟩, q⟩) h4
theorem cr_reprK {K : PySem.W.Frag} (h : X.K = K) (hg : X.A.guards = some []) (hu : X.A.units + 64 < cLine) : CallR X (.builtin "repr") (rRepr K) := by subst h; exact cr_repr hg hu
end
/-! ### the end -/
theorem lawG_run {P : Program} {w : World} {K : PySem.W.Frag} {mg mb : Str → Option Value} {CX : CXT} {k : Nat} {fa a : Addr} {fd : FuncData} {x : Str} {sp : Sp} {t : Shared} {vs : List Value} {ns : List Int} (KX : K.In t.heap) (h1 : t.heap.Ns mainGlobals mg) (h2 : t.heap.Ns builtinsNs mb)
    (h3 : ∀ x : Str, x ≠ "__name__" → mb x = bootBuiltins x) (h4 : t.heap.NoLimit) (h5 : t.gens = #[]) (ha : t.heap.get? a = some { cls := .type "list", data := .seq vs.toArray }) (hi : IntsAre vs ns) (hl : ns.length ≤ sizeLine) (hr : Room k callerA)
    (F : ∀ base : Heap, K.In base → base.Ns mainGlobals mg → FnG P w K mg base CX k fa fd [x] sp) (bd : ∀ (s : Shared) (u : Value), BindsTo s fd ⟨[u], []⟩ [(x, u)]) (hsp : ∀ H : Hp, Only H → SqL K H a (ns.map V.int) → sp [.ref a] H (fun v _ => v = .bl true) fun _ _ _ => False)
    (hx : ∀ H e s', CX [] H t (fun _ _ _ => False) e s' → False) : codeAny (model P w) callerA (.call (.ref fa) ⟨[.ref a], []⟩) (fun r s' => r = .ok (.ret (.bool true)) ∧ OldK t.heap s'.heap ∧ s'.os = t.os ∧ AllBare s'.gens) t := by
  have rv := vals_ints hi
  have nv := hi.length
  have go : ∀ H : Hp, Only H → SqL K H a (ns.map V.int) → HOk P w H t.heap → (∀ b, H b ≠ none → b = a) → (H a ≠ none → K.lookup a = none) →
      codeAny (model P w) callerA (.call (.ref fa) ⟨[.ref a], []⟩) (fun r s' => r = .ok (.ret (.bool true)) ∧ OldK t.heap s'.heap ∧ s'.os = t.os ∧ AllBare s'.gens) t := by
    intro H only hS ok one away
    have hid : ∀ {b : Addr} {o : Obj}, t.heap.get? b = some o → H b = none → (hidT t.heap H).get? b = some o := fun e n => hidT_get e n
    have noDict : ∀ {b : Addr} {o : Obj} {es : Array DictEntry} {ep : Nat}, t.heap.get? b = some o → o.data = .dict es ep → H b = none := by
      intro b o es ep e d
      by_cases q : H b = none
      · exact q
      · have := one b q
        subst this
        rw [ha] at e
        cases e
        exact (nomatch d)
    have ns' : ∀ {b : Addr} {m : Str → Option Value}, t.heap.Ns b m → (hidT t.heap H).Ns b m := by
      rintro b m ⟨o, es, ep, e, d, r⟩
      exact ⟨o, es, ep, hid e (noDict e d), d, r⟩
    have kin : K.In (hidT t.heap H) := by
      intro b o e
      refine hid (KX b o e) ?_
      by_cases q : H b = none
      · exact q
      · have := one b q
        subst this
        rw [away q] at e
        cases e
    obtain ⟨mc, m1, m2⟩ := h4
    have M : Mod K mg (hidT t.heap H) := ⟨kin, ns' h1, ⟨mb, ns' h2, h3⟩, ⟨mc, ns' m1, m2⟩⟩
    have e0 : Env0 P w K mg (hidT t.heap H) callerA [] t H := { frames := rfl, mod := M, bs := fun b o e => of_hidT e, bsz := Nat.le_of_eq (hidT_size _ _), funs := trivial, frf := fun b hb => absurd (show b ∈ ([] : List Addr) from hb) (by simp), hok := ok, bare := .of_eq h5 }
    refine codeAny_mono ((F _ kin (ns' h1)).go callerA [] t H ⟨[.ref a], []⟩ [.ref a] [.ref a] _ _ hr rfl e0 (bd t (.ref a)) (.cons rfl .nil) (hsp H only hS)) fun r s' z => ?_
    match r, z with
    | .error e, z => exact (hx H e s' z).elim
    | .ok .next, z => exact False.elim z
    | .ok .brk, z => exact False.elim z
    | .ok .cont, z => exact False.elim z
    | .ok (.ret u), z =>
      obtain ⟨v, H2, os, bare, un, ok2, rr, q⟩ := z
      have q : v = .bl true := q
      subst q
      obtain rfl : u = Value.bool true := rr
      refine ⟨rfl, OldK.of_keep fun b o e => ?_, os, bare⟩
      rcases only b with q | ⟨ob, xs, z⟩
      · exact un.keep b o e q (fun z => by exact absurd (show b ∈ ([] : List Addr) from z) (by simp)) (by simp)
      · have z2 := un.frzs b ob _ z
        obtain ⟨e1, _⟩ := ok b _ z
        obtain ⟨e2, _⟩ := ok2 b _ z2
        rw [e] at e1
        cases e1
        exact e2
  by_cases hk : K.lookup a = none
  · refine go (fun b => if b = a then some (.frz { cls := .type "list", data := .seq vs.toArray } (.lst (ns.map V.int))) else none) (fun b => ?_) (.inl (.inr ⟨{ cls := .type "list", data := .seq vs.toArray }, if_pos rfl⟩)) (fun b u z => ?_) (fun b z => ?_) fun _ => hk
    · by_cases e : b = a
      · exact .inr ⟨_, _, if_pos e⟩
      · exact .inl (if_neg e)
    · by_cases e : b = a
      · have y := (if_pos e).symm.trans z
        cases y
        subst e
        exact ⟨ha, by rw [List.length_map]; exact hl, vs, _, rv, ha⟩
      · have y := (if_neg e).symm.trans z
        cases y
    · by_cases e : b = a
      · exact e
      · exact absurd (if_neg e) z
  · obtain ⟨o, ho⟩ := Option.ne_none_iff_exists'.mp hk
    have e := KX a o ho
    rw [ha] at e
    cases e
    exact go (fun _ => none) (fun _ => .inl rfl) (.inr ⟨_, vs.toArray, _, ho, rfl, rfl, rfl, by rw [List.size_toArray, nv]; exact hl, by simpa using rv⟩) (fun b u z => by cases (show (none : Option HO) = some u from z)) (fun b z => absurd rfl z) fun z => absurd rfl z
theorem walkG_of {l : PySem.W.OpenLaw} {n k : Nat} {q : Program} {loose : List Str} {XP : (Str → Option Value) → Heap → Prop} {YP : World → Heap → Prop} {d : DefRec} {K : Params → PySem.W.Frag} {CX : World → CXT} {sp : World → Sp} {x : Str} (hn : l.most = some n) (hn2 : n ≤ sizeLine) (hdf : d.params.defaults = []) (hr : Room k callerA)
    (hY : ∀ (w : World) (h : Heap), YP w h → (K w.params).In h) (F : ∀ (w : World) (mg : Str → Option Value) (fa : Addr) (h : Heap), (K w.params).In h → h.Ns mainGlobals mg → mg d.name = some (.ref fa) → ∃ fd : FuncData, (∀ (s : Shared) (u : Value), BindsTo s fd ⟨[u], []⟩ [(x, u)]) ∧
        ∀ base : Heap, (K w.params).In base → base.Ns mainGlobals mg → FnG l.prog w (K w.params) mg base (CX w) k fa fd [x] (sp w)) (hsp : ∀ (w : World) (H : Hp) (a : Addr) (ns : List Int), ns.length ≤ n → Only H → SqL (K w.params) H a (ns.map V.int) → sp w [.ref a] H (fun v _ => v = .bl true) fun _ _ _ => False)
    (hx : ∀ (w : World) (H : Hp) (s : Shared) (e : Value) (s' : Shared), CX w [] H s (fun _ _ _ => False) e s' → False) : PySem.W.WalkO q loose XP YP l.row.toRowW d [] (fun f vs => PySem.call f vs) := by
  refine Att.attach_call hn hdf ?_
  intro w s₀ s₁ mg mb fa o pm cd doc a vs ns G y ho hd hcd hmg hobj hints hlen hg
  obtain ⟨fd, hb, hF⟩ := F w mg fa _ (hY w _ y) G.T.g hmg
  exact lawG_run (hY w _ y) G.T.g G.T.b G.T.builtins G.T.nolimit hg hobj hints (Nat.le_trans hlen hn2) hr hF hb (fun H h1 h2 => hsp w H a ns hlen h1 h2) fun H e s' => hx w H s₁ e s'
end Y

/-! YMax: max of a list of data of a Lean type. -/
namespace Y
open PySem PySem.Spec PyProof.Rows L2 PySem.W
section
variable {X : Cx} {α : Type} [DecidableEq α] [DatumOrd α]
def rMaxT (α : Type) [DecidableEq α] [DatumOrd α] (K : PySem.W.Frag) : List V → Hp → VK → Prop := fun xs H Q => ∃ (a : Addr) (vs : List V) (x : α) (ys : List α), xs = [.ref a] ∧ SqL K H a vs ∧ DpAll K H vs ((x :: ys).map Datum.toD) ∧ Datum.depth α ≤ 60 ∧
  ∀ (i : Nat) (v : V), vs[i]? = some v → (x :: ys)[i]? = some (maxOf x ys) → Q v H
theorem toD_inj {a b : α} (h : (Datum.toD a : PyData) = Datum.toD b) : a = b := by
  have e := Datum.eqv a b
  rw [h, Datum.eqv] at e
  by_cases q : a = b
  · exact q
  · simp [q] at e
theorem cr_maxT (hc : X.calm = true) (hu : X.A.units + 64 < cLine) : CallR X (.builtin "max") (rMaxT α X.K) := by
  intro pins s σ H xs us Q I r q
  obtain ⟨a, vs, x, ys, rfl, hs, hd, h60, q⟩ := q
  obtain ⟨its, rv, hl, _⟩ := I.list hs
  rw [Vals.ref1 r]
  obtain ⟨as, rs⟩ := Dp.readsAll I _ _ _ hd rv
  have R0 : ReadsAll s.heap its.toArray.toList ((x :: ys).map Datum.toD) as := by simpa using rs
  refine max_list_datum (I.ok.hd hc) hl.isList (x := x) (xs := ys) ⟨as, R0⟩ (by omega) fun i u h' tk hi hh hk => ?_
  have hi' : its[i]? = some u := by simpa using hi
  have hlen := rv.length
  have hlt : i < vs.length := by rw [hlen]; exact (List.getElem?_eq_some_iff.mp hi').1
  have hv : vs[i]? = some vs[i] := List.getElem?_eq_getElem hlt
  obtain ⟨u', hu', rvu⟩ := rv.get hv
  rw [hi'] at hu'
  cases hu'
  obtain ⟨bs, h1, h2, _, _⟩ := readsAll_at R0 i u (by simpa using hi')
  rw [List.length_map] at h2
  obtain ⟨cs, h3⟩ := hh
  have h1' := (reads_keeps hk h1)
  have e : ((x :: ys).map Datum.toD).getD i .none = Datum.toD ((x :: ys)[i]) := by
    rw [List.getD_eq_getElem?_getD, List.getElem?_map, List.getElem?_eq_getElem h2]
    rfl
  rw [e] at h1'
  have e2 := SeqAt.plain_unique _ _ _ _ _ (Datum.plain _) h1' h3
  have e3 := toD_inj e2
  exact ⟨vs[i], H, I.kept hk, rvu, q i _ hv (by rw [List.getElem?_eq_getElem h2, e3])⟩
theorem cr_maxTK {K : PySem.W.Frag} (h : X.K = K) (hc : X.calm = true) (hu : X.A.units + 64 < cLine) : CallR X (.builtin "max") (rMaxT α K) := by subst h; exact cr_maxT hc hu
end
end Y

/-! YSort: sorted of a set of ints, of any number of members up to 4000. -/
namespace Y
open PySem PySem.Spec PyProof.Rows L2
section
variable {P : Program} {w : World} {A : Around} {E : Value → Shared → Prop} {s : Shared} {a : Addr}
theorem sorted_setA {S : Int → Bool} {n : Nat} {Q : Value → Shared → Prop} (R : SetR w s.heap a S n) (hh : A.handled = none) (hn : n ≤ 4000)
    (done : ∀ s' p (its : List Value) (c : Nat) (ks : List Int), (∀ b o, s.heap.get? b = some o → s'.heap.get? b = some o) → s'.gens = s.gens → s'.os = s.os → s.heap.objs.size ≤ p → s'.heap.get? p = some (seqObj "list" its.toArray c) → IntsAre its ks → ks.Pairwise (· < ·) →
      (∀ k, k ∈ ks ↔ S k = true) → ks.length = n → Q (.ref p) s') : wpAny (model P w) A (call (.builtin "sorted") [.ref a]) Q E s := by
  obtain ⟨o, es, ep, t, ho, hex, hd, g, nd, hm, hb, hf, en, hr, hl⟩ := R
  refine Calls.call_function_entry PyProof.Rows.kind_sorted PyProof.Rows.plain_sorted PyProof.Rows.entry_sorted (PyProof.Rows.args_sorted1 _) ?_
  unfold Builtin.«sorted»
  refine wpAny_bind (m := checkCount "sorted" 1 1 _) (wpAny_pure (wpAny_bind (collect_set (A := A.in1) hh ⟨o, ho, hex.1, hd⟩ hf hb hr hl fun s1 vs k1 hz g1 o1 pm => ?_)))
  have nv : vs.length = n := by
    rw [pm.length_eq, List.length_map, Array.length_toList]
    exact en
  have hS : IntsAre vs (vs.map Builtin.Re.reRawOf) := ints_of vs fun v hv => by
    obtain ⟨e, he, q⟩ := List.mem_map.mp (pm.mem_iff.mp hv)
    obtain ⟨k, tk, h1, _⟩ := g e he
    exact ⟨k, tk, q.symm.trans h1⟩
  have pk : (vs.map Builtin.Re.reRawOf).Perm (es.toList.map keyOf) := by
    have := pm.map Builtin.Re.reRawOf
    rwa [List.map_map] at this
  refine wpAny_bind (wpAny_newList ?_ (by rw [nv, sizeLine_eq]; omega))
  have hoL : (s1.heap.push (seqObj "list" vs.toArray 0)).get? s1.heap.objs.size = some (seqObj "list" vs.toArray 0) := Heap.get?_push_size _ rfl
  refine wpAny_bind (wpAny_holding (wpAny_call_entry PyProof.Rows.slot_list_sort ⟨_, hoL, rfl⟩ PyProof.Rows.entry_list_sort
    (SrtO.list_sort_ord (s := { s1 with heap := s1.heap.push (seqObj "list" vs.toArray 0) }) SrtO.swo_int hoL (by rw [nv, sizeLine_eq]; omega) (fun h2 => SrtO.ints_sortable hS h2) fun out q1 q2 => ⟨_, rfl, ?_⟩) (PyProof.Rows.args_list_sort _)))
  obtain ⟨r1, r2, r3⟩ := SrtO.ints_out hS q1 q2
  obtain ⟨c, hc⟩ := PyProof.Rows.sortedHeap_at (vs := vs) (out := out.toArray) hoL
  have pn : (out.map SrtO.iv).Perm (es.toList.map keyOf) := r2.trans pk
  refine wpAny_pure ⟨_, rfl, done _ s1.heap.objs.size out c (out.map SrtO.iv) (fun b u e => ?_) g1 o1 hz hc r1 (lt_of_le_nodup _ r3 (pn.nodup_iff.mpr nd)) (fun k => by rw [pn.mem_iff, ← hm k]) ?_⟩
  · have q := k1 b u e
    have lt := Heap.lt_size q
    refine (PyProof.Rows.sortedHeap_old (Nat.ne_of_lt lt) (by rw [size_push']; exact Nat.lt_succ_of_lt lt)).trans ?_
    exact Heap.get?_push_of_some _ q
  · rw [pn.length_eq, List.length_map, Array.length_toList]
    exact en
end
section
variable {X : Cx}
def rSortedSetA (w : World) : List V → Hp → VK → Prop := fun vs H Q => ∃ (a : Addr) (S : Int → Bool) (n : Nat), vs = [V.ref a] ∧ H a = some (SetO w a S n) ∧ n ≤ 4000 ∧
  ∀ (ns : List Int) (p : Addr), ns.Pairwise (· < ·) → (∀ k : Int, k ∈ ns ↔ S k = true) → ns.length = n → H p = none → Q (.ref p) (upd H p (.lst (ns.map V.int)))
theorem cr_sortedSetA (hc : X.calm = true) : CallR X (.builtin "sorted") (rSortedSetA X.w) := by
  intro pins s σ H vs us Q I r h
  obtain ⟨a, S, n, rfl, ha, hn, q⟩ := h
  have R := setO_get I ha
  rw [Vals.ref1 r]
  refine sorted_setA R (I.ok.hd hc) hn fun s' p its c ks k g o hp hg hi hs hm hl => ?_
  have few : (ks.map V.int).length ≤ sizeLine := by rw [List.length_map, hl, sizeLine_eq]; omega
  have np : H p = none := I.hok.fresh hp
  have J : Inv X pins σ (upd H p (.lst (ks.map V.int))) { s with heap := s'.heap, gens := s'.gens, drawn := s'.drawn, toks := s'.toks } :=
    I.call (ch := []) (Un.laid k hp np) (I.hok.laid k hp ⟨few, its, c, vals_of_ints hi, hg⟩) (by rw [g]; exact I.bare) (fun _ z => nomatch z)
  obtain ⟨hh, gg, d, t, os⟩ := s'
  obtain rfl : os = s.os := o
  exact ⟨.ref p, _, J, rfl, q ks p hs hm hl np⟩
theorem cr_sortedSetAK {w : World} (h : X.w = w) (hc : X.calm = true) : CallR X (.builtin "sorted") (rSortedSetA w) := by subst h; exact cr_sortedSetA hc
end
end Y

/-! YComp: name = {k: v for ..} on one line, the name a local. -/
namespace Y
open PySem PySem.Spec PyProof.Rows L2
section
variable {X : Cx}
theorem sw_trueD {kx vx : Expr} {gs : List Comprehension} {scope : Scope} {pos py : Pos} {y : Str} {l : Nat} {env : Env} (h1 : env.scope.kind = .function) (h2 : env.scope.names.lookup y = some .local) (h3 : (py.line == pos.line) = true)
    (h4 : (scope.names.any fun (n, k) => n == y && (k == .local || k == .cell)) = false) : swapsWith (.DictComp kx vx gs scope pos) (some (.Name y py)) l env = pure true := by
  have e1 : env.kindOf y = some .local := h2
  have e2 : env.blockKind = .function := by unfold Env.blockKind; rw [h1]; rfl
  unfold swapsWith
  simp only [e2, e1, h4, Expr.pos, h3]
  rfl
abbrev Blk (X : Cx) (scope : Scope) (s : Shared) (H : Hp) (C : Addr) (cl : List (Str × Addr)) (fp : List Addr) : Cx := X.blk s H scope (compEnvC scope cl C X.env) fp
theorem ps_setDc {i : Nat} {y : Str} {py : Pos} {kx vx tg iter : Expr} {ifs : List Expr} {scope : Scope} {own : List (Str × Nat)} {pos spos : Pos} {wi : TI} {g : TG} {tt : TT} {tk tv : TE} (hc : X.calm = true) (hN : X.N.Nodup) (hy : X.N[i]? = some y) (loc : X.env.scope.names.lookup y = some .local)
    (sw : swapsWith (.DictComp kx vx [⟨tg, iter, ifs, 0⟩] scope pos) (some (.Name y py)) spos.line X.env = pure true) (hi : PI X tg iter wi) (ok : BlkOk X.N X.env.scope scope own) (hg : ∀ s H C cl fp, PG (Blk X scope s H C cl fp) tg g) (ht : ∀ s H C cl fp, PTs (Blk X scope s H C cl fp) ifs tt)
    (hk : ∀ s H C cl fp, PE (Blk X scope s H C cl fp) kx tk) (hv : ∀ s H C cl fp, PE (Blk X scope s H C cl fp) vx tv) (hs : ∀ x, foldedSetIterable iter X.env x = pure x := by intro _; rfl) :
    PS X (.Assign [.Name y py] (.DictComp kx vx [⟨tg, iter, ifs, 0⟩] scope pos) spos) (tAsg (tDc wi g tt tk tv (own.map (·.2))) (gName i)) := by
  constructor
  intro pins s σ H D I h
  rw [exec_Assign_Name_used _ _ _ _ sw]
  refine wpAny_bind (wpAny_standAt (wpAny_bind ?_))
  show wpAny _ X.A (do let _ ← comprehension (.DictComp kx vx [⟨tg, iter, ifs, 0⟩] scope pos) scope X.env (firstIterPos [⟨tg, iter, ifs, 0⟩] pos) newDict false (eval iter X.env) (some (assign (.Name y py) X.env))) _ _ s
  have h : tDc wi g tt tk tv (own.map (·.2)) σ H (fun x H1 => gName i x σ H1 D.nx) := h
  refine wpAny_bind (thn (dc_core (Qf := fun _ s' => SP X pins D .next s') hc hN I hi ok hg ht hk hv hs h fun L C s1 m H1 I1 q hn f => ?_) fun _ _ z => wpAny_pure (wpAny_pure z))
  show wpAny _ _ (assign (.Name y py) X.env (.ref L)) _ _ _
  refine wpAny_assign_Name (store_ok2 (v := V.ref L) I1 hN hy (.inl loc) rfl (fun s2 I2 ⟨a, sb, ha⟩ => ?_) (.inr loc))
  obtain ⟨f0, f1, f2, f3, f4, f5⟩ := f
  have ne : C ≠ a := ha.elim (fun z => by rw [z]; exact f1) fun z e => f4 y a z e.symm
  exact ⟨m, hn.sameBut sb ne, fun h3 sb3 => ⟨_, H1, I2.turned (t' := s2.toks) (fun b o hb e => (sb3.2 b hb).trans e) f0 f1 f3 f4 f5, q⟩⟩
end
end Y

/-! YItems: sorted(d.items()) of a dict over ints, whatever it holds. -/
namespace Y
open PySem PySem.Spec PyProof.Rows L2
/-- a tuple of an int and something -/
def IR (h : Heap) (v : Value) (i : Int) (u : Value) : Prop := ∃ a o t n, v = .ref a ∧ h.get? a = some o ∧ o.cls = .type "tuple" ∧ o.data = .seq #[.int i t, u] n
theorem IR.keeps {h h' : Heap} {v u : Value} {i : Int} (p : IR h v i u) (k : ∀ b o, h.get? b = some o → o.cls = .type "tuple" → h'.get? b = some o) : IR h' v i u := by
  obtain ⟨a, o, t, n, e, ho, hc, hd⟩ := p
  exact ⟨a, o, t, n, e, k _ _ ho hc, hc, hd⟩
def intIn : Value → Int
  | .int i _ => i
  | _ => 0
def refIn : Value → Addr
  | .ref a => a
  | _ => 0
def headIn : Data → Value
  | .seq its _ => its.getD 0 .none
  | _ => .none
def rowKey (h : Heap) (v : Value) : Int := match h.get? (refIn v) with
  | some o => intIn (headIn o.data)
  | none => 0
theorem IR.key {h : Heap} {v u : Value} {i : Int} (p : IR h v i u) : rowKey h v = i := by
  obtain ⟨a, o, t, n, e, ho, hc, hd⟩ := p
  unfold rowKey
  rw [e]
  show (match h.get? a with | some o => intIn (headIn o.data) | none => 0) = i
  rw [ho]
  show intIn (headIn o.data) = i
  rw [hd]
  rfl
section
variable {prog : Program} {w : World} {A : Around} {s : Shared}
open SrtO Srt in
theorem ir_cmp {vs : List Value} {κ : Value → Int} (hp : ∀ v ∈ vs, ∃ u, IR s.heap v (κ v) u) (inj : ∀ v ∈ vs, ∀ u ∈ vs, κ v = κ u → v = u) : SrtO.Cmp prog w A s (tuples' true) (fun p => p.1 ∈ vs) (lt2 fun v u => decide (κ v < κ u)) := by
  intro p q hm hm'
  show wpAny (model prog w) A (keyLt' (tuples' true) p.1 q.1) (fun r s' => s' = s ∧ r = decide (κ p.1 < κ q.1)) (fun _ _ => False) s
  by_cases hk : κ p.1 = κ q.1
  · have epq := inj _ hm _ hm' hk
    rw [← epq]
    obtain ⟨u, a, o, t, n, e, ho, hc, hd⟩ := hp _ hm
    generalize κ p.1 = x at hd ⊢
    rw [e]
    refine PySem.W.kat_lt ho hd ho hd ?_
    show PySem.W.KatLex prog w A true (decide (2 < 2)) _ [(.int x t, .int x t), (u, u)] 0 s
    refine PySem.W.kat_cons (SeqAt.EqAt.int_int x t x t prog w _ _ ?_)
    refine PySem.W.kat_go (fun _ => ?_) (fun e1 => ?_)
    · refine PySem.W.kat_yes (PySem.W.kat_cons (SeqAt.EqAt.same u prog w _ _ ?_))
      refine PySem.W.kat_go (fun _ => ?_) (fun e2 => ?_)
      · exact PySem.W.kat_yes (PySem.W.kat_nil ⟨rfl, (decide_eq_false (Int.lt_irrefl _)).symm⟩)
      · exact absurd e2 (by decide)
    · exact absurd e1 (by simp)
  · obtain ⟨u, a, o, t, n, e, ho, hc, hd⟩ := hp _ hm
    obtain ⟨u', a', o', t', n', e', ho', hc', hd'⟩ := hp _ hm'
    generalize κ p.1 = x at hd hk ⊢
    generalize κ q.1 = x' at hd' hk ⊢
    rw [e, e']
    refine PySem.W.kat_lt ho hd ho' hd' ?_
    show PySem.W.KatLex prog w A true (decide (2 < 2)) _ [(.int x t, .int x' t'), (u, u')] 0 s
    refine PySem.W.kat_cons (SeqAt.EqAt.int_int x t x' t' prog w _ _ ?_)
    refine PySem.W.kat_go (fun e1 => ?_) (fun e1 => ?_)
    · exact absurd (by simpa using e1) hk
    · exact PySem.W.kat_no (oneLt_int ⟨rfl, rfl⟩)
theorem ir_firsts {h : Heap} : ∀ {vs : List Value}, (∀ v ∈ vs, ∃ x u, IR h v x u) → ∃ fs : List Value, PySem.W.KatTups h vs fs ∧ fs.length = vs.length ∧ ∀ f ∈ fs, ∃ x t, f = Value.int x t
  | [], _ => ⟨[], PySem.W.KatTups.nil, rfl, fun _ hm => by simp at hm⟩
  | v :: vs, hp => by
    obtain ⟨fs, h1, h2, h3⟩ := ir_firsts (vs := vs) fun v' hm => hp v' (List.mem_cons_of_mem _ hm)
    obtain ⟨x, u, a, o, t, n, e, ho, hc, hd⟩ := hp v (List.mem_cons_self ..)
    subst e
    refine ⟨.int x t :: fs, PySem.W.KatTups.cons ho hc hd rfl h1, by rw [List.length_cons, List.length_cons, h2], fun f hm => ?_⟩
    rcases List.mem_cons.mp hm with rfl | hm
    · exact ⟨x, t, rfl⟩
    · exact h3 f hm
open SrtO Srt in
theorem ir_sortable {a : Addr} {vs : List Value} {κ : Value → Int} (h0 : 0 < vs.length) (hp : ∀ v ∈ vs, ∃ u, IR s.heap v (κ v) u) (inj : ∀ v ∈ vs, ∀ u ∈ vs, κ v = κ u → v = u) (ha : ∀ o, s.heap.get? a = some o → o.cls ≠ .type "tuple") :
    SortableO prog w A s a vs fun v u => decide (κ v < κ u) := by
  intro h' keep
  have hp' : ∀ v ∈ vs, ∃ u, IR h' v (κ v) u := fun v hm => by
    obtain ⟨u, p⟩ := hp v hm
    exact ⟨u, p.keeps fun b o e c => keep b o (fun z => by subst z; exact ha o e c) e⟩
  obtain ⟨fs, h1, h2, h3⟩ := ir_firsts fun v hm => by
    obtain ⟨u, p⟩ := hp' v hm
    exact ⟨_, u, p⟩
  refine ⟨tuples' true, fun Q E hq => ?_, ir_cmp hp' inj⟩
  refine PySem.W.kat_kind (T := .type "int") h1 (by omega) (fun f hm => ?_) (by rfl) ?_
  · obtain ⟨x, t, rfl⟩ := h3 f hm
    exact PySem.W.Looks.now
  · have e : (Value.type "int" != Value.type "tuple") = true := by first | decide +kernel | rfl | decide
    rw [e]
    exact hq
theorem swo_key (κ : Value → Int) : SrtO.Swo fun v u => decide (κ v < κ u) := by
  refine ⟨fun x y h => ?_, fun x y z h1 h2 => ?_⟩
  · have a := of_decide_eq_true h
    exact decide_eq_false (by omega)
  · have a := of_decide_eq_false h1
    have b := of_decide_eq_false h2
    exact decide_eq_false (by omega)
end
section
variable {X : Cx}
open L2.DX
def rItemsK : V → List V → Hp → VK → Prop := fun x xs H Q => ∃ (a : Addr) (kvs : List (Key × V)), x = .ref a ∧ xs = [] ∧ H a = some (.dK kvs) ∧ ∀ p, H p = none → Q (.ref p) (upd H p (itemsO p a))
theorem mt_itemsK : MtR X "dict.items" rItemsK := by
  intro pins s σ H x xs v us Q I rx rxs h
  obtain ⟨a, kvs, rfl, rfl, ha, q⟩ := h
  cases rx
  cases rxs
  obtain ⟨z, hd, xs', rel, o, es, ep, ho, hx, hdat, _⟩ := dk_of I.hok ha
  refine DT.callItems (es := es) (ep := ep) hd ⟨o, ho, hx, hdat⟩ ?_
  have hf : H s.heap.objs.size = none := I.hok.fresh (Nat.le_refl _)
  exact ⟨.ref s.heap.objs.size, upd H s.heap.objs.size (itemsO s.heap.objs.size a), I.laid (t' := s.toks) (fun b u e => Heap.get?_push_of_some _ e) (Nat.le_refl _) (itemsO_ok (Heap.get?_push_size _ rfl)), rfl, q _ hf⟩
theorem pairs_at {prog : Program} {w : World} {K : Type} [DecidableEq K] {knd : KeyKind prog w K} : ∀ {es : List DictEntry} {kvs : List (K × Value)}, Pairs knd es kvs → es.length = kvs.length ∧ ∀ (j : Nat) (e : DictEntry), es[j]? = some e → ∃ kv, kvs[j]? = some kv ∧ knd.is kv.1 e.key = true ∧ e.val = kv.2
  | _, _, .nil => ⟨rfl, fun j e h => by simp at h⟩
  | _, _, .cons h1 h2 t => by
    obtain ⟨l, q⟩ := pairs_at t
    refine ⟨by rw [List.length_cons, List.length_cons, l], fun j e he => ?_⟩
    cases j with
    | zero =>
      cases he
      exact ⟨_, rfl, h1, h2⟩
    | succ j => exact q j e he
def rSortItK : List V → Hp → VK → Prop := fun vs H Q => ∃ (p a : Addr) (ks : List (Int × Addr)), vs = [.ref p] ∧ H p = some (itemsO p a) ∧ H a = some (.dK (ks.map fun e => ((Sum.inl e.1 : Key), V.ref e.2))) ∧ ks.length ≤ 10000 ∧ (ks.map (·.1)).Nodup ∧
  ∀ (H' : Hp) (l : Addr) (ps : List (Addr × Int × Addr)), (∀ b o, H b = some o → H' b = some o) → (ps.map (·.2)).Perm ks → (ps.map (·.2)).Pairwise (fun e f => e.1 < f.1) → H l = none → H' l = some (.lst (ps.map fun z => V.ref z.1)) →
    (∀ z ∈ ps, H z.1 = none ∧ z.1 ≠ l ∧ H' z.1 = some (.tup [.int z.2.1, .ref z.2.2])) → Q (.ref l) H'
theorem cr_sortItK (hc : X.calm = true) : CallR X (.builtin "sorted") rSortItK := by
  intro pins s σ H xs us Q I r h
  obtain ⟨p, a, ks, rfl, hp, ha, few, ndk, q⟩ := h
  obtain rfl := Vals.ref1 r
  have view : s.heap.IsItemsView p a := (show ObjOk X.prog X.w H s.heap p (itemsO p a) from I.hok p _ hp).1
  obtain ⟨z, hd, xs', rel, o, es, ep, ho, hx, hdat, hko, hps, hnd⟩ := dk_of I.hok ha
  have l1 : (ks.map fun e => ((Sum.inl e.1 : Key), V.ref e.2)).length = xs'.length := Paired.length rel
  rw [List.length_map] at l1
  obtain ⟨l2, pat⟩ := pairs_at hps
  rw [Array.length_toList] at l2
  have hh : X.A.handled = none := I.ok.hd hc
  refine DT.sortedI (es := es) (ep := ep) hh view ⟨o, ho, hx, hdat⟩ (by rw [sizeLine_eq]; omega) fun h' tk as hk hlt hl hG => ?_
  have lak : as.length = ks.length := by omega
  have nd : as.Nodup := List.Pairwise.imp (fun h => Nat.ne_of_lt h) hG.rise
  have pr : ∀ (j : Nat) (b : Addr), as[j]? = some b → ∃ (e : Int × Addr) (t : Tok), ks[j]? = some e ∧ h'.get? b = some { cls := .type "tuple", data := .seq #[Value.int e.1 t, Value.ref e.2] } := by
    intro j b hj
    obtain ⟨en, he, hg⟩ := hG.pairs j b hj
    obtain ⟨kv, hkv, his, hval⟩ := pat j en (by simpa using he)
    obtain ⟨e0, he0, r1, r2⟩ := pget rel hkv
    rw [List.getElem?_map] at he0
    cases hkj : ks[j]? with
    | none =>
      rw [hkj] at he0
      exact nomatch (show (none : Option (Key × V)) = some e0 from he0)
    | some e =>
      rw [hkj] at he0
      have ee : ((Sum.inl e.1 : Key), V.ref e.2) = e0 := Option.some.inj he0
      rw [← ee] at r1 r2
      have r2' : kv.2 = Value.ref e.2 := r2
      rw [← r1] at his
      rcases keyIs_shape (show keyIs (Sum.inl e.1) en.key = true from his) with ⟨i, t, e1, e2⟩ | ⟨x, t, e1, _⟩
      · have e3 : e.1 = i := Sum.inl.inj e1
        refine ⟨e, t, rfl, ?_⟩
        rw [hg, e2, hval, r2', e3]
        all_goals rfl
      · cases e1
  -- the heap of the sort
  have hob : (h'.push { cls := .type "list", data := .seq (as.map Value.ref).toArray }).get? h'.objs.size = some (seqObj "list" (as.map Value.ref).toArray 0) := Heap.get?_push_size _ rfl
  have kb : ∀ b o, s.heap.get? b = some o → (h'.push { cls := .type "list", data := .seq (as.map Value.ref).toArray }).get? b = some o := fun b o e => Heap.get?_push_of_some _ (hk b o e)
  have ne0 : ∀ b o, h'.get? b = some o → b ≠ h'.objs.size := fun b o e => Nat.ne_of_lt (Heap.lt_size e)
  generalize hh2 : h'.push { cls := .type "list", data := .seq (as.map Value.ref).toArray } = h2 at hob kb ⊢
  have ka : ∀ b o, h'.get? b = some o → h2.get? b = some o := fun b o e => by rw [← hh2]; exact Heap.get?_push_of_some _ e
  have pin : ∀ (j : Nat) (b : Addr) (e : Int × Addr), as[j]? = some b → ks[j]? = some e → IR h2 (.ref b) e.1 (.ref e.2) := by
    intro j b e hj he
    obtain ⟨e', t, he', hg⟩ := pr j b hj
    have ee : e' = e := Option.some.inj (he'.symm.trans he)
    rw [ee] at hg
    exact ⟨b, _, t, 0, rfl, ka _ _ hg, rfl, rfl⟩
  have at_ : ∀ v ∈ as.map Value.ref, ∃ (j : Nat) (b : Addr) (e : Int × Addr), v = .ref b ∧ as[j]? = some b ∧ ks[j]? = some e ∧ rowKey h2 v = e.1 := by
    intro v hv'
    obtain ⟨b, hb, rfl⟩ := List.mem_map.mp hv'
    obtain ⟨j, hj⟩ := List.mem_iff_getElem?.mp hb
    obtain ⟨e, _, he, _⟩ := pr j b hj
    exact ⟨j, b, e, rfl, hj, he, (pin j b e hj he).key⟩
  have hp' : ∀ v ∈ as.map Value.ref, ∃ u, IR h2 v (rowKey h2 v) u := fun v hv => by
    obtain ⟨j, b, e, rfl, hj, he, hk'⟩ := at_ v hv
    rw [hk']
    exact ⟨_, pin j b e hj he⟩
  have inj : ∀ v ∈ as.map Value.ref, ∀ u ∈ as.map Value.ref, rowKey h2 v = rowKey h2 u → v = u := fun v hv u hu e => by
    obtain ⟨j, b, e1, rfl, hj, he, hk1⟩ := at_ v hv
    obtain ⟨j2, b2, e2, rfl, hj2, he2, hk2⟩ := at_ u hu
    have ek : e1.1 = e2.1 := hk1.symm.trans (e.trans hk2)
    have m1 : (ks.map (·.1))[j]? = some e1.1 := by rw [List.getElem?_map, he]; rfl
    have m2 : (ks.map (·.1))[j2]? = some e1.1 := by rw [List.getElem?_map, he2, ek]; rfl
    have ej : j = j2 := (List.getElem?_inj (List.getElem?_eq_some_iff.mp m1).1 ndk).mp (m1.trans m2.symm)
    subst ej
    rw [hj] at hj2
    rw [Option.some.inj hj2]
  refine wpAny_call_entry PyProof.Rows.slot_list_sort ⟨_, hob, rfl⟩ PyProof.Rows.entry_list_sort
    (SrtO.list_sort_ord (s := { s with heap := h2, toks := tk }) (swo_key (rowKey h2)) hob (by rw [List.length_map, sizeLine_eq]; omega) (fun hl2 => ir_sortable (s := { s with heap := h2, toks := tk }) (by omega) hp' inj fun o e => by
      have e' : some o = some (seqObj "list" (as.map Value.ref).toArray 0) := e.symm.trans hob
      cases e'
      intro c
      exact absurd (Value.type.inj c) (by decide)) fun out o1 o2 => ⟨.none, rfl, ?_⟩) (PyProof.Rows.args_list_sort _)
  show EP X pins σ Q (.ref h'.objs.size) { s with heap := sortedHeap h2 h'.objs.size (as.map Value.ref) out.toArray, toks := tk }
  have e0 : (as.zip ks).map (fun z : Addr × Int × Addr => Value.ref z.1) = as.map Value.ref := by
    have : (as.zip ks).map (fun z : Addr × Int × Addr => Value.ref z.1) = ((as.zip ks).map Prod.fst).map Value.ref := by rw [List.map_map]; rfl
    rw [this, List.map_fst_zip (by omega)]
  obtain ⟨zs, pz, ez⟩ := perm_lift (fun z : Addr × Int × Addr => Value.ref z.1) o2.perm (as.zip ks) e0
  have idx : ∀ z ∈ zs, ∃ j : Nat, as[j]? = some z.1 ∧ ks[j]? = some z.2 := by
    intro z' hz'
    obtain ⟨j, hj⟩ := List.mem_iff_getElem?.mp (pz.mem_iff.mp hz')
    exact ⟨j, List.getElem?_zip_eq_some.mp hj⟩
  have hperm : (zs.map (·.2)).Perm ks := by
    have e := pz.map (·.2)
    have m2 : (as.zip ks).map (·.2) = ks := List.map_snd_zip (by omega)
    rw [m2] at e
    exact e
  have hsort : (zs.map (·.2)).Pairwise (fun e f => e.1 < f.1) := by
    have le : ((zs.map (·.2)).map (·.1)).Pairwise (· ≤ ·) := by
      rw [List.map_map, List.pairwise_map]
      have o1 : (zs.map fun z : Addr × Int × Addr => Value.ref z.1).Pairwise fun x y => decide (rowKey h2 y < rowKey h2 x) = false := by rw [ez]; exact o1
      rw [List.pairwise_map] at o1
      refine List.Pairwise.imp_of_mem (fun {x y} hx hy h => ?_) o1
      obtain ⟨j, j1, j2⟩ := idx x hx
      obtain ⟨i, i1, i2⟩ := idx y hy
      rw [(pin j _ _ j1 j2).key, (pin i _ _ i1 i2).key] at h
      have := of_decide_eq_false h
      show x.2.1 ≤ y.2.1
      omega
    have ndz : ((zs.map (·.2)).map (·.1)).Nodup := (hperm.map (·.1)).nodup_iff.mpr ndk
    have := lt_of_le_nodup _ le ndz
    rw [List.pairwise_map] at this
    exact this
  -- behind the sort
  have kF : ∀ b o, b ≠ h'.objs.size → h2.get? b = some o → (sortedHeap h2 h'.objs.size (as.map Value.ref) out.toArray).get? b = some o := fun b o hb e => (PyProof.Rows.sortedHeap_old hb (Heap.lt_size e)).trans e
  have kS : ∀ b o, s.heap.get? b = some o → (sortedHeap h2 h'.objs.size (as.map Value.ref) out.toArray).get? b = some o := fun b o e => kF b o (ne0 _ _ (hk b o e)) (kb b o e)
  obtain ⟨eF, heF⟩ := PyProof.Rows.sortedHeap_at (vs := as.map Value.ref) (out := out.toArray) hob
  have I1 : Inv X pins σ H { s with heap := sortedHeap h2 h'.objs.size (as.map Value.ref) out.toArray, toks := tk } := I.kept (t' := tk) kS
  have hn0 : H h'.objs.size = none := I.hok.fresh (Nat.le_of_lt hlt)
  have hlen : (zs.map fun z => V.ref z.1).length ≤ sizeLine := by
    have e := hperm.length_eq
    rw [List.length_map] at e
    rw [List.length_map, sizeLine_eq]
    omega
  have rv : Vals (zs.map fun z => V.ref z.1) out := by
    rw [← ez]
    exact vals_maps (fun z : Addr × Int × Addr => V.ref z.1) (fun z => Value.ref z.1) zs fun _ _ => rfl
  have I2 : Inv X pins σ (upd H h'.objs.size (.lst (zs.map fun z => V.ref z.1))) { s with heap := sortedHeap h2 h'.objs.size (as.map Value.ref) out.toArray, toks := tk } :=
    I1.take (h' := sortedHeap h2 h'.objs.size (as.map Value.ref) out.toArray) (t' := tk) (fun b ob _ e => e) (I.fpOk (Nat.le_of_lt hlt) hn0) ⟨hlen, out, eF, rv, heF⟩
  obtain ⟨H2, I3, g, qt⟩ := takeT (P := fun b vs => ∃ (j : Nat) (e : Int × Addr), as[j]? = some b ∧ ks[j]? = some e ∧ vs = [V.int e.1, .ref e.2]) I as _ I2 nd fun b hb => by
    obtain ⟨j, hj⟩ := List.mem_iff_getElem?.mp hb
    obtain ⟨e, t, he, hg⟩ := pr j b hj
    have hbl : s.heap.objs.size ≤ b := Nat.le_of_lt (hG.above b hb)
    refine ⟨hbl, ?_, [V.int e.1, .ref e.2], ⟨j, e, hj, he, rfl⟩, fun H3 => ⟨(by rw [sizeLine_eq]; show 2 ≤ 16777216; omega), [Value.int e.1 t, Value.ref e.2], .cons ⟨t, rfl⟩ (.cons rfl .nil), ⟨_, kF _ _ (ne0 _ _ hg) (ka _ _ hg), rfl, 0, rfl⟩⟩⟩
    rw [upd_ne (ne0 _ _ hg)]
    exact I.hok.fresh hbl
  have gr : ∀ b o, H b = some o → H2 b = some o := fun b o e => g b o (by rw [upd_ne (ne_of_none e hn0)]; exact e)
  refine ⟨.ref h'.objs.size, H2, I3, rfl, q H2 h'.objs.size zs gr hperm hsort hn0 (g _ _ upd_same) fun z' hz' => ?_⟩
  obtain ⟨i, i1, i2⟩ := idx z' hz'
  obtain ⟨vs, ⟨j, e, j1, j2, ev⟩, hH⟩ := qt z'.1 (List.mem_of_getElem? i1)
  have eij : i = j := (List.getElem?_inj (List.getElem?_eq_some_iff.mp i1).1 nd).mp (i1.trans j1.symm)
  subst eij
  have ee : e = z'.2 := Option.some.inj (j2.symm.trans i2)
  rw [ev, ee] at hH
  obtain ⟨_, _, _, hg⟩ := pr i z'.1 i1
  exact ⟨I.hok.fresh (Nat.le_of_lt (hG.above _ (List.mem_of_getElem? i1))), ne0 _ _ hg, hH⟩
end
end Y

/-! K51M: the disk as a plain record. -/
namespace K51
open Y
abbrev Sec := List Int
def blank : Sec := List.replicate 16 0
structure DS where
  sec : List (Int × Sec)
  wai : List (Int × Sec)
  left : Option Int
  rows : List (Int × Int)
  cut : Bool
def DS.whole (d : DS) (n : Int) : Sec := (look d.sec n).getD blank
def ofN (wai : List (Int × Sec)) (n : Int) : List Sec := (wai.filter fun p => decide (p.1 = n)).map (·.2)
def clip (z : Int) : Nat := (min 16 (max 0 z)).toNat
/-- one sector behind a crash -/
def torn (wai : List (Int × Sec)) (sec : List (Int × Sec)) (r : (Int × Int) × Int) : List (Int × Sec) :=
  if 0 ≤ r.1.1 ∧ r.1.1 < ((ofN wai r.2).length : Int) then put sec r.2 (((ofN wai r.2).getD r.1.1.toNat []).take (clip r.1.2) ++ ((look sec r.2).getD blank).drop (clip r.1.2)) else sec
def crashed (sec wai : List (Int × Sec)) (rows : List (Int × Int)) : List (Int × Sec) := (rows.zip (nums (wai.map (·.1)))).foldl (torn wai) sec
def DS.crash (d : DS) (rows : List (Int × Int)) : DS := { d with sec := crashed d.sec d.wai rows, wai := [] }
def DS.counts (d : DS) : DS := match d.left with
  | none => d
  | some l => if d.cut = true then d else if l - 1 ≤ 0 then { (({ d with left := some (l - 1) } : DS).crash d.rows) with cut := true } else { d with left := some (l - 1) }
def DS.write (d : DS) (n : Int) (x : Sec) : DS := let e := d.counts; if e.cut = true then e else { e with wai := e.wai ++ [(n, x)] }
def synS (sec wai : List (Int × Sec)) : List (Int × Sec) := wai.foldl (fun s p => put s p.1 p.2) sec
def DS.sync (d : DS) : DS := let e := d.counts; if e.cut = true then e else { e with sec := synS e.sec e.wai, wai := [] }
def lastOf (wai : List (Int × Sec)) (n : Int) (x : Sec) : Sec := wai.foldl (fun f p => if p.1 = n then p.2 else f) x
def DS.read (d : DS) (n : Int) : Sec := lastOf d.wai n (d.whole n)
/-- the sectors that are told, by ascending numbers -/
def told (sec : List (Int × Sec)) : List (Int × Sec) := ((nums (sec.map (·.1))).map fun n => (n, (look sec n).getD blank)).filter fun p => decide (p.2 ≠ blank)
def ofRows (xs : List (Int × Sec)) : List (Int × Sec) := xs.foldl (fun s p => put s p.1 p.2) []

/-! ### the told sectors make the same ones -/
theorem told_nodup (sec : List (Int × Sec)) : (told sec).Pairwise (fun a b => a.1 < b.1) := by
  unfold told
  refine List.Pairwise.filter _ ?_
  rw [List.pairwise_map]
  exact asc_nums _
theorem ofRows_asc : ∀ (xs : List (Int × Sec)) (acc : List (Int × Sec)), (acc ++ xs).Pairwise (fun a b => a.1 < b.1) → xs.foldl (fun s p => put s p.1 p.2) acc = acc ++ xs
  | [], acc, _ => by simp
  | x :: xs, acc, h => by
    rw [List.foldl_cons]
    have hn : (acc.any fun p => decide (p.1 = x.1)) = false := by
      rw [List.any_eq_false]
      intro p hp
      have ⟨_, _, h3⟩ := List.pairwise_append.mp h
      have := h3 p hp x List.mem_cons_self
      simp
      omega
    have e : put acc x.1 x.2 = acc ++ [x] := by
      unfold put
      rw [hn]
      rfl
    rw [e, ofRows_asc xs (acc ++ [x]) (by simpa using h)]
    simp
theorem nums_asc : ∀ {xs : List Int}, xs.Pairwise (· < ·) → nums xs = xs := fun {xs} h => asc_same (asc_nums xs) h fun k => mem_nums k xs
theorem told_told (sec : List (Int × Sec)) : told (ofRows (told sec)) = told sec := by
  have h := told_nodup sec
  have e : ofRows (told sec) = told sec := by
    have := ofRows_asc (told sec) [] (by simpa using h)
    simpa [ofRows] using this
  rw [e]
  have nd : ((told sec).map (·.1)).Nodup := by
    rw [List.nodup_iff_pairwise_ne, List.pairwise_map]
    exact h.imp fun q => by omega
  show ((nums ((told sec).map (·.1))).map fun n => (n, (look (told sec) n).getD blank)).filter _ = _
  rw [nums_asc (by rw [List.pairwise_map]; exact h), List.map_map]
  have e2 : (told sec).map ((fun n => (n, (look (told sec) n).getD blank)) ∘ (·.1)) = told sec := by
    have : ∀ p ∈ told sec, ((fun n => (n, (look (told sec) n).getD blank)) ∘ (·.1)) p = p := fun p hp => by
      show (p.1, (look (told sec) p.1).getD blank) = p
      rw [look_of_mem nd hp]
      rfl
    rw [List.map_congr_left this]
    simp
  rw [e2]
  refine List.filter_eq_self.mpr fun p hp => ?_
  exact (List.mem_filter.mp hp).2
end K51

/-! K51D: the text by places; the class Disk. -/

namespace K51
open PySem PySem.Spec PyProof.Rows L2 Y
def top (i : Nat) : Stmt := PySem.Challenge.pw_stonestairs_k53_faults_of_pages.main.body.getD i (.Pass ⟨0, 0, 0, 0⟩)
abbrev rSec : Rp (Int × Sec) := rP rI (rL rI)
theorem mSec : Mn (rL rI) := mI.l
theorem mRow : Mn rSec := mI.p mI.l
def lv : Option Int → V
  | none => .non
  | some l => .int l
/-- the attributes -/
def df (s wl : Addr) (l : V) (rl : Addr) (c : Bool) : List (Str × V) := [("sectors", .ref s), ("waiting", .ref wl), ("left", l), ("rows", .ref rl), ("is_cut", .bl c)]
section
variable {s wl rl : Addr} {l : V} {c : Bool}
theorem df_sectors : (df s wl l rl c).lookup ("sectors" : Str) = some (.ref s) := lk_hit
theorem df_waiting : (df s wl l rl c).lookup ("waiting" : Str) = some (.ref wl) := (lk_miss (by decide +kernel)).trans lk_hit
theorem df_left : (df s wl l rl c).lookup ("left" : Str) = some l := (lk_miss (by decide +kernel)).trans ((lk_miss (by decide +kernel)).trans lk_hit)
theorem df_rows : (df s wl l rl c).lookup ("rows" : Str) = some (.ref rl) := (lk_miss (by decide +kernel)).trans ((lk_miss (by decide +kernel)).trans ((lk_miss (by decide +kernel)).trans lk_hit))
theorem df_cut : (df s wl l rl c).lookup ("is_cut" : Str) = some (.bl c) := (lk_miss (by decide +kernel)).trans ((lk_miss (by decide +kernel)).trans ((lk_miss (by decide +kernel)).trans ((lk_miss (by decide +kernel)).trans lk_hit)))
theorem df_no {m : Str} (h1 : (m == ("sectors" : Str)) = false) (h2 : (m == ("waiting" : Str)) = false) (h3 : (m == ("left" : Str)) = false) (h4 : (m == ("rows" : Str)) = false) (h5 : (m == ("is_cut" : Str)) = false) : (df s wl l rl c).lookup m = none :=
  (lk_miss h1).trans ((lk_miss h2).trans ((lk_miss h3).trans ((lk_miss h4).trans ((lk_miss h5).trans rfl))))
theorem df_pw (w' : Addr) : putF "waiting" (.ref w') (df s wl l rl c) = df s w' l rl c := (pf_miss (by decide +kernel)).trans (congrArg _ pf_hit)
theorem df_pl (l' : V) : putF "left" l' (df s wl l rl c) = df s wl l' rl c := (pf_miss (by decide +kernel)).trans (congrArg _ ((pf_miss (by decide +kernel)).trans (congrArg _ pf_hit)))
theorem df_pr (r' : Addr) : putF "rows" (.ref r') (df s wl l rl c) = df s wl l r' c := (pf_miss (by decide +kernel)).trans (congrArg _ ((pf_miss (by decide +kernel)).trans (congrArg _ ((pf_miss (by decide +kernel)).trans (congrArg _ pf_hit)))))
theorem df_pc (c' : Bool) : putF "is_cut" (.bl c') (df s wl l rl c) = df s wl l rl c' := (pf_miss (by decide +kernel)).trans (congrArg _ ((pf_miss (by decide +kernel)).trans (congrArg _ ((pf_miss (by decide +kernel)).trans (congrArg _ ((pf_miss (by decide +kernel)).trans (congrArg _ pf_hit)))))))
end
/-- a Disk stands at p: its dict at s, its list at wl are its own; all else is data -/
structure DiskAt (C : Addr) (G H : Hp) (p s wl : Addr) (d : DS) : Prop where
  ob : ∃ dx rl, H p = some (.ins C dx (df s wl (lv d.left) rl d.cut)) ∧ rL (rP rI rI) G (.ref rl) d.rows
  sec : ∃ kvs, H s = some (.dK kvs) ∧ DRel (rL rI) G kvs d.sec
  wai : ∃ ws, H wl = some (.lst ws) ∧ Paired (rSec G) ws d.wai
  gp : G p = none
  gs : G s = none
  gw : G wl = none
structure Fit (d : DS) : Prop where
  nd : (d.sec.map (·.1)).Nodup
  sz : d.sec.length + d.wai.length ≤ 60000
  rz : d.rows.length ≤ 60000
  ls : ∀ x ∈ d.sec, x.2.length = 16
  lw : ∀ x ∈ d.wai, x.2.length = 16
  wz : d.wai.length ≤ 60
def DOwn (p s wl : Addr) : Addr → Prop := fun b => b = p ∨ b = s ∨ b = wl
section
variable {C : Addr} {G H G' H' : Hp} {p s wl : Addr} {d : DS}
theorem DiskAt.ps (h : DiskAt C G H p s wl d) : p ≠ s := by
  obtain ⟨dx, rl, h1, _⟩ := h.ob
  obtain ⟨kvs, h2, _⟩ := h.sec
  exact ne_of h1 h2 (fun e => nomatch e)
theorem DiskAt.pw (h : DiskAt C G H p s wl d) : p ≠ wl := by
  obtain ⟨dx, rl, h1, _⟩ := h.ob
  obtain ⟨kvs, h2, _⟩ := h.wai
  exact ne_of h1 h2 (fun e => nomatch e)
theorem DiskAt.sw (h : DiskAt C G H p s wl d) : s ≠ wl := by
  obtain ⟨kvs, h1, _⟩ := h.sec
  obtain ⟨ws, h2, _⟩ := h.wai
  exact ne_of h1 h2 (fun e => nomatch e)
theorem DiskAt.stp {O : Addr → Prop} (h : DiskAt C G H p s wl d) (e : Stp O G H G' H') (n : ∀ b, DOwn p s wl b → ¬ O b) : DiskAt C G' H' p s wl d := by
  obtain ⟨dx, rl, h1, r1⟩ := h.ob
  obtain ⟨kvs, h2, r2⟩ := h.sec
  obtain ⟨ws, h3, r3⟩ := h.wai
  exact ⟨⟨dx, rl, e.kp _ _ h1 (n p (.inl rfl)), (mI.p mI).l _ _ _ _ e.gg r1⟩, ⟨kvs, e.kp _ _ h2 (n s (.inr (.inl rfl))), r2.mono mSec e.gg⟩, ⟨ws, e.kp _ _ h3 (n wl (.inr (.inr rfl))), mRow.ps e.gg r3⟩,
    e.nw p (ne_none h1) h.gp, e.nw s (ne_none h2) h.gs, e.nw wl (ne_none h3) h.gw⟩
end

/-- the text's facts -/
structure Txt (K : PySem.W.Frag) (mg : Str → Option Value) (C : Addr) (tS : Tok) : Prop where
  cl : Cls K C
  n1 : NoAttr K C "sectors"
  n2 : NoAttr K C "waiting"
  n3 : NoAttr K C "left"
  n4 : NoAttr K C "rows"
  n5 : NoAttr K C "is_cut"
  c_SECTOR : mg "SECTOR" = some (.int 16 tS)
  b_list : mg "list" = none
  b_len : mg "len" = none
  b_min : mg "min" = none
  b_max : mg "max" = none
  b_sorted : mg "sorted" = none
  b_set : mg "set" = none
  b_zip : mg "zip" = none
  b_range : mg "range" = none
  b_abs : mg "abs" = none
  b_int : mg "int" = none
  b_dict : mg "dict" = none

/-! ### promises -/
def spWhole (C : Addr) : Sp := fun vs H Q _ => ∃ (G : Hp) (p s wl : Addr) (d : DS) (n : Int), vs = [.ref p, .int n] ∧ Same G H ∧ DiskAt C G H p s wl d ∧
  ∀ q G' H', Stp O0 G H G' H' → H q = none → G' q = none → H' q = some (rowI (d.whole n)) → Q (.ref q) H'
def spRead (C : Addr) : Sp := fun vs H Q _ => ∃ (G : Hp) (p s wl : Addr) (d : DS) (n : Int), vs = [.ref p, .int n] ∧ Same G H ∧ DiskAt C G H p s wl d ∧
  ∀ q G' H', Stp O0 G H G' H' → H q = none → G' q = none → H' q = some (rowI (d.read n)) → Q (.ref q) H'
section
variable {P : Program} {w : World} {K : PySem.W.Frag} {mg : Str → Option Value} {base : Heap} {C : Addr} {tS : Tok}
abbrev s_Disk_whole : Stmt := inClass (top 3) 1
theorem sc_Disk_whole : FnScope ["self", "number"] ["self", "number"] (defScope s_Disk_whole) := ⟨rfl, rfl, rfl, by decide +kernel, rfl, by decide +kernel, by decide +kernel⟩
theorem ok_whole {f : Addr} {fd : FuncData} (F : Fun K "whole" "Disk.whole" s_Disk_whole f fd) (T : Txt K mg C tS) : FnOk P w K mg base CX0 1 f fd ["self", "number"] (spWhole C) := by
  refine F.ok sc_Disk_whole (fun vs H Q E h => ?_) (fun cdv A outer st H vs Q E hr h => ?_)
  · obtain ⟨G, p, s, wl, d, n, rfl, _⟩ := h
    rfl
  · obtain ⟨G, p, s, wl, d, n, rfl, gh, D, k⟩ := h
    have nd := sc_Disk_whole.nd
    have hu := hu_of hr
    refine ⟨_, (pss_one (ps_ret (pe_callTy call_list_of (by rfl) T.b_list (by decide +kernel) (pa_cons (pe_dget2 hu (pe_fld (pv 0) rfl) (pv 1) (pe_op op_rep (pe_lst (pa_cons pe_int pa_nil)) (pe_glob (v := .int 16) rfl T.c_SECTOR ⟨_, rfl⟩)) ⟨rfl, rfl, rfl, rfl⟩) pa_nil)))), ?_⟩
    obtain ⟨dx, rl, h1, r1⟩ := D.ob
    obtain ⟨kvs, h2, r2⟩ := D.sec
    refine ⟨_, rfl, p, C, dx, _, _, rfl, h1, T.cl, T.n1, df_sectors, s, rfl, .inl ⟨kvs, .inl h2⟩, _, rfl, (by show 1 ≤ sizeLine; decide), fun q0 n0 => ?_⟩
    refine ⟨q0, 16, _, rfl, rfl, upd_same, by decide, by decide, (by show 1 * 16 ≤ sizeLine; decide), fun q1 n1 => ?_⟩
    generalize e0 : upd H q0 _ = H1 at n1 ⊢
    obtain ⟨s1, _, _, _, _⟩ := own_of (Stp.refl (O := O0) gh) n0 e0
    generalize e1 : upd H1 q1 _ = H2
    obtain ⟨s2, f2, _, _, _⟩ := own_of s1 n1 e1
    have h2' := s2.kp s _ h2 (fun z => z)
    cases e : look d.sec n with
    | none =>
      refine ⟨none, ?_, q1, _, rfl, .inl (SqL.of f2), fun l nl => ?_⟩
      · have := DGet.k (k := Sum.inl n) h2'
        rw [r2.look_none e] at this
        exact this
      · refine k l G _ (s2.own nl) (s2.fr nl) (gn_of s2.gh nl) ?_
        unfold DS.whole
        rw [e]
        exact upd_same
    | some x =>
      obtain ⟨v, hv, hx⟩ := r2.look_some e
      obtain ⟨a, rfl, ha⟩ := rLI hx
      refine ⟨some (.ref a), ?_, a, _, rfl, .inl (SqL.of (s2.kp a _ (gh _ _ ha) fun z => z)), fun l nl => ?_⟩
      · have := DGet.k (k := Sum.inl n) h2'
        rw [hv] at this
        exact this
      · refine k l G _ (s2.own nl) (s2.fr nl) (gn_of s2.gh nl) ?_
        unfold DS.whole
        rw [e]
        exact upd_same
end
end K51

/-! K51E: read, cut_in, crash. -/
namespace K51
open PySem PySem.Spec PyProof.Rows L2 Y
theorem lastOf_more {wai : List (Int × Sec)} {i : Nat} {x : Int × Sec} (h : wai[i]? = some x) (n : Int) (z : Sec) : lastOf (wai.take (i + 1)) n z = if x.1 = n then x.2 else lastOf (wai.take i) n z := by
  unfold lastOf
  rw [List.take_add_one, h, List.foldl_append]
  rfl
section
variable {P : Program} {w : World} {K : PySem.W.Frag} {mg : Str → Option Value} {base : Heap} {C : Addr} {tS : Tok}
abbrev s_Disk_read : Stmt := inClass (top 3) 2
theorem sc_Disk_read : FnScope ["self", "number", "found", "at", "content"] ["self", "number"] (defScope s_Disk_read) := ⟨rfl, rfl, rfl, by decide +kernel, rfl, by decide +kernel, by decide +kernel⟩
theorem ok_read {f : Addr} {fd : FuncData} (F : Fun K "read" "Disk.read" s_Disk_read f fd) (T : Txt K mg C tS) (LW : MtC P w K mg base C "whole" 1 ["self", "number"] (spWhole C)) : FnOk P w K mg base CX0 2 f fd ["self", "number"] (spRead C) := by
  refine F.ok sc_Disk_read (fun vs H Q E h => ?_) (fun cdv A outer st H vs Q E hr h => ?_)
  · obtain ⟨G, p, s, wl, d, n, rfl, _⟩ := h
    rfl
  · obtain ⟨G, p, s, wl, d, n, rfl, gh, D, k⟩ := h
    have nd := sc_Disk_read.nd
    refine ⟨_, (pss_cons (ps_set (i := 2) nd rfl (Or.inl rfl) (pe_mtc (pv 0) LW (hr.mono (by decide)) (pa_cons (pv 1) pa_nil)))
    (pss_cons (ps_for PassesOwn.never rfl (pi_list (pe_fld (pv 0) rfl)) (pg_tup rfl (pgs_cons (pg_name (i := 3) nd rfl (Or.inl rfl)) (pgs_cons (pg_name (i := 4) nd rfl (Or.inl rfl)) pgs_nil)))
    (pss_one (ps_if (pt_cmpR op_eq (pv 3) (pv 1) (nomark _))
    (pss_one (ps_set (i := 2) nd rfl (Or.inl rfl) (pe_callTy call_list_of (by rfl) T.b_list (by decide +kernel) (pa_cons (pv 4) pa_nil))))
    pss_nil)))
    (pss_one (ps_ret (pv 2))))), ?_⟩
    obtain ⟨dx, rl, h1, _⟩ := id D.ob
    obtain ⟨ws, h3, r3⟩ := id D.wai
    refine ⟨_, rfl, p, dx, _, rfl, h1, df_no (by decide +kernel) (by decide +kernel) (by decide +kernel) (by decide +kernel) (by decide +kernel), _, rfl, G, p, s, wl, d, n, rfl, gh, D, fun a G1 H1 s1 na ga fa => ?_⟩
    have h1' := s1.kp p _ h1 fun z => z
    have h3' := s1.kp wl _ h3 fun z => z
    refine ⟨_, rfl, p, C, dx, _, _, rfl, h1', T.cl, T.n2, df_waiting, wl, rfl, ⟨_, SqL.of h3'⟩, for_list (K := K) (a := wl) (xs := ws)
      (fun i σ H2 => ∃ a v3 v4 G2, σ = [some (.ref p), some (.int n), some (.ref a), v3, v4] ∧ Stp O0 G H G2 H2 ∧ H a = none ∧ G2 a = none ∧ H2 a = some (rowI (lastOf (d.wai.take i) n (d.whole n))))
      ⟨a, _, _, G1, rfl, s1, na, ga, fa⟩ (fun i σ H2 _ ⟨_, _, _, _, _, s2, _⟩ => SqL.of (s2.kp wl _ h3 fun z => z)) ?_ ?_⟩
    · rintro i y σ H2 hi ⟨a, v3, v4, G2, rfl, s2, na, ga, fa⟩
      obtain ⟨x, hx, t, u, c0, rfl, ht, hu, hc⟩ := pd_get r3 hi
      cases hu
      obtain ⟨c, rfl, hcc⟩ := rLI hc
      have hh := fun b o (e : G b = some o) => s2.kp b o (gh b o e) fun z => z
      refine g_pair (hh _ _ ht) ⟨_, rfl, _, rfl, rfl, _, rfl, if_int (fun e => ?_) (fun e => ?_)⟩
      · refine ⟨_, rfl, c, _, rfl, .inl (SqL.of (hh _ _ hcc)), fun l nl => ?_⟩
        generalize e0 : upd H2 l _ = H3
        obtain ⟨s3, f3, _, g3, z3⟩ := own_of s2 nl e0
        refine ⟨l, _, _, G2, rfl, s3, z3, g3, ?_⟩
        rw [lastOf_more hx, if_pos e]
        exact f3
      · refine ⟨a, _, _, G2, rfl, s2, na, ga, ?_⟩
        rw [lastOf_more hx, if_neg e]
        exact fa
    · rintro σ H2 ⟨a, v3, v4, G2, rfl, s2, na, ga, fa⟩
      rw [pd_len r3, List.take_of_length_le (Nat.le_refl _)] at fa
      exact ⟨_, rfl, k a G2 H2 s2 na ga fa⟩
def DS.cutIn (d : DS) (m : Int) (rows : List (Int × Int)) : DS := if d.cut = true then d else { d with left := some m, rows := rows }
end
end K51

/-! K51F: crash. -/
namespace K51
open PySem PySem.Spec PyProof.Rows L2 Y
theorem clip_eq (z : Int) : (if (if z > 0 then z else 0) < 16 then (if z > 0 then z else 0) else 16) = ((clip z : Nat) : Int) := by
  unfold clip
  simp only [Int.min_def, Int.max_def]
  by_cases h : z > 0
  · rw [if_pos h]
    by_cases h2 : z < 16
    · rw [if_pos h2, if_pos (by omega : (0 : Int) ≤ z), if_neg (by omega)]
      omega
    · rw [if_neg h2, if_pos (by omega : (0 : Int) ≤ z)]
      split <;> omega
  · rw [if_neg h, if_pos (by omega)]
    split <;> split <;> omega
theorem ofN_more {wai : List (Int × Sec)} {i : Nat} {x : Int × Sec} (h : wai[i]? = some x) (n : Int) : ofN (wai.take (i + 1)) n = if x.1 = n then ofN (wai.take i) n ++ [x.2] else ofN (wai.take i) n := by
  unfold ofN
  rw [List.take_add_one, h, List.filter_append, List.map_append]
  by_cases e : x.1 = n
  · rw [if_pos e]
    simp [e]
  · rw [if_neg e]
    simp [e]
theorem torn_nd {wai sec : List (Int × Sec)} {r : (Int × Int) × Int} (h : (sec.map (·.1)).Nodup) : ((torn wai sec r).map (·.1)).Nodup := by
  unfold torn
  split
  · exact put_nodup _ _ _ h
  · exact h
theorem torn_len (wai sec : List (Int × Sec)) (r : (Int × Int) × Int) : (torn wai sec r).length ≤ sec.length + 1 := by
  unfold torn
  split
  · exact put_len _ _ _
  · omega
theorem clip_le (z : Int) : clip z ≤ 16 := by
  unfold clip
  simp only [Int.min_def, Int.max_def]
  split <;> split <;> omega
theorem ofN_len {wai : List (Int × Sec)} (h : ∀ x ∈ wai, x.2.length = 16) {n : Int} : ∀ y ∈ ofN wai n, y.length = 16 := fun y hy => by
  obtain ⟨x, hx, e⟩ := List.mem_map.mp hy
  rw [← e]
  exact h x (List.mem_filter.mp hx).1
theorem whole_len {d : DS} (h : ∀ x ∈ d.sec, x.2.length = 16) (n : Int) : (d.whole n).length = 16 := by
  unfold DS.whole
  cases e : look d.sec n with
  | none => rfl
  | some x => exact h _ (look_some_mem e)
def spCrash (C : Addr) : Sp := fun vs H Q _ => ∃ (G : Hp) (p s wl : Addr) (d : DS) (a : Addr) (rows : List (Int × Int)), vs = [.ref p, .ref a] ∧ Same G H ∧ DiskAt C G H p s wl d ∧ Fit d ∧ LstAt (rP rI rI) G H a rows ∧ a ≠ wl ∧
  ∀ w' G' H', Stp (DOwn p s wl) G H G' H' → DiskAt C G' H' p s w' (d.crash rows) → H w' = none → Q .non H'
section
variable {P : Program} {w : World} {K : PySem.W.Frag} {mg : Str → Option Value} {base : Heap} {C : Addr} {tS : Tok}
abbrev s_Disk_crash : Stmt := inClass (top 3) 7
theorem sc_Disk_crash : FnScope ["self", "rows", "numbers", "number", "content", "writes", "which", "size", "at"] ["self", "rows"] (defScope s_Disk_crash) := ⟨rfl, rfl, rfl, by decide +kernel, rfl, by decide +kernel, by decide +kernel⟩
/-- what stands behind i rows of a crash -/
structure CInv (C : Addr) (G H : Hp) (p s wl : Addr) (d : DS) (a N1 dx rl : Addr) (ws rvs : List V) (rows : List (Int × Int)) (ns : List Int) (i : Nat) (H5 : Hp) : Prop where
  ex : ∃ G5 kvs5, Stp (DOwn p s wl) G H G5 H5 ∧ H5 s = some (.dK kvs5) ∧ DRel (rL rI) G5 kvs5 (((rows.zip ns).take i).foldl (torn d.wai) d.sec) ∧ G5 N1 = none
  ob : H5 p = some (.ins C dx (df s wl (lv d.left) rl d.cut))
  wa : H5 wl = some (.lst ws)
  ro : H5 a = some (.lst rvs)
  nu : H5 N1 = some (rowI ns)
  nd : ((((rows.zip ns).take i).foldl (torn d.wai) d.sec).map (·.1)).Nodup
  le : (((rows.zip ns).take i).foldl (torn d.wai) d.sec).length ≤ d.sec.length + i
  l6 : ∀ x ∈ ((rows.zip ns).take i).foldl (torn d.wai) d.sec, x.2.length = 16
theorem ok_crash {f : Addr} {fd : FuncData} (F : Fun K "crash" "Disk.crash" s_Disk_crash f fd) (T : Txt K mg C tS) (L_Disk_whole : MtC P w K mg base C "whole" 1 ["self", "number"] (spWhole C)) : FnOk P w K mg base CX0 2 f fd ["self", "rows"] (spCrash C) := by
  refine F.ok sc_Disk_crash (fun vs H Q E h => ?_) (fun cdv A outer st H vs Q E hr h => ?_)
  · obtain ⟨G, p, s, wl, d, a, rows, rfl, _⟩ := h
    rfl
  · obtain ⟨G, p, s, wl, d, a, rows, rfl, gh, D, fit, hrows, aw, k⟩ := h
    have nd := sc_Disk_crash.nd
    have hu := hu_of hr
    refine ⟨_, (pss_cons (ps_set (i := 2) nd rfl (Or.inl rfl) (pe_callB (cr_sortedSetK (w := w) rfl rfl) (by rfl) T.b_sorted (by decide +kernel) (pa_cons (pe_callTy (cr_setIK (K := K) (w := w) rfl rfl rfl) (by rfl) T.b_set (by decide +kernel) (pa_cons (pe_lc (own := [("number", 3), ("content", 4)]) rfl nd (pi_listK (K := K) rfl (pe_fldK (K := K) rfl (pv 0) rfl)) (blkOk_by (own := [("number", 3), ("content", 4)]) (N := ["self", "rows", "numbers", "number", "content", "writes", "which", "size", "at"]) (sc := defScope s_Disk_crash) (by decide +kernel)) (fun _ _ _ _ _ => (pg_tupK (K := K) (n := 2) rfl rfl (pgs_cons (pg_name (i := 3) nd rfl (Or.inl rfl)) (pgs_cons (pg_name (i := 4) nd rfl (Or.inl rfl)) pgs_nil)))) (fun _ _ _ _ _ => pts_nil) (fun _ _ _ _ _ => (pv 3))) pa_nil)) pa_nil)))
    (pss_cons (ps_for PassesOwn.never rfl (pi_zip rfl T.b_zip (pa_cons (pv 1) (pa_cons (pv 2) pa_nil))) (pg_tupK (K := K) (n := 2) rfl rfl (pgs_cons (pg_tupK (K := K) (n := 2) rfl rfl (pgs_cons (pg_name (i := 6) nd rfl (Or.inl rfl)) (pgs_cons (pg_name (i := 7) nd rfl (Or.inl rfl)) pgs_nil))) (pgs_cons (pg_name (i := 3) nd rfl (Or.inr rfl)) pgs_nil)))
    (pss_cons (ps_setLc (i := 5) (own := [("at", 8), ("content", 4)]) rfl nd rfl rfl (sw_true rfl rfl rfl (by decide +kernel)) (pi_listK (K := K) rfl (pe_fldK (K := K) rfl (pv 0) rfl)) (blkOk_by (own := [("at", 8), ("content", 4)]) (N := ["self", "rows", "numbers", "number", "content", "writes", "which", "size", "at"]) (sc := defScope s_Disk_crash) (by decide +kernel)) (fun _ _ _ _ _ => (pg_tupK (K := K) (n := 2) rfl rfl (pgs_cons (pg_name (i := 8) nd rfl (Or.inl rfl)) (pgs_cons (pg_name (i := 4) nd rfl (Or.inl rfl)) pgs_nil)))) (fun _ _ _ _ _ => (pts_one (pt_cmpR op_eq (pv 8) (pv 3) (nomark _)))) (fun _ _ _ _ _ => (pv 4)))
    (pss_one (ps_if (pt_chain op_le op_lt pe_int (pv 6) (pe_callB (call_len_seqK (K := K) rfl) (by rfl) T.b_len (by decide +kernel) (pa_cons (pv 5) pa_nil)))
    (pss_cons (ps_set (i := 7) nd rfl (Or.inl rfl) (pe_callB (call_min2 rfl) (by rfl) T.b_min (by decide +kernel) (pa_cons (pe_glob (v := .int 16) rfl T.c_SECTOR ⟨_, rfl⟩) (pa_cons (pe_callB (call_max2 rfl) (by rfl) T.b_max (by decide +kernel) (pa_cons pe_int (pa_cons (pv 7) pa_nil))) pa_nil))))
    (pss_one (ps_dput hu (pe_fldK (K := K) rfl (pv 0) rfl) (pv 3) (pe_op op_cat (pe_slice (sl_listK (K := K) rfl) (pe_ix (ix_listK (K := K) rfl) (pv 5) (pv 6) (fun _ _ => rfl)) po_none (po_some (pv 7))) (pe_slice (sl_listK (K := K) rfl) (pe_mtc (pv 0) L_Disk_whole (hr.mono (by decide)) (pa_cons (pv 3) pa_nil)) (po_some (pv 7)) po_none)) rfl)))
    pss_nil))))
    (pss_one (ps_fldK (K := K) rfl (pv 0) (pe_lst pa_nil) rfl)))), ?_⟩
    obtain ⟨dx, rl, h1, r1⟩ := id D.ob
    obtain ⟨kvs, h2, r2⟩ := id D.sec
    obtain ⟨ws, h3, r3⟩ := id D.wai
    obtain ⟨rvs, h4, r4⟩ := hrows
    have hap : a ≠ p := (ne_of h1 h4 fun z => nomatch z).symm
    have has : a ≠ s := (ne_of h2 h4 fun z => nomatch z).symm
    have s0 : Stp (DOwn p s wl) G H G H := Stp.refl gh
    -- the numbers of what waits
    refine ⟨_, rfl, p, C, dx, _, _, rfl, h1, T.cl, T.n2, df_waiting, wl, rfl, ⟨_, SqL.of h3⟩, fun L1 nL1 => ?_⟩
    obtain ⟨s1, f1, k1, g1, z1⟩ := own_of (o := .lst []) s0 nL1 rfl
    refine lc_list (K := K) (a := wl) (xs := ws) (fun i H2 => Stp (DOwn p s wl) G H G H2 ∧ Same H H2 ∧ H2 L1 = some (.lst (((d.wai.take i).map (·.1)).map V.int))) ?_ (fun i H2 _ ⟨_, q, _⟩ => SqL.of (q _ _ h3)) ?_ ?_
    · exact ⟨s1, k1, f1⟩
    · rintro i y H2 hi ⟨s2, k2, f2⟩
      obtain ⟨x, hx, t, u, c0, rfl, ht, hu', hc⟩ := pd_get r3 hi
      cases hu'
      refine g_pair (k2 _ _ (gh _ _ ht)) ⟨rfl, g_yes ⟨_, rfl, _, f2, ?_, ?_⟩⟩
      · have := fit.sz; have := fit.wz
        rw [List.length_map, List.length_map, List.length_take, sizeLine_eq]
        omega
      · generalize e2 : upd H2 L1 _ = H3
        obtain ⟨s3, f3, k3⟩ := wr_of s2 f2 g1 (.inr z1) e2
        refine ⟨s3, fun b o q => ?_, ?_⟩
        · exact k3 b o (fresh_ne (ne_none q) z1) (k2 b o q)
        · rw [f3, List.take_add_one, hx]
          simp
    · rintro H2 ⟨s2, k2, f2⟩
      rw [pd_len r3, List.take_of_length_le (Nat.le_refl _)] at f2
      refine ⟨L1, _, rfl, SqL.of f2, ?_, fun S1 c nS1 hc => ?_⟩
      · have := fit.sz; have := fit.wz
        rw [List.length_map]
        omega
      generalize e3 : upd H2 S1 _ = H3
      obtain ⟨s3, f3, k3, g3, z3⟩ := own_of s2 nS1 e3
      refine ⟨S1, _, c, rfl, f3, ?_, fun ns N1 asc hmem hlen nN1 => ?_⟩
      · have := fit.sz; have := fit.wz
        rw [List.length_map] at hc
        omega
      have ens : ns = nums (d.wai.map (·.1)) := asc_same asc (asc_nums _) fun q => by
        rw [hmem q, mem_nums]
        exact decide_eq_true_iff
      generalize e4 : upd H3 N1 _ = H4
      obtain ⟨s4, f4, k4, g4, z4⟩ := own_of s3 nN1 e4
      have k04 : Same H H4 := (k2.trans k3).trans k4
      have nsl : ns.length ≤ d.wai.length := by rw [ens]; exact Nat.le_trans (le_nums_len _) (by rw [List.length_map]; exact Nat.le_refl _)
      -- row by row
      refine ⟨_, rfl, _, rfl, a, N1, _, _, rfl, SqL.of (k04 _ _ h4), SqL.of f4, for_zipM (K := K) (a := a) (b := N1) (xs := rvs) (ys := ns.map V.int)
        (fun i σ H5 => (∃ x3 x4 x5 x6 x7 x8, σ = [some (.ref p), some (.ref a), some (.ref N1), x3, x4, x5, x6, x7, x8]) ∧ CInv C G H p s wl d a N1 dx rl ws rvs rows ns i H5)
        ⟨⟨_, _, _, _, _, _, rfl⟩, ⟨G, kvs, s4, k04 _ _ h2, r2, g4⟩, k04 _ _ h1, k04 _ _ h3, k04 _ _ h4, f4, fit.nd, Nat.le_refl _, fit.ls⟩ (fun i σ H5 ⟨_, q⟩ => ⟨SqL.of q.ro, SqL.of q.nu⟩) ?_ ?_⟩
      · rintro i xv yv T0 σ H5 hxi hyi ⟨⟨x3, x4, x5, x6, x7, x8, rfl⟩, I5⟩ nT
        obtain ⟨⟨G5, kvs5, s5, p2, p7, p6⟩, p1, p3, p4, p5, p8, p9, p10⟩ := I5
        obtain ⟨⟨wh, sz⟩, hrow, t0, u0, v0, rfl, ht0, hu0, hv0⟩ := pd_get r4 hxi
        cases hu0
        cases hv0
        obtain ⟨n, hn, rfl⟩ : ∃ n, ns[i]? = some n ∧ yv = V.int n := by
          rw [List.getElem?_map] at hyi
          cases e : ns[i]? with
          | none => rw [e] at hyi; cases hyi
          | some z => rw [e] at hyi; exact ⟨z, rfl, (Option.some.inj hyi).symm⟩
        have hz : (rows.zip ns)[i]? = some ((wh, sz), n) := by
          rw [List.getElem?_zip_eq_some]
          exact ⟨hrow, hn⟩
        have hfold : ((rows.zip ns).take (i + 1)).foldl (torn d.wai) d.sec = torn d.wai (((rows.zip ns).take i).foldl (torn d.wai) d.sec) ((wh, sz), n) := by
          rw [List.take_add_one, hz, List.foldl_append]
          rfl
        have hil : i < ns.length := (List.getElem?_eq_some_iff.mp hn).1
        generalize hsec : ((rows.zip ns).take i).foldl (torn d.wai) d.sec = sec at p7 p8 p9 p10 hfold
        generalize e6 : upd H5 T0 _ = H6
        obtain ⟨s6, f6, k6, g6, z6⟩ := own_of s5 nT e6
        refine g_pair f6 (g_pair (k6 _ _ (s5.gh _ _ (s5.gg _ _ ht0))) ?_)
        refine ⟨_, rfl, p, C, dx, _, _, rfl, k6 _ _ p1, T.cl, T.n2, df_waiting, wl, rfl, ⟨_, SqL.of (k6 _ _ p3)⟩, fun Lw nLw => ?_⟩
        obtain ⟨s7, f7, k7, g7, z7⟩ := own_of (o := .lst []) s6 nLw rfl
        have k57 := k6.trans k7
        refine lc_list (K := K) (a := wl) (xs := ws) (fun j H8 => Stp (DOwn p s wl) G H G5 H8 ∧ Same H5 H8 ∧ ∃ acc, H8 Lw = some (.lst acc) ∧ Paired (rL rI G5) acc (ofN (d.wai.take j) n) ∧ acc.length ≤ j) ?_ (fun j H8 _ ⟨_, q, _⟩ => SqL.of (q _ _ p3)) ?_ ?_
        · exact ⟨s7, k57, [], f7, .nil, Nat.le_refl _⟩
        · rintro j y H8 hj ⟨s8, k8, acc, f8, r8, l8⟩
          obtain ⟨x, hx, t, u, c0, rfl, ht, hu', hc⟩ := pd_get r3 hj
          cases hu'
          have hjl : j < d.wai.length := (List.getElem?_eq_some_iff.mp hx).1
          refine g_pair (s8.gh _ _ (s5.gg _ _ ht)) ⟨rfl, _, rfl, _, rfl, rfl, _, rfl, if_int (fun e => ?_) (fun e => ?_)⟩
          · refine ⟨_, rfl, acc, f8, ?_, ?_⟩
            · have := fit.sz; have := fit.wz
              rw [sizeLine_eq]
              omega
            · generalize e9 : upd H8 Lw _ = H9
              obtain ⟨s9, f9, k9⟩ := wr_of s8 f8 g7 (.inr z7) e9
              refine ⟨s9, fun b o q => k9 b o (fresh_ne (ne_none (k6 _ _ q)) nLw) (k8 b o q), _, f9, ?_, by rw [List.length_append]; exact Nat.succ_le_succ l8⟩
              rw [ofN_more hx, if_pos e]
              exact pd_snoc r8 (mSec _ _ _ _ s5.gg hc)
          · refine ⟨s8, k8, acc, f8, ?_, Nat.le_succ_of_le l8⟩
            rw [ofN_more hx, if_neg e]
            exact r8
        · rintro H8 ⟨s8, k8, acc, f8, r8, l8⟩
          rw [pd_len r3, List.take_of_length_le (Nat.le_refl _)] at r8
          have el := pd_len r8
          have no_put : ¬ (0 ≤ wh ∧ wh < ((ofN d.wai n).length : Int)) → CInv C G H p s wl d a N1 dx rl ws rvs rows ns (i + 1) H8 := fun hno => by
            have ht : torn d.wai sec ((wh, sz), n) = sec := if_neg hno
            have e9 : ((rows.zip ns).take (i + 1)).foldl (torn d.wai) d.sec = sec := hfold.trans ht
            exact ⟨⟨G5, kvs5, s8, k8 _ _ p2, by rw [e9]; exact p7, p6⟩, k8 _ _ p1, k8 _ _ p3, k8 _ _ p4, k8 _ _ p5, by rw [e9]; exact p8, by rw [e9]; exact Nat.le_succ_of_le p9, by rw [e9]; exact p10⟩
          refine ⟨_, rfl, _, _, rfl, rfl, _, rfl, if_dec (fun b1 => ?_) (fun b1 => ⟨_, rfl, ⟨_, _, _, _, _, _, rfl⟩, no_put fun z => b1 z.1⟩)⟩
          refine ⟨_, rfl, Lw, _, rfl, .inl (SqL.of f8), _, _, rfl, rfl, _, rfl, if_dec (fun b2 => ?_) (fun b2 => ⟨⟨_, _, _, _, _, _, rfl⟩, no_put fun z => b2 (by rw [el]; exact z.2)⟩)⟩
          rw [el] at b2
          -- the size, and the sector
          refine ⟨_, rfl, _, _, rfl, _, _, rfl, ?_⟩
          rw [clip_eq]
          obtain ⟨j, ej⟩ : ∃ j : Nat, wh = (j : Int) := ⟨wh.toNat, by omega⟩
          have hjl : j < (ofN d.wai n).length := by omega
          have hj16 : (ofN d.wai n)[j].length = 16 := ofN_len fit.lw _ (List.getElem_mem hjl)
          have hw16 : (({ d with sec := sec } : DS).whole n).length = 16 := whole_len (d := { d with sec := sec }) p10 n
          obtain ⟨vj, hvj, rvj⟩ := pd_get' r8 (List.getElem?_eq_getElem hjl)
          obtain ⟨cj, rfl, hcj⟩ := rLI rvj
          refine ⟨_, rfl, _, rfl, Lw, _, _, _, rfl, rfl, SqL.of f8, at_of (j := j) ej hvj, _, rfl, _, rfl, cj, _, rfl, SqL.of (s8.gh _ _ hcj), fun A1 nA1 => ?_⟩
          rw [cut_to]
          generalize e9 : upd H8 A1 _ = H9
          obtain ⟨s9, f9, k9, g9, z9⟩ := own_of s8 nA1 e9
          have D9 : DiskAt C G5 H9 p s wl { d with sec := sec } := ⟨⟨dx, rl, k9 _ _ (k8 _ _ p1), (mI.p mI).l _ _ _ _ s5.gg r1⟩, ⟨kvs5, k9 _ _ (k8 _ _ p2), p7⟩, ⟨ws, k9 _ _ (k8 _ _ p3), mRow.ps s5.gg r3⟩,
            s9.nw p (ne_none h1) D.gp, s9.nw s (ne_none h2) D.gs, s9.nw wl (ne_none h3) D.gw⟩
          refine ⟨_, rfl, p, dx, _, rfl, k9 _ _ (k8 _ _ p1), df_no (by decide +kernel) (by decide +kernel) (by decide +kernel) (by decide +kernel) (by decide +kernel), _, rfl, G5, p, s, wl, { d with sec := sec }, n, rfl, s9.gh, D9, fun B1 G10 H10 s10 nB1 gB1 fB1 => ?_⟩
          have s10' : Stp (DOwn p s wl) G H G10 H10 := s9.trans s10 fun _ z => z.elim
          refine ⟨_, rfl, _, rfl, B1, _, rfl, SqL.of fB1, fun A2 nA2 => ?_⟩
          rw [cut_from]
          generalize e11 : upd H10 A2 _ = H11
          obtain ⟨s11, f11, k11, g11, z11⟩ := own_of s10' nA2 e11
          have fA1 : H11 A1 = some _ := k11 _ _ (s10.kp _ _ f9 fun z => z)
          refine ⟨A1, A2, _, _, rfl, rfl, fA1, f11, ?_, fun A3 nA3 => ?_⟩
          · have q1 := hj16
            have q2 := hw16
            rw [List.length_take, List.length_drop, List.length_map, List.length_map, sizeLine_eq]
            omega
          generalize e12 : upd H11 A3 _ = H12
          obtain ⟨G12, s12, f12, gg12, k12, gk12⟩ := data_of s11 nA3 e12
          have keep' : Same H5 H11 := fun b o q => k11 _ _ (s10.kp _ _ (k9 _ _ (k8 _ _ q)) fun z => z)
          have keep : Same H5 H12 := fun b o q => k12 _ _ (k11 _ _ (s10.kp _ _ (k9 _ _ (k8 _ _ q)) fun z => z))
          refine ⟨_, rfl, p, C, dx, _, _, rfl, keep _ _ p1, T.cl, T.n1, df_sectors, _, rfl, s, _, rfl, DPut.k (k := Sum.inl n) (keep _ _ p2) ?_, ?_⟩
          · have := fit.sz; have := fit.wz
            have := pd_len p7
            rw [sizeLine_eq]
            omega
          · generalize e13 : upd H12 s _ = H13
            have A3s : A3 ≠ s := (ne_of_none (keep' _ _ p2) nA3).symm
            have N1A : N1 ≠ A3 := ne_of_none (keep' _ _ p5) nA3
            have gs12 : G12 s = none := by rw [gk12 s A3s.symm]; exact s11.nw s (ne_none h2) D.gs
            obtain ⟨s13, f13, k13⟩ := wr_of s12 (keep _ _ p2) gs12 (.inl (.inr (.inl rfl))) e13
            have ht : torn d.wai sec ((wh, sz), n) = put sec n ((ofN d.wai n)[j].take (clip sz) ++ (({ d with sec := sec } : DS).whole n).drop (clip sz)) := by
              unfold torn
              rw [if_pos ⟨b1, b2⟩]
              show put sec n (((ofN d.wai n).getD wh.toNat []).take (clip sz) ++ _) = _
              rw [ej, Int.toNat_natCast, List.getD_eq_getElem?_getD, List.getElem?_eq_getElem hjl]
              rfl
            have hl16 : ((ofN d.wai n)[j].take (clip sz) ++ (({ d with sec := sec } : DS).whole n).drop (clip sz)).length = 16 := by
              have q3 := clip_le sz
              rw [List.length_append, List.length_take, List.length_drop, hj16, hw16]
              omega
            have hval : rL rI G12 (.ref A3) ((ofN d.wai n)[j].take (clip sz) ++ (({ d with sec := sec } : DS).whole n).drop (clip sz)) := by
              refine rLI_of ?_
              rw [f12, List.map_append, List.map_take, List.map_drop]
            have hp := (p7.mono mSec (s10.gg.trans gg12)).put (k := n) hval
            refine ⟨⟨_, _, _, _, _, _, rfl⟩, ⟨G12, _, s13, f13, ?_, ?_⟩, k13 _ _ D.ps (keep _ _ p1), k13 _ _ D.sw.symm (keep _ _ p3), k13 _ _ has (keep _ _ p4), k13 _ _ (ne_of p5 p2 fun z => nomatch z) (keep _ _ p5), ?_, ?_, ?_⟩
            · rw [hfold, ht]
              exact hp
            · rw [gk12 N1 N1A]
              exact s10.nw N1 (ne_none (k9 _ _ (k8 _ _ p5))) p6
            · rw [hfold, ht]
              exact put_nodup _ _ _ p8
            · rw [hfold, ht]
              exact Nat.le_trans (put_len _ _ _) (Nat.succ_le_succ p9)
            · rw [hfold, ht]
              intro x hx
              rcases put_mem hx with e | e
              · rw [e]
                exact hl16
              · exact p10 x e
      · rintro σ H5 ⟨⟨x3, x4, x5, x6, x7, x8, rfl⟩, I5⟩
        obtain ⟨⟨G5, kvs5, s5, p2, p7, p6⟩, p1, p3, p4, p5, p8, p9, p10⟩ := I5
        have hn1 : rvs.length = rows.length := pd_len r4
        rw [hn1, List.length_map, List.take_of_length_le (by rw [List.length_zip]; exact Nat.le_refl _)] at p7
        refine ⟨(by show 0 ≤ sizeLine; decide), fun W1 nW1 => ?_⟩
        generalize e6 : upd H5 W1 _ = H6
        obtain ⟨s6, f6, k6, g6, z6⟩ := own_of s5 nW1 e6
        refine ⟨_, rfl, p, C, dx, _, rfl, k6 _ _ p1, T.cl, T.n2, (by show 5 < 1000; decide), ?_⟩
        rw [df_pw]
        generalize e7 : upd H6 p _ = H7
        have gp5 : G5 p = none := s6.nw p (ne_none h1) D.gp
        obtain ⟨s7, f7, k7⟩ := wr_of s6 (k6 _ _ p1) gp5 (.inl (.inl rfl)) e7
        refine k W1 G5 H7 s7 ⟨⟨dx, rl, f7, (mI.p mI).l _ _ _ _ s7.gg r1⟩, ⟨kvs5, k7 _ _ D.ps.symm (k6 _ _ p2), ?_⟩, ⟨[], k7 _ _ (ne_of_none p1 nW1).symm f6, .nil⟩, gp5, s7.nw s (ne_none h2) D.gs, g6⟩ z6
        show DRel (rL rI) G5 kvs5 (crashed d.sec d.wai rows)
        unfold crashed
        rw [← ens]
        exact p7
end
end K51

/-! K51G: counts, write, sync, synced, __init__. -/
namespace K51
open PySem PySem.Spec PyProof.Rows L2 Y
/-! ### what fits stays fitting -/
theorem synS_nd : ∀ (wai sec : List (Int × Sec)), (sec.map (·.1)).Nodup → ((synS sec wai).map (·.1)).Nodup
  | [], sec, h => h
  | x :: r, sec, h => synS_nd r _ (put_nodup _ _ _ h)
theorem synS_len : ∀ (wai sec : List (Int × Sec)), (synS sec wai).length ≤ sec.length + wai.length
  | [], sec => Nat.le_refl _
  | x :: r, sec => by
    have h := synS_len r (put sec x.1 x.2)
    have q := put_len sec x.1 x.2
    show (synS (put sec x.1 x.2) r).length ≤ _
    rw [List.length_cons]
    omega
theorem synS_16 : ∀ (wai sec : List (Int × Sec)), (∀ x ∈ sec, x.2.length = 16) → (∀ x ∈ wai, x.2.length = 16) → ∀ x ∈ synS sec wai, x.2.length = 16
  | [], sec, h, _ => h
  | y :: r, sec, h, k => synS_16 r _ (fun x hx => by
      rcases put_mem hx with e | e
      · rw [e]
        exact k y List.mem_cons_self
      · exact h x e) fun x hx => k x (List.mem_cons_of_mem _ hx)
theorem foldl_torn {wai : List (Int × Sec)} (hw : ∀ x ∈ wai, x.2.length = 16) : ∀ (rs : List ((Int × Int) × Int)) (sec : List (Int × Sec)), (sec.map (·.1)).Nodup → (∀ x ∈ sec, x.2.length = 16) →
    ((rs.foldl (torn wai) sec).map (·.1)).Nodup ∧ (rs.foldl (torn wai) sec).length ≤ sec.length + rs.length ∧ ∀ x ∈ rs.foldl (torn wai) sec, x.2.length = 16
  | [], sec, h, k => ⟨h, Nat.le_refl _, k⟩
  | r :: rs, sec, h, k => by
    have k' : ∀ x ∈ torn wai sec r, x.2.length = 16 := by
      unfold torn
      split
      · rename_i hb
        intro x hx
        rcases put_mem hx with e | e
        · rw [e]
          obtain ⟨b1, b2⟩ := hb
          have hj : r.1.1.toNat < (ofN wai r.2).length := by omega
          have h1 := ofN_len hw _ (List.getElem_mem hj)
          have h2 := whole_len (d := ⟨sec, [], none, [], false⟩) k r.2
          have h3 := clip_le r.1.2
          show (((ofN wai r.2).getD r.1.1.toNat []).take (clip r.1.2) ++ (DS.whole ⟨sec, [], none, [], false⟩ r.2).drop (clip r.1.2)).length = 16
          rw [List.getD_eq_getElem?_getD, List.getElem?_eq_getElem hj, Option.getD_some, List.length_append, List.length_take, List.length_drop, h1, h2]
          omega
        · exact k x e
      · exact k
    obtain ⟨a, b, c⟩ := foldl_torn hw rs (torn wai sec r) (torn_nd h) k'
    have := torn_len wai sec r
    exact ⟨a, by rw [List.foldl_cons, List.length_cons]; omega, c⟩
theorem Fit.crash {d : DS} (h : Fit d) (rows : List (Int × Int)) : Fit (d.crash rows) := by
  obtain ⟨a, b, c⟩ := foldl_torn h.lw (rows.zip (nums (d.wai.map (·.1)))) d.sec h.nd h.ls
  have q := le_nums_len (d.wai.map (·.1))
  have s := h.sz
  refine ⟨a, ?_, h.rz, c, (fun x hx => by cases hx), Nat.zero_le _⟩
  show (crashed d.sec d.wai rows).length + 0 ≤ 60000
  rw [List.length_zip] at b
  rw [List.length_map] at q
  unfold crashed
  omega
theorem Fit.counts {d : DS} (h : Fit d) : Fit d.counts := by
  unfold DS.counts
  split
  · exact h
  · split
    · exact h
    · split
      · rename_i l _ _ _
        have q : Fit (({ d with left := some (l - 1) } : DS).crash d.rows) := Fit.crash (d := { d with left := some (l - 1) }) ⟨h.nd, h.sz, h.rz, h.ls, h.lw, h.wz⟩ _
        exact ⟨q.nd, q.sz, q.rz, q.ls, q.lw, q.wz⟩
      · exact ⟨h.nd, h.sz, h.rz, h.ls, h.lw, h.wz⟩
section
variable {P : Program} {w : World} {K : PySem.W.Frag} {mg : Str → Option Value} {base : Heap} {C : Addr} {tS : Tok}
def spCounts (C : Addr) : Sp := fun vs H Q _ => ∃ (G : Hp) (p s wl : Addr) (d : DS), vs = [.ref p] ∧ Same G H ∧ DiskAt C G H p s wl d ∧ Fit d ∧
  ∀ w' G' H', Stp (DOwn p s wl) G H G' H' → DiskAt C G' H' p s w' d.counts → (w' = wl ∨ H w' = none) → Q (.bl (!d.counts.cut)) H'
abbrev s_Disk_counts : Stmt := inClass (top 3) 4
theorem sc_Disk_counts : FnScope ["self"] ["self"] (defScope s_Disk_counts) := ⟨rfl, rfl, rfl, by decide +kernel, rfl, by decide +kernel, by decide +kernel⟩
theorem ok_counts {f : Addr} {fd : FuncData} (F : Fun K "counts" "Disk.counts" s_Disk_counts f fd) (T : Txt K mg C tS) (L_Disk_crash : MtC P w K mg base C "crash" 2 ["self", "rows"] (spCrash C)) : FnOk P w K mg base CX0 3 f fd ["self"] (spCounts C) := by
  refine F.ok sc_Disk_counts (fun vs H Q E h => ?_) (fun cdv A outer st H vs Q E hr h => ?_)
  · obtain ⟨G, p, s, wl, d, rfl, _⟩ := h
    rfl
  · obtain ⟨G, p, s, wl, d, rfl, gh, D, fit, k⟩ := h
    have nd := sc_Disk_counts.nd
    refine ⟨_, (pss_cons (ps_if (PW.pt (pw_and (pt_cmp (pc_notN (pe_fldK (K := K) rfl (pv 0) rfl))) (pw_and1 (pt_not (pt_val (pe_fldK (K := K) rfl (pv 0) rfl))))))
    (pss_cons (ps_fldK (K := K) rfl (pv 0) (pe_op op_sub (pe_fldK (K := K) rfl (pv 0) rfl) pe_int) rfl)
    (pss_one (ps_if (pt_cmpR op_le (pe_fldK (K := K) rfl (pv 0) rfl) pe_int (nomark _))
    (pss_cons (ps_expr (pe_mtc (pv 0) L_Disk_crash (hr.mono (by decide)) (pa_cons (pe_fldK (K := K) rfl (pv 0) rfl) pa_nil)))
    (pss_one (ps_fldK (K := K) rfl (pv 0) pe_bl rfl)))
    pss_nil)))
    pss_nil)
    (pss_one (ps_ret (pe_not (pe_fldK (K := K) rfl (pv 0) rfl))))), ?_⟩
    obtain ⟨dx, rl, h1, r1⟩ := id D.ob
    obtain ⟨kvs, h2, r2⟩ := id D.sec
    obtain ⟨ws, h3, r3⟩ := id D.wai
    have same : d.counts = d → ∃ v, ([some (.ref p)] : L2.St)[0]? = some (some v) ∧ ∃ a C dx fs v', v = V.ref a ∧ H a = some (.ins C dx fs) ∧ Cls K C ∧ NoAttr K C "is_cut" ∧ fs.lookup ("is_cut" : Str) = some v' ∧ ∃ c, v' = .bl c ∧ Q (.bl (!c)) H := fun e =>
      ⟨_, rfl, p, C, dx, _, _, rfl, h1, T.cl, T.n5, df_cut, _, rfl, by
        have q := k wl G H (Stp.refl gh) (by rw [e]; exact D) (.inl rfl)
        rw [e] at q
        exact q⟩
    refine ⟨_, rfl, p, C, dx, _, _, rfl, h1, T.cl, T.n3, df_left, _, rfl, ?_⟩
    cases el : d.left with
    | none =>
      refine iteF (iteF (same ?_))
      unfold DS.counts
      rw [el]
    | some l =>
      refine iteT ⟨_, rfl, p, C, dx, _, _, rfl, h1, T.cl, T.n5, df_cut, _, rfl, ?_⟩
      cases ec : d.cut with
      | true =>
        refine iteF (same ?_)
        unfold DS.counts
        rw [el]
        simp [ec]
      | false =>
        have h1' := h1
        rw [el, ec] at h1'
        refine iteT ⟨_, rfl, p, C, dx, _, _, rfl, h1', T.cl, T.n3, df_left, _, _, rfl, rfl, _, rfl, p, C, dx, _, rfl, h1', T.cl, T.n3, (by show 5 < 1000; decide), ?_⟩
        rw [df_pl]
        generalize e1 : upd H p _ = H1
        obtain ⟨s1, f1, k1⟩ := wr_of (Stp.refl (O := DOwn p s wl) gh) h1' D.gp (.inl (.inl rfl)) e1
        have D1 : DiskAt C G H1 p s wl { d with left := some (l - 1) } := ⟨⟨dx, rl, by rw [f1, ec]; rfl, r1⟩, ⟨kvs, k1 _ _ D.ps.symm h2, r2⟩, ⟨ws, k1 _ _ D.pw.symm h3, r3⟩, D.gp, D.gs, D.gw⟩
        refine ⟨_, rfl, p, C, dx, _, _, rfl, f1, T.cl, T.n3, df_left, _, _, rfl, rfl, _, rfl, if_dec (fun c1 => ?_) (fun c1 => ?_)⟩
        · have fit1 : Fit { d with left := some (l - 1) } := ⟨fit.nd, fit.sz, fit.rz, fit.ls, fit.lw, fit.wz⟩
          have ecnt : d.counts = { (({ d with left := some (l - 1) } : DS).crash d.rows) with cut := true } := by
            unfold DS.counts
            rw [el]
            show (if d.cut = true then d else if l - 1 ≤ 0 then _ else _) = _
            rw [ec, if_neg Bool.false_ne_true, if_pos c1]
          obtain ⟨ra, rvs, erl, hrl, prl⟩ := id r1
          cases erl
          have hrl1 : H1 rl = some (.lst rvs) := k1 _ _ (ne_of h1 (gh _ _ hrl) fun z => nomatch z).symm (gh _ _ hrl)
          refine ⟨_, rfl, p, dx, _, rfl, f1, df_no (by decide +kernel) (by decide +kernel) (by decide +kernel) (by decide +kernel) (by decide +kernel), _, rfl, p, C, dx, _, _, rfl, f1, T.cl, T.n4, df_rows,
            G, p, s, wl, { d with left := some (l - 1) }, rl, d.rows, rfl, s1.gh, D1, fit1, ⟨rvs, hrl1, prl⟩, fresh_ne (ne_none hrl) D.gw, fun w2 G2 H2 s2 D2 n2 => ?_⟩
          obtain ⟨dx2, rl2, g1, q1⟩ := id D2.ob
          obtain ⟨kvs2, g2, q2⟩ := id D2.sec
          obtain ⟨ws2, g3, q3⟩ := id D2.wai
          refine ⟨_, rfl, p, C, dx2, _, rfl, g1, T.cl, T.n5, (by show 5 < 1000; decide), ?_⟩
          rw [df_pc]
          generalize e3 : upd H2 p _ = H3
          obtain ⟨s3, f3, k3⟩ := wr_of (s1.trans s2 fun _ z => .inl z) g1 D2.gp (.inl (.inl rfl)) e3
          have D3 : DiskAt C G2 H3 p s w2 d.counts := by
            rw [ecnt]
            exact ⟨⟨dx2, rl2, f3, q1⟩, ⟨kvs2, k3 _ _ D2.ps.symm g2, q2⟩, ⟨ws2, k3 _ _ D2.pw.symm g3, q3⟩, D2.gp, D2.gs, D2.gw⟩
          refine ⟨_, rfl, p, C, dx2, _, _, rfl, f3, T.cl, T.n5, df_cut, _, rfl, ?_⟩
          have q := k w2 G2 H3 s3 D3 (.inr (s1.fr n2))
          rw [ecnt] at q
          exact q
        · have ecnt : d.counts = { d with left := some (l - 1) } := by
            unfold DS.counts
            rw [el]
            show (if d.cut = true then d else if l - 1 ≤ 0 then _ else _) = _
            rw [ec, if_neg Bool.false_ne_true, if_neg c1]
          refine ⟨_, rfl, p, C, dx, _, _, rfl, f1, T.cl, T.n5, df_cut, _, rfl, ?_⟩
          have q := k wl G H1 s1 (by rw [ecnt]; exact D1) (.inl rfl)
          rw [ecnt] at q
          show Q (.bl (!false)) H1
          rw [← ec]
          exact q
def spWrite (C : Addr) : Sp := fun vs H Q _ => ∃ (G : Hp) (p s wl : Addr) (d : DS) (n : Int) (a : Addr) (x : Sec), vs = [.ref p, .int n, .ref a] ∧ Same G H ∧ DiskAt C G H p s wl d ∧ Fit d ∧ H a = some (rowI x) ∧ a ≠ wl ∧
  ∀ w' G' H', Stp (DOwn p s wl) G H G' H' → DiskAt C G' H' p s w' (d.write n x) → (w' = wl ∨ H w' = none) → Q .non H'
abbrev s_Disk_write : Stmt := inClass (top 3) 5
theorem sc_Disk_write : FnScope ["self", "number", "content"] ["self", "number", "content"] (defScope s_Disk_write) := ⟨rfl, rfl, rfl, by decide +kernel, rfl, by decide +kernel, by decide +kernel⟩
theorem ok_write {f : Addr} {fd : FuncData} (F : Fun K "write" "Disk.write" s_Disk_write f fd) (T : Txt K mg C tS) (L_Disk_counts : MtC P w K mg base C "counts" 3 ["self"] (spCounts C)) : FnOk P w K mg base CX0 4 f fd ["self", "number", "content"] (spWrite C) := by
  refine F.ok sc_Disk_write (fun vs H Q E h => ?_) (fun cdv A outer st H vs Q E hr h => ?_)
  · obtain ⟨G, p, s, wl, d, n, a, x, rfl, _⟩ := h
    rfl
  · obtain ⟨G, p, s, wl, d, n, a, x, rfl, gh, D, fit, ha, aw, k⟩ := h
    have nd := sc_Disk_write.nd
    refine ⟨_, (pss_one (ps_if (pt_val (pe_mtc0 (pv 0) L_Disk_counts (hr.mono (by decide))))
    (pss_one (ps_expr (pe_bmK (K := K) rfl PySem.F.plainAttrs_list PySem.F.slot_list_append PySem.F.type_list_append mt_append (pe_fldK (K := K) rfl (pv 0) rfl) (pa_cons (pe_tup (pa_cons (pv 1) (pa_cons (pe_callTy (call_list_ofK (K := K) rfl) (by rfl) T.b_list (by decide +kernel) (pa_cons (pv 2) pa_nil)) pa_nil))) pa_nil))))
    pss_nil)), ?_⟩
    obtain ⟨dx, rl, h1, r1⟩ := id D.ob
    obtain ⟨kvs, h2, r2⟩ := id D.sec
    have hap : a ≠ p := (ne_of h1 ha fun z => nomatch z).symm
    have has : a ≠ s := (ne_of h2 ha fun z => nomatch z).symm
    refine ⟨_, rfl, p, dx, _, rfl, h1, df_no (by decide +kernel) (by decide +kernel) (by decide +kernel) (by decide +kernel) (by decide +kernel), G, p, s, wl, d, rfl, gh, D, fit, fun w1 G1 H1 s1 D1 n1 => ?_⟩
    obtain ⟨dx1, rl1, g1, q1⟩ := id D1.ob
    obtain ⟨kvs1, g2, q2⟩ := id D1.sec
    obtain ⟨ws1, g3, q3⟩ := id D1.wai
    have ha1 : H1 a = some (rowI x) := s1.kp _ _ ha fun z => by
      rcases z with z | z | z
      · exact hap z
      · exact has z
      · exact aw z
    refine ⟨_, rfl, if_nbool (fun c1 => ?_) (fun c1 => ?_)⟩
    · have ew : d.write n x = { d.counts with wai := d.counts.wai ++ [(n, x)] } := if_neg (by rw [c1]; exact Bool.false_ne_true)
      refine ⟨_, rfl, p, C, dx1, _, _, rfl, g1, T.cl, T.n2, df_waiting, .inl ⟨rfl, _, SqL.of g3⟩, _, rfl, _, rfl, a, _, rfl, .inl (SqL.of ha1), fun l nl => ?_⟩
      generalize e2 : upd H1 l _ = H2
      obtain ⟨G2, s2, f2, gg2, k2, gk2⟩ := data_of s1 nl e2
      refine ⟨(by show 2 ≤ sizeLine; decide), fun t nt => ?_⟩
      generalize e3 : upd H2 t _ = H3
      obtain ⟨G3, s3, f3, gg3, k3, gk3⟩ := data_of s2 nt e3
      have g3' := k3 _ _ (k2 _ _ g3)
      have npl : p ≠ l := ne_of_none g1 nl
      have npt : p ≠ t := ne_of_none (k2 _ _ g1) nt
      have nsl : s ≠ l := ne_of_none g2 nl
      have nst : s ≠ t := ne_of_none (k2 _ _ g2) nt
      have nwl : w1 ≠ l := ne_of_none g3 nl
      have nwt : w1 ≠ t := ne_of_none (k2 _ _ g3) nt
      have gw3 : G3 w1 = none := by rw [gk3 w1 nwt, gk2 w1 nwl]; exact D1.gw
      have fitc := fit.counts
      refine ⟨w1, ws1, _, rfl, rfl, g3', ?_, ?_⟩
      · have := fitc.sz
        rw [pd_len q3, sizeLine_eq]
        omega
      generalize e4 : upd H3 w1 _ = H4
      obtain ⟨s4, f4, k4⟩ := wr_of s3 g3' gw3 (n1.imp (fun z => .inr (.inr z)) id) e4
      refine k w1 G3 H4 s4 ?_ n1
      rw [ew]
      refine ⟨⟨dx1, rl1, k4 _ _ D1.pw (k3 _ _ (k2 _ _ g1)), (mI.p mI).l _ _ _ _ (gg2.trans gg3) q1⟩, ⟨kvs1, k4 _ _ D1.sw (k3 _ _ (k2 _ _ g2)), q2.mono mSec (gg2.trans gg3)⟩, ⟨_, f4, ?_⟩,
        by rw [gk3 p npt, gk2 p npl]; exact D1.gp, by rw [gk3 s nst, gk2 s nsl]; exact D1.gs, gw3⟩
      exact pd_snoc (mRow.ps (gg2.trans gg3) q3) ⟨t, _, _, rfl, f3, rfl, rLI_of (gg3 _ _ f2)⟩
    · have ew : d.write n x = d.counts := if_pos c1
      refine k w1 G1 H1 s1 ?_ n1
      rw [ew]
      exact D1
def spSync (C : Addr) : Sp := fun vs H Q _ => ∃ (G : Hp) (p s wl : Addr) (d : DS), vs = [.ref p] ∧ Same G H ∧ DiskAt C G H p s wl d ∧ Fit d ∧
  ∀ w' G' H', Stp (DOwn p s wl) G H G' H' → DiskAt C G' H' p s w' d.sync → (w' = wl ∨ H w' = none) → Q .non H'
abbrev s_Disk_sync : Stmt := inClass (top 3) 6
theorem sc_Disk_sync : FnScope ["self", "number", "content"] ["self"] (defScope s_Disk_sync) := ⟨rfl, rfl, rfl, by decide +kernel, rfl, by decide +kernel, by decide +kernel⟩
theorem ok_sync {f : Addr} {fd : FuncData} (F : Fun K "sync" "Disk.sync" s_Disk_sync f fd) (T : Txt K mg C tS) (L_Disk_counts : MtC P w K mg base C "counts" 3 ["self"] (spCounts C)) : FnOk P w K mg base CX0 4 f fd ["self"] (spSync C) := by
  refine F.ok sc_Disk_sync (fun vs H Q E h => ?_) (fun cdv A outer st H vs Q E hr h => ?_)
  · obtain ⟨G, p, s, wl, d, rfl, _⟩ := h
    rfl
  · obtain ⟨G, p, s, wl, d, rfl, gh, D, fit, k⟩ := h
    have nd := sc_Disk_sync.nd
    have hu := hu_of hr
    refine ⟨_, (pss_one (ps_if (pt_val (pe_mtc0 (pv 0) L_Disk_counts (hr.mono (by decide))))
    (pss_cons (ps_for PassesOwn.never rfl (pi_listK (K := K) rfl (pe_fldK (K := K) rfl (pv 0) rfl)) (pg_tupK (K := K) (n := 2) rfl rfl (pgs_cons (pg_name (i := 1) nd rfl (Or.inl rfl)) (pgs_cons (pg_name (i := 2) nd rfl (Or.inl rfl)) pgs_nil)))
    (pss_one (ps_dput hu (pe_fldK (K := K) rfl (pv 0) rfl) (pv 1) (pv 2) rfl)))
    (pss_one (ps_fldK (K := K) rfl (pv 0) (pe_lst pa_nil) rfl)))
    pss_nil)), ?_⟩
    obtain ⟨dx, rl, h1, r1⟩ := id D.ob
    refine ⟨_, rfl, p, dx, _, rfl, h1, df_no (by decide +kernel) (by decide +kernel) (by decide +kernel) (by decide +kernel) (by decide +kernel), G, p, s, wl, d, rfl, gh, D, fit, fun w1 G1 H1 s1 D1 n1 => ?_⟩
    obtain ⟨dx1, rl1, g1, q1⟩ := id D1.ob
    obtain ⟨kvs1, g2, q2⟩ := id D1.sec
    obtain ⟨ws1, g3, q3⟩ := id D1.wai
    refine ⟨_, rfl, if_nbool (fun c1 => ?_) (fun c1 => ?_)⟩
    · have ew : d.sync = { d.counts with sec := synS d.counts.sec d.counts.wai, wai := [] } := if_neg (by rw [c1]; exact Bool.false_ne_true)
      have fitc := fit.counts
      refine ⟨_, rfl, p, C, dx1, _, _, rfl, g1, T.cl, T.n2, df_waiting, w1, rfl, ⟨_, SqL.of g3⟩, for_list (K := K) (a := w1) (xs := ws1)
        (fun i σ H2 => (∃ x1 x2, σ = [some (.ref p), x1, x2]) ∧ Stp (DOwn p s wl) G H G1 H2 ∧ (∀ b o, b ≠ s → H1 b = some o → H2 b = some o) ∧ ∃ kvs2, H2 s = some (.dK kvs2) ∧ DRel (rL rI) G1 kvs2 (synS d.counts.sec (d.counts.wai.take i)))
        ⟨⟨_, _, rfl⟩, s1, fun _ _ _ z => z, kvs1, g2, q2⟩ (fun i σ H2 _ ⟨_, _, q, _⟩ => SqL.of (q _ _ D1.sw.symm g3)) ?_ ?_⟩
      · rintro i y σ H2 hi ⟨⟨x1, x2, rfl⟩, s2, k2, kvs2, g4, q4⟩
        obtain ⟨x, hx, t, u, c0, rfl, ht, hu', hc⟩ := pd_get q3 hi
        cases hu'
        refine g_pair (s2.gh _ _ ht) ⟨_, rfl, _, rfl, p, C, dx1, _, _, rfl, k2 _ _ D1.ps g1, T.cl, T.n1, df_sectors, _, rfl, s, _, rfl, DPut.k (k := Sum.inl x.1) g4 ?_, ?_⟩
        · have h5 := synS_len (d.counts.wai.take i) d.counts.sec
          have h6 := fitc.sz
          have h7 := pd_len q4
          rw [List.length_take] at h5
          rw [sizeLine_eq]
          omega
        · generalize e3 : upd H2 s _ = H3
          obtain ⟨s3, f3, k3⟩ := wr_of s2 g4 D1.gs (.inl (.inr (.inl rfl))) e3
          refine ⟨⟨_, _, rfl⟩, s3, fun b o hb e => k3 b o hb (k2 b o hb e), _, f3, ?_⟩
          have e5 : synS d.counts.sec (d.counts.wai.take (i + 1)) = put (synS d.counts.sec (d.counts.wai.take i)) x.1 x.2 := by
            unfold synS
            rw [List.take_add_one, hx, List.foldl_append]
            rfl
          rw [e5]
          exact q4.put hc
      · rintro σ H2 ⟨⟨x1, x2, rfl⟩, s2, k2, kvs2, g4, q4⟩
        rw [pd_len q3, List.take_of_length_le (Nat.le_refl _)] at q4
        refine ⟨(by show 0 ≤ sizeLine; decide), fun W1 nW1 => ?_⟩
        generalize e6 : upd H2 W1 _ = H6
        obtain ⟨s6, f6, k6, g6, z6⟩ := own_of s2 nW1 e6
        have p1 := k6 _ _ (k2 _ _ D1.ps g1)
        refine ⟨_, rfl, p, C, dx1, _, rfl, p1, T.cl, T.n2, (by show 5 < 1000; decide), ?_⟩
        rw [df_pw]
        generalize e7 : upd H6 p _ = H7
        obtain ⟨s7, f7, k7⟩ := wr_of s6 p1 D1.gp (.inl (.inl rfl)) e7
        refine k W1 G1 H7 s7 ?_ (.inr z6)
        rw [ew]
        exact ⟨⟨dx1, rl1, f7, q1⟩, ⟨kvs2, k7 _ _ D1.ps.symm (k6 _ _ g4), q4⟩, ⟨[], k7 _ _ (ne_of_none (k2 _ _ D1.ps g1) nW1).symm f6, .nil⟩, D1.gp, D1.gs, g6⟩
    · have ew : d.sync = d.counts := if_pos c1
      refine k w1 G1 H1 s1 ?_ n1
      rw [ew]
      exact D1
end
end K51

/-! K51H: synced, __init__. -/
namespace K51
open PySem PySem.Spec PyProof.Rows L2 Y
/-- a row of the told sectors, all of it new -/
def NewRow (H G' H' : Hp) (v : V) (x : Int × Sec) : Prop := ∃ t c, v = V.ref t ∧ H' t = some (.tup [.int x.1, .ref c]) ∧ H' c = some (rowI x.2) ∧ H t = none ∧ H c = none ∧ G' t = none ∧ G' c = none
theorem NewRow.keep {H G' H' H2 : Hp} (e : ∀ b o, H b = none → H' b = some o → H2 b = some o) {v : V} {x : Int × Sec} : NewRow H G' H' v x → NewRow H G' H2 v x := fun ⟨t, c, e1, h1, h2, n1, n2, g1, g2⟩ => ⟨t, c, e1, e _ _ n1 h1, e _ _ n2 h2, n1, n2, g1, g2⟩
/-- .. and apart from a list that is being made -/
def NewRowD (H G' H' : Hp) (D : Addr) (v : V) (x : Int × Sec) : Prop := ∃ t c, v = V.ref t ∧ H' t = some (.tup [.int x.1, .ref c]) ∧ H' c = some (rowI x.2) ∧ H t = none ∧ H c = none ∧ G' t = none ∧ G' c = none ∧ t ≠ D ∧ c ≠ D
theorem NewRowD.keep {H G' H' H2 : Hp} {D : Addr} (e : ∀ b o, b ≠ D → H' b = some o → H2 b = some o) {v : V} {x : Int × Sec} : NewRowD H G' H' D v x → NewRowD H G' H2 D v x := fun ⟨t, c, e1, h1, h2, n1, n2, g1, g2, d1, d2⟩ => ⟨t, c, e1, e _ _ d1 h1, e _ _ d2 h2, n1, n2, g1, g2, d1, d2⟩
theorem NewRowD.row {H G' H' : Hp} {D : Addr} {v : V} {x : Int × Sec} : NewRowD H G' H' D v x → NewRow H G' H' v x := fun ⟨t, c, e1, h1, h2, n1, n2, g1, g2, _, _⟩ => ⟨t, c, e1, h1, h2, n1, n2, g1, g2⟩
def spSynced (C : Addr) : Sp := fun vs H Q _ => ∃ (G : Hp) (p s wl : Addr) (d : DS), vs = [.ref p] ∧ Same G H ∧ DiskAt C G H p s wl d ∧ Fit d ∧
  ∀ q us H', Stp O0 G H G H' → H q = none → H' q = some (.lst us) → Paired (NewRowD H G H' q) us (told d.sec) → Q (.ref q) H'
section
variable {P : Program} {w : World} {K : PySem.W.Frag} {mg : Str → Option Value} {base : Heap} {C : Addr} {tS : Tok}
abbrev s_Disk_synced : Stmt := inClass (top 3) 8
theorem sc_Disk_synced : FnScope ["self", "rows", "number", "row"] ["self"] (defScope s_Disk_synced) := ⟨rfl, rfl, rfl, by decide +kernel, rfl, by decide +kernel, by decide +kernel⟩
theorem ok_synced {f : Addr} {fd : FuncData} (F : Fun K "synced" "Disk.synced" s_Disk_synced f fd) (T : Txt K mg C tS) : FnOk P w K mg base CX0 1 f fd ["self"] (spSynced C) := by
  refine F.ok sc_Disk_synced (fun vs H Q E h => ?_) (fun cdv A outer st H vs Q E hr h => ?_)
  · obtain ⟨G, p, s, wl, d, rfl, _⟩ := h
    rfl
  · obtain ⟨G, p, s, wl, d, rfl, gh, D, fit, k⟩ := h
    have nd := sc_Disk_synced.nd
    have hu := hu_of hr
    refine ⟨_, (pss_cons (ps_setLc (i := 1) (own := [("number", 2)]) rfl nd rfl rfl (sw_true rfl rfl rfl (by decide +kernel)) (pi_listK (K := K) rfl (pe_callB (call_sortedDA rfl) (by rfl) T.b_sorted (by decide +kernel) (pa_cons (pe_fldK (K := K) rfl (pv 0) rfl) pa_nil))) (blkOk_by (own := [("number", 2)]) (N := ["self", "rows", "number", "row"]) (sc := defScope s_Disk_synced) (by decide +kernel)) (fun _ _ _ _ _ => (pg_name (i := 2) nd rfl (Or.inl rfl))) (fun _ _ _ _ _ => pts_nil) (fun _ _ _ _ _ => (pe_tup (pa_cons (pv 2) (pa_cons (pe_callTy (call_list_ofK (K := K) rfl) (by rfl) T.b_list (by decide +kernel) (pa_cons (pe_dget hu (pe_fldK (K := K) rfl (pv 0) rfl) (pv 2) (fun _ _ => rfl)) pa_nil)) pa_nil)))))
    (pss_one (ps_ret (pe_lc (own := [("row", 3)]) rfl nd (pi_listK (K := K) rfl (pv 1)) (blkOk_by (own := [("row", 3)]) (N := ["self", "rows", "number", "row"]) (sc := defScope s_Disk_synced) (by decide +kernel)) (fun _ _ _ _ _ => (pg_name (i := 3) nd rfl (Or.inl rfl))) (fun _ _ _ _ _ => (pts_one (pt_cmpR (op_neDK (K := K) rfl hr.units) (pe_ix (ix_tupK (K := K) rfl) (pv 3) pe_int (fun _ _ => rfl)) (pe_op op_rep (pe_lst (pa_cons pe_int pa_nil)) (pe_glob (v := .int 16) rfl T.c_SECTOR ⟨_, rfl⟩)) (nomark _)))) (fun _ _ _ _ _ => (pv 3)))))), ?_⟩
    obtain ⟨dx, rl, h1, r1⟩ := id D.ob
    obtain ⟨kvs, h2, r2⟩ := id D.sec
    have s0 : Stp O0 G H G H := Stp.refl gh
    have hsz := fit.sz
    refine ⟨_, rfl, p, C, dx, _, _, rfl, h1, T.cl, T.n1, df_sectors, s, kvs, _, rfl, .inl h2, r2.keys, ?_, fun ys N1 pm asc nN1 => ?_⟩
    · rw [List.length_map]
      omega
    have eys : ys = nums (d.sec.map (·.1)) := asc_same (lt_of_le_nodup ys asc (pm.nodup_iff.mpr fit.nd)) (asc_nums _) fun q => by rw [pm.mem_iff, mem_nums]
    have ysl : ys.length ≤ 60000 := by rw [pm.length_eq, List.length_map]; omega
    generalize e1 : upd H N1 _ = H1
    obtain ⟨s1, f1, k1, g1, z1⟩ := own_of s0 nN1 e1
    refine ⟨N1, rfl, ⟨_, SqL.of f1⟩, fun D1 nD1 => ?_⟩
    obtain ⟨s2, f2, k2, g2, z2⟩ := own_of (o := .lst []) s1 nD1 rfl
    refine lc_list (K := K) (a := N1) (xs := ys.map V.int) (fun i H3 => Stp O0 G H G H3 ∧ H3 N1 = some (rowI ys) ∧ ∃ acc, H3 D1 = some (.lst acc) ∧ Paired (NewRowD H G H3 D1) acc ((ys.take i).map fun n => (n, d.whole n)))
      ⟨s2, k2 _ _ f1, [], f2, .nil⟩ (fun i H3 _ ⟨_, q, _⟩ => SqL.of q) ?_ ?_
    · rintro i y H3 hi ⟨s3, q3, acc, f3, r3⟩
      obtain ⟨n, hn, rfl⟩ : ∃ n, ys[i]? = some n ∧ y = V.int n := by
        rw [List.getElem?_map] at hi
        cases e : ys[i]? with
        | none => rw [e] at hi; cases hi
        | some z => rw [e] at hi; exact ⟨z, rfl, (Option.some.inj hi).symm⟩
      have hmem : n ∈ d.sec.map (·.1) := by
        have := List.mem_of_getElem? hn
        rw [eys, mem_nums] at this
        exact this
      obtain ⟨x, hx⟩ := Option.isSome_iff_exists.mp (look_isSome.mpr hmem)
      obtain ⟨v, hv, rv⟩ := r2.look_some hx
      obtain ⟨c, rfl, hc⟩ := rLI rv
      have h2' := s3.kp _ _ h2 fun z => z
      refine ⟨rfl, g_yes ⟨_, rfl, _, rfl, p, C, dx, _, _, rfl, s3.kp _ _ h1 (fun z => z), T.cl, T.n1, df_sectors, _, rfl, s, _, rfl, ?_, c, _, rfl, .inl (SqL.of (s3.gh _ _ hc)), fun l nl => ?_⟩⟩
      · have q := DGet.k (k := Sum.inl n) h2'
        rw [hv] at q
        exact q
      generalize e4 : upd H3 l _ = H4
      obtain ⟨s4, f4, k4, g4, z4⟩ := own_of s3 nl e4
      refine ⟨(by show 2 ≤ sizeLine; decide), fun t nt => ?_⟩
      generalize e5 : upd H4 t _ = H5
      obtain ⟨s5, f5, k5, g5, z5⟩ := own_of s4 nt e5
      refine ⟨acc, k5 _ _ (k4 _ _ f3), ?_, ?_⟩
      · have := pd_len r3
        rw [List.length_map, List.length_take] at this
        rw [sizeLine_eq]
        omega
      generalize e6 : upd H5 D1 _ = H6
      obtain ⟨s6, f6, k6⟩ := wr_of s5 (k5 _ _ (k4 _ _ f3)) g2 (.inr z2) e6
      have ND : N1 ≠ D1 := ne_of_none f1 nD1
      have tD : t ≠ D1 := (ne_of_none (k4 _ _ f3) nt).symm
      have lD : l ≠ D1 := (ne_of_none f3 nl).symm
      refine ⟨s6, k6 _ _ ND (k5 _ _ (k4 _ _ q3)), _, f6, ?_⟩
      rw [List.take_add_one, hn, List.map_append]
      refine pd_snoc (pd_mono (fun _ _ q => q.keep fun b o hb e => k6 _ _ hb (k5 _ _ (k4 _ _ e))) r3) ⟨t, l, rfl, k6 _ _ tD f5, ?_, z5, z4, g5, g4, tD, lD⟩
      show H6 l = some (rowI (d.whole n))
      unfold DS.whole
      rw [hx]
      exact k6 _ _ lD (k5 _ _ f4)
    · rintro H3 ⟨s3, q3, acc, f3, r3⟩
      rw [List.length_map, List.take_of_length_le (Nat.le_refl _)] at r3
      refine ⟨_, rfl, D1, rfl, ⟨_, SqL.of f3⟩, fun D2 nD2 => ?_⟩
      obtain ⟨s4, f4, k4, g4, z4⟩ := own_of (o := .lst []) s3 nD2 rfl
      have nDD : D1 ≠ D2 := ne_of_none f3 nD2
      refine lc_list (K := K) (a := D1) (xs := acc) (fun i H5 => Stp O0 G H G H5 ∧ (∀ b o, b ≠ D2 → H3 b = some o → H5 b = some o) ∧ ∃ acc2, H5 D2 = some (.lst acc2) ∧ acc2.length ≤ i ∧ Paired (NewRowD H G H3 D1) acc2 (((ys.map fun n => (n, d.whole n)).take i).filter fun x => decide (x.2 ≠ blank)))
        ⟨s4, fun b o _ e => k4 b o e, [], f4, Nat.le_refl _, .nil⟩ (fun i H5 _ ⟨_, q, _⟩ => SqL.of (q _ _ nDD f3)) ?_ ?_
      · rintro i y H5 hi ⟨s5, k5, acc2, f5, l5, r5⟩
        obtain ⟨x, hx, t, c, rfl, ht, hc, a1, a2, a3, a4, a5, a6⟩ := pd_get r3 hi
        have tD : t ≠ D2 := ne_of_none ht nD2
        have cD : c ≠ D2 := ne_of_none hc nD2
        refine ⟨rfl, ⟨_, rfl, t, _, _, _, rfl, rfl, SqT.of (k5 _ _ tD ht), at_of (j := 1) rfl rfl, (by show 1 ≤ sizeLine; decide), fun A1 nA1 => ?_⟩⟩
        generalize e6 : upd H5 A1 _ = H6
        obtain ⟨s6, f6, k6, g6, z6⟩ := own_of s5 nA1 e6
        refine ⟨A1, 16, _, rfl, rfl, f6, by decide, by decide, (by show 1 * 16 ≤ sizeLine; decide), fun A2 nA2 => ?_⟩
        generalize e7 : upd H6 A2 _ = H7
        obtain ⟨s7, f7, k7, g7, z7⟩ := own_of s6 nA2 e7
        refine ⟨_, _, dp_ints (k7 _ _ (k6 _ _ (k5 _ _ cD hc))), dp_ints (xs := blank) f7, shaped_ints _, shaped_ints _, _, rfl, ?_⟩
        rw [eqv_ints]
        have hfilter : ((ys.map fun n => (n, d.whole n)).take (i + 1)).filter (fun x => decide (x.2 ≠ blank)) = ((ys.map fun n => (n, d.whole n)).take i).filter (fun x => decide (x.2 ≠ blank)) ++ (if x.2 = blank then [] else [x]) := by
          rw [List.take_add_one, hx, List.filter_append]
          congr 1
          by_cases e : x.2 = blank <;> simp [e]
        refine if_nbool (fun e => ?_) (fun e => ?_)
        · have e' : ¬ x.2 = blank := of_decide_eq_false e
          refine ⟨_, rfl, acc2, k7 _ _ (k6 _ _ f5), ?_, ?_⟩
          · have := pd_len r3
            rw [List.length_map] at this
            have := (List.getElem?_eq_some_iff.mp hi).1
            rw [sizeLine_eq]
            omega
          generalize e8 : upd H7 D2 _ = H8
          obtain ⟨s8, f8, k8⟩ := wr_of s7 (k7 _ _ (k6 _ _ f5)) g4 (.inr z4) e8
          refine ⟨s8, fun b o hb e => k8 b o hb (k7 _ _ (k6 _ _ (k5 b o hb e))), _, f8, by rw [List.length_append]; exact Nat.succ_le_succ l5, ?_⟩
          rw [hfilter, if_neg e']
          exact pd_snoc r5 ⟨t, c, rfl, ht, hc, a1, a2, a3, a4, a5, a6⟩
        · have e' : x.2 = blank := of_decide_eq_true e
          refine ⟨s7, fun b o hb e => k7 _ _ (k6 _ _ (k5 b o hb e)), acc2, k7 _ _ (k6 _ _ f5), Nat.le_succ_of_le l5, ?_⟩
          rw [hfilter, if_pos e', List.append_nil]
          exact r5
      · rintro H5 ⟨s5, k5, acc2, f5, l5, r5⟩
        refine k D2 acc2 H5 s5 z4 f5 ?_
        have el := pd_len r3
        rw [el, List.take_of_length_le (Nat.le_refl _), eys] at r5
        have aux : ∀ {us : List V} {xs : List (Int × Sec)}, Paired (NewRowD H G H3 D1) us xs → Paired (NewRowD H G H5 D2) us xs := fun h => pd_mono (fun v x q => by
          obtain ⟨t, c, e1, a1, a2, a3, a4, a5, a6, a7, a8⟩ := q
          exact ⟨t, c, e1, k5 _ _ (ne_of_none a1 nD2) a1, k5 _ _ (ne_of_none a2 nD2) a2, a3, a4, a5, a6, ne_of_none a1 nD2, ne_of_none a2 nD2⟩) h
        exact aux r5
end
end K51

/-! K51I: __init__; the law's draws. -/
namespace K51
open PySem PySem.Spec PyProof.Rows L2 Y
theorem df_i0 {s : Addr} : putF "sectors" (.ref s) ([] : List (Str × V)) = ([("sectors", .ref s)] : List (Str × V)) := pf_nil
theorem df_i1 {s : Addr} {wl : Addr} : putF "waiting" (.ref wl) ([("sectors", .ref s)] : List (Str × V)) = ([("sectors", .ref s), ("waiting", .ref wl)] : List (Str × V)) := (pf_miss (by decide +kernel)).trans (congrArg _ (pf_nil))
theorem df_i2 {s : Addr} {wl : Addr} {l : V} : putF "left" (l) ([("sectors", .ref s), ("waiting", .ref wl)] : List (Str × V)) = ([("sectors", .ref s), ("waiting", .ref wl), ("left", l)] : List (Str × V)) := (pf_miss (by decide +kernel)).trans (congrArg _ ((pf_miss (by decide +kernel)).trans (congrArg _ (pf_nil))))
theorem df_i3 {s : Addr} {wl : Addr} {l : V} {rl : Addr} : putF "rows" (.ref rl) ([("sectors", .ref s), ("waiting", .ref wl), ("left", l)] : List (Str × V)) = ([("sectors", .ref s), ("waiting", .ref wl), ("left", l), ("rows", .ref rl)] : List (Str × V)) := (pf_miss (by decide +kernel)).trans (congrArg _ ((pf_miss (by decide +kernel)).trans (congrArg _ ((pf_miss (by decide +kernel)).trans (congrArg _ (pf_nil))))))
theorem df_i4 {s : Addr} {wl : Addr} {l : V} {rl : Addr} {c : Bool} : putF "is_cut" (.bl c) ([("sectors", .ref s), ("waiting", .ref wl), ("left", l), ("rows", .ref rl)] : List (Str × V)) = ([("sectors", .ref s), ("waiting", .ref wl), ("left", l), ("rows", .ref rl), ("is_cut", .bl c)] : List (Str × V)) := (pf_miss (by decide +kernel)).trans (congrArg _ ((pf_miss (by decide +kernel)).trans (congrArg _ ((pf_miss (by decide +kernel)).trans (congrArg _ ((pf_miss (by decide +kernel)).trans (congrArg _ (pf_nil))))))))
def spInit (C : Addr) : Sp := fun vs H Q _ => ∃ (G : Hp) (p dx a : Addr) (us : List V) (xs : List (Int × Sec)), vs = [.ref p, .ref a] ∧ Same G H ∧ H p = some (.ins C dx []) ∧ G p = none ∧ H a = some (.lst us) ∧ Paired (rSec H) us xs ∧ xs.length ≤ 60000 ∧
  ∀ s wl G' H', Stp (fun b => b = p) G H G' H' → DiskAt C G' H' p s wl ⟨ofRows xs, [], none, [], false⟩ → H s = none → H wl = none → Q .non H'
section
variable {P : Program} {w : World} {K : PySem.W.Frag} {mg : Str → Option Value} {base : Heap} {C : Addr} {tS : Tok}
abbrev s_Disk_init : Stmt := inClass (top 3) 0
theorem sc_Disk_init : FnScope ["self", "sectors", "number", "content"] ["self", "sectors"] (defScope s_Disk_init) := ⟨rfl, rfl, rfl, by decide +kernel, rfl, by decide +kernel, by decide +kernel⟩
theorem ok_init {f : Addr} {fd : FuncData} (F : Fun K "__init__" "Disk.__init__" s_Disk_init f fd) (T : Txt K mg C tS) : FnOk P w K mg base CX0 1 f fd ["self", "sectors"] (spInit C) := by
  refine F.ok sc_Disk_init (fun vs H Q E h => ?_) (fun cdv A outer st H vs Q E hr h => ?_)
  · obtain ⟨G, p, dx, a, us, xs, rfl, _⟩ := h
    rfl
  · obtain ⟨G, p, dx, a, us, xs, rfl, gh, hp, gp, ha, hus, hlen, k⟩ := h
    have nd := sc_Disk_init.nd
    refine ⟨_, (pss_cons (ps_fldK (K := K) rfl (pv 0) (pe_dc (own := [("number", 2), ("content", 3)]) rfl nd (pi_listK (K := K) rfl (pv 1)) (blkOk_by (own := [("number", 2), ("content", 3)]) (N := ["self", "sectors", "number", "content"]) (sc := defScope s_Disk_init) (by decide +kernel)) (fun _ _ _ _ _ => (pg_tupK (K := K) (n := 2) rfl rfl (pgs_cons (pg_name (i := 2) nd rfl (Or.inl rfl)) (pgs_cons (pg_name (i := 3) nd rfl (Or.inl rfl)) pgs_nil)))) (fun _ _ _ _ _ => pts_nil) (fun _ _ _ _ _ => (pv 2)) (fun _ _ _ _ _ => (pe_callTy (call_list_ofK (K := K) rfl) (by rfl) T.b_list (by decide +kernel) (pa_cons (pv 3) pa_nil)))) rfl)
    (pss_cons (ps_fldK (K := K) rfl (pv 0) (pe_lst pa_nil) rfl)
    (pss_cons (ps_fldK (K := K) rfl (pv 0) pe_non rfl)
    (pss_cons (ps_fldK (K := K) rfl (pv 0) (pe_lst pa_nil) rfl)
    (pss_one (ps_fldK (K := K) rfl (pv 0) pe_bl rfl)))))), ?_⟩
    have s0 : Stp (fun b => b = p) G H G H := Stp.refl gh
    refine ⟨_, rfl, a, rfl, ⟨_, SqL.of ha⟩, fun D1 nD1 => ?_⟩
    obtain ⟨s1, f1, k1, g1, z1⟩ := own_of (o := .dK []) s0 nD1 rfl
    refine dc_list (K := K) (a := a) (xs := us) (fun i H3 => ∃ G3 kvs, Stp (fun b => b = p) G H G3 H3 ∧ Same H H3 ∧ H3 D1 = some (.dK kvs) ∧ G3 D1 = none ∧ G3 p = none ∧ DRel (rL rI) G3 kvs (ofRows (xs.take i)) ∧ kvs.length ≤ i)
      ⟨G, [], s1, k1, f1, g1, gp, .nil, Nat.le_refl _⟩ (fun i H3 _ ⟨_, _, _, q, _⟩ => SqL.of (q _ _ ha)) ?_ ?_
    · rintro i y H3 hi ⟨G3, kvs, s3, k3, f3, g3, gp3, r3, l3⟩
      obtain ⟨x, hx, t, u, c0, rfl, ht, hu', hc⟩ := pd_get hus hi
      cases hu'
      obtain ⟨c, rfl, hcc⟩ := rLI hc
      have hi60 := (List.getElem?_eq_some_iff.mp hx).1
      refine g_pair (k3 _ _ ht) ⟨rfl, g_yes ⟨_, rfl, _, rfl, c, _, rfl, .inl (SqL.of (k3 _ _ hcc)), fun l nl => ?_⟩⟩
      generalize e4 : upd H3 l _ = H4
      obtain ⟨G4, s4, f4, gg4, k4, gk4⟩ := data_of s3 nl e4
      have Dl : D1 ≠ l := ne_of_none f3 nl
      refine ⟨kvs, Sum.inl x.1, rfl, k4 _ _ f3, by rw [sizeLine_eq]; omega, ?_⟩
      generalize e5 : upd H4 D1 _ = H5
      have gD4 : G4 D1 = none := by rw [gk4 D1 Dl]; exact g3
      obtain ⟨s5, f5, k5⟩ := wr_of s4 (k4 _ _ f3) gD4 (.inr z1) e5
      have npl : p ≠ l := ne_of_none (k3 _ _ hp) nl
      refine ⟨G4, _, s5, fun b o e => k5 b o (fresh_ne (ne_none e) z1) (k4 _ _ (k3 _ _ e)), f5, gD4, by rw [gk4 p npl]; exact gp3, ?_, ?_⟩
      · have e6 : ofRows (xs.take (i + 1)) = put (ofRows (xs.take i)) x.1 x.2 := by
          unfold ofRows
          rw [List.take_add_one, hx, List.foldl_append]
          rfl
        rw [e6]
        exact (r3.mono mSec gg4).put (rLI_of f4)
      · exact Nat.le_trans (length_putK _ _ _) (Nat.succ_le_succ l3)
    · rintro H3 ⟨G3, kvs, s3, k3, f3, g3, gp3, r3, l3⟩
      rw [pd_len hus, List.take_of_length_le (Nat.le_refl _)] at r3
      refine ⟨_, rfl, p, C, dx, _, rfl, k3 _ _ hp, T.cl, T.n1, (by show 0 < 1000; decide), ?_⟩
      rw [df_i0]
      generalize e4 : upd H3 p _ = H4
      obtain ⟨s4, f4, k4⟩ := wr_of s3 (k3 _ _ hp) gp3 (.inl rfl) e4
      have Dp : D1 ≠ p := (ne_of_none hp z1).symm
      refine ⟨(by show 0 ≤ sizeLine; decide), fun W1 nW1 => ?_⟩
      generalize e5 : upd H4 W1 _ = H5
      obtain ⟨s5, f5, k5, g5, z5⟩ := own_of s4 nW1 e5
      refine ⟨_, rfl, p, C, dx, _, rfl, k5 _ _ f4, T.cl, T.n2, (by show 1 < 1000; decide), ?_⟩
      rw [df_i1]
      generalize e6 : upd H5 p _ = H6
      obtain ⟨s6, f6, k6⟩ := wr_of s5 (k5 _ _ f4) gp3 (.inl rfl) e6
      refine ⟨_, rfl, p, C, dx, _, rfl, f6, T.cl, T.n3, (by show 2 < 1000; decide), ?_⟩
      rw [df_i2]
      generalize e7 : upd H6 p _ = H7
      obtain ⟨s7, f7, k7⟩ := wr_of s6 f6 gp3 (.inl rfl) e7
      refine ⟨(by show 0 ≤ sizeLine; decide), fun R1 nR1 => ?_⟩
      generalize e8 : upd H7 R1 _ = H8
      obtain ⟨G8, s8, f8, gg8, k8, gk8⟩ := data_of s7 nR1 e8
      refine ⟨_, rfl, p, C, dx, _, rfl, k8 _ _ f7, T.cl, T.n4, (by show 3 < 1000; decide), ?_⟩
      rw [df_i3]
      have npR : p ≠ R1 := ne_of_none f7 nR1
      have gp8 : G8 p = none := by rw [gk8 p npR]; exact gp3
      generalize e9 : upd H8 p _ = H9
      obtain ⟨s9, f9, k9⟩ := wr_of s8 (k8 _ _ f7) gp8 (.inl rfl) e9
      refine ⟨_, rfl, p, C, dx, _, rfl, f9, T.cl, T.n5, (by show 4 < 1000; decide), ?_⟩
      rw [df_i4]
      generalize e10 : upd H9 p _ = H10
      obtain ⟨s10, f10, k10⟩ := wr_of s9 f9 gp8 (.inl rfl) e10
      have Wp : W1 ≠ p := (ne_of_none f4 nW1).symm
      have WR : W1 ≠ R1 := ne_of_none (k7 _ _ Wp (k6 _ _ Wp f5)) nR1
      have fD6 := k6 _ _ Dp (k5 _ _ (k4 _ _ Dp f3))
      have DR : D1 ≠ R1 := ne_of_none (k7 _ _ Dp fD6) nR1
      refine k D1 W1 G8 H10 s10 ⟨⟨dx, R1, f10, R1, [], rfl, f8, .nil⟩, ⟨kvs, k10 _ _ Dp (k9 _ _ Dp (k8 _ _ (k7 _ _ Dp fD6))), r3.mono mSec gg8⟩, ⟨[], k10 _ _ Wp (k9 _ _ Wp (k8 _ _ (k7 _ _ Wp (k6 _ _ Wp f5)))), .nil⟩,
        gp8, by rw [gk8 D1 DR]; exact g3, by rw [gk8 W1 WR]; exact g5⟩ z1 z5
/-! ### the draws -/
structure StAt (G H : Hp) (s c : Addr) : Prop where
  ex : ∃ (n : Int) (cells : List Int), H s = some (.lst [.int n, .ref c]) ∧ H c = some (rowI cells) ∧ 0 ≤ n ∧ 0 < cells.length ∧ ∀ x ∈ cells, 0 ≤ x
  gs : G s = none
  gc : G c = none
  ne : s ≠ c
theorem StAt.stp {O : Addr → Prop} {G H G' H' : Hp} {s c : Addr} (h : StAt G H s c) (e : Stp O G H G' H') (n1 : ¬ O s) (n2 : ¬ O c) : StAt G' H' s c := by
  obtain ⟨n, cells, h1, h2, r⟩ := h.ex
  exact ⟨⟨n, cells, e.kp _ _ h1 n1, e.kp _ _ h2 n2, r⟩, e.nw _ (ne_none h1) h.gs, e.nw _ (ne_none h2) h.gc, h.ne⟩
def spState (K : PySem.W.Frag) : Sp := fun vs H Q _ => ∃ (G : Hp) (a : Addr) (ns : List Int), vs = [.ref a] ∧ Same G H ∧ SqL K H a (ns.map V.int) ∧
  ∀ s c H', Stp O0 G H G H' → StAt G H' s c → H s = none → H c = none → Q (.ref s) H'
abbrev s__law_state : Stmt := top 23
theorem sc__law_state : FnScope ["script", "cells", "cell"] ["script"] (defScope s__law_state) := ⟨rfl, rfl, rfl, by decide +kernel, rfl, by decide +kernel, by decide +kernel⟩
theorem ok_state {f : Addr} {fd : FuncData} (F : Fun K "_law_state" "_law_state" s__law_state f fd) (T : Txt K mg C tS) : FnOk P w K mg base CX0 1 f fd ["script"] (spState K) := by
  refine F.ok sc__law_state (fun vs H Q E h => ?_) (fun cdv A outer st H vs Q E hr h => ?_)
  · obtain ⟨G, a, ns, rfl, _⟩ := h
    rfl
  · obtain ⟨G, a, ns, rfl, gh, ha, k⟩ := h
    have nd := sc__law_state.nd
    refine ⟨_, (pss_cons (ps_setLc (i := 1) (own := [("cell", 2)]) rfl nd rfl rfl (sw_true rfl rfl rfl (by decide +kernel)) (pi_listK (K := K) rfl (pe_slice (sl_listK (K := K) rfl) (pv 0) po_none (po_some pe_int))) (blkOk_by (own := [("cell", 2)]) (N := ["script", "cells", "cell"]) (sc := defScope s__law_state) (by decide +kernel)) (fun _ _ _ _ _ => (pg_name (i := 2) nd rfl (Or.inl rfl))) (fun _ _ _ _ _ => pts_nil) (fun _ _ _ _ _ => (pe_callB call_abs (by rfl) T.b_abs (by decide +kernel) (pa_cons (pv 2) pa_nil))))
    (pss_cons (ps_if (pt_cmpR op_eq (pe_callB (call_len_seqK (K := K) rfl) (by rfl) T.b_len (by decide +kernel) (pa_cons (pv 1) pa_nil)) pe_int (nomark _))
    (pss_one (ps_set (i := 1) nd rfl (Or.inl rfl) (pe_lst (pa_cons pe_int pa_nil))))
    pss_nil)
    (pss_one (ps_ret (pe_lst (pa_cons pe_int (pa_cons (pv 1) pa_nil))))))), ?_⟩
    refine ⟨_, rfl, _, rfl, a, _, rfl, ha, fun S1 nS1 => ?_⟩
    rw [show ((63 : Int)) = ((63 : Nat) : Int) from rfl, cut_to]
    generalize e1 : upd H S1 _ = H1
    obtain ⟨s1, f1, k1, g1, z1⟩ := own_of (Stp.refl (O := O0) gh) nS1 e1
    rw [← List.map_take] at f1
    have hms : (ns.take 63).length ≤ 63 := by rw [List.length_take]; omega
    generalize ns.take 63 = ms at f1 hms
    refine ⟨S1, rfl, ⟨_, SqL.of f1⟩, fun D1 nD1 => ?_⟩
    obtain ⟨s2, f2, k2, g2, z2⟩ := own_of (o := .lst []) s1 nD1 rfl
    refine lc_list (K := K) (a := S1) (xs := ms.map V.int) (fun i H3 => Stp O0 G H G H3 ∧ H3 S1 = some (rowI ms) ∧ ∃ acc, H3 D1 = some (rowI acc) ∧ acc.length ≤ i ∧ ∀ x ∈ acc, 0 ≤ x)
      ⟨s2, k2 _ _ f1, [], f2, Nat.le_refl _, fun x hx => by cases hx⟩ (fun i H3 _ ⟨_, q, _⟩ => SqL.of q) ?_ ?_
    · rintro i y H3 hi ⟨s3, q3, acc, f3, l3, p3⟩
      obtain ⟨n, hn, rfl⟩ : ∃ n, ms[i]? = some n ∧ y = V.int n := by
        rw [List.getElem?_map] at hi
        cases e : ms[i]? with
        | none => rw [e] at hi; cases hi
        | some z => rw [e] at hi; exact ⟨z, rfl, (Option.some.inj hi).symm⟩
      have hi63 := (List.getElem?_eq_some_iff.mp hn).1
      refine ⟨rfl, g_yes ⟨_, rfl, _, rfl, acc.map V.int, f3, by rw [List.length_map, sizeLine_eq]; omega, ?_⟩⟩
      generalize e4 : upd H3 D1 _ = H4
      obtain ⟨s4, f4, k4⟩ := wr_of s3 f3 g2 (.inr z2) e4
      refine ⟨s4, k4 _ _ (ne_of_none f1 nD1) q3, acc ++ [if n < 0 then -n else n], by rw [f4]; show _ = some (HO.lst ((acc ++ [_]).map V.int)); rw [List.map_append]; rfl, by rw [List.length_append]; exact Nat.succ_le_succ l3, fun x hx => ?_⟩
      rcases List.mem_append.mp hx with e | e
      · exact p3 x e
      · have e := List.mem_singleton.mp e
        rw [e]
        split <;> omega
    · rintro H3 ⟨s3, q3, acc, f3, l3, p3⟩
      refine ⟨_, rfl, D1, _, rfl, .inl (SqL.of f3), rfl, _, rfl, ?_⟩
      rw [List.length_map]
      refine if_int (fun e => ?_) (fun e => ?_)
      · refine ⟨(by show 1 ≤ sizeLine; decide), fun C1 nC1 => ?_⟩
        generalize e4 : upd H3 C1 _ = H4
        obtain ⟨s4, f4, k4, g4, z4⟩ := own_of s3 nC1 e4
        refine ⟨_, rfl, (by show 2 ≤ sizeLine; decide), fun S2 nS2 => ?_⟩
        generalize e5 : upd H4 S2 _ = H5
        obtain ⟨s5, f5, k5, g5, z5⟩ := own_of s4 nS2 e5
        exact k S2 C1 H5 s5 ⟨⟨0, [0], f5, k5 _ _ f4, Int.le_refl _, by decide, fun x hx => by rw [List.mem_singleton.mp hx]; exact Int.le_refl _⟩, g5, g4, (ne_of_none f4 nS2).symm⟩ z5 z4
      · refine ⟨_, rfl, (by show 2 ≤ sizeLine; decide), fun S2 nS2 => ?_⟩
        generalize e5 : upd H3 S2 _ = H5
        obtain ⟨s5, f5, k5, g5, z5⟩ := own_of s3 nS2 e5
        exact k S2 D1 H5 s5 ⟨⟨0, acc, f5, k5 _ _ f3, Int.le_refl _, by omega, p3⟩, g5, g2, (ne_of_none f3 nS2).symm⟩ z5 z2
def spTake : Sp := fun vs H Q _ => ∃ (G : Hp) (s c : Addr) (m : Int), vs = [.ref s, .int m] ∧ Same G H ∧ StAt G H s c ∧ 0 < m ∧ m < 1073741824 ∧
  ∀ r H', 0 ≤ r → r < m → Stp (fun b => b = s ∨ b = c) G H G H' → StAt G H' s c → Q (.int r) H'
abbrev s__law_take : Stmt := top 24
theorem sc__law_take : FnScope ["state", "most", "cells", "at", "cell", "mixed"] ["state", "most"] (defScope s__law_take) := ⟨rfl, rfl, rfl, by decide +kernel, rfl, by decide +kernel, by decide +kernel⟩
theorem ok_take {f : Addr} {fd : FuncData} (F : Fun K "_law_take" "_law_take" s__law_take f fd) (T : Txt K mg C tS) : FnOk P w K mg base CX0 1 f fd ["state", "most"] (spTake) := by
  refine F.ok sc__law_take (fun vs H Q E h => ?_) (fun cdv A outer st H vs Q E hr h => ?_)
  · obtain ⟨G, s, c, m, rfl, _⟩ := h
    rfl
  · obtain ⟨G, s, c, m, rfl, gh, S, m0, m1, k⟩ := h
    have nd := sc__law_take.nd
    refine ⟨_, (pss_cons (ps_set (i := 2) nd rfl (Or.inl rfl) (pe_ix (ix_listK (K := K) rfl) (pv 0) pe_int (fun _ _ => rfl)))
    (pss_cons (ps_set (i := 3) nd rfl (Or.inl rfl) (pe_op op_mod (pe_ix (ix_listK (K := K) rfl) (pv 0) pe_int (fun _ _ => rfl)) (pe_callB (call_len_seqK (K := K) rfl) (by rfl) T.b_len (by decide +kernel) (pa_cons (pv 2) pa_nil))))
    (pss_cons (ps_set (i := 4) nd rfl (Or.inl rfl) (pe_ix (ix_listK (K := K) rfl) (pv 2) (pv 3) (fun _ _ => rfl)))
    (pss_cons (ps_if (pt_cmpR op_ge (pv 4) pe_int (nomark _))
    (pss_cons (ps_asg (pe_op op_fdiv (pv 4) (pv 1)) (pg_sub (pv 2) (pv 3) set_list))
    (pss_one (ps_ret (pe_op op_mod (pv 4) (pv 1)))))
    pss_nil)
    (pss_cons (ps_asg (pe_op op_add (pe_ix (ix_listK (K := K) rfl) (pv 0) pe_int (fun _ _ => rfl)) pe_int) (pg_sub (pv 0) pe_int set_list))
    (pss_cons (ps_set (i := 5) nd rfl (Or.inl rfl) (pe_op op_mod (pe_callTy call_int1 (by rfl) T.b_int (by decide +kernel) (pa_cons (pe_op op_add (pe_op op_mul (pv 4) pe_int) (pe_op op_mul (pe_ix (ix_listK (K := K) rfl) (pv 0) pe_int (fun _ _ => rfl)) pe_int)) pa_nil)) pe_int))
    (pss_cons (ps_set (i := 5) nd rfl (Or.inl rfl) (pe_op op_mod (pe_callTy call_int1 (by rfl) T.b_int (by decide +kernel) (pa_cons (pe_op op_add (pe_op op_mul (pv 5) pe_int) (pe_op op_mul (pe_ix (ix_listK (K := K) rfl) (pv 0) pe_int (fun _ _ => rfl)) pe_int)) pa_nil)) pe_int))
    (pss_one (ps_ret (pe_op op_mod (pe_op op_fdiv (pv 5) pe_int) (pv 1))))))))))), ?_⟩
    obtain ⟨n, cells, h1, h2, n0, cl, cp⟩ := id S.ex
    have s0 : Stp (fun b => b = s ∨ b = c) G H G H := Stp.refl gh
    have lc : (0 : Int) < ((cells.map V.int).length : Int) := by rw [List.length_map]; omega
    have r0 := Int.emod_nonneg n (Int.ne_of_gt lc)
    have r1 := Int.emod_lt_of_pos n lc
    obtain ⟨j, ej⟩ : ∃ j : Nat, n % ((cells.map V.int).length : Int) = (j : Int) := ⟨(n % ((cells.map V.int).length : Int)).toNat, by omega⟩
    have hj : j < cells.length := by rw [List.length_map] at r1 ej; omega
    have hcell : (cells.map V.int)[j]? = some (.int cells[j]) := by rw [List.getElem?_map, List.getElem?_eq_getElem hj]; rfl
    have c0 := cp _ (List.getElem_mem hj)
    refine ⟨_, rfl, s, _, _, _, rfl, rfl, SqL.of h1, at_of (j := 1) rfl rfl, ?_⟩
    refine ⟨_, rfl, s, _, _, _, rfl, rfl, SqL.of h1, at_of (j := 0) rfl rfl, _, rfl, c, _, rfl, .inl (SqL.of h2), _, _, rfl, rfl, lc, ?_⟩
    refine ⟨_, rfl, _, rfl, c, _, _, _, rfl, rfl, SqL.of h2, at_of ej hcell, ?_⟩
    refine ⟨_, rfl, _, _, rfl, rfl, _, rfl, if_dec (fun b => ?_) (fun b => ?_)⟩
    · refine ⟨_, rfl, _, rfl, _, _, rfl, rfl, ⟨m0, m1⟩, _, rfl, _, rfl, c, _, _, j, rfl, rfl, h2, ?_, ?_⟩
      · rw [ej]
        unfold ixN
        rw [if_pos (by omega), if_pos (by rw [List.length_map]; omega), Int.toNat_natCast]
      generalize e1 : upd H c _ = H1
      obtain ⟨s1, f1, k1⟩ := wr_of s0 h2 S.gc (.inl (.inr rfl)) e1
      refine ⟨_, rfl, _, rfl, _, _, rfl, rfl, m0, ?_⟩
      refine k _ H1 (Int.emod_nonneg _ (by omega)) (Int.emod_lt_of_pos _ m0) s1 ⟨⟨n, cells.set j (cells[j] / m), k1 _ _ S.ne h1, by rw [f1]; show _ = some (HO.lst ((cells.set j _).map V.int)); rw [List.map_set], n0, by rw [List.length_set]; exact cl, fun x hx => ?_⟩, S.gs, S.gc, S.ne⟩
      rcases List.mem_or_eq_of_mem_set hx with e | e
      · exact cp x e
      · rw [e]
        exact Int.ediv_nonneg c0 (by omega)
    · refine ⟨_, rfl, s, _, _, _, rfl, rfl, SqL.of h1, at_of (j := 0) rfl rfl, _, _, rfl, rfl, _, rfl, s, _, _, 0, rfl, rfl, h1, rfl, ?_⟩
      generalize e1 : upd H s _ = H1
      obtain ⟨s1, f1, k1⟩ := wr_of s0 h1 S.gs (.inl (.inl rfl)) e1
      have f1' : H1 s = some (.lst [.int (n + 1), .ref c]) := f1
      refine ⟨_, rfl, _, _, rfl, rfl, .inr ⟨by decide, by decide⟩, _, rfl, s, _, _, _, rfl, rfl, SqL.of f1', at_of (j := 0) rfl rfl, _, _, rfl, rfl, .inr ⟨by decide, by decide⟩, _, _, rfl, rfl, .inl ⟨_, rfl, ?_⟩⟩
      refine ⟨_, _, rfl, rfl, (by show (0 : Int) < 2147483647; decide), ?_⟩
      refine ⟨_, rfl, _, _, rfl, rfl, .inr ⟨by decide, by decide⟩, _, rfl, s, _, _, _, rfl, rfl, SqL.of f1', at_of (j := 0) rfl rfl, _, _, rfl, rfl, .inr ⟨by decide, by decide⟩, _, _, rfl, rfl, .inl ⟨_, rfl, ?_⟩⟩
      refine ⟨_, _, rfl, rfl, (by show (0 : Int) < 1000000007; decide), ?_⟩
      refine ⟨_, rfl, _, _, rfl, rfl, ⟨by decide, by decide⟩, _, rfl, _, _, rfl, rfl, m0, ?_⟩
      exact k _ H1 (Int.emod_nonneg _ (by omega)) (Int.emod_lt_of_pos _ m0) s1 ⟨⟨n + 1, cells, f1', k1 _ _ S.ne.symm h2, by omega, cl, cp⟩, S.gs, S.gc, S.ne⟩
end
end K51

/-! KBM: batches as plain functions of what a disk reads. -/
namespace K51
open Y
abbrev Page := List Int
abbrev BRows := List (Int × Page)
abbrev Rd := Int → Sec
def four (n : Int) : List Int := [n / 16777216 % 256, n / 65536 % 256, n / 256 % 256, n % 256]
def ofFour (x : List Int) : Int := x.getD 0 0 * 16777216 + x.getD 1 0 * 65536 + x.getD 2 0 * 256 + x.getD 3 0
def lg (k : Int) : Int := 3 + 2 * k
def hm (page part : Int) : Int := 2 + 2 * (4 * page + part)
/-- xs[a:b] -/
def sl (xs : List Int) (a b : Nat) : List Int := (xs.take b).drop a
theorem sl_len {xs : List Int} {a b : Nat} (h : b ≤ xs.length) : (sl xs a b).length = b - a := by
  unfold sl
  rw [List.length_drop, List.length_take]
  omega
theorem four_len (n : Int) : (four n).length = 4 := rfl
theorem ofFour_four {n : Int} (h0 : 0 ≤ n) (h1 : n < 4294967296) : ofFour (four n) = n := by
  unfold ofFour four
  simp only [List.getD_cons_zero, List.getD_cons_succ]
  omega
/-! ### what a batch holds -/
def contOf (epoch : Int) (rows : BRows) : List Int := four epoch ++ four rows.length ++ rows.flatMap fun r => four r.1 ++ r.2
/-- parts of fifteen, each behind a 0, the last one filled up -/
def parts (c : List Int) : Nat := (c.length + 14) / 15
def part (c : List Int) (i : Nat) : Sec := 0 :: ((c.drop (15 * i)).take 15 ++ List.replicate (15 - ((c.drop (15 * i)).take 15).length) 0)
theorem part_len (c : List Int) (i : Nat) : (part c i).length = 16 := by
  unfold part
  rw [List.length_cons, List.length_append, List.length_replicate]
  have : ((c.drop (15 * i)).take 15).length ≤ 15 := by rw [List.length_take]; omega
  omega
def partsL (c : List Int) : List Sec := (List.range (parts c)).map (part c)
def mark (x : Sec) : Sec := 1 :: x.drop 1
/-! ### the log -/
def strm (rd : Rd) (place : Int) (m : Nat) : List Int := (List.range m).flatMap fun i : Nat => (rd (lg (place + i))).drop 1
def secs (k : Nat) : Nat := (22 + 68 * k) / 15
def brow (rd : Rd) (place : Int) (k : Nat) : Int × Page :=
  (ofFour (sl (strm rd place (secs (k + 1))) (8 + 68 * k) (12 + 68 * k)), sl (strm rd place (secs (k + 1))) (12 + 68 * k) (76 + 68 * k))
def headOk (rd : Rd) (place epoch : Int) : Prop := (rd (lg place)).getD 0 0 = 1 ∧ ofFour (sl (rd (lg place)) 1 5) = epoch
instance (rd : Rd) (place epoch : Int) : Decidable (headOk rd place epoch) := by unfold headOk; exact inferInstance
def cnt (rd : Rd) (place : Int) : Nat := (ofFour (sl (rd (lg place)) 5 9)).toNat
def browsN (rd : Rd) (place : Int) (n : Nat) : BRows := (List.range n).map (brow rd place)
def rising (rows : BRows) : Prop := (rows.map (·.1)).Pairwise (· < ·)
instance (rows : BRows) : Decidable (rising rows) := by unfold rising; exact inferInstance
def batchAt (rd : Rd) (place epoch : Int) : Option (BRows × Int) :=
  if headOk rd place epoch then (if rising (browsN rd place (cnt rd place)) then some (browsN rd place (cnt rd place), (secs (cnt rd place) : Nat)) else none) else none
theorem strm_succ (rd : Rd) (place : Int) (m : Nat) : strm rd place (m + 1) = strm rd place m ++ (rd (lg (place + m))).drop 1 := by
  unfold strm
  rw [List.range_succ, List.flatMap_append]
  simp
theorem strm_len {rd : Rd} (h : ∀ n, (rd n).length = 16) (place : Int) : ∀ m, (strm rd place m).length = 15 * m
  | 0 => rfl
  | m + 1 => by
    rw [strm_succ, List.length_append, strm_len h place m, List.length_drop, h]
    omega
theorem strm_one (rd : Rd) (place : Int) : strm rd place 1 = (rd (lg place)).drop 1 := by
  rw [strm_succ]
  show [] ++ _ = _
  rw [List.nil_append]
  simp
theorem secs_le {j k : Nat} (h : j ≤ k) : secs j ≤ secs k := by
  unfold secs
  exact Nat.div_le_div_right (by omega)
theorem browsN_succ (rd : Rd) (place : Int) (n : Nat) : browsN rd place (n + 1) = browsN rd place n ++ [brow rd place n] := by
  unfold browsN
  rw [List.range_succ, List.map_append]
  rfl
theorem rising_snoc {rows : BRows} {r : Int × Page} : rising (rows ++ [r]) ↔ rising rows ∧ ∀ x ∈ rows, x.1 < r.1 := by
  unfold rising
  rw [List.map_append, List.pairwise_append]
  constructor
  · rintro ⟨h1, _, h3⟩
    exact ⟨h1, fun x hx => h3 x.1 (List.mem_map_of_mem hx) r.1 (by simp)⟩
  · rintro ⟨h1, h3⟩
    refine ⟨h1, List.pairwise_singleton _ _, fun a ha b hb => ?_⟩
    obtain ⟨x, hx, rfl⟩ := List.mem_map.mp ha
    simp at hb
    subst hb
    exact h3 x hx
theorem rising_last {rows : BRows} {l r : Int × Page} (h : rising rows) (hl : rows.getLast? = some l) (hr : l.1 < r.1) : rising (rows ++ [r]) := by
  refine rising_snoc.mpr ⟨h, fun x hx => ?_⟩
  obtain ⟨ys, rfl⟩ := List.getLast?_eq_some_iff.mp hl
  rcases List.mem_append.mp hx with hx | hx
  · have := (rising_snoc.mp h).2 x hx
    omega
  · simp at hx
    subst hx
    exact hr
/-! ### roots -/
def rootAt (rd : Rd) (place : Int) : Option (Int × Int) := if (rd place).getD 0 0 = 1 then some (ofFour (sl (rd place) 1 5), ofFour (sl (rd place) 5 9)) else none
/-- how many rows a head tells: not too many of them rise -/
def CntOk (rd : Rd) (place epoch : Int) : Prop := headOk rd place epoch → 0 ≤ ofFour (sl (rd (lg place)) 5 9) ∧ ofFour (sl (rd (lg place)) 5 9) ≤ 4294967295 ∧ ∀ i : Nat, i ≤ cnt rd place → rising (browsN rd place i) → i ≤ 60000
/-! ### the batches that stand in a log, from place on -/
inductive LogIs (rd : Rd) (epoch : Int) : Int → List BRows → Int → Prop
  | nil {e : Int} : batchAt rd e epoch = none → CntOk rd e epoch → LogIs rd epoch e [] e
  | cons {e e' : Int} {b : BRows} {s : Int} {bs : List BRows} : batchAt rd e epoch = some (b, s) → CntOk rd e epoch → LogIs rd epoch (e + s) bs e' → LogIs rd epoch e (b :: bs) e'
def takeR (pages : List (Int × Page)) (rows : BRows) : List (Int × Page) := rows.foldl (fun s x => put s x.1 x.2) pages
/-- a Batches object -/
structure BS where
  place : Int
  epoch : Int
  many : Int
  pages : List (Int × Page)
  fin : Int
def pageOf (rd : Rd) (pages : List (Int × Page)) (n : Int) : Page := match look pages n with
  | some p => p
  | none => rd (hm n 0) ++ rd (hm n 1) ++ rd (hm n 2) ++ rd (hm n 3)
/-! ### a commit upon a disk -/
def DS.writes (d : DS) (l : List (Int × Sec)) : DS := l.foldl (fun d x => d.write x.1 x.2) d
def logW (e : Int) (c : List Int) : List (Int × Sec) := (List.range (parts c)).map fun i : Nat => (lg (e + i), part c i)
def DS.commit (d : DS) (epoch e : Int) (rows : BRows) : DS :=
  let c := contOf epoch rows
  (((d.writes (logW e c)).sync).write (lg e) (mark (part c 0))).sync
end K51

/-! KB1: the small functions of batches. -/
namespace K51
open PySem PySem.Spec PyProof.Rows L2 Y
/-- what the batches' text leans on -/
structure TxB (K : PySem.W.Frag) (mg : Str → Option Value) (B : Addr) (tP tR tW tH : Tok) : Prop where
  cl : Cls K B
  m1 : NoAttr K B "disk"
  m2 : NoAttr K B "bend"
  m3 : NoAttr K B "place"
  m4 : NoAttr K B "epoch"
  m5 : NoAttr K B "many"
  m6 : NoAttr K B "pages"
  m7 : NoAttr K B "end"
  c_PAGE : mg "PAGE" = some (.int 64 tP)
  c_ROOM : mg "ROOM" = some (.int 15 tR)
  c_ROW : mg "ROW" = some (.int 68 tW)
  c_HEAD : mg "HEAD" = some (.int 8 tH)
  b_list : mg "list" = none
  b_len : mg "len" = none
  b_max : mg "max" = none
  b_range : mg "range" = none
  b_enumerate : mg "enumerate" = none
section
variable {P : Program} {w : World} {K : PySem.W.Frag} {mg : Str → Option Value} {base : Heap} {C B : Addr} {tP tR tW tH : Tok}
def spFour : Sp := fun vs H Q _ => ∃ (G : Hp) (n : Int), vs = [.int n] ∧ Same G H ∧ ∀ q G' H', Stp O0 G H G' H' → H q = none → G' q = none → H' q = some (rowI (four n)) → Q (.ref q) H'
def spOfFour : Sp := fun vs H Q _ => ∃ (a : Addr) (x : List Int), vs = [.ref a] ∧ H a = some (rowI x) ∧ 4 ≤ x.length ∧ Q (.int (ofFour x)) H
def spHome : Sp := fun vs H Q _ => ∃ n k : Int, vs = [.int n, .int k] ∧ Q (.int (hm n k)) H
def spLogS : Sp := fun vs H Q _ => ∃ n : Int, vs = [.int n] ∧ Q (.int (lg n)) H
abbrev s_four : Stmt := top 9
theorem sc_four : FnScope ["number"] ["number"] (defScope s_four) := ⟨rfl, rfl, rfl, by decide +kernel, rfl, by decide +kernel, by decide +kernel⟩
theorem ok_four {f : Addr} {fd : FuncData} (F : Fun K "four" "four" s_four f fd) : FnOk P w K mg base CX0 1 f fd ["number"] spFour := by
  refine F.ok sc_four (fun vs H Q E h => ?_) (fun cdv A outer st H vs Q E hr h => ?_)
  · obtain ⟨G, n, rfl, _⟩ := h
    rfl
  · obtain ⟨G, n, rfl, gh, k⟩ := h
    have nd := sc_four.nd
    refine ⟨_, (pss_one (ps_ret (pe_lst (pa_cons (pe_op op_mod (pe_op op_fdiv (pv 0) pe_int) pe_int) (pa_cons (pe_op op_mod (pe_op op_fdiv (pv 0) pe_int) pe_int) (pa_cons (pe_op op_mod (pe_op op_fdiv (pv 0) pe_int) pe_int) (pa_cons (pe_op op_mod (pv 0) pe_int) pa_nil))))))), ?_⟩
    have z : (0 : Int) < 256 := by decide
    refine ⟨_, rfl, _, _, rfl, rfl, ⟨by decide, by decide⟩, _, _, rfl, rfl, z, _, rfl, _, _, rfl, rfl, ⟨by decide, by decide⟩, _, _, rfl, rfl, z, _, rfl, _, _, rfl, rfl, ⟨by decide, by decide⟩, _, _, rfl, rfl, z, _, rfl, _, _, rfl, rfl, z, (by show 4 ≤ sizeLine; decide), fun q nq => ?_⟩
    generalize e1 : upd H q _ = H1
    obtain ⟨s1, f1, _, g1, _⟩ := own_of (Stp.refl (O := O0) gh) nq e1
    exact k q G H1 s1 nq g1 f1
abbrev s_of_four : Stmt := top 10
theorem sc_of_four : FnScope ["octets"] ["octets"] (defScope s_of_four) := ⟨rfl, rfl, rfl, by decide +kernel, rfl, by decide +kernel, by decide +kernel⟩
theorem ok_of_four {f : Addr} {fd : FuncData} (F : Fun K "of_four" "of_four" s_of_four f fd) : FnOk P w K mg base CX0 1 f fd ["octets"] spOfFour := by
  refine F.ok sc_of_four (fun vs H Q E h => ?_) (fun cdv A outer st H vs Q E hr h => ?_)
  · obtain ⟨a, x, rfl, _⟩ := h
    rfl
  · obtain ⟨a, x, rfl, ha, h4, k⟩ := h
    have nd := sc_of_four.nd
    refine ⟨_, (pss_one (ps_ret (pe_op op_add (pe_op op_add (pe_op op_add (pe_op op_mul (pe_ix (ix_listK (K := K) rfl) (pv 0) pe_int (fun _ _ => rfl)) pe_int) (pe_op op_mul (pe_ix (ix_listK (K := K) rfl) (pv 0) pe_int (fun _ _ => rfl)) pe_int)) (pe_op op_mul (pe_ix (ix_listK (K := K) rfl) (pv 0) pe_int (fun _ _ => rfl)) pe_int)) (pe_ix (ix_listK (K := K) rfl) (pv 0) pe_int (fun _ _ => rfl))))), ?_⟩
    have at4 : ∀ j : Nat, j < 4 → (x.map V.int)[j]? = some (.int (x.getD j 0)) := fun j hj => by
      rw [List.getElem?_map, List.getD_eq_getElem?_getD, List.getElem?_eq_getElem (by omega)]
      rfl
    have hs : SqL K H a (x.map V.int) := SqL.of ha
    refine ⟨_, rfl, a, _, _, _, rfl, rfl, hs, at_of (j := 0) rfl (at4 0 (by decide)), _, _, rfl, rfl, .inr ⟨by decide, by decide⟩, _, rfl, a, _, _, _, rfl, rfl, hs, at_of (j := 1) rfl (at4 1 (by decide)), _, _, rfl, rfl, .inr ⟨by decide, by decide⟩, _, _, rfl, rfl,
      _, rfl, a, _, _, _, rfl, rfl, hs, at_of (j := 2) rfl (at4 2 (by decide)), _, _, rfl, rfl, .inr ⟨by decide, by decide⟩, _, _, rfl, rfl, _, rfl, a, _, _, _, rfl, rfl, hs, at_of (j := 3) rfl (at4 3 (by decide)), _, _, rfl, rfl, k⟩
abbrev s_home_sector : Stmt := top 11
theorem sc_home_sector : FnScope ["page", "part"] ["page", "part"] (defScope s_home_sector) := ⟨rfl, rfl, rfl, by decide +kernel, rfl, by decide +kernel, by decide +kernel⟩
theorem ok_home {f : Addr} {fd : FuncData} (F : Fun K "home_sector" "home_sector" s_home_sector f fd) : FnOk P w K mg base CX0 1 f fd ["page", "part"] spHome := by
  refine F.ok sc_home_sector (fun vs H Q E h => ?_) (fun cdv A outer st H vs Q E hr h => ?_)
  · obtain ⟨n, m, rfl, _⟩ := h
    rfl
  · obtain ⟨n, m, rfl, k⟩ := h
    have nd := sc_home_sector.nd
    refine ⟨_, (pss_one (ps_ret (pe_op op_add pe_int (pe_op op_mul pe_int (pe_op op_add (pe_op op_mul pe_int (pv 0)) (pv 1)))))), ?_⟩
    exact ⟨_, rfl, _, _, rfl, rfl, .inl ⟨by decide, by decide⟩, _, rfl, _, _, rfl, rfl, _, _, rfl, rfl, .inl ⟨by decide, by decide⟩, _, _, rfl, rfl, k⟩
abbrev s_log_sector : Stmt := top 12
theorem sc_log_sector : FnScope ["place"] ["place"] (defScope s_log_sector) := ⟨rfl, rfl, rfl, by decide +kernel, rfl, by decide +kernel, by decide +kernel⟩
theorem ok_logS {f : Addr} {fd : FuncData} (F : Fun K "log_sector" "log_sector" s_log_sector f fd) : FnOk P w K mg base CX0 1 f fd ["place"] spLogS := by
  refine F.ok sc_log_sector (fun vs H Q E h => ?_) (fun cdv A outer st H vs Q E hr h => ?_)
  · obtain ⟨n, rfl, _⟩ := h
    rfl
  · obtain ⟨n, rfl, k⟩ := h
    have nd := sc_log_sector.nd
    refine ⟨_, (pss_one (ps_ret (pe_op op_add pe_int (pe_op op_mul pe_int (pv 0))))), ?_⟩
    exact ⟨_, rfl, _, _, rfl, rfl, .inl ⟨by decide, by decide⟩, _, _, rfl, rfl, k⟩
end
end K51

/-! KB2: roots, the content of a batch, its parts. -/
namespace K51
open PySem PySem.Spec PyProof.Rows L2 Y
theorem cut_mid (xs : List Int) {a b : Nat} (h : a ≤ b) : cutV (xs.map V.int) (some (a : Int)) (some (b : Int)) = (sl xs a b).map V.int := by
  unfold cutV sl
  rw [HT.sIx_nat, HT.sIx_nat, List.length_map, List.map_drop, List.map_take, List.drop_take]
  by_cases h1 : b ≤ xs.length
  · rw [Nat.min_eq_left h1, Nat.min_eq_left (by omega)]
  · rw [Nat.min_eq_right (by omega : xs.length ≤ b)]
    by_cases h2 : a ≤ xs.length
    · rw [Nat.min_eq_left h2, List.take_of_length_le (by rw [List.length_drop, List.length_map]; omega), List.take_of_length_le (by rw [List.length_drop, List.length_map]; omega)]
    · rw [Nat.min_eq_right (by omega), List.drop_eq_nil_of_le (by rw [List.length_map]; omega), List.drop_eq_nil_of_le (by rw [List.length_map]; omega)]
      simp
theorem cut_mid1 (xs : List Int) : cutV (xs.map V.int) (some 1) (some 5) = (sl xs 1 5).map V.int := cut_mid xs (a := 1) (b := 5) (by decide)
theorem cut_mid5 (xs : List Int) : cutV (xs.map V.int) (some 5) (some 9) = (sl xs 5 9).map V.int := cut_mid xs (a := 5) (b := 9) (by decide)
theorem cut_1 (xs : List Int) : cutV (xs.map V.int) (some 1) none = (xs.drop 1).map V.int := by
  have := cut_from (xs.map V.int) 1
  rw [List.map_drop]
  exact this
theorem rgC_up {i j c : Int} {n : Nat} (hc : 0 < c) (hc2 : c < 1073741824) (ha : -(2 ^ 62) ≤ i) (ha' : i < 2 ^ 62) (hb : -(2 ^ 62) ≤ j) (hb' : j < 2 ^ 62) (e : (n : Int) = if i < j then (j - i - 1) / c + 1 else 0) : RgC i j c n := by
  have er : Builtin.Range.rangeSize i j c = n := by
    unfold Builtin.Range.rangeSize
    rw [if_pos hc, e]
  have hq : i < j → (j - i - 1) / c ≤ j - i - 1 := fun h => Int.ediv_le_self _ (by omega)
  have hz : i < j → 0 ≤ (j - i - 1) / c := fun h => Int.ediv_nonneg (by omega) (by omega)
  have hn : (n : Int) < 2 ^ 63 := by
    rw [e]
    split
    · rename_i h
      have := hq h
      omega
    · decide
  refine ⟨by omega, by omega, ?_, er⟩
  unfold Builtin.Range.small
  rw [er]
  simp only [Builtin.Range.rangeFitsLong, Bool.and_eq_true, Bool.or_eq_true, decide_eq_true_eq, beq_iff_eq]
  have c1 : c ≤ 2 ^ 62 := by omega
  refine ⟨⟨⟨⟨⟨by omega, by omega⟩, by omega, by omega⟩, by omega, by omega⟩, by omega, hn⟩, .inr ?_⟩
  rw [if_pos hc]
  rw [Bool.and_eq_true, decide_eq_true_eq, decide_eq_true_eq]
  constructor <;> omega
theorem enc_len : ∀ {rows : BRows}, (∀ r ∈ rows, r.2.length = 64) → (rows.flatMap fun r => four r.1 ++ r.2).length = 68 * rows.length
  | [], _ => rfl
  | r :: rows, h => by
    rw [List.flatMap_cons, List.length_append, enc_len fun r hr => h r (List.mem_cons_of_mem _ hr), List.length_append, h r List.mem_cons_self, List.length_cons]
    show 4 + 64 + _ = _
    omega
theorem at0 {x : List Int} (h : 0 < x.length) : (x.map V.int)[0]? = some (.int (x.getD 0 0)) := by
  rw [List.getElem?_map, List.getD_eq_getElem?_getD, List.getElem?_eq_getElem h]
  rfl
def RootV (H G' H' : Hp) (v : V) : Option (Int × Int) → Prop
  | none => v = .non
  | some x => ∃ t, v = .ref t ∧ H t = none ∧ G' t = none ∧ H' t = some (.tup [.int x.1, .int x.2])
section
variable {P : Program} {w : World} {K : PySem.W.Frag} {mg : Str → Option Value} {base : Heap} {C B : Addr} {tP tR tW tH : Tok}
def spRootAt (C : Addr) : Sp := fun vs H Q _ => ∃ (G : Hp) (p s wl : Addr) (d : DS) (n : Int), vs = [.ref p, .int n] ∧ Same G H ∧ DiskAt C G H p s wl d ∧ (∀ n, (d.read n).length = 16) ∧
  ∀ v G' H', Stp O0 G H G' H' → RootV H G' H' v (rootAt d.read n) → Q v H'
abbrev s_root_at : Stmt := top 13
theorem sc_root_at : FnScope ["disk", "place", "content"] ["disk", "place"] (defScope s_root_at) := ⟨rfl, rfl, rfl, by decide +kernel, rfl, by decide +kernel, by decide +kernel⟩
theorem ok_root {f : Addr} {fd : FuncData} (F : Fun K "root_at" "root_at" s_root_at f fd) (L_of_four : FnC P w K mg base "of_four" 1 ["octets"] spOfFour) (L_Disk_read : MtC P w K mg base C "read" 2 ["self", "number"] (spRead C)) :
    FnOk P w K mg base CX0 3 f fd ["disk", "place"] (spRootAt C) := by
  refine F.ok sc_root_at (fun vs H Q E h => ?_) (fun cdv A outer st H vs Q E hr h => ?_)
  · obtain ⟨G, p, s, wl, d, n, rfl, _⟩ := h
    rfl
  · obtain ⟨G, p, s, wl, d, n, rfl, gh, D, l16, k⟩ := h
    have nd := sc_root_at.nd
    refine ⟨_, (pss_cons (ps_set (i := 2) nd rfl (Or.inl rfl) (pe_mtc (pv 0) L_Disk_read (hr.mono (by decide)) (pa_cons (pv 1) pa_nil)))
    (pss_one (ps_ret (pe_ifExp (pt_cmpR op_eq (pe_ix (ix_listK (K := K) rfl) (pv 2) pe_int (fun _ _ => rfl)) pe_int (nomark _)) (pe_tup (pa_cons (pe_fnc L_of_four (hr.mono (by decide)) rfl (pa_cons (pe_slice (sl_listK (K := K) rfl) (pv 2) (po_some pe_int) (po_some pe_int)) pa_nil)) (pa_cons (pe_fnc L_of_four (hr.mono (by decide)) rfl (pa_cons (pe_slice (sl_listK (K := K) rfl) (pv 2) (po_some pe_int) (po_some pe_int)) pa_nil)) pa_nil))) pe_non)))), ?_⟩
    obtain ⟨dx, rl, h1, _⟩ := id D.ob
    refine ⟨_, rfl, p, dx, _, rfl, h1, df_no (by decide +kernel) (by decide +kernel) (by decide +kernel) (by decide +kernel) (by decide +kernel), _, rfl, G, p, s, wl, d, n, rfl, gh, D, fun q G1 H1 s1 nq gq fq => ?_⟩
    have l := l16 n
    refine ⟨_, rfl, q, _, _, _, rfl, rfl, SqL.of fq, at_of (j := 0) rfl (at0 (by omega)), rfl, _, rfl, if_int (fun c => ?_) (fun c => ?_)⟩
    · refine ⟨_, rfl, _, rfl, _, rfl, q, _, rfl, SqL.of fq, fun p1 n1 => ?_⟩
      rw [cut_mid1]
      generalize e2 : upd H1 p1 _ = H2
      obtain ⟨s2, f2, k2, _, _⟩ := own_of s1 n1 e2
      refine ⟨p1, _, rfl, f2, by rw [sl_len (by omega)]; decide, ?_⟩
      refine ⟨_, rfl, _, rfl, _, rfl, q, _, rfl, SqL.of (k2 _ _ fq), fun p2 n2 => ?_⟩
      rw [cut_mid5]
      generalize e3 : upd H2 p2 _ = H3
      obtain ⟨s3, f3, k3, _, _⟩ := own_of s2 n2 e3
      refine ⟨p2, _, rfl, f3, by rw [sl_len (by omega)]; decide, (by show 2 ≤ sizeLine; decide), fun t nt => ?_⟩
      generalize e4 : upd H3 t _ = H4
      obtain ⟨s4, f4, k4, g4, z4⟩ := own_of s3 nt e4
      refine k _ G1 H4 s4 ?_
      unfold rootAt
      rw [if_pos c]
      exact ⟨t, rfl, z4, g4, f4⟩
    · refine k _ G1 H1 s1 ?_
      unfold rootAt
      rw [if_neg c]
      rfl
def spContent : Sp := fun vs H Q _ => ∃ (G : Hp) (e : Int) (a : Addr) (rows : BRows), vs = [.int e, .ref a] ∧ Same G H ∧ LstAt rSec H H a rows ∧ rows.length ≤ 1000 ∧ (∀ r ∈ rows, r.2.length = 64) ∧
  ∀ q G' H', Stp O0 G H G' H' → H q = none → G' q = none → H' q = some (rowI (contOf e rows)) → Q (.ref q) H'
abbrev s_content_of : Stmt := top 15
theorem sc_content_of : FnScope ["epoch", "rows", "found", "number", "page"] ["epoch", "rows"] (defScope s_content_of) := ⟨rfl, rfl, rfl, by decide +kernel, rfl, by decide +kernel, by decide +kernel⟩
theorem ok_content {f : Addr} {fd : FuncData} (F : Fun K "content_of" "content_of" s_content_of f fd) (T : TxB K mg B tP tR tW tH) (L_four : FnC P w K mg base "four" 1 ["number"] spFour) :
    FnOk P w K mg base CX0 2 f fd ["epoch", "rows"] spContent := by
  refine F.ok sc_content_of (fun vs H Q E h => ?_) (fun cdv A outer st H vs Q E hr h => ?_)
  · obtain ⟨G, e, a, rows, rfl, _⟩ := h
    rfl
  · obtain ⟨G, e, a, rows, rfl, gh, ⟨us, ha, pu⟩, hl, h64, k⟩ := h
    have nd := sc_content_of.nd
    refine ⟨_, (pss_cons (ps_set (i := 2) nd rfl (Or.inl rfl) (pe_op op_cat (pe_fnc L_four (hr.mono (by decide)) rfl (pa_cons (pv 0) pa_nil)) (pe_fnc L_four (hr.mono (by decide)) rfl (pa_cons (pe_callB (call_len_seqK (K := K) rfl) (by rfl) T.b_len (by decide +kernel) (pa_cons (pv 1) pa_nil)) pa_nil))))
    (pss_cons (ps_for PassesOwn.never rfl (pi_listK (K := K) rfl (pv 1)) (pg_tupK (K := K) (n := 2) rfl rfl (pgs_cons (pg_name (i := 3) nd rfl (Or.inl rfl)) (pgs_cons (pg_name (i := 4) nd rfl (Or.inl rfl)) pgs_nil)))
    (pss_one (ps_expr (pe_bmK (K := K) rfl PySem.F.plainAttrs_list PySem.F.slot_list_extend PySem.F.type_list_extend mt_extend (pv 2) (pa_cons (pe_op op_cat (pe_fnc L_four (hr.mono (by decide)) rfl (pa_cons (pv 3) pa_nil)) (pe_callTy (call_list_ofK (K := K) rfl) (by rfl) T.b_list (by decide +kernel) (pa_cons (pv 4) pa_nil))) pa_nil)))))
    (pss_one (ps_ret (pv 2))))), ?_⟩
    refine ⟨_, rfl, G, e, rfl, gh, fun q1 G1 H1 s1 n1 g1 f1 => ?_⟩
    have ha1 := s1.kp _ _ ha fun z => z
    refine ⟨_, rfl, a, _, rfl, .inl (SqL.of ha1), G1, _, rfl, s1.gh, fun q2 G2 H2 s2 n2 g2 f2 => ?_⟩
    have s12 := s1.trans s2 fun b z => z.elim
    have f12 := s2.kp _ _ f1 fun z => z
    refine ⟨q1, q2, _, _, rfl, rfl, f12, f2, ?_, fun q nq => ?_⟩
    · rw [List.length_map, List.length_map]
      show 4 + 4 ≤ sizeLine
      decide
    generalize e3 : upd H2 q _ = H3
    obtain ⟨s3, f3, k3, g3, z3⟩ := own_of s12 nq e3
    rw [← List.map_append] at f3
    have elen := pd_len pu
    refine ⟨_, rfl, a, rfl, ⟨_, SqL.of (s3.kp _ _ ha fun z => z)⟩, for_list (K := K) (a := a) (xs := us)
      (fun i σ H4 => (∃ x3 x4, σ = [some (.int e), some (.ref a), some (.ref q), x3, x4]) ∧ ∃ G4, Stp O0 G H G4 H4 ∧ G4 q = none ∧ H4 q = some (rowI (four e ++ four (us.length : Int) ++ (rows.take i).flatMap fun r => four r.1 ++ r.2)))
      ⟨⟨_, _, rfl⟩, _, s3, g3, by rw [List.take_zero, List.flatMap_nil, List.append_nil]; exact f3⟩ (fun i σ H4 _ ⟨_, G4, s4, _, _⟩ => SqL.of (s4.kp _ _ ha fun z => z)) ?_ ?_⟩
    · rintro i y σ H4 hi ⟨⟨x3, x4, rfl⟩, G4, s4, g4, f4⟩
      obtain ⟨r, hr', t, u, c0, rfl, ht, hu', hc⟩ := pd_get pu hi
      cases hu'
      obtain ⟨c, rfl, hcc⟩ := rLI hc
      have hi2 := (List.getElem?_eq_some_iff.mp hr').1
      have r64 := h64 r (List.mem_of_getElem? hr')
      refine g_pair (s4.kp _ _ ht fun z => z) ?_
      refine ⟨_, rfl, .inl ⟨rfl, _, SqL.of f4⟩, _, rfl, G4, _, rfl, s4.gh, fun q5 G5 H5 s5 n5 g5 f5 => ?_⟩
      have s45 := s4.trans s5 fun b z => z.elim
      refine ⟨_, rfl, c, _, rfl, .inl (SqL.of (s45.kp _ _ hcc fun z => z)), fun q6 n6 => ?_⟩
      generalize e6 : upd H5 q6 _ = H6
      obtain ⟨s6, f6, k6, g6, z6⟩ := own_of s45 n6 e6
      refine ⟨q5, q6, _, _, rfl, rfl, k6 _ _ f5, f6, ?_, fun q7 n7 => ?_⟩
      · rw [List.length_map, List.length_map, r64]
        show 4 + 64 ≤ sizeLine
        decide
      generalize e7 : upd H6 q7 _ = H7
      obtain ⟨s7, f7, k7, g7, z7⟩ := own_of s6 n7 e7
      have fq := k7 _ _ (k6 _ _ (s5.kp _ _ f4 fun z => z))
      have gq : G5 q = none := s5.nw q (ne_none f4) g4
      refine ⟨q, q7, _, _, rfl, rfl, fq, f7, ?_, ?_⟩
      · have z := enc_len (rows := rows.take i) fun r hr => h64 r (List.mem_of_mem_take hr)
        have z2 : (rows.take i).length ≤ 1000 := by rw [List.length_take]; omega
        rw [List.length_map, List.length_append, List.length_append, List.length_append, List.length_map, List.length_map, z, r64, sizeLine_eq]
        show 4 + 4 + _ + (4 + 64) ≤ _
        omega
      generalize e8 : upd H7 q _ = H8
      obtain ⟨s8, f8, k8⟩ := wr_of s7 fq gq (.inr z3) e8
      refine ⟨⟨_, _, rfl⟩, _, s8, gq, ?_⟩
      rw [f8, List.take_add_one, hr', List.flatMap_append]
      simp
    · rintro σ H4 ⟨⟨x3, x4, rfl⟩, G4, s4, g4, f4⟩
      rw [elen, List.take_of_length_le (Nat.le_refl _)] at f4
      exact ⟨_, rfl, k q G4 H4 s4 z3 g4 f4⟩
def spLogSecs : Sp := fun vs H Q _ => ∃ (G : Hp) (a : Addr) (c : List Int), vs = [.ref a] ∧ Same G H ∧ H a = some (rowI c) ∧ c.length ≤ 100000 ∧
  ∀ q us G' H', Stp O0 G H G' H' → H q = none → G' q = none → H' q = some (.lst us) → Paired (rL rI G') us (partsL c) → Q (.ref q) H'
abbrev s_log_sectors : Stmt := top 16
theorem sc_log_sectors : FnScope ["content", "found", "at", "part"] ["content"] (defScope s_log_sectors) := ⟨rfl, rfl, rfl, by decide +kernel, rfl, by decide +kernel, by decide +kernel⟩
theorem ok_logSecs {f : Addr} {fd : FuncData} (F : Fun K "log_sectors" "log_sectors" s_log_sectors f fd) (T : TxB K mg B tP tR tW tH) :
    FnOk P w K mg base CX0 1 f fd ["content"] spLogSecs := by
  refine F.ok sc_log_sectors (fun vs H Q E h => ?_) (fun cdv A outer st H vs Q E hr h => ?_)
  · obtain ⟨G, a, c, rfl, _⟩ := h
    rfl
  · obtain ⟨G, a, c, rfl, gh, ha, hl, k⟩ := h
    have nd := sc_log_sectors.nd
    refine ⟨_, (pss_cons (ps_set (i := 1) nd rfl (Or.inl rfl) (pe_lst pa_nil))
    (pss_cons (ps_for PassesOwn.never rfl (pi_range3 rfl T.b_range (pa_cons pe_int (pa_cons (pe_callB (call_len_seqK (K := K) rfl) (by rfl) T.b_len (by decide +kernel) (pa_cons (pv 0) pa_nil)) (pa_cons (pe_glob (v := .int 15) rfl T.c_ROOM ⟨_, rfl⟩) pa_nil)))) (pg_name (i := 2) nd rfl (Or.inl rfl))
    (pss_cons (ps_set (i := 3) nd rfl (Or.inl rfl) (pe_slice (sl_listK (K := K) rfl) (pv 0) (po_some (pv 2)) (po_some (pe_op op_add (pv 2) (pe_glob (v := .int 15) rfl T.c_ROOM ⟨_, rfl⟩)))))
    (pss_one (ps_expr (pe_bmK (K := K) rfl PySem.F.plainAttrs_list PySem.F.slot_list_append PySem.F.type_list_append mt_append (pv 1) (pa_cons (pe_op op_cat (pe_op op_cat (pe_lst (pa_cons pe_int pa_nil)) (pv 3)) (pe_op op_rep (pe_lst (pa_cons pe_int pa_nil)) (pe_op op_sub (pe_glob (v := .int 15) rfl T.c_ROOM ⟨_, rfl⟩) (pe_callB (call_len_seqK (K := K) rfl) (by rfl) T.b_len (by decide +kernel) (pa_cons (pv 3) pa_nil))))) pa_nil))))))
    (pss_one (ps_ret (pv 1))))), ?_⟩
    refine ⟨(by show 0 ≤ sizeLine; decide), fun q nq => ?_⟩
    generalize e1 : upd H q _ = H1
    obtain ⟨s1, f1, k1, g1, z1⟩ := own_of (Stp.refl (O := O0) gh) nq e1
    refine ⟨_, rfl, a, _, rfl, .inl (SqL.of (k1 _ _ ha)), 0, _, 15, parts c, rfl, rgC_up (by decide) (by decide) (by decide) (by decide) (by omega) (by rw [List.length_map]; omega) (by rw [List.length_map]; unfold parts; split <;> omega), for_rangeC (lo := 0) (c := 15) (n := parts c)
      (fun i σ H4 => (∃ x2 x3, σ = [some (.ref a), some (.ref q), x2, x3]) ∧ ∃ G4 us, Stp O0 G H G4 H4 ∧ G4 q = none ∧ H4 q = some (.lst us) ∧ us.length = i ∧ Paired (rL rI G4) us ((List.range i).map (part c)))
      ⟨⟨_, _, rfl⟩, _, [], s1, g1, f1, rfl, .nil⟩ ?_ ?_⟩
    · rintro i σ H4 hi ⟨⟨x2, x3, rfl⟩, G4, us, s4, g4, f4, l4, pp⟩
      have ha4 := s4.kp _ _ ha fun z => z
      refine ⟨_, rfl, _, rfl, _, rfl, _, rfl, _, _, rfl, rfl, _, rfl, a, _, rfl, SqL.of ha4, fun p1 n1 => ?_⟩
      have ei : (0 : Int) + (i : Int) * 15 = ((15 * i : Nat) : Int) := by omega
      have ei2 : (0 : Int) + (i : Int) * 15 + 15 = ((15 * i + 15 : Nat) : Int) := by omega
      rw [ei2, ei, cut_mid c (by omega)]
      generalize e5 : upd H4 p1 _ = H5
      obtain ⟨s5, f5, k5, g5, z5⟩ := own_of s4 n1 e5
      have esl : sl c (15 * i) (15 * i + 15) = (c.drop (15 * i)).take 15 := by
        unfold sl
        rw [List.drop_take]
        congr 1
        omega
      rw [esl] at f5
      have l15 : ((c.drop (15 * i)).take 15).length ≤ 15 := by rw [List.length_take]; omega
      refine ⟨_, rfl, .inl ⟨rfl, _, SqL.of (k5 _ _ f4)⟩, (by show 1 ≤ sizeLine; decide), fun p2 n2 => ?_⟩
      generalize e6 : upd H5 p2 _ = H6
      obtain ⟨s6, f6, k6, g6, z6⟩ := own_of s5 n2 e6
      refine ⟨_, rfl, p2, p1, _, _, rfl, rfl, f6, k6 _ _ f5, ?_, fun p3 n3 => ?_⟩
      · rw [List.length_map, sizeLine_eq]
        show 1 + _ ≤ _
        omega
      generalize e7 : upd H6 p3 _ = H7
      obtain ⟨s7, f7, k7, g7, z7⟩ := own_of s6 n3 e7
      refine ⟨(by show 1 ≤ sizeLine; decide), fun p4 n4 => ?_⟩
      generalize e8 : upd H7 p4 _ = H8
      obtain ⟨s8, f8, k8, g8, z8⟩ := own_of s7 n4 e8
      refine ⟨_, rfl, p1, _, rfl, .inl (SqL.of (k8 _ _ (k7 _ _ (k6 _ _ f5)))), _, _, rfl, rfl, ?_⟩
      rw [List.length_map]
      generalize ez : (c.drop (15 * i)).take 15 = z at *
      have ek : ((15 : Int) - (z.length : Int)).toNat = 15 - z.length := by omega
      refine ⟨p4, _, _, rfl, rfl, f8, by omega, by omega, by rw [ek]; show 1 * _ ≤ _; rw [sizeLine_eq]; omega, fun p5 n5 => ?_⟩
      rw [ek]
      generalize e9 : upd H8 p5 _ = H9
      obtain ⟨s9, f9, k9, g9, z9⟩ := own_of s8 n5 e9
      have erep : (List.replicate (15 - z.length) [V.int 0]).flatten = (List.replicate (15 - z.length) (0 : Int)).map V.int := by
        rw [List.map_replicate]
        generalize 15 - z.length = m
        induction m with
        | zero => rfl
        | succ m ih => rw [List.replicate_succ, List.flatten_cons, ih, List.replicate_succ]; rfl
      rw [erep] at f9
      refine ⟨p3, p5, _, _, rfl, rfl, k9 _ _ (k8 _ _ f7), f9, ?_, fun p6 n6 => ?_⟩
      · rw [List.length_append, List.length_map, List.length_map, List.length_replicate, sizeLine_eq]
        show 1 + _ + _ ≤ _
        omega
      generalize e10 : upd H9 p6 _ = H10
      obtain ⟨G10, s10, f10, gg10, k10, gk10⟩ := data_of s9 n6 e10
      have fq := k10 _ _ (k9 _ _ (k8 _ _ (k7 _ _ (k6 _ _ (k5 _ _ f4)))))
      have nq6 : q ≠ p6 := ne_of_none (k9 _ _ (k8 _ _ (k7 _ _ (k6 _ _ (k5 _ _ f4))))) n6
      have gq10 : G10 q = none := by rw [gk10 q nq6]; exact g4
      refine ⟨q, us, _, rfl, rfl, fq, ?_, ?_⟩
      · have : parts c ≤ 100000 := by unfold parts; omega
        rw [sizeLine_eq]
        omega
      generalize e11 : upd H10 q _ = H11
      obtain ⟨s11, f11, k11⟩ := wr_of s10 fq gq10 (.inr z1) e11
      refine ⟨⟨_, _, rfl⟩, G10, _, s11, gq10, f11, by rw [List.length_append, l4]; rfl, ?_⟩
      rw [List.range_succ, List.map_append]
      refine pd_snoc (mI.l.ps gg10 pp) (rLI_of ?_)
      rw [f10]
      unfold part
      rw [ez]
      simp
    · rintro σ H4 ⟨⟨x2, x3, rfl⟩, G4, us, s4, g4, f4, _, p4⟩
      exact ⟨_, rfl, k q us G4 H4 s4 z1 g4 f4 p4⟩
end
end K51

/-! KB3: a batch of the log. -/
namespace K51
open PySem PySem.Spec PyProof.Rows L2 Y
def BatV (H G' H' : Hp) (v : V) : Option (BRows × Int) → Prop
  | none => v = .non
  | some x => ∃ t l, v = .ref t ∧ H' t = some (.tup [.ref l, .int x.2]) ∧ LstAt rSec G' H' l x.1 ∧ H t = none ∧ H l = none ∧ G' t = none ∧ G' l = none
theorem if_nint {i j : Int} {A B : Prop} (h1 : i ≠ j → A) (h2 : i = j → B) : if (!decide (V.int i = V.int j)) = true then A else B := by
  by_cases e : i = j
  · rw [if_neg (by rw [decide_eq_true (by rw [e])]; exact Bool.false_ne_true)]
    exact h2 e
  · rw [if_pos (by rw [decide_eq_false fun z => e (V.int.inj z)]; rfl)]
    exact h1 e
theorem atI_last {xs : List V} {v : V} (h : xs.getLast? = some v) : atI xs (-1) = some v := by
  have h0 : 0 < xs.length := by
    cases xs with
    | nil => cases h
    | cons x xs => rw [List.length_cons]; omega
  unfold atI ixN
  rw [if_neg (by decide), if_pos (by omega)]
  rw [List.getLast?_eq_getElem?] at h
  show xs[((-1 : Int) + (xs.length : Int)).toNat]? = some v
  rw [show ((-1 : Int) + (xs.length : Int)).toNat = xs.length - 1 by omega]
  exact h
section
variable {P : Program} {w : World} {K : PySem.W.Frag} {mg : Str → Option Value} {base : Heap} {C B : Addr} {tP tR tW tH : Tok}
def spBatchAt (C : Addr) : Sp := fun vs H Q _ => ∃ (G : Hp) (p s wl : Addr) (d : DS) (n e : Int), vs = [.ref p, .int n, .int e] ∧ Same G H ∧ DiskAt C G H p s wl d ∧ (∀ n, (d.read n).length = 16) ∧ CntOk d.read n e ∧
  ∀ v G' H', Stp O0 G H G' H' → BatV H G' H' v (batchAt d.read n e) → Q v H'
abbrev s_batch_at : Stmt := top 17
theorem sc_batch_at : FnScope ["disk", "place", "epoch", "head", "octets", "sectors", "rows", "at", "number"] ["disk", "place", "epoch"] (defScope s_batch_at) := ⟨rfl, rfl, rfl, by decide +kernel, rfl, by decide +kernel, by decide +kernel⟩
theorem ok_batch {f : Addr} {fd : FuncData} (F : Fun K "batch_at" "batch_at" s_batch_at f fd) (T : TxB K mg B tP tR tW tH) (L_of_four : FnC P w K mg base "of_four" 1 ["octets"] spOfFour) (L_log_sector : FnC P w K mg base "log_sector" 1 ["place"] spLogS)
    (L_Disk_read : MtC P w K mg base C "read" 2 ["self", "number"] (spRead C)) : FnOk P w K mg base CX0 3 f fd ["disk", "place", "epoch"] (spBatchAt C) := by
  refine F.ok sc_batch_at (fun vs H Q E h => ?_) (fun cdv A outer st H vs Q E hr h => ?_)
  · obtain ⟨G, p, s, wl, d, n, e, rfl, _⟩ := h
    rfl
  · obtain ⟨G, p, s, wl, d, n, e, rfl, gh, D, l16, hcnt, k⟩ := h
    have nd := sc_batch_at.nd
    refine ⟨_, (pss_cons (ps_set (i := 3) nd rfl (Or.inl rfl) (pe_mtc (pv 0) L_Disk_read (hr.mono (by decide)) (pa_cons (pe_fnc L_log_sector (hr.mono (by decide)) rfl (pa_cons (pv 1) pa_nil)) pa_nil)))
    (pss_cons (ps_if (PW.pt (pw_or (pt_cmpR op_ne (pe_ix (ix_listK (K := K) rfl) (pv 3) pe_int (fun _ _ => rfl)) pe_int (nomark _)) (pw_or1 (pt_cmpR op_ne (pe_fnc L_of_four (hr.mono (by decide)) rfl (pa_cons (pe_slice (sl_listK (K := K) rfl) (pv 3) (po_some pe_int) (po_some pe_int)) pa_nil)) (pv 2) (nomark _)))))
    (pss_one (ps_ret pe_non))
    pss_nil)
    (pss_cons (ps_par3 (i := 4) (j := 5) (l := 6) rfl nd rfl rfl rfl (by decide) (by decide) (by decide) rfl rfl rfl (pa_cons (pe_slice (sl_listK (K := K) rfl) (pv 3) (po_some pe_int) po_none) (pa_cons pe_int (pa_cons (pe_lst pa_nil) pa_nil))) rfl)
    (pss_cons (ps_for PassesOwn.never rfl (pi_range3 rfl T.b_range (pa_cons (pe_glob (v := .int 8) rfl T.c_HEAD ⟨_, rfl⟩) (pa_cons (pe_op op_add (pe_glob (v := .int 8) rfl T.c_HEAD ⟨_, rfl⟩) (pe_op op_mul (pe_glob (v := .int 68) rfl T.c_ROW ⟨_, rfl⟩) (pe_fnc L_of_four (hr.mono (by decide)) rfl (pa_cons (pe_slice (sl_listK (K := K) rfl) (pv 3) (po_some pe_int) (po_some pe_int)) pa_nil)))) (pa_cons (pe_glob (v := .int 68) rfl T.c_ROW ⟨_, rfl⟩) pa_nil)))) (pg_name (i := 7) nd rfl (Or.inl rfl))
    (pss_cons (ps_while PassesOwn.never (pt_cmpR op_lt (pe_callB (call_len_seqK (K := K) rfl) (by rfl) T.b_len (by decide +kernel) (pa_cons (pv 4) pa_nil)) (pe_op op_add (pv 7) (pe_glob (v := .int 68) rfl T.c_ROW ⟨_, rfl⟩)) (nomark _))
    (pss_cons (ps_expr (pe_bmK (K := K) rfl PySem.F.plainAttrs_list PySem.F.slot_list_extend PySem.F.type_list_extend mt_extend (pv 4) (pa_cons (pe_slice (sl_listK (K := K) rfl) (pe_mtc (pv 0) L_Disk_read (hr.mono (by decide)) (pa_cons (pe_fnc L_log_sector (hr.mono (by decide)) rfl (pa_cons (pe_op op_add (pv 1) (pv 5)) pa_nil)) pa_nil)) (po_some pe_int) po_none) pa_nil)))
    (pss_one (ps_set (i := 5) nd rfl (Or.inl rfl) (pe_op op_add (pv 5) pe_int)))))
    (pss_cons (ps_set (i := 8) nd rfl (Or.inl rfl) (pe_fnc L_of_four (hr.mono (by decide)) rfl (pa_cons (pe_slice (sl_listK (K := K) rfl) (pv 4) (po_some (pv 7)) (po_some (pe_op op_add (pv 7) pe_int))) pa_nil)))
    (C8.pss_cut (ps_if (PW.pt (pw_and (pt_cmpR op_gt (pe_callB (call_len_seqK (K := K) rfl) (by rfl) T.b_len (by decide +kernel) (pa_cons (pv 6) pa_nil)) pe_int (nomark _)) (pw_and1 (pt_cmpR op_le (pv 8) (pe_ix (ix_tupK (K := K) rfl) (pe_ix (ix_listK (K := K) rfl) (pv 6) (pe_un un_neg pe_int) (fun _ _ => rfl)) pe_int (fun _ _ => rfl)) (nomark _)))))
    (pss_one (ps_ret pe_non))
    pss_nil)
    (pss_one (ps_expr (pe_bmK (K := K) rfl PySem.F.plainAttrs_list PySem.F.slot_list_append PySem.F.type_list_append mt_append (pv 6) (pa_cons (pe_tup (pa_cons (pv 8) (pa_cons (pe_slice (sl_listK (K := K) rfl) (pv 4) (po_some (pe_op op_add (pv 7) pe_int)) (po_some (pe_op op_add (pv 7) (pe_glob (v := .int 68) rfl T.c_ROW ⟨_, rfl⟩)))) pa_nil))) pa_nil))))))))
    (pss_one (ps_ret (pe_tup (pa_cons (pv 6) (pa_cons (pv 5) pa_nil))))))))), ?_⟩
    obtain ⟨dx, rl, h1, _⟩ := id D.ob
    refine ⟨_, rfl, p, dx, _, rfl, h1, df_no (by decide +kernel) (by decide +kernel) (by decide +kernel) (by decide +kernel) (by decide +kernel), _, rfl, n, rfl, G, p, s, wl, d, _, rfl, gh, D, fun q G1 H1 s1 nq gq fq => ?_⟩
    have l := l16 (lg n)
    refine ⟨_, rfl, q, _, _, _, rfl, rfl, SqL.of fq, at_of (j := 0) rfl (at0 (by omega)), rfl, _, rfl, if_nint (fun e0 => iteT ?_) (fun e0 => ?_)⟩
    · refine k _ G1 H1 s1 ?_
      unfold batchAt
      rw [if_neg fun z => e0 z.1]
      rfl
    refine ⟨_, rfl, _, rfl, _, rfl, q, _, rfl, SqL.of fq, fun p1 n1 => ?_⟩
    rw [cut_mid1]
    generalize e2 : upd H1 p1 _ = H2
    obtain ⟨s2, f2, k2, _, _⟩ := own_of s1 n1 e2
    refine ⟨p1, _, rfl, f2, by rw [sl_len (by omega)]; decide, _, rfl, rfl, _, rfl, if_nint (fun e1 => ?_) (fun e1 => ?_)⟩
    · refine k _ G1 H2 s2 ?_
      unfold batchAt
      rw [if_neg fun z => e1 z.2]
      rfl
    have hd : headOk d.read n e := ⟨e0, e1⟩
    obtain ⟨c0, c1, c2⟩ := hcnt hd
    refine ⟨_, rfl, _, rfl, q, _, rfl, SqL.of (k2 _ _ fq), fun O nO => ?_⟩
    rw [cut_1]
    generalize e3 : upd H2 O _ = H3
    obtain ⟨s3, f3, k3, g3, z3⟩ := own_of s2 nO e3
    refine ⟨(by show 0 ≤ sizeLine; decide), fun R nR => ?_⟩
    generalize e4 : upd H3 R _ = H4
    obtain ⟨s4, f4, k4, g4, z4⟩ := own_of s3 nR e4
    refine ⟨_, _, _, rfl, ?_⟩
    have fq4 := k4 _ _ (k3 _ _ (k2 _ _ fq))
    refine ⟨_, rfl, _, rfl, _, rfl, q, _, rfl, SqL.of fq4, fun p2 n2 => ?_⟩
    rw [cut_mid5]
    generalize e5 : upd H4 p2 _ = H5
    obtain ⟨s5, f5, k5, _, _⟩ := own_of s4 n2 e5
    have nOR : O ≠ R := ne_of_none f3 nR
    refine ⟨p2, _, rfl, f5, by rw [sl_len (by omega)]; decide, _, _, rfl, rfl, .inl ⟨by decide, by decide⟩, _, _, rfl, rfl, 8, _, 68, cnt d.read n, rfl, rgC_up (by decide) (by decide) (by decide) (by decide) (by omega) (by omega) (by unfold cnt; split <;> omega),
      for_rangeC (lo := 8) (c := 68) (n := cnt d.read n)
      (fun i σ H6 => i ≤ cnt d.read n ∧ (∃ x7 x8, σ = [some (.ref p), some (.int n), some (.int e), some (.ref q), some (.ref O), some (.int (secs i : Nat)), some (.ref R), x7, x8]) ∧ ∃ G6 us, Stp O0 G H G6 H6 ∧ G6 O = none ∧ G6 R = none ∧
        H6 O = some (rowI (strm d.read n (secs i))) ∧ H6 R = some (.lst us) ∧ Paired (rSec G6) us (browsN d.read n i) ∧ rising (browsN d.read n i))
      ⟨Nat.zero_le _, ⟨_, _, rfl⟩, G1, [], s5, g3, g4, by rw [show secs 0 = 1 from rfl, strm_one]; exact k5 _ _ (k4 _ _ f3), k5 _ _ f4, .nil, List.Pairwise.nil⟩ ?_ ?_⟩
    · rintro i σ H6 hi ⟨_, ⟨x7, x8, rfl⟩, G6, us, s6, gO, gR, fO, fR, pR, rR⟩
      have cl : i ≤ 60000 := c2 i (by omega) rR
      have e81 : (22 + 68 * (i + 1)) / 15 = secs (i + 1) := rfl
      have le1 : secs i ≤ secs (i + 1) := secs_le (Nat.le_succ _)
      have le2 : secs (i + 1) ≤ 300000 := by unfold secs; omega
      refine ⟨fun m σ H7 => ∃ mm : Nat, m = secs (i + 1) - mm ∧ secs i ≤ mm ∧ mm ≤ secs (i + 1) ∧ (∃ x8, σ = [some (.ref p), some (.int n), some (.int e), some (.ref q), some (.ref O), some (.int (mm : Nat)), some (.ref R), some (.int (8 + (i : Int) * 68)), x8]) ∧
        ∃ G7, Stp O0 G H G7 H7 ∧ Same G6 G7 ∧ G7 O = none ∧ G7 R = none ∧ H7 O = some (rowI (strm d.read n mm)) ∧ H7 R = some (.lst us), ⟨_, secs i, rfl, Nat.le_refl _, le1, ⟨_, rfl⟩, G6, s6, Same.refl _, gO, gR, fO, fR⟩, ?_⟩
      rintro m σ H7 ⟨mm, rfl, m1, m2, ⟨x8, rfl⟩, G7, s7, gg7, gO7, gR7, fO7, fR7⟩
      have lstrm := strm_len (rd := d.read) l16 n mm
      refine ⟨_, rfl, O, _, rfl, .inl (SqL.of fO7), _, rfl, _, _, rfl, rfl, _, _, rfl, rfl, _, rfl, if_dec (fun lt => ?_) (fun ge => ?_)⟩
      · rw [List.length_map, lstrm] at lt
        have m3 : mm + 1 ≤ secs (i + 1) := by omega
        refine ⟨fun σ' H' => ∃ m', m' < secs (i + 1) - mm ∧ _, fun σ' H' z => z, ?_⟩
        have D7 := D.stp s7 fun _ _ z => z
        obtain ⟨dx7, rl7, h17, _⟩ := id D7.ob
        refine ⟨_, rfl, .inl ⟨rfl, _, SqL.of fO7⟩, _, rfl, p, dx7, _, rfl, h17, df_no (by decide +kernel) (by decide +kernel) (by decide +kernel) (by decide +kernel) (by decide +kernel), _, rfl, _, rfl, _, _, rfl, rfl, _, rfl, G7, p, s, wl, d, _, rfl, s7.gh, D7, fun q8 G8 H8 s8 n8 g8 f8 => ?_⟩
        have s78 := s7.trans s8 fun b z => z.elim
        refine ⟨_, rfl, q8, _, rfl, SqL.of f8, fun p9 n9 => ?_⟩
        rw [cut_1]
        generalize e9 : upd H8 p9 _ = H9
        obtain ⟨s9, f9, k9, g9, z9⟩ := own_of s78 n9 e9
        have fO9 := k9 _ _ (s8.kp _ _ fO7 fun z => z)
        have gO9 := s8.nw O (ne_none fO7) gO7
        have gR9 := s8.nw R (ne_none fR7) gR7
        refine ⟨O, p9, _, _, rfl, rfl, fO9, f9, ?_, ?_⟩
        · rw [List.length_map, List.length_map, lstrm, List.length_drop, l16, sizeLine_eq]
          omega
        generalize e10 : upd H9 O _ = H10
        obtain ⟨s10, f10, k10⟩ := wr_of s9 fO9 gO9 (.inr z3) e10
        refine ⟨_, rfl, _, _, rfl, rfl, secs (i + 1) - (mm + 1), by omega, mm + 1, rfl, by omega, m3, ⟨_, rfl⟩, G8, s10, gg7.trans s8.gg, gO9, gR9, ?_, k10 _ _ nOR.symm (k9 _ _ (s8.kp _ _ fR7 fun z => z))⟩
        rw [f10, strm_succ]
        simp
      · rw [List.length_map, lstrm] at ge
        have em : mm = secs (i + 1) := by omega
        subst em
        have ea : (8 : Int) + (i : Int) * 68 = ((8 + 68 * i : Nat) : Int) := by omega
        have ea4 : (8 : Int) + (i : Int) * 68 + 4 = ((12 + 68 * i : Nat) : Int) := by omega
        have ea68 : (8 : Int) + (i : Int) * 68 + 68 = ((76 + 68 * i : Nat) : Int) := by omega
        refine ⟨_, rfl, _, rfl, _, rfl, _, rfl, _, _, rfl, rfl, _, rfl, O, _, rfl, SqL.of fO7, fun p8 n8 => ?_⟩
        rw [ea4, ea, cut_mid _ (by omega)]
        generalize e8 : upd H7 p8 _ = H8
        obtain ⟨s8, f8, k8, g8, z8⟩ := own_of s7 n8 e8
        have eb : (brow d.read n i).1 = ofFour (sl (strm d.read n (secs (i + 1))) (8 + 68 * i) (12 + 68 * i)) := rfl
        refine ⟨p8, _, rfl, f8, by rw [sl_len (by omega)]; omega, ?_⟩
        rw [← eb]
        have fR8 := k8 _ _ fR7
        have fO8 := k8 _ _ fO7
        have lus := pd_len pR
        refine ⟨fun σ H9 => rising (browsN d.read n (i + 1)) ∧ H9 = H8 ∧ σ = [some (.ref p), some (.int n), some (.int e), some (.ref q), some (.ref O), some (.int (secs (i + 1) : Nat)), some (.ref R), some (.int (8 + 68 * i : Nat)), some (.int (brow d.read n i).1)], ?_, ?_⟩
        · refine ⟨_, rfl, R, _, rfl, .inl (SqL.of fR8), _, _, rfl, rfl, _, rfl, if_dec (fun h0 => ?_) (fun h0 => iteF ⟨?_, rfl, rfl⟩)⟩
          · rw [lus] at h0
            cases i with
            | zero => exact absurd h0 (by show ¬ (0 : Int) < ((0 : Nat) : Int); decide)
            | succ j =>
              have hl : us.getLast? ≠ none := fun z => by
                rw [List.getLast?_eq_none_iff] at z
                rw [z] at lus
                unfold browsN at lus
                rw [List.length_map, List.length_range] at lus
                cases lus
              obtain ⟨u, hu⟩ := Option.ne_none_iff_exists'.mp hl
              have hu2 : us[j]? = some u := by
                rw [List.getLast?_eq_getElem?, lus] at hu
                unfold browsN at hu
                rw [List.length_map, List.length_range] at hu
                exact hu
              obtain ⟨r, hr2, t, v0, c0, rfl, ht, hv, hc⟩ := pd_get pR hu2
              cases hv
              have hlast : (browsN d.read n (j + 1)).getLast? = some r := by
                rw [List.getLast?_eq_getElem?]
                unfold browsN at hr2 ⊢
                rw [List.length_map, List.length_range]
                exact hr2
              refine ⟨_, rfl, _, rfl, _, rfl, R, _, _, _, rfl, rfl, SqL.of fR8, atI_last hu, t, _, _, _, rfl, rfl, SqT.of (k8 _ _ (s7.gh _ _ (gg7 _ _ ht))), at_of (j := 0) rfl rfl, _, _, rfl, rfl, _, rfl, if_dec (fun h1 => ?_) (fun h1 => ?_)⟩
              · refine k _ G7 H8 s8 ?_
                unfold batchAt
                rw [if_pos hd, if_neg]
                · rfl
                · intro z
                  have z2 : rising (browsN d.read n (j + 1 + 1)) := by
                    unfold rising browsN at z ⊢
                    have e : List.range (j + 1 + 1) = (List.range (cnt d.read n)).take (j + 1 + 1) := by rw [List.take_range, Nat.min_eq_left (by omega)]
                    rw [e, List.map_take, List.map_take]
                    exact z.take
                  rw [browsN_succ] at z2
                  have := (rising_snoc.mp z2).2 r (List.mem_of_getLast? hlast)
                  omega
              · refine ⟨?_, rfl, rfl⟩
                rw [browsN_succ]
                exact rising_last rR hlast (by omega)
          · rw [lus] at h0
            have : i = 0 := by
              unfold browsN at h0
              rw [List.length_map, List.length_range] at h0
              omega
            subst this
            exact List.pairwise_singleton _ _
        · rintro σ H9 ⟨hris, rfl, rfl⟩
          refine ⟨_, rfl, .inl ⟨rfl, _, SqL.of fR8⟩, _, rfl, _, rfl, _, rfl, _, _, rfl, rfl, _, rfl, _, rfl, _, _, rfl, rfl, _, rfl, O, _, rfl, SqL.of fO8, fun p9 n9 => ?_⟩
          rw [show ((8 + 68 * i : Nat) : Int) + 4 = ((12 + 68 * i : Nat) : Int) by omega, show ((8 + 68 * i : Nat) : Int) + 68 = ((76 + 68 * i : Nat) : Int) by omega, cut_mid _ (by omega)]
          generalize e9 : upd H9 p9 _ = H10
          obtain ⟨G10, s10, f10, gg10, k10, gk10⟩ := data_of s8 n9 e9
          refine ⟨(by show 2 ≤ sizeLine; decide), fun t nt => ?_⟩
          generalize e11 : upd H10 t _ = H11
          obtain ⟨G11, s11, f11, gg11, k11, gk11⟩ := data_of s10 nt e11
          have fR11 := k11 _ _ (k10 _ _ fR8)
          have fO11 := k11 _ _ (k10 _ _ fO8)
          have gR11 : G11 R = none := by rw [gk11 R (ne_of_none (k10 _ _ fR8) nt), gk10 R (ne_of_none fR8 n9)]; exact gR7
          have gO11 : G11 O = none := by rw [gk11 O (ne_of_none (k10 _ _ fO8) nt), gk10 O (ne_of_none fO8 n9)]; exact gO7
          refine ⟨R, us, _, rfl, rfl, fR11, ?_, ?_⟩
          · rw [lus]
            unfold browsN
            rw [List.length_map, List.length_range, sizeLine_eq]
            omega
          generalize e12 : upd H11 R _ = H12
          obtain ⟨s12, f12, k12⟩ := wr_of s11 fR11 gR11 (.inr z4) e12
          refine ⟨hi, ⟨_, _, rfl⟩, G11, _, s12, gO11, gR11, k12 _ _ nOR fO11, f12, ?_, hris⟩
          rw [browsN_succ]
          exact pd_snoc (mRow.ps (gg7.trans (gg10.trans gg11)) pR) ⟨t, _, _, rfl, f11, rfl, rLI_of (gg11 _ _ f10)⟩
    · rintro σ H6 ⟨_, ⟨x7, x8, rfl⟩, G6, us, s6, gO, gR, fO, fR, pR, rR⟩
      refine ⟨_, rfl, _, rfl, (by show 2 ≤ sizeLine; decide), fun t nt => ?_⟩
      generalize e7 : upd H6 t _ = H7
      obtain ⟨s7, f7, k7, g7, z7⟩ := own_of s6 nt e7
      refine k _ G6 H7 s7 ?_
      unfold batchAt
      rw [if_pos hd, if_pos rR]
      exact ⟨t, R, rfl, f7, ⟨us, k7 _ _ fR, pR⟩, z7, z4, g7, gR⟩
end
end K51

/-! KB4: a Batches object: take, page, open_log. -/
namespace K51
open PySem PySem.Spec PyProof.Rows L2 Y
def bf (p : Addr) (pl ep mn : Int) (pg : Addr) (fi : Int) : List (Str × V) := [("disk", .ref p), ("bend", .non), ("place", .int pl), ("epoch", .int ep), ("many", .int mn), ("pages", .ref pg), ("end", .int fi)]
theorem bf_disk {p : Addr} {pl ep mn : Int} {pg : Addr} {fi : Int} : (bf p pl ep mn pg fi).lookup ("disk" : Str) = some (.ref p) := lk_hit
theorem bf_bend {p : Addr} {pl ep mn : Int} {pg : Addr} {fi : Int} : (bf p pl ep mn pg fi).lookup ("bend" : Str) = some (.non) := (lk_miss (by decide +kernel)).trans (lk_hit)
theorem bf_place {p : Addr} {pl ep mn : Int} {pg : Addr} {fi : Int} : (bf p pl ep mn pg fi).lookup ("place" : Str) = some (.int pl) := (lk_miss (by decide +kernel)).trans ((lk_miss (by decide +kernel)).trans (lk_hit))
theorem bf_epoch {p : Addr} {pl ep mn : Int} {pg : Addr} {fi : Int} : (bf p pl ep mn pg fi).lookup ("epoch" : Str) = some (.int ep) := (lk_miss (by decide +kernel)).trans ((lk_miss (by decide +kernel)).trans ((lk_miss (by decide +kernel)).trans (lk_hit)))
theorem bf_many {p : Addr} {pl ep mn : Int} {pg : Addr} {fi : Int} : (bf p pl ep mn pg fi).lookup ("many" : Str) = some (.int mn) := (lk_miss (by decide +kernel)).trans ((lk_miss (by decide +kernel)).trans ((lk_miss (by decide +kernel)).trans ((lk_miss (by decide +kernel)).trans (lk_hit))))
theorem bf_pages {p : Addr} {pl ep mn : Int} {pg : Addr} {fi : Int} : (bf p pl ep mn pg fi).lookup ("pages" : Str) = some (.ref pg) := (lk_miss (by decide +kernel)).trans ((lk_miss (by decide +kernel)).trans ((lk_miss (by decide +kernel)).trans ((lk_miss (by decide +kernel)).trans ((lk_miss (by decide +kernel)).trans (lk_hit)))))
theorem bf_end {p : Addr} {pl ep mn : Int} {pg : Addr} {fi : Int} : (bf p pl ep mn pg fi).lookup ("end" : Str) = some (.int fi) := (lk_miss (by decide +kernel)).trans ((lk_miss (by decide +kernel)).trans ((lk_miss (by decide +kernel)).trans ((lk_miss (by decide +kernel)).trans ((lk_miss (by decide +kernel)).trans ((lk_miss (by decide +kernel)).trans (lk_hit))))))
theorem bf_no {p : Addr} {pl ep mn : Int} {pg : Addr} {fi : Int} {m : Str} (h1 : (m == ("disk" : Str)) = false) (h2 : (m == ("bend" : Str)) = false) (h3 : (m == ("place" : Str)) = false) (h4 : (m == ("epoch" : Str)) = false) (h5 : (m == ("many" : Str)) = false) (h6 : (m == ("pages" : Str)) = false) (h7 : (m == ("end" : Str)) = false) : (bf p pl ep mn pg fi).lookup m = none := (lk_miss h1).trans ((lk_miss h2).trans ((lk_miss h3).trans ((lk_miss h4).trans ((lk_miss h5).trans ((lk_miss h6).trans ((lk_miss h7).trans (rfl)))))))
theorem bf_p_place {p : Addr} {pl ep mn : Int} {pg : Addr} {fi : Int} (z : Int) : putF "place" (.int z) (bf p pl ep mn pg fi) = bf p z ep mn pg fi := (pf_miss (by decide +kernel)).trans (congrArg _ ((pf_miss (by decide +kernel)).trans (congrArg _ (pf_hit))))
theorem bf_p_epoch {p : Addr} {pl ep mn : Int} {pg : Addr} {fi : Int} (z : Int) : putF "epoch" (.int z) (bf p pl ep mn pg fi) = bf p pl z mn pg fi := (pf_miss (by decide +kernel)).trans (congrArg _ ((pf_miss (by decide +kernel)).trans (congrArg _ ((pf_miss (by decide +kernel)).trans (congrArg _ (pf_hit))))))
theorem bf_p_many {p : Addr} {pl ep mn : Int} {pg : Addr} {fi : Int} (z : Int) : putF "many" (.int z) (bf p pl ep mn pg fi) = bf p pl ep z pg fi := (pf_miss (by decide +kernel)).trans (congrArg _ ((pf_miss (by decide +kernel)).trans (congrArg _ ((pf_miss (by decide +kernel)).trans (congrArg _ ((pf_miss (by decide +kernel)).trans (congrArg _ (pf_hit))))))))
theorem bf_p_pages {p : Addr} {pl ep mn : Int} {pg : Addr} {fi : Int} (z : Addr) : putF "pages" (.ref z) (bf p pl ep mn pg fi) = bf p pl ep mn z fi := (pf_miss (by decide +kernel)).trans (congrArg _ ((pf_miss (by decide +kernel)).trans (congrArg _ ((pf_miss (by decide +kernel)).trans (congrArg _ ((pf_miss (by decide +kernel)).trans (congrArg _ ((pf_miss (by decide +kernel)).trans (congrArg _ (pf_hit))))))))))
theorem bf_p_end {p : Addr} {pl ep mn : Int} {pg : Addr} {fi : Int} (z : Int) : putF "end" (.int z) (bf p pl ep mn pg fi) = bf p pl ep mn pg z := (pf_miss (by decide +kernel)).trans (congrArg _ ((pf_miss (by decide +kernel)).trans (congrArg _ ((pf_miss (by decide +kernel)).trans (congrArg _ ((pf_miss (by decide +kernel)).trans (congrArg _ ((pf_miss (by decide +kernel)).trans (congrArg _ ((pf_miss (by decide +kernel)).trans (congrArg _ (pf_hit))))))))))))
theorem bf_i0 {p : Addr} : putF "disk" (.ref p) ([] : List (Str × V)) = ([("disk", .ref p)] : List (Str × V)) := pf_nil
theorem bf_i1 {p : Addr} : putF "bend" (.non) ([("disk", .ref p)] : List (Str × V)) = ([("disk", .ref p), ("bend", .non)] : List (Str × V)) := (pf_miss (by decide +kernel)).trans (congrArg _ (pf_nil))
theorem bf_i2 {p : Addr} {pl : Int} : putF "place" (.int pl) ([("disk", .ref p), ("bend", .non)] : List (Str × V)) = ([("disk", .ref p), ("bend", .non), ("place", .int pl)] : List (Str × V)) := (pf_miss (by decide +kernel)).trans (congrArg _ ((pf_miss (by decide +kernel)).trans (congrArg _ (pf_nil))))
theorem bf_i3 {p : Addr} {pl ep : Int} : putF "epoch" (.int ep) ([("disk", .ref p), ("bend", .non), ("place", .int pl)] : List (Str × V)) = ([("disk", .ref p), ("bend", .non), ("place", .int pl), ("epoch", .int ep)] : List (Str × V)) := (pf_miss (by decide +kernel)).trans (congrArg _ ((pf_miss (by decide +kernel)).trans (congrArg _ ((pf_miss (by decide +kernel)).trans (congrArg _ (pf_nil))))))
theorem bf_i4 {p : Addr} {pl ep mn : Int} : putF "many" (.int mn) ([("disk", .ref p), ("bend", .non), ("place", .int pl), ("epoch", .int ep)] : List (Str × V)) = ([("disk", .ref p), ("bend", .non), ("place", .int pl), ("epoch", .int ep), ("many", .int mn)] : List (Str × V)) := (pf_miss (by decide +kernel)).trans (congrArg _ ((pf_miss (by decide +kernel)).trans (congrArg _ ((pf_miss (by decide +kernel)).trans (congrArg _ ((pf_miss (by decide +kernel)).trans (congrArg _ (pf_nil))))))))
theorem bf_i5 {p : Addr} {pl ep mn : Int} {pg : Addr} : putF "pages" (.ref pg) ([("disk", .ref p), ("bend", .non), ("place", .int pl), ("epoch", .int ep), ("many", .int mn)] : List (Str × V)) = ([("disk", .ref p), ("bend", .non), ("place", .int pl), ("epoch", .int ep), ("many", .int mn), ("pages", .ref pg)] : List (Str × V)) := (pf_miss (by decide +kernel)).trans (congrArg _ ((pf_miss (by decide +kernel)).trans (congrArg _ ((pf_miss (by decide +kernel)).trans (congrArg _ ((pf_miss (by decide +kernel)).trans (congrArg _ ((pf_miss (by decide +kernel)).trans (congrArg _ (pf_nil))))))))))
theorem bf_i6 {p : Addr} {pl ep mn : Int} {pg : Addr} {fi : Int} : putF "end" (.int fi) ([("disk", .ref p), ("bend", .non), ("place", .int pl), ("epoch", .int ep), ("many", .int mn), ("pages", .ref pg)] : List (Str × V)) = ([("disk", .ref p), ("bend", .non), ("place", .int pl), ("epoch", .int ep), ("many", .int mn), ("pages", .ref pg), ("end", .int fi)] : List (Str × V)) := (pf_miss (by decide +kernel)).trans (congrArg _ ((pf_miss (by decide +kernel)).trans (congrArg _ ((pf_miss (by decide +kernel)).trans (congrArg _ ((pf_miss (by decide +kernel)).trans (congrArg _ ((pf_miss (by decide +kernel)).trans (congrArg _ ((pf_miss (by decide +kernel)).trans (congrArg _ (pf_nil))))))))))))
/-- an object Batches at b over the disk at p, its pages at pg -/
structure BatAt (B : Addr) (G H : Hp) (b p pg : Addr) (x : BS) : Prop where
  ob : ∃ dx, H b = some (.ins B dx (bf p x.place x.epoch x.many pg x.fin))
  pa : ∃ kvs, H pg = some (.dK kvs) ∧ DRel (rL rI) G kvs x.pages
  gb : G b = none
  gp : G pg = none
def BOwn (b pg : Addr) : Addr → Prop := fun a => a = b ∨ a = pg
section
variable {B : Addr} {G H G' H' : Hp} {b p pg : Addr} {x : BS}
theorem BatAt.bp (h : BatAt B G H b p pg x) : b ≠ pg := by
  obtain ⟨dx, h1⟩ := h.ob
  obtain ⟨kvs, h2, _⟩ := h.pa
  exact ne_of h1 h2 (fun e => nomatch e)
theorem BatAt.stp {O : Addr → Prop} (h : BatAt B G H b p pg x) (e : Stp O G H G' H') (n : ∀ a, BOwn b pg a → ¬ O a) : BatAt B G' H' b p pg x := by
  obtain ⟨dx, h1⟩ := h.ob
  obtain ⟨kvs, h2, r2⟩ := h.pa
  exact ⟨⟨dx, e.kp _ _ h1 (n b (.inl rfl))⟩, ⟨kvs, e.kp _ _ h2 (n pg (.inr rfl)), r2.mono mSec e.gg⟩, e.nw b (ne_none h1) h.gb, e.nw pg (ne_none h2) h.gp⟩
end
theorem takeR_snoc (pages : List (Int × Page)) {rows : BRows} {i : Nat} {r : Int × Page} (h : rows[i]? = some r) : takeR pages (rows.take (i + 1)) = put (takeR pages (rows.take i)) r.1 r.2 := by
  unfold takeR
  rw [List.take_add_one, h, List.foldl_append]
  rfl
theorem takeR_len : ∀ (rows : BRows) (pages : List (Int × Page)), (takeR pages rows).length ≤ pages.length + rows.length
  | [], pages => Nat.le_refl _
  | r :: rows, pages => by
    have := put_len pages r.1 r.2
    have z := takeR_len rows (put pages r.1 r.2)
    show (takeR (put pages r.1 r.2) rows).length ≤ _
    rw [List.length_cons]
    omega
section
variable {P : Program} {w : World} {K : PySem.W.Frag} {mg : Str → Option Value} {base : Heap} {C B : Addr} {tP tR tW tH : Tok}
def spTakeB (B : Addr) : Sp := fun vs H Q _ => ∃ (G : Hp) (b p pg : Addr) (x : BS) (a : Addr) (rows : BRows), vs = [.ref b, .ref a] ∧ Same G H ∧ BatAt B G H b p pg x ∧ LstAt rSec H H a rows ∧ x.pages.length + rows.length ≤ 1000000 ∧
  ∀ G' H', Stp (BOwn b pg) G H G' H' → BatAt B G' H' b p pg { x with pages := takeR x.pages rows, many := x.many + 1 } → Q .non H'
abbrev s_Batches_take : Stmt := inClass (top 18) 2
theorem sc_Batches_take : FnScope ["self", "rows", "number", "page"] ["self", "rows"] (defScope s_Batches_take) := ⟨rfl, rfl, rfl, by decide +kernel, rfl, by decide +kernel, by decide +kernel⟩
theorem ok_takeB {f : Addr} {fd : FuncData} (F : Fun K "take" "Batches.take" s_Batches_take f fd) (T : TxB K mg B tP tR tW tH) : FnOk P w K mg base CX0 1 f fd ["self", "rows"] (spTakeB B) := by
  refine F.ok sc_Batches_take (fun vs H Q E h => ?_) (fun cdv A outer st H vs Q E hr h => ?_)
  · obtain ⟨G, b, p, pg, x, a, rows, rfl, _⟩ := h
    rfl
  · obtain ⟨G, b, p, pg, x, a, rows, rfl, gh, D, ⟨us, ha, pu⟩, hl, k⟩ := h
    have nd := sc_Batches_take.nd
    have hu := hu_of hr
    refine ⟨_, (pss_cons (ps_for PassesOwn.never rfl (pi_listK (K := K) rfl (pv 1)) (pg_tupK (K := K) (n := 2) rfl rfl (pgs_cons (pg_name (i := 2) nd rfl (Or.inl rfl)) (pgs_cons (pg_name (i := 3) nd rfl (Or.inl rfl)) pgs_nil)))
    (pss_one (ps_dput hu (pe_fldK (K := K) rfl (pv 0) rfl) (pv 2) (pe_callTy (call_list_ofK (K := K) rfl) (by rfl) T.b_list (by decide +kernel) (pa_cons (pv 3) pa_nil)) rfl)))
    (pss_one (ps_fldK (K := K) rfl (pv 0) (pe_op op_add (pe_fldK (K := K) rfl (pv 0) rfl) pe_int) rfl))), ?_⟩
    obtain ⟨dx, h1⟩ := id D.ob
    obtain ⟨kvs, h2, r2⟩ := id D.pa
    have nbp := D.bp
    refine ⟨_, rfl, a, rfl, ⟨_, SqL.of ha⟩, for_list (K := K) (a := a) (xs := us)
      (fun i σ H4 => (∃ x2 x3, σ = [some (.ref b), some (.ref a), x2, x3]) ∧ (∀ c o, c ≠ pg → H c = some o → H4 c = some o) ∧ ∃ G4 kvs4, Stp (BOwn b pg) G H G4 H4 ∧ G4 pg = none ∧ G4 b = none ∧ H4 pg = some (.dK kvs4) ∧ DRel (rL rI) G4 kvs4 (takeR x.pages (rows.take i)) ∧ kvs4.length ≤ kvs.length + i)
      ⟨⟨_, _, rfl⟩, fun _ _ _ z => z, G, kvs, Stp.refl gh, D.gp, D.gb, h2, r2, Nat.le_refl _⟩ (fun i σ H4 _ ⟨_, k4, _⟩ => SqL.of (k4 _ _ (ne_of ha h2 fun z => nomatch z) ha)) ?_ ?_⟩
    · rintro i y σ H4 hi ⟨⟨x2, x3, rfl⟩, k4, G4, kvs4, s4, gp4, gb4, f4, r4, l4⟩
      obtain ⟨r, hr', t, u, c0, rfl, ht, hu', hc⟩ := pd_get pu hi
      cases hu'
      obtain ⟨c, rfl, hcc⟩ := rLI hc
      refine g_pair (k4 _ _ (ne_of ht h2 fun z => nomatch z) ht) ⟨_, rfl, c, _, rfl, .inl (SqL.of (k4 _ _ (ne_of hcc h2 fun z => nomatch z) hcc)), fun q nq => ?_⟩
      generalize e5 : upd H4 q _ = H5
      obtain ⟨G5, s5, f5, gg5, k5, gk5⟩ := data_of s4 nq e5
      have f45 := k5 _ _ f4
      have gp5 : G5 pg = none := by rw [gk5 pg (ne_of_none f4 nq)]; exact gp4
      have gb5 : G5 b = none := by rw [gk5 b (ne_of_none (k4 _ _ nbp h1) nq)]; exact gb4
      refine ⟨_, rfl, b, B, dx, _, _, rfl, k5 _ _ (k4 _ _ nbp h1), T.cl, T.m6, bf_pages, _, rfl, pg, _, rfl, DPut.k (k := Sum.inl r.1) f45 ?_, ?_⟩
      · have := pd_len r2
        have h7 := pd_len pu
        have hi2 := (List.getElem?_eq_some_iff.mp hi).1
        rw [sizeLine_eq]
        omega
      generalize e6 : upd H5 pg _ = H6
      obtain ⟨s6, f6, k6⟩ := wr_of s5 f45 gp5 (.inl (.inr rfl)) e6
      refine ⟨⟨_, _, rfl⟩, fun z o hz e => k6 z o hz (k5 _ _ (k4 z o hz e)), G5, _, s6, gp5, gb5, f6, ?_, ?_⟩
      · rw [takeR_snoc _ hr']
        exact (r4.mono mSec gg5).put (rLI_of f5)
      · exact Nat.le_trans (length_putK _ _ _) (by omega)
    · rintro σ H4 ⟨⟨x2, x3, rfl⟩, k4, G4, kvs4, s4, gp4, gb4, f4, r4, l4⟩
      rw [pd_len pu, List.take_of_length_le (Nat.le_refl _)] at r4
      have h14 := k4 _ _ nbp h1
      refine ⟨_, rfl, b, B, dx, _, _, rfl, h14, T.cl, T.m5, bf_many, _, _, rfl, rfl, _, rfl, b, B, dx, _, rfl, h14, T.cl, T.m5, (by show 7 < 1000; decide), ?_⟩
      rw [bf_p_many]
      generalize e5 : upd H4 b _ = H5
      obtain ⟨s5, f5, k5⟩ := wr_of s4 h14 gb4 (.inl (.inl rfl)) e5
      exact k G4 H5 s5 ⟨⟨dx, f5⟩, ⟨kvs4, k5 _ _ nbp.symm f4, r4⟩, gb4, gp4⟩
def spPageB (B C : Addr) : Sp := fun vs H Q _ => ∃ (G : Hp) (b p pg s wl : Addr) (x : BS) (d : DS) (n : Int), vs = [.ref b, .int n] ∧ Same G H ∧ BatAt B G H b p pg x ∧ DiskAt C G H p s wl d ∧ (∀ n, (d.read n).length = 16) ∧ (∀ y ∈ x.pages, y.2.length ≤ 1000) ∧
  ∀ q G' H', Stp O0 G H G' H' → H q = none → G' q = none → H' q = some (rowI (pageOf d.read x.pages n)) → Q (.ref q) H'
abbrev s_Batches_page : Stmt := inClass (top 18) 3
theorem sc_Batches_page : FnScope ["self", "number", "found", "part"] ["self", "number"] (defScope s_Batches_page) := ⟨rfl, rfl, rfl, by decide +kernel, rfl, by decide +kernel, by decide +kernel⟩
theorem ok_pageB {f : Addr} {fd : FuncData} (F : Fun K "page" "Batches.page" s_Batches_page f fd) (T : TxB K mg B tP tR tW tH) (L_home_sector : FnC P w K mg base "home_sector" 1 ["page", "part"] spHome) (L_Disk_read : MtC P w K mg base C "read" 2 ["self", "number"] (spRead C)) :
    FnOk P w K mg base CX0 3 f fd ["self", "number"] (spPageB B C) := by
  refine F.ok sc_Batches_page (fun vs H Q E h => ?_) (fun cdv A outer st H vs Q E hr h => ?_)
  · obtain ⟨G, b, p, pg, s, wl, x, d, n, rfl, _⟩ := h
    rfl
  · obtain ⟨G, b, p, pg, s, wl, x, d, n, rfl, gh, D, Dk, l16, lp, k⟩ := h
    have nd := sc_Batches_page.nd
    have hu := hu_of hr
    refine ⟨_, (pss_cons (ps_if (pt_cmp (pc_din hu (pv 1) (pe_fldK (K := K) rfl (pv 0) rfl)))
    (pss_one (ps_ret (pe_callTy (call_list_ofK (K := K) rfl) (by rfl) T.b_list (by decide +kernel) (pa_cons (pe_dget hu (pe_fldK (K := K) rfl (pv 0) rfl) (pv 1) (fun _ _ => rfl)) pa_nil))))
    pss_nil)
    (pss_cons (ps_set (i := 2) nd rfl (Or.inl rfl) (pe_lst pa_nil))
    (pss_cons (ps_for PassesOwn.never rfl (pi_range1 rfl T.b_range (pa_cons pe_int pa_nil)) (pg_name (i := 3) nd rfl (Or.inl rfl))
    (pss_one (ps_expr (pe_bmK (K := K) rfl PySem.F.plainAttrs_list PySem.F.slot_list_extend PySem.F.type_list_extend mt_extend (pv 2) (pa_cons (pe_mtc (pe_fldK (K := K) rfl (pv 0) rfl) L_Disk_read (hr.mono (by decide)) (pa_cons (pe_fnc L_home_sector (hr.mono (by decide)) rfl (pa_cons (pv 1) (pa_cons (pv 3) pa_nil))) pa_nil)) pa_nil)))))
    (pss_one (ps_ret (pv 2)))))), ?_⟩
    obtain ⟨dx, h1⟩ := id D.ob
    obtain ⟨kvs, h2, r2⟩ := id D.pa
    have g := DGet.k (k := Sum.inl n) h2
    cases e : look x.pages n with
    | some y =>
      obtain ⟨v, hv, rv⟩ := r2.look_some e
      obtain ⟨c, rfl, hc⟩ := rLI rv
      rw [hv] at g
      refine ⟨_, rfl, _, rfl, b, B, dx, _, _, rfl, h1, T.cl, T.m6, bf_pages, pg, _, rfl, g, _, rfl, iteT ⟨_, rfl, b, B, dx, _, _, rfl, h1, T.cl, T.m6, bf_pages, _, rfl, pg, _, rfl, g, c, _, rfl, .inl (SqL.of (gh _ _ hc)), fun q nq => ?_⟩⟩
      generalize e5 : upd H q _ = H5
      obtain ⟨s5, f5, k5, g5, z5⟩ := own_of (Stp.refl (O := O0) gh) nq e5
      refine k q G H5 s5 z5 g5 ?_
      unfold pageOf
      rw [e]
      exact f5
    | none =>
      rw [r2.look_none e] at g
      refine ⟨_, rfl, _, rfl, b, B, dx, _, _, rfl, h1, T.cl, T.m6, bf_pages, pg, _, rfl, g, _, rfl, iteF ⟨(by show 0 ≤ sizeLine; decide), fun q nq => ?_⟩⟩
      generalize e5 : upd H q _ = H5
      obtain ⟨s5, f5, k5, g5, z5⟩ := own_of (Stp.refl (O := O0) gh) nq e5
      refine ⟨4, rfl, by decide, by decide, for_range (n := 4) (fun i σ H6 => i ≤ 4 ∧ (∃ x3, σ = [some (.ref b), some (.int n), some (.ref q), x3]) ∧ ∃ G6, Stp O0 G H G6 H6 ∧ G6 q = none ∧ H6 q = some (rowI ((List.range i).flatMap fun j : Nat => d.read (hm n j))))
        ⟨Nat.zero_le _, ⟨_, rfl⟩, G, s5, g5, f5⟩ ?_ ?_⟩
      · rintro i σ H6 hi ⟨_, ⟨x3, rfl⟩, G6, s6, g6, f6⟩
        have D6 := Dk.stp s6 fun _ _ z => z
        obtain ⟨dx6, rl6, h16, _⟩ := id D6.ob
        have hb6 := s6.kp _ _ h1 fun z => z
        refine ⟨_, rfl, .inl ⟨rfl, _, SqL.of f6⟩, _, rfl, b, B, dx, _, _, rfl, hb6, T.cl, T.m1, bf_disk, p, dx6, _, rfl, h16, df_no (by decide +kernel) (by decide +kernel) (by decide +kernel) (by decide +kernel) (by decide +kernel), _, rfl, _, rfl, _, _, rfl, G6, p, s, wl, d, _, rfl, s6.gh, D6, fun q8 G8 H8 s8 n8 g8 f8 => ?_⟩
        have s68 := s6.trans s8 fun b z => z.elim
        have f68 := s8.kp _ _ f6 fun z => z
        have g68 := s8.nw q (ne_none f6) g6
        have lf : ∀ i : Nat, ((List.range i).flatMap fun j : Nat => d.read (hm n j)).length = 16 * i := fun i => by
          induction i with
          | zero => rfl
          | succ j ih =>
            rw [List.range_succ, List.flatMap_append, List.length_append, ih]
            simp [l16]
            omega
        rw [Int.zero_add] at f8
        refine ⟨q, q8, _, _, rfl, rfl, f68, f8, ?_, ?_⟩
        · rw [List.length_map, List.length_map, lf i, l16, sizeLine_eq]
          omega
        generalize e9 : upd H8 q _ = H9
        obtain ⟨s9, f9, k9⟩ := wr_of s68 f68 g68 (.inr z5) e9
        refine ⟨hi, ⟨_, rfl⟩, G8, s9, g68, ?_⟩
        rw [f9, List.range_succ, List.flatMap_append]
        simp
      · rintro σ H6 ⟨_, ⟨x3, rfl⟩, G6, s6, g6, f6⟩
        refine ⟨_, rfl, k q G6 H6 s6 z5 g6 ?_⟩
        unfold pageOf
        rw [e, f6]
        simp [List.range_succ]
/-- what batch_at has told -/
def ToldV (H : Hp) (v : V) : Option (BRows × Int) → Prop
  | none => v = .non
  | some x => ∃ t l, v = .ref t ∧ H t = some (.tup [.ref l, .int x.2]) ∧ LstAt rSec H H l x.1
def bOff (O : Addr → Prop) (b pg : Addr) : Prop := ¬ O b ∧ ¬ O pg
/-- what a log brings to a Batches object -/
def BS.opened (x : BS) (bs : List BRows) (e : Int) : BS := { x with pages := bs.foldl takeR x.pages, many := x.many + bs.length, fin := e }
def rowsSum (bs : List BRows) : Nat := (bs.map List.length).sum
def spOpen (B C : Addr) : Sp := fun vs H Q _ => ∃ (G : Hp) (b p pg s wl : Addr) (x : BS) (d : DS) (bs : List BRows) (e : Int), vs = [.ref b] ∧ Same G H ∧ BatAt B G H b p pg x ∧ DiskAt C G H p s wl d ∧ (∀ a, DOwn p s wl a → ¬ BOwn b pg a) ∧ (∀ n, (d.read n).length = 16) ∧
  LogIs d.read x.epoch x.fin bs e ∧ x.pages.length + rowsSum bs ≤ 1000000 ∧ ∀ G' H', Stp (BOwn b pg) G H G' H' → BatAt B G' H' b p pg (x.opened bs e) → Q .non H'
abbrev s_Batches_open_log : Stmt := inClass (top 18) 1
theorem sc_Batches_open_log : FnScope ["self", "told"] ["self"] (defScope s_Batches_open_log) := ⟨rfl, rfl, rfl, by decide +kernel, rfl, by decide +kernel, by decide +kernel⟩
theorem ok_open {f : Addr} {fd : FuncData} (F : Fun K "open_log" "Batches.open_log" s_Batches_open_log f fd) (T : TxB K mg B tP tR tW tH) (L_batch_at : FnC P w K mg base "batch_at" 3 ["disk", "place", "epoch"] (spBatchAt C)) (L_Batches_take : MtC P w K mg base B "take" 1 ["self", "rows"] (spTakeB B)) :
    FnOk P w K mg base CX0 4 f fd ["self"] (spOpen B C) := by
  refine F.ok sc_Batches_open_log (fun vs H Q E h => ?_) (fun cdv A outer st H vs Q E hr h => ?_)
  · obtain ⟨G, b, p, pg, s, wl, x, d, bs, e, rfl, _⟩ := h
    rfl
  · obtain ⟨G, b, p, pg, s, wl, x, d, bs, e, rfl, gh, D, Dk, sep, l16, lg0, sz, k⟩ := h
    have nd := sc_Batches_open_log.nd
    have hu := hu_of hr
    refine ⟨_, (pss_cons (ps_set (i := 1) nd rfl (Or.inl rfl) (pe_fnc L_batch_at (hr.mono (by decide)) rfl (pa_cons (pe_fldK (K := K) rfl (pv 0) rfl) (pa_cons (pe_fldK (K := K) rfl (pv 0) rfl) (pa_cons (pe_fldK (K := K) rfl (pv 0) rfl) pa_nil)))))
    (pss_one (ps_while PassesOwn.never (pt_cmp (pc_notN (pv 1)))
    (pss_cons (ps_expr (pe_mtc (pv 0) L_Batches_take (hr.mono (by decide)) (pa_cons (pe_ix (ix_tupK (K := K) rfl) (pv 1) pe_int (fun _ _ => rfl)) pa_nil)))
    (pss_cons (ps_fldK (K := K) rfl (pv 0) (pe_op op_add (pe_fldK (K := K) rfl (pv 0) rfl) (pe_ix (ix_tupK (K := K) rfl) (pv 1) pe_int (fun _ _ => rfl))) rfl)
    (pss_one (ps_set (i := 1) nd rfl (Or.inl rfl) (pe_fnc L_batch_at (hr.mono (by decide)) rfl (pa_cons (pe_fldK (K := K) rfl (pv 0) rfl) (pa_cons (pe_fldK (K := K) rfl (pv 0) rfl) (pa_cons (pe_fldK (K := K) rfl (pv 0) rfl) pa_nil))))))))))), ?_⟩
    obtain ⟨dx, h1⟩ := id D.ob
    have cntOk : ∀ {e0 : Int} {bs0 : List BRows}, LogIs d.read x.epoch e0 bs0 e → CntOk d.read e0 x.epoch := fun z => by
      cases z with
      | nil _ h => exact h
      | cons _ h _ => exact h
    refine ⟨_, rfl, b, B, dx, _, _, rfl, h1, T.cl, T.m1, bf_disk, _, rfl, b, B, dx, _, _, rfl, h1, T.cl, T.m7, bf_end, _, rfl, b, B, dx, _, _, rfl, h1, T.cl, T.m4, bf_epoch, G, p, s, wl, d, _, _, rfl, gh, Dk, l16, cntOk lg0, fun v G1 H1 s1 hv => ?_⟩
    have toldV : ∀ {Ha Ga Hb : Hp} {va : V} {o : Option (BRows × Int)}, Same Ga Hb → BatV Ha Ga Hb va o → ToldV Hb va o := fun {Ha Ga Hb va o} hs h => by
      cases o with
      | none => exact h
      | some y =>
        obtain ⟨t, l, e1, a1, ⟨us, a2, a3⟩, _⟩ := h
        exact ⟨t, l, e1, a1, us, a2, mRow.ps hs a3⟩
    have s1' : Stp (BOwn b pg) G H G1 H1 := s1.mono fun _ z => z.elim
    refine ⟨fun m σ H2 => ∃ (G2 : Hp) (bs2 : List BRows) (x2 : BS) (v2 : V), m = bs2.length ∧ σ = [some (.ref b), some v2] ∧ Stp (BOwn b pg) G H G2 H2 ∧ BatAt B G2 H2 b p pg x2 ∧ LogIs d.read x.epoch x2.fin bs2 e ∧ x2.opened bs2 e = x.opened bs e ∧ x2.epoch = x.epoch ∧
      x2.pages.length + rowsSum bs2 ≤ 1000000 ∧ ToldV H2 v2 (batchAt d.read x2.fin x2.epoch), ⟨_, G1, bs, x, v, rfl, rfl, s1', D.stp s1 fun _ _ z => z, lg0, rfl, rfl, sz, toldV s1.gh hv⟩, ?_⟩
    rintro m σ H2 ⟨G2, bs2, x2, v2, rfl, rfl, s2, D2, lg2, eo, ee, sz2, hv2⟩
    rw [ee] at hv2
    obtain ⟨dx2, h12⟩ := id D2.ob
    cases lg2 with
    | nil hb _ =>
      rw [hb] at hv2
      obtain rfl : v2 = .non := hv2
      refine ⟨_, rfl, _, rfl, iteF ?_⟩
      refine k G2 H2 s2 ?_
      rw [← eo]
      have e0 : x2.opened [] x2.fin = x2 := by
        show ({ x2 with many := x2.many + ((0 : Nat) : Int) } : BS) = x2
        rw [Int.natCast_zero, Int.add_zero]
      rw [e0]
      exact D2
    | cons hb hc lg3 =>
      rename_i rows sc bs3
      rw [hb] at hv2
      obtain ⟨t, l, rfl, ht, us, hl, pu⟩ := hv2
      have sz3 : x2.pages.length + rows.length ≤ 1000000 := by
        unfold rowsSum at sz2
        rw [List.map_cons, List.sum_cons] at sz2
        omega
      refine ⟨_, rfl, _, rfl, iteT ⟨fun σ' H' => ∃ m', m' < bs3.length + 1 ∧ _, fun σ' H' z => z, ?_⟩⟩
      refine ⟨_, rfl, b, dx2, _, rfl, h12, bf_no (by decide +kernel) (by decide +kernel) (by decide +kernel) (by decide +kernel) (by decide +kernel) (by decide +kernel) (by decide +kernel), _, rfl, t, _, _, _, rfl, rfl, SqT.of ht, at_of (j := 0) rfl rfl, G2, b, p, pg, x2, l, rows, rfl, s2.gh, D2, ⟨us, hl, pu⟩, sz3, fun G4 H4 s4 D4 => ?_⟩
      obtain ⟨dx4, h14⟩ := id D4.ob
      have h1t : ∀ a, BOwn b pg a → t ≠ a := fun a ha => by
        obtain ⟨kv, h2, _⟩ := D2.pa
        rcases ha with rfl | rfl
        · exact ne_of ht h12 fun z => nomatch z
        · exact ne_of ht h2 fun z => nomatch z
      have ht4 := s4.kp _ _ ht fun z => h1t t z rfl
      have s24 := s2.trans s4 fun b z => .inl z
      refine ⟨_, rfl, b, B, dx4, _, _, rfl, h14, T.cl, T.m7, bf_end, _, rfl, t, _, _, _, rfl, rfl, SqT.of ht4, at_of (j := 1) rfl rfl, _, _, rfl, rfl, _, rfl, b, B, dx4, _, rfl, h14, T.cl, T.m7, (by show 7 < 1000; decide), ?_⟩
      rw [bf_p_end]
      generalize e5 : upd H4 b _ = H5
      obtain ⟨s5, f5, k5⟩ := wr_of s24 h14 D4.gb (.inl (.inl rfl)) e5
      obtain ⟨kv4, h24, r24⟩ := id D4.pa
      have D5 : BatAt B G4 H5 b p pg { x2 with pages := takeR x2.pages rows, many := x2.many + 1, fin := x2.fin + sc } := ⟨⟨dx4, f5⟩, ⟨kv4, k5 _ _ D4.bp.symm h24, r24⟩, D4.gb, D4.gp⟩
      have kx : ∀ a o, H a = some o → ¬ BOwn b pg a → H5 a = some o := s5.kp
      have Dk5 : DiskAt C G4 H5 p s wl d := Dk.stp s5 sep
      refine ⟨_, rfl, b, B, dx4, _, _, rfl, f5, T.cl, T.m1, bf_disk, _, rfl, b, B, dx4, _, _, rfl, f5, T.cl, T.m7, bf_end, _, rfl, b, B, dx4, _, _, rfl, f5, T.cl, T.m4, bf_epoch, G4, p, s, wl, d, _, _, rfl, s5.gh, Dk5, l16, by rw [ee]; exact cntOk lg3, fun v6 G6 H6 s6 hv6 => ?_⟩
      refine ⟨bs3.length, Nat.lt_succ_self _, G6, bs3, _, v6, rfl, rfl, s5.trans s6 (fun b z => z.elim), D5.stp s6 (fun _ _ z => z), lg3, ?_, ee, ?_, toldV s6.gh hv6⟩
      · rw [← eo]
        unfold BS.opened
        simp only [List.foldl_cons, List.length_cons]
        congr 1
        omega
      · have := takeR_len rows x2.pages
        unfold rowsSum at sz2 ⊢
        rw [List.map_cons, List.sum_cons] at sz2
        show (takeR x2.pages rows).length + _ ≤ _
        omega
/-- the roots that a law's disks have -/
def newest (rd : Rd) : Int × Int × Int := match rootAt rd 0, rootAt rd 1 with
  | none, none => (1, 0, 0)
  | some (e, m), none => (0, e, m)
  | none, some (e, m) => (1, e, m)
  | some (e, m), some (e', m') => if e < e' ∨ (e = e' ∧ m ≤ m') then (1, e', m') else (0, e, m)
def TripV (H G' H' : Hp) (v : V) (x : Int × Int × Int) : Prop := ∃ t, v = .ref t ∧ H' t = some (.tup [.int x.1, .int x.2.1, .int x.2.2]) ∧ H t = none ∧ G' t = none
/-- R: what is asked of the roots -/
def spNewest (C : Addr) (R : Rd → Prop) : Sp := fun vs H Q _ => ∃ (G : Hp) (p s wl : Addr) (d : DS), vs = [.ref p] ∧ Same G H ∧ DiskAt C G H p s wl d ∧ (∀ n, (d.read n).length = 16) ∧ R d.read ∧ ∀ v G' H', Stp O0 G H G' H' → TripV H G' H' v (newest d.read) → Q v H'
theorem g_trip {a : Addr} {u v w : V} {tu tv tw : TG} {σ : L2.St} {H : Hp} {Q : L2.St → Hp → Prop} (h : H a = some (.tup [u, v, w])) (k : tu u σ H fun σ' H' => tv v σ' H' fun σ' H' => tw w σ' H' Q) : gTup K 3 (gCons tu (gCons tv (gCons tw gNil))) (.ref a) σ H Q :=
  ⟨a, _, rfl, SqT.of h, rfl, u, _, rfl, by
    have e : (fun σ' H' => tv v σ' H' fun σ' H' => tw w σ' H' Q) = (fun σ' H' => ∃ z r, [v, w] = z :: r ∧ tv z σ' H' fun σ' H' => ∃ z' r', r = z' :: r' ∧ tw z' σ' H' fun σ' H' => r' = [] ∧ Q σ' H') := by
      funext σ' H'
      apply propext
      have e2 : (fun σ' H' => tw w σ' H' Q) = (fun σ' H' => ∃ z' r', [w] = z' :: r' ∧ tw z' σ' H' fun σ' H' => r' = [] ∧ Q σ' H') := by
        funext σ' H'
        apply propext
        have e3 : Q = fun σ' H' => ([] : List V) = [] ∧ Q σ' H' := by
          funext σ' H'
          apply propext
          exact ⟨fun q => ⟨rfl, q⟩, fun q => q.2⟩
        constructor
        · intro q
          refine ⟨w, [], rfl, ?_⟩
          rw [e3] at q
          exact q
        · rintro ⟨z', r', e4, q⟩
          cases e4
          rw [e3]
          exact q
      constructor
      · intro q
        refine ⟨v, [w], rfl, ?_⟩
        rw [e2] at q
        exact q
      · rintro ⟨z, r, e4, q⟩
        cases e4
        rw [e2]
        exact q
    show tu u σ H fun σ' H' => ∃ z r, [v, w] = z :: r ∧ tv z σ' H' fun σ' H' => ∃ z' r', r = z' :: r' ∧ tw z' σ' H' fun σ' H' => r' = [] ∧ Q σ' H'
    rw [e] at k
    exact k⟩
def spInitB (B C : Addr) (R : Rd → Prop) : Sp := fun vs H Q _ => ∃ (G : Hp) (b dx p s wl : Addr) (d : DS) (bs : List BRows) (e : Int), vs = [.ref b, .ref p, .non] ∧ Same G H ∧ H b = some (.ins B dx []) ∧ G b = none ∧ DiskAt C G H p s wl d ∧ (∀ n, (d.read n).length = 16) ∧ R d.read ∧
  LogIs d.read (newest d.read).2.1 0 bs e ∧ rowsSum bs ≤ 1000000 ∧
  ∀ pg G' H', Stp (fun a => a = b) G H G' H' → BatAt B G' H' b p pg (({ place := (newest d.read).1, epoch := (newest d.read).2.1, many := (newest d.read).2.2, pages := [], fin := 0 } : BS).opened bs e) → H pg = none → Q .non H'
abbrev s_Batches_init : Stmt := inClass (top 18) 0
theorem sc_Batches_init : FnScope ["self", "disk", "bend"] ["self", "disk", "bend"] (defScope s_Batches_init) := ⟨rfl, rfl, rfl, by decide +kernel, rfl, by decide +kernel, by decide +kernel⟩
theorem ok_initB {R : Rd → Prop} {f : Addr} {fd : FuncData} (F : FunX K "__init__" "Batches.__init__" s_Batches_init f fd) (T : TxB K mg B tP tR tW tH) (L_newest_root : FnC P w K mg base "newest_root" 4 ["disk"] (spNewest C R)) (L_Batches_open_log : MtC P w K mg base B "open_log" 4 ["self"] (spOpen B C)) :
    FnOk P w K mg base CX0 5 f fd ["self", "disk", "bend"] (spInitB B C R) := by
  refine F.ok sc_Batches_init (fun vs H Q E h => ?_) (fun cdv A outer st H vs Q E hr h => ?_)
  · obtain ⟨G, b, dx, p, s, wl, d, bs, e, rfl, _⟩ := h
    rfl
  · obtain ⟨G, b, dx, p, s, wl, d, bs, e, rfl, gh, h1, gb, Dk, l16, hR, lg0, sz, k⟩ := h
    have nd := sc_Batches_init.nd
    have hu := hu_of hr
    refine ⟨_, (pss_cons (ps_fldK (K := K) rfl (pv 0) (pv 1) rfl)
    (pss_cons (ps_fldK (K := K) rfl (pv 0) (pv 2) rfl)
    (pss_cons (ps_asg (pe_fnc L_newest_root (hr.mono (by decide)) rfl (pa_cons (pv 1) pa_nil)) (pg_tupK (K := K) (n := 3) rfl rfl (pgs_cons (pg_fldK (K := K) rfl (pv 0)) (pgs_cons (pg_fldK (K := K) rfl (pv 0)) (pgs_cons (pg_fldK (K := K) rfl (pv 0)) pgs_nil)))))
    (pss_cons (ps_fldK (K := K) rfl (pv 0) pe_dnewK rfl)
    (pss_cons (ps_fldK (K := K) rfl (pv 0) pe_int rfl)
    (pss_one (ps_expr (pe_mtc0 (pv 0) L_Batches_open_log (hr.mono (by decide)))))))))), ?_⟩
    refine ⟨_, rfl, _, rfl, b, B, dx, _, rfl, h1, T.cl, T.m1, (by show 0 < 1000; decide), ?_⟩
    rw [bf_i0]
    generalize e1 : upd H b _ = H1
    obtain ⟨s1, f1, k1⟩ := wr_of (O := fun a => a = b) (Stp.refl gh) h1 gb (.inl rfl) e1
    refine ⟨_, rfl, _, rfl, b, B, dx, _, rfl, f1, T.cl, T.m2, (by show 1 < 1000; decide), ?_⟩
    rw [bf_i1]
    generalize e2 : upd H1 b _ = H2
    obtain ⟨s2, f2, k2⟩ := wr_of s1 f1 gb (.inl rfl) e2
    have bdp : ∀ a, DOwn p s wl a → ¬ a = b := fun a ha => by
      obtain ⟨dxp, rlp, hp, _⟩ := Dk.ob
      obtain ⟨kvp, hs, _⟩ := Dk.sec
      obtain ⟨wsp, hw, _⟩ := Dk.wai
      rcases ha with rfl | rfl | rfl
      · exact ne_of hp h1 fun z => by cases z
      · exact ne_of hs h1 fun z => nomatch z
      · exact ne_of hw h1 fun z => nomatch z
    have Dk2 := Dk.stp s2 bdp
    refine ⟨_, rfl, G, p, s, wl, d, rfl, s2.gh, Dk2, l16, hR, fun v3 G3 H3 s3 ⟨t, ev, ht, nt, gt⟩ => ?_⟩
    subst ev
    have s23 := s2.trans s3 fun b z => z.elim
    have f3 := s3.kp _ _ f2 fun z => z
    have tb : t ≠ b := (ne_of_none f2 nt).symm
    have g3 := s3.nw b (ne_none f2) gb
    refine g_trip ht ?_
    refine ⟨_, rfl, b, B, dx, _, rfl, f3, T.cl, T.m3, (by show 2 < 1000; decide), ?_⟩
    rw [bf_i2]
    generalize e4 : upd H3 b _ = H4
    obtain ⟨s4, f4, k4⟩ := wr_of s23 f3 g3 (.inl rfl) e4
    refine ⟨_, rfl, b, B, dx, _, rfl, f4, T.cl, T.m4, (by show 3 < 1000; decide), ?_⟩
    rw [bf_i3]
    generalize e5 : upd H4 b _ = H5
    obtain ⟨s5, f5, k5⟩ := wr_of s4 f4 g3 (.inl rfl) e5
    refine ⟨_, rfl, b, B, dx, _, rfl, f5, T.cl, T.m5, (by show 4 < 1000; decide), ?_⟩
    rw [bf_i4]
    generalize e6 : upd H5 b _ = H6
    obtain ⟨s6, f6, k6⟩ := wr_of s5 f5 g3 (.inl rfl) e6
    intro pg npg
    generalize e7 : upd H6 pg _ = H7
    obtain ⟨s7, f7, k7, g7, z7⟩ := own_of s6 npg e7
    have npb : pg ≠ b := (ne_of_none f6 npg).symm
    refine ⟨_, rfl, b, B, dx, _, rfl, k7 _ _ f6, T.cl, T.m6, (by show 5 < 1000; decide), ?_⟩
    rw [bf_i5]
    generalize e8 : upd H7 b _ = H8
    obtain ⟨s8, f8, k8⟩ := wr_of s7 (k7 _ _ f6) g3 (.inl rfl) e8
    refine ⟨_, rfl, b, B, dx, _, rfl, f8, T.cl, T.m7, (by show 6 < 1000; decide), ?_⟩
    rw [bf_i6]
    generalize e9 : upd H8 b _ = H9
    obtain ⟨s9, f9, k9⟩ := wr_of s8 f8 g3 (.inl rfl) e9
    have D9 : BatAt B G3 H9 b p pg ({ place := (newest d.read).1, epoch := (newest d.read).2.1, many := (newest d.read).2.2, pages := [], fin := 0 } : BS) := ⟨⟨dx, f9⟩, ⟨[], k9 _ _ npb (k8 _ _ npb f7), .nil⟩, g3, g7⟩
    have Dk9 := Dk.stp s9 bdp
    have sep : ∀ a, DOwn p s wl a → ¬ BOwn b pg a := fun a ha hb => by
      rcases hb with hb | hb
      · exact bdp a ha hb
      · subst hb
        obtain ⟨dxp, rlp, hp, _⟩ := Dk.ob
        obtain ⟨kvp, hs, _⟩ := Dk.sec
        obtain ⟨wsp, hw, _⟩ := Dk.wai
        rcases ha with rfl | rfl | rfl
        · rw [z7] at hp; cases hp
        · rw [z7] at hs; cases hs
        · rw [z7] at hw; cases hw
    refine ⟨_, rfl, b, dx, _, rfl, f9, bf_no (by decide +kernel) (by decide +kernel) (by decide +kernel) (by decide +kernel) (by decide +kernel) (by decide +kernel) (by decide +kernel), G3, b, p, pg, s, wl, _, d, bs, e, rfl, s9.gh, D9, Dk9, sep, l16, lg0, by show 0 + rowsSum bs ≤ 1000000; omega, fun G10 H10 s10 D10 => ?_⟩
    exact k pg G10 H10 (s9.trans s10 fun c hc => hc.elim (fun z => .inl z) fun z => .inr (by rw [z]; exact z7)) D10 z7
end
end K51

/-! KB5: a commit. -/
namespace K51
open PySem PySem.Spec PyProof.Rows L2 Y
theorem for_enumM {K : PySem.W.Frag} {a : Addr} {xs : List V} {g : TG} {tb : TS} {D : Ends} {σ : L2.St} {H : Hp} (Pv : Nat → L2.St → Hp → Prop) (h0 : Pv 0 σ H) (hq : ∀ i σ H, Pv i σ H → SqL K H a xs)
    (hs : ∀ (i : Nat) (x : V) (T : Addr) (σ : L2.St) (H : Hp), xs[i]? = some x → Pv i σ H → H T = none → g (.ref T) σ (upd H T (.tup [.int (i : Nat), x])) fun σ2 H2 => tb { D with nx := Pv (i + 1), ct := Pv (i + 1), bk := D.nx } σ2 H2)
    (hd : ∀ σ H, Pv xs.length σ H → D.nx σ H) :
    ∃ W : Nat → Nat → L2.St → Hp → Prop, (∃ m, W 0 m σ H) ∧ ∀ i m σ H, W i m σ H →
      ((Ite K a).stop i H ∧ D.nx σ H) ∨ ((Ite K a).go i H ∧ ∃ N : L2.St → Hp → Prop, (∀ σ' H', N σ' H' → ∃ m', m' < m ∧ W (i + 1) m' σ' H') ∧ ∀ v H', (Ite K a).yld i H v H' → g v σ H' fun σ2 H2 => tb { D with nx := N, ct := N, bk := D.nx } σ2 H2) := by
  refine ⟨fun i m σ H => m = xs.length - i ∧ i ≤ xs.length ∧ Pv i σ H, ⟨_, rfl, Nat.zero_le _, h0⟩, ?_⟩
  rintro i m σ H ⟨rfl, hi, p⟩
  have qx := hq i σ H p
  by_cases hlt : i < xs.length
  · refine .inr ⟨⟨xs, _, qx, List.getElem?_eq_getElem hlt⟩, Pv (i + 1), fun σ' H' p' => ⟨_, by omega, rfl, by omega, p'⟩, fun v H' y => ?_⟩
    obtain ⟨T, x', rfl, hT, rfl, f1⟩ := y
    exact hs i x' T σ H (f1 xs qx) p hT
  · have e : i = xs.length := by omega
    subst e
    exact .inl ⟨⟨xs, qx, Nat.le_refl _⟩, hd σ H p⟩
/-- rows that someone hands in: none of their lists is the list l -/
def RowsH (H : Hp) (a : Addr) (rows : BRows) (l : Addr) : Prop := a ≠ l ∧ ∃ us, H a = some (.lst us) ∧ Paired (fun v (x : Int × Page) => ∃ t c, v = V.ref t ∧ H t = some (.tup [.int x.1, .ref c]) ∧ H c = some (rowI x.2) ∧ c ≠ l) us rows
theorem RowsH.lst {H : Hp} {a : Addr} {rows : BRows} {l : Addr} (h : RowsH H a rows l) : LstAt rSec H H a rows := by
  obtain ⟨_, us, h1, h2⟩ := h
  refine ⟨us, h1, pd_mono (fun v x z => ?_) h2⟩
  obtain ⟨t, c, e, a1, a2, _⟩ := z
  exact ⟨t, _, _, e, a1, rfl, rLI_of a2⟩
def BS.commit (x : BS) (cut : Bool) (rows : BRows) : BS := if cut then x else { x with fin := x.fin + (parts (contOf x.epoch rows) : Nat), pages := takeR x.pages rows, many := x.many + 1 }
def DBOwn (p s wl b pg : Addr) : Addr → Prop := fun a => DOwn p s wl a ∨ BOwn b pg a
theorem cont_len {e : Int} {rows : BRows} (h : ∀ r ∈ rows, r.2.length = 64) : (contOf e rows).length = 8 + 68 * rows.length := by
  unfold contOf
  rw [List.length_append, List.length_append, enc_len h]
  show 4 + 4 + _ = _
  omega
theorem writes_snoc (d : DS) (l : List (Int × Sec)) (x : Int × Sec) : d.writes (l ++ [x]) = (d.writes l).write x.1 x.2 := by
  unfold DS.writes
  rw [List.foldl_append]
  rfl
theorem logW_succ {e : Int} {c : List Int} {i : Nat} (h : i < parts c) : (logW e c).take (i + 1) = (logW e c).take i ++ [(lg (e + i), part c i)] := by
  unfold logW
  rw [List.take_add_one, List.getElem?_map, List.getElem?_range h]
  rfl
/-! ### what fits stays fitting -/
theorem counts_wai (d : DS) : d.counts.wai.length ≤ d.wai.length := by
  unfold DS.counts
  split
  · exact Nat.le_refl _
  · split
    · exact Nat.le_refl _
    · split
      · exact Nat.zero_le _
      · exact Nat.le_refl _
theorem counts_sz {d : DS} (h : Fit d) : d.counts.sec.length + d.counts.wai.length ≤ d.sec.length + d.wai.length := by
  unfold DS.counts
  split
  · exact Nat.le_refl _
  · split
    · exact Nat.le_refl _
    · split
      · obtain ⟨_, b, _⟩ := foldl_torn h.lw (d.rows.zip (nums (d.wai.map (·.1)))) d.sec h.nd h.ls
        have q := le_nums_len (d.wai.map (·.1))
        rw [List.length_zip] at b
        rw [List.length_map] at q
        show (crashed d.sec d.wai d.rows).length + 0 ≤ _
        unfold crashed
        omega
      · exact Nat.le_refl _
theorem fit_write {d : DS} (h : Fit d) {n : Int} {x : Sec} (hx : x.length = 16) (hs : d.sec.length + d.wai.length < 60000) (hw : d.wai.length < 60) :
    Fit (d.write n x) ∧ (d.write n x).sec.length + (d.write n x).wai.length ≤ d.sec.length + d.wai.length + 1 ∧ (d.write n x).wai.length ≤ d.wai.length + 1 := by
  have hc := h.counts
  have h1 := counts_sz h
  have h2 := counts_wai d
  by_cases hcut : d.counts.cut = true
  · have e : d.write n x = d.counts := if_pos hcut
    rw [e]
    exact ⟨hc, by omega, by omega⟩
  · have e : d.write n x = { d.counts with wai := d.counts.wai ++ [(n, x)] } := if_neg hcut
    rw [e]
    refine ⟨⟨hc.nd, ?_, hc.rz, hc.ls, ?_, ?_⟩, ?_, ?_⟩
    · show d.counts.sec.length + (d.counts.wai ++ [(n, x)]).length ≤ 60000
      rw [List.length_append]
      show d.counts.sec.length + (d.counts.wai.length + 1) ≤ 60000
      omega
    · intro y hy
      rcases List.mem_append.mp hy with hy | hy
      · exact hc.lw y hy
      · rw [List.mem_singleton] at hy
        subst hy
        exact hx
    · show (d.counts.wai ++ [(n, x)]).length ≤ 60
      rw [List.length_append]
      show d.counts.wai.length + 1 ≤ 60
      omega
    · show d.counts.sec.length + (d.counts.wai ++ [(n, x)]).length ≤ _
      rw [List.length_append]
      show d.counts.sec.length + (d.counts.wai.length + 1) ≤ _
      omega
    · show (d.counts.wai ++ [(n, x)]).length ≤ _
      rw [List.length_append]
      show d.counts.wai.length + 1 ≤ _
      omega
theorem fit_writes : ∀ (l : List (Int × Sec)) {d : DS}, Fit d → (∀ x ∈ l, x.2.length = 16) → d.sec.length + d.wai.length + l.length ≤ 60000 → d.wai.length + l.length ≤ 60 →
    Fit (d.writes l) ∧ (d.writes l).sec.length + (d.writes l).wai.length ≤ d.sec.length + d.wai.length + l.length ∧ (d.writes l).wai.length ≤ d.wai.length + l.length
  | [], d, h, _, _, _ => ⟨h, Nat.le_refl _, Nat.le_refl _⟩
  | x :: l, d, h, hx, h1, h2 => by
    rw [List.length_cons] at h1 h2
    obtain ⟨a, b, c⟩ := fit_write h (n := x.1) (hx x List.mem_cons_self) (by omega) (by omega)
    obtain ⟨a', b', c'⟩ := fit_writes l a (fun y hy => hx y (List.mem_cons_of_mem _ hy)) (by omega) (by omega)
    have e : d.writes (x :: l) = (d.write x.1 x.2).writes l := rfl
    rw [e, List.length_cons]
    exact ⟨a', by omega, by omega⟩
theorem fit_sync {d : DS} (h : Fit d) : Fit d.sync ∧ d.sync.sec.length + d.sync.wai.length ≤ d.sec.length + d.wai.length ∧ d.sync.wai.length ≤ d.wai.length := by
  have hc := h.counts
  have h1 := counts_sz h
  have h2 := counts_wai d
  by_cases hcut : d.counts.cut = true
  · have e : d.sync = d.counts := if_pos hcut
    rw [e]
    exact ⟨hc, h1, h2⟩
  · have e : d.sync = { d.counts with sec := synS d.counts.sec d.counts.wai, wai := [] } := if_neg hcut
    rw [e]
    have z := synS_len d.counts.wai d.counts.sec
    have hz := hc.sz
    refine ⟨⟨synS_nd _ _ hc.nd, ?_, hc.rz, synS_16 _ _ hc.ls hc.lw, (fun x hx => by cases hx), Nat.zero_le _⟩, ?_, Nat.zero_le _⟩
    · show (synS d.counts.sec d.counts.wai).length + 0 ≤ 60000
      omega
    · show (synS d.counts.sec d.counts.wai).length + 0 ≤ _
      omega
theorem DiskAt.keepL {C : Addr} {G H G' H' : Hp} {p s w : Addr} {d : DS} (D : DiskAt C G H p s w d) (e : Stp (DOwn p s w) G H G' H') {q : Addr} {xs : List V} (h : H q = some (.lst xs)) (n : q ≠ w) : H' q = some (.lst xs) :=
  e.kp _ _ h fun z => by
    obtain ⟨dxp, rlp, hp, _⟩ := D.ob
    obtain ⟨kvp, hs, _⟩ := D.sec
    rcases z with z | z | z
    · rw [z, hp] at h; cases h
    · rw [z, hs] at h; cases h
    · exact n z
theorem RowsH.keep {B C : Addr} {G H G' H' : Hp} {a b p pg s wl : Addr} {x : BS} {d : DS} {rows : BRows} (h : RowsH H a rows wl) (D : BatAt B G H b p pg x) (Dk : DiskAt C G H p s wl d) (e : Stp (DBOwn p s wl b pg) G H G' H') : RowsH H' a rows wl := by
  obtain ⟨n, us, h1, h2⟩ := h
  obtain ⟨dxp, rlp, hp, _⟩ := Dk.ob
  obtain ⟨kvp, hs, _⟩ := Dk.sec
  obtain ⟨dxb, hb⟩ := D.ob
  obtain ⟨kvb, hpg, _⟩ := D.pa
  have off : ∀ {c : Addr} {o : HO}, H c = some o → c ≠ wl → ((∃ xs, o = .lst xs) ∨ ∃ xs, o = .tup xs) → ¬ DBOwn p s wl b pg c := by
    rintro c o hc hw hk ((z | z | z) | (z | z))
    · subst z
      rw [hp] at hc
      cases hc
      rcases hk with ⟨_, q⟩ | ⟨_, q⟩ <;> cases q
    · subst z
      rw [hs] at hc
      cases hc
      rcases hk with ⟨_, q⟩ | ⟨_, q⟩ <;> cases q
    · exact hw z
    · subst z
      rw [hb] at hc
      cases hc
      rcases hk with ⟨_, q⟩ | ⟨_, q⟩ <;> cases q
    · subst z
      rw [hpg] at hc
      cases hc
      rcases hk with ⟨_, q⟩ | ⟨_, q⟩ <;> cases q
  obtain ⟨wsp, hw, _⟩ := Dk.wai
  refine ⟨n, us, e.kp _ _ h1 (off h1 n (.inl ⟨_, rfl⟩)), pd_mono (fun v y z => ?_) h2⟩
  obtain ⟨t, c, ev, a1, a2, a3⟩ := z
  exact ⟨t, c, ev, e.kp _ _ a1 (off a1 (ne_of a1 hw fun z => nomatch z) (.inr ⟨_, rfl⟩)), e.kp _ _ a2 (off a2 a3 (.inl ⟨_, rfl⟩)), a3⟩
section
variable {P : Program} {w : World} {K : PySem.W.Frag} {mg : Str → Option Value} {base : Heap} {C B : Addr} {tP tR tW tH : Tok}
def spCommit (B C : Addr) : Sp := fun vs H Q _ => ∃ (G : Hp) (b p pg s wl : Addr) (x : BS) (d : DS) (a : Addr) (rows : BRows), vs = [.ref b, .ref a] ∧ Same G H ∧ BatAt B G H b p pg x ∧ DiskAt C G H p s wl d ∧ (∀ a, DOwn p s wl a → ¬ BOwn b pg a) ∧
  Fit d ∧ d.wai = [] ∧ d.sec.length ≤ 59000 ∧ RowsH H a rows wl ∧ rows.length ≤ 12 ∧ (∀ r ∈ rows, r.2.length = 64) ∧ x.pages.length + rows.length ≤ 1000000 ∧
  ∀ w' G' H', Stp (DBOwn p s wl b pg) G H G' H' → DiskAt C G' H' p s w' (d.commit x.epoch x.fin rows) → BatAt B G' H' b p pg (x.commit (d.commit x.epoch x.fin rows).cut rows) → (w' = wl ∨ H w' = none) → Q (.bl (!(d.commit x.epoch x.fin rows).cut)) H'
abbrev s_Batches_commit : Stmt := inClass (top 18) 4
theorem sc_Batches_commit : FnScope ["self", "rows", "sectors", "first", "marked", "at", "content"] ["self", "rows"] (defScope s_Batches_commit) := ⟨rfl, rfl, rfl, by decide +kernel, rfl, by decide +kernel, by decide +kernel⟩
theorem ok_commit {f : Addr} {fd : FuncData} (F : Fun K "commit" "Batches.commit" s_Batches_commit f fd) (T : TxB K mg B tP tR tW tH) (TD : Cls K C ∧ NoAttr K C "is_cut") (L_content_of : FnC P w K mg base "content_of" 2 ["epoch", "rows"] spContent) (L_log_sectors : FnC P w K mg base "log_sectors" 1 ["content"] spLogSecs)
    (L_log_sector : FnC P w K mg base "log_sector" 1 ["place"] spLogS) (L_Disk_write : MtC P w K mg base C "write" 4 ["self", "number", "content"] (spWrite C)) (L_Disk_sync : MtC P w K mg base C "sync" 4 ["self"] (spSync C)) (L_Batches_take : MtC P w K mg base B "take" 1 ["self", "rows"] (spTakeB B)) :
    FnOk P w K mg base CX0 5 f fd ["self", "rows"] (spCommit B C) := by
  refine F.ok sc_Batches_commit (fun vs H Q E h => ?_) (fun cdv A outer st H vs Q E hr h => ?_)
  · obtain ⟨G, b, p, pg, s, wl, x, d, a, rows, rfl, _⟩ := h
    rfl
  · obtain ⟨G, b, p, pg, s, wl, x, d, a, rows, rfl, gh, D, Dk, sep, fit, w0, sl0, hrows, hl, h64, sz, k⟩ := h
    have nd := sc_Batches_commit.nd
    have hu := hu_of hr
    refine ⟨_, (pss_cons (ps_set (i := 2) nd rfl (Or.inl rfl) (pe_fnc L_log_sectors (hr.mono (by decide)) rfl (pa_cons (pe_fnc L_content_of (hr.mono (by decide)) rfl (pa_cons (pe_fldK (K := K) rfl (pv 0) rfl) (pa_cons (pv 1) pa_nil))) pa_nil)))
    (pss_cons (ps_set (i := 3) nd rfl (Or.inl rfl) (pe_fnc L_log_sector (hr.mono (by decide)) rfl (pa_cons (pe_fldK (K := K) rfl (pv 0) rfl) pa_nil)))
    (pss_cons (ps_set (i := 4) nd rfl (Or.inl rfl) (pe_op op_cat (pe_lst (pa_cons pe_int pa_nil)) (pe_slice (sl_listK (K := K) rfl) (pe_ix (ix_listK (K := K) rfl) (pv 2) pe_int (fun _ _ => rfl)) (po_some pe_int) po_none)))
    (pss_cons (ps_if (pt_cmpR op_eq (pe_fldK (K := K) rfl (pv 0) rfl) pe_str (nomark _))
    (pss_cons (ps_expr (pe_mtc (pe_fldK (K := K) rfl (pv 0) rfl) L_Disk_write (hr.mono (by decide)) (pa_cons (pv 3) (pa_cons (pv 4) pa_nil))))
    (pss_cons (ps_expr (pe_mtc0 (pe_fldK (K := K) rfl (pv 0) rfl) L_Disk_sync (hr.mono (by decide))))
    (pss_one (ps_asg (pv 4) (pg_sub (pv 2) pe_int set_list)))))
    pss_nil)
    (pss_cons (ps_for PassesOwn.never rfl (pi_enumK (K := K) rfl rfl T.b_enumerate (pa_cons (pv 2) pa_nil)) (pg_tupK (K := K) (n := 2) rfl rfl (pgs_cons (pg_name (i := 5) nd rfl (Or.inl rfl)) (pgs_cons (pg_name (i := 6) nd rfl (Or.inl rfl)) pgs_nil)))
    (pss_one (ps_expr (pe_mtc (pe_fldK (K := K) rfl (pv 0) rfl) L_Disk_write (hr.mono (by decide)) (pa_cons (pe_fnc L_log_sector (hr.mono (by decide)) rfl (pa_cons (pe_op op_add (pe_fldK (K := K) rfl (pv 0) rfl) (pv 5)) pa_nil)) (pa_cons (pv 6) pa_nil))))))
    (pss_cons (ps_if (pt_cmpR op_ne (pe_fldK (K := K) rfl (pv 0) rfl) pe_str (nomark _))
    (pss_one (ps_expr (pe_mtc0 (pe_fldK (K := K) rfl (pv 0) rfl) L_Disk_sync (hr.mono (by decide)))))
    pss_nil)
    (pss_cons (ps_expr (pe_mtc (pe_fldK (K := K) rfl (pv 0) rfl) L_Disk_write (hr.mono (by decide)) (pa_cons (pv 3) (pa_cons (pv 4) pa_nil))))
    (pss_cons (ps_if (pt_cmpR op_ne (pe_fldK (K := K) rfl (pv 0) rfl) pe_str (nomark _))
    (pss_one (ps_expr (pe_mtc0 (pe_fldK (K := K) rfl (pv 0) rfl) L_Disk_sync (hr.mono (by decide)))))
    pss_nil)
    (pss_cons (ps_if (pt_val (pe_fldK (K := K) rfl (pe_fldK (K := K) rfl (pv 0) rfl) rfl))
    (pss_one (ps_ret pe_bl))
    pss_nil)
    (pss_cons (ps_fldK (K := K) rfl (pv 0) (pe_op op_add (pe_fldK (K := K) rfl (pv 0) rfl) (pe_callB (call_len_seqK (K := K) rfl) (by rfl) T.b_len (by decide +kernel) (pa_cons (pv 2) pa_nil))) rfl)
    (pss_cons (ps_expr (pe_mtc (pv 0) L_Batches_take (hr.mono (by decide)) (pa_cons (pv 1) pa_nil)))
    (pss_one (ps_ret pe_bl))))))))))))), ?_⟩
    obtain ⟨dx, h1⟩ := id D.ob
    refine ⟨_, rfl, b, B, dx, _, _, rfl, h1, T.cl, T.m4, bf_epoch, _, rfl, G, _, a, rows, rfl, gh, hrows.lst, by omega, h64, fun q1 G1 H1 s1 n1 g1 f1 => ?_⟩
    have lc : (contOf x.epoch rows).length = 8 + 68 * rows.length := cont_len h64
    refine ⟨G1, q1, _, rfl, s1.gh, f1, by omega, fun L us G2 H2 s2 n2 g2 f2 p2 => ?_⟩
    have s12 := s1.trans s2 fun b z => z.elim
    have h12 := s12.kp _ _ h1 fun z => z
    refine ⟨_, rfl, b, B, dx, _, _, rfl, h12, T.cl, T.m7, bf_end, _, rfl, ?_⟩
    have lus : us.length = parts (contOf x.epoch rows) := by rw [pd_len p2]; unfold partsL; rw [List.length_map, List.length_range]
    have lp0 : 0 < parts (contOf x.epoch rows) := by unfold parts; omega
    obtain ⟨u0, hu0⟩ : ∃ u, us[0]? = some u := ⟨_, List.getElem?_eq_getElem (by omega)⟩
    obtain ⟨y0, hy0, rv0⟩ := pd_get p2 hu0
    obtain ⟨c0, rfl, hc0⟩ := rLI rv0
    have ey0 : y0 = part (contOf x.epoch rows) 0 := by
      unfold partsL at hy0
      rw [List.getElem?_map, List.getElem?_range lp0] at hy0
      exact (Option.some.inj hy0).symm
    subst ey0
    refine ⟨(by show 1 ≤ sizeLine; decide), fun p3 n3 => ?_⟩
    generalize e3 : upd H2 p3 _ = H3
    obtain ⟨s3, f3, k3, g3, z3⟩ := own_of s12 n3 e3
    refine ⟨_, rfl, L, _, _, _, rfl, rfl, SqL.of (k3 _ _ f2), at_of (j := 0) rfl hu0, _, rfl, c0, _, rfl, SqL.of (k3 _ _ (s12.gh _ _ hc0)), fun p4 n4 => ?_⟩
    rw [cut_1]
    generalize e4 : upd H3 p4 _ = H4
    obtain ⟨s4, f4, k4, g4, z4⟩ := own_of s3 n4 e4
    refine ⟨p3, p4, _, _, rfl, rfl, k4 _ _ f3, f4, ?_, fun p5 n5 => ?_⟩
    · rw [List.length_map, List.length_drop, part_len]
      show 1 + 15 ≤ sizeLine
      decide
    generalize e5 : upd H4 p5 _ = H5
    obtain ⟨s5, f5, k5, g5, z5⟩ := own_of s4 n5 e5
    have fm : H5 p5 = some (rowI (mark (part (contOf x.epoch rows) 0))) := f5
    have h15 := k5 _ _ (k4 _ _ (k3 _ _ h12))
    have fL5 := k5 _ _ (k4 _ _ (k3 _ _ f2))
    refine ⟨_, rfl, b, B, dx, _, _, rfl, h15, T.cl, T.m2, bf_bend, rfl, _, rfl, ?_⟩
    have eNo : ∀ z : Str, decide (V.non = V.str z) = false := fun z => decide_eq_false fun e => nomatch e
    rw [eNo]
    refine iteF ?_
    -- the disk under way
    have sepN : ∀ {w1 : Addr}, (w1 = wl ∨ H w1 = none) → ∀ c, BOwn b pg c → ¬ DOwn p s w1 c := fun {w1} hw c hc hd => by
      rcases hd with z | z | z
      · exact sep c (.inl z) hc
      · exact sep c (.inr (.inl z)) hc
      · rcases hw with e | e
        · exact sep c (.inr (.inr (z.trans e))) hc
        · obtain ⟨kvb, hpg, _⟩ := D.pa
          rw [← z] at e
          rcases hc with y | y
          · rw [y, h1] at e; cases e
          · rw [y, hpg] at e; cases e
    have trO : ∀ {w1 : Addr}, (w1 = wl ∨ H w1 = none) → ∀ c, DOwn p s w1 c → DBOwn p s wl b pg c ∨ H c = none := fun {w1} hw c hd => by
      rcases hd with z | z | z
      · exact .inl (.inl (.inl z))
      · exact .inl (.inl (.inr (.inl z)))
      · rcases hw with e | e
        · exact .inl (.inl (.inr (.inr (z.trans e))))
        · exact .inr (by rw [z]; exact e)
    have s5' : Stp (DBOwn p s wl b pg) G H G2 H5 := s5.mono fun _ z => z.elim
    have D5 := D.stp s5 fun _ _ z => z
    have Dk5 := Dk.stp s5 fun _ _ z => z
    obtain ⟨wsp, hwl, _⟩ := id Dk.wai
    have nLw : L ≠ wl := fun z => by rw [z] at fL5; have := s1.kp _ _ hwl fun z => z; rw [z] at n2; rw [this] at n2; cases n2
    have n5w : p5 ≠ wl := fun z => by rw [z, hwl] at z5; cases z5
    generalize hcs : contOf x.epoch rows = cs at *
    refine ⟨_, rfl, L, us, rfl, SqL.of fL5, for_enumM (K := K) (a := L) (xs := us)
      (fun i σ H6 => i ≤ us.length ∧ (∃ x5 x6, σ = [some (.ref b), some (.ref a), some (.ref L), some (.int (lg x.fin)), some (.ref p5), x5, x6]) ∧ ∃ G6 w6, Stp (DBOwn p s wl b pg) G H G6 H6 ∧ Same G2 G6 ∧ DiskAt C G6 H6 p s w6 (d.writes ((logW x.fin cs).take i)) ∧ BatAt B G6 H6 b p pg x ∧
        (w6 = wl ∨ H w6 = none) ∧ H6 L = some (.lst us) ∧ H6 p5 = some (rowI (mark (part cs 0))) ∧ L ≠ w6 ∧ p5 ≠ w6)
      ⟨Nat.zero_le _, ⟨_, _, rfl⟩, G2, wl, s5', Same.refl _, Dk5, D5, .inl rfl, fL5, fm, nLw, n5w⟩ (fun i σ H6 ⟨_, _, G6, w6, _, _, _, _, _, z, _⟩ => SqL.of z) ?_ ?_⟩
    · rintro i y T0 σ H6 hi ⟨_, ⟨x5, x6, rfl⟩, G6, w6, s6, gg6, Dk6, D6, hw6, fL6, fm6, nL6, n56⟩ nT
      have hi2 := (List.getElem?_eq_some_iff.mp hi).1
      have hiw : i < parts cs := by rw [← lus]; exact hi2
      obtain ⟨yy, hyy, rv⟩ := pd_get p2 hi
      obtain ⟨c, rfl, hc⟩ := rLI rv
      have eyy : yy = part cs i := by
        unfold partsL at hyy
        rw [List.getElem?_map, List.getElem?_range hiw] at hyy
        exact (Option.some.inj hyy).symm
      subst eyy
      generalize e7 : upd H6 T0 _ = H7
      obtain ⟨s7, f7, k7, g7, z7⟩ := own_of s6 nT e7
      have s67 : Stp O0 G6 H6 G6 H7 := (own_of (Stp.refl (O := O0) s6.gh) nT e7).1
      have D7 := D6.stp s67 fun _ _ z => z
      have Dk7 := Dk6.stp s67 fun _ _ z => z
      obtain ⟨dx7, h17⟩ := id D7.ob
      obtain ⟨dxp7, rlp7, hp7, _⟩ := id Dk7.ob
      have lw : ((logW x.fin cs).take i).length = i := by
        unfold logW
        rw [List.length_take, List.length_map, List.length_range]
        omega
      have h16 : ∀ y ∈ (logW x.fin cs).take i, y.2.length = 16 := fun y hy => by
        obtain ⟨j, _, e⟩ := List.mem_map.mp (List.mem_of_mem_take hy)
        rw [← e]
        exact part_len _ _
      have lpc : parts cs ≤ 56 := by unfold parts; omega
      obtain ⟨fi, fs, fw⟩ := fit_writes _ fit h16 (by rw [w0, lw]; show _ + 0 + i ≤ _; omega) (by rw [w0, lw]; show 0 + i ≤ _; omega)
      have hc7 := s7.gh _ _ (gg6 _ _ hc)
      have ncw : c ≠ w6 := fun z => by
        have := Dk6.gw
        rw [← z, gg6 _ _ hc] at this
        cases this
      refine g_pair f7 ⟨_, rfl, b, B, dx7, _, _, rfl, h17, T.cl, T.m1, bf_disk, p, dxp7, _, rfl, hp7, df_no (by decide +kernel) (by decide +kernel) (by decide +kernel) (by decide +kernel) (by decide +kernel),
        _, rfl, b, B, dx7, _, _, rfl, h17, T.cl, T.m7, bf_end, _, rfl, _, _, rfl, rfl, _, rfl, _, rfl, G6, p, s, w6, _, _, c, _, rfl, s7.gh, Dk7, fi, hc7, ncw, fun w8 G8 H8 s8 D8 hw8 => ?_⟩
      have s78 := s7.trans s8 (trO hw6)
      have nh8 : w8 = wl ∨ H w8 = none := by
        rcases hw8 with e | e
        · rw [e]; exact hw6
        · exact .inr (s7.fr e)
      have fL8 := Dk7.keepL s8 (k7 _ _ fL6) nL6
      have fm8 := Dk7.keepL s8 (k7 _ _ fm6) n56
      refine ⟨hi2, ⟨_, _, rfl⟩, G8, w8, s78, gg6.trans s8.gg, ?_, D7.stp s8 (sepN hw6), nh8, fL8, fm8, ?_, ?_⟩
      · rw [logW_succ hiw, writes_snoc]
        exact D8
      · rcases hw8 with e | e
        · rw [e]; exact nL6
        · exact ne_of_none (k7 _ _ fL6) e
      · rcases hw8 with e | e
        · rw [e]; exact n56
        · exact ne_of_none (k7 _ _ fm6) e
    · rintro σ H6 ⟨_, ⟨x5, x6, rfl⟩, G6, w6, s6, gg6, Dk6, D6, hw6, fL6, fm6, nL6, n56⟩
      have elg : (logW x.fin cs).take us.length = logW x.fin cs := List.take_of_length_le (by unfold logW; rw [List.length_map, List.length_range, lus]; exact Nat.le_refl _)
      rw [elg] at Dk6
      have lwL : (logW x.fin cs).length = parts cs := by unfold logW; rw [List.length_map, List.length_range]
      have h16 : ∀ y ∈ logW x.fin cs, y.2.length = 16 := fun y hy => by
        obtain ⟨j, _, e⟩ := List.mem_map.mp hy
        rw [← e]
        exact part_len _ _
      have lpc : parts cs ≤ 56 := by unfold parts; omega
      obtain ⟨f1', fs1, fw1⟩ := fit_writes _ fit h16 (by rw [w0, lwL]; show _ + 0 + _ ≤ _; omega) (by rw [w0, lwL]; show 0 + _ ≤ _; omega)
      rw [w0, lwL] at fs1 fw1
      have fs1 : (d.writes (logW x.fin cs)).sec.length + (d.writes (logW x.fin cs)).wai.length ≤ d.sec.length + 0 + parts cs := fs1
      have fw1 : (d.writes (logW x.fin cs)).wai.length ≤ 0 + parts cs := fw1
      obtain ⟨f2', fs2, fw2⟩ := fit_sync f1'
      obtain ⟨f3', fs3, fw3⟩ := fit_write f2' (n := lg x.fin) (x := mark (part cs 0)) (by show (1 :: (part cs 0).drop 1).length = 16; rw [List.length_cons, List.length_drop, part_len]) (by omega) (by omega)
      obtain ⟨f4', fs4, fw4⟩ := fit_sync f3'
      obtain ⟨dx6, h16b⟩ := id D6.ob
      obtain ⟨dxp6, rlp6, hp6, _⟩ := id Dk6.ob
      refine ⟨_, rfl, b, B, dx6, _, _, rfl, h16b, T.cl, T.m2, bf_bend, rfl, _, rfl, ?_⟩
      rw [eNo]
      refine iteT ?_
      refine ⟨_, rfl, b, B, dx6, _, _, rfl, h16b, T.cl, T.m1, bf_disk, p, dxp6, _, rfl, hp6, df_no (by decide +kernel) (by decide +kernel) (by decide +kernel) (by decide +kernel) (by decide +kernel), G6, p, s, w6, _, rfl, s6.gh, Dk6, f1', fun w7 G7 H7 s7 Dk7 hw7 => ?_⟩
      have s67 := s6.trans s7 (trO hw6)
      have D7 := D6.stp s7 (sepN hw6)
      have nh7 : w7 = wl ∨ H w7 = none := by
        rcases hw7 with e | e
        · rw [e]; exact hw6
        · exact .inr (s6.fr e)
      have fL7 := Dk6.keepL s7 fL6 nL6
      have fm7 := Dk6.keepL s7 fm6 n56
      have nL7 : L ≠ w7 := by
        rcases hw7 with e | e
        · rw [e]; exact nL6
        · exact ne_of_none fL6 e
      have n57 : p5 ≠ w7 := by
        rcases hw7 with e | e
        · rw [e]; exact n56
        · exact ne_of_none fm6 e
      obtain ⟨dx7, h17⟩ := id D7.ob
      obtain ⟨dxp7, rlp7, hp7, _⟩ := id Dk7.ob
      refine ⟨_, rfl, b, B, dx7, _, _, rfl, h17, T.cl, T.m1, bf_disk, p, dxp7, _, rfl, hp7, df_no (by decide +kernel) (by decide +kernel) (by decide +kernel) (by decide +kernel) (by decide +kernel), _, rfl, _, rfl, G7, p, s, w7, _, _, p5, _, rfl, s67.gh, Dk7, f2', fm7, n57, fun w8 G8 H8 s8 Dk8 hw8 => ?_⟩
      have s68 := s67.trans s8 (trO nh7)
      have D8 := D7.stp s8 (sepN nh7)
      have nh8 : w8 = wl ∨ H w8 = none := by
        rcases hw8 with e | e
        · rw [e]; exact nh7
        · exact .inr (s67.fr e)
      have fL8 := Dk7.keepL s8 fL7 nL7
      have nL8 : L ≠ w8 := by
        rcases hw8 with e | e
        · rw [e]; exact nL7
        · exact ne_of_none fL7 e
      obtain ⟨dx8, h18⟩ := id D8.ob
      obtain ⟨dxp8, rlp8, hp8, _⟩ := id Dk8.ob
      refine ⟨_, rfl, b, B, dx8, _, _, rfl, h18, T.cl, T.m2, bf_bend, rfl, _, rfl, ?_⟩
      rw [eNo]
      refine iteT ?_
      refine ⟨_, rfl, b, B, dx8, _, _, rfl, h18, T.cl, T.m1, bf_disk, p, dxp8, _, rfl, hp8, df_no (by decide +kernel) (by decide +kernel) (by decide +kernel) (by decide +kernel) (by decide +kernel), G8, p, s, w8, _, rfl, s68.gh, Dk8, f3', fun w9 G9 H9 s9 Dk9 hw9 => ?_⟩
      have s69 := s68.trans s9 (trO nh8)
      have D9 := D8.stp s9 (sepN nh8)
      have nh9 : w9 = wl ∨ H w9 = none := by
        rcases hw9 with e | e
        · rw [e]; exact nh8
        · exact .inr (s68.fr e)
      have fL9 := Dk8.keepL s9 fL8 nL8
      obtain ⟨dx9, h19⟩ := id D9.ob
      obtain ⟨dxp9, rlp9, hp9, _⟩ := id Dk9.ob
      have ed : ((((d.writes (logW x.fin cs)).sync).write (lg x.fin) (mark (part cs 0))).sync) = d.commit x.epoch x.fin rows := by
        unfold DS.commit
        rw [hcs]
      rw [ed] at Dk9 hp9
      refine ⟨_, rfl, b, B, dx9, _, _, rfl, h19, T.cl, T.m1, bf_disk, p, C, dxp9, _, _, rfl, hp9, TD.1, TD.2, df_cut, _, rfl, if_bool (fun hc => ?_) (fun hc => ?_)⟩
      · have z := k w9 G9 H9 s69 Dk9 (by unfold BS.commit; rw [hc]; exact D9) nh9
        rw [hc] at z
        exact z
      · refine ⟨_, rfl, b, B, dx9, _, _, rfl, h19, T.cl, T.m7, bf_end, _, rfl, L, _, rfl, .inl (SqL.of fL9), _, _, rfl, rfl, _, rfl, b, B, dx9, _, rfl, h19, T.cl, T.m7, (by show 7 < 1000; decide), ?_⟩
        rw [bf_p_end]
        generalize e10 : upd H9 b _ = H10
        obtain ⟨s10, f10, k10⟩ := wr_of s69 h19 D9.gb (.inl (.inr (.inl rfl))) e10
        obtain ⟨kv9, h29, r29⟩ := id D9.pa
        have D10 : BatAt B G9 H10 b p pg { x with fin := x.fin + (parts cs : Nat) } := ⟨⟨dx9, by rw [f10, lus]⟩, ⟨kv9, k10 _ _ D9.bp.symm h29, r29⟩, D9.gb, D9.gp⟩
        have s9b : Stp (BOwn b pg) G9 H9 G9 H10 := (wr_of (O := BOwn b pg) (Stp.refl s69.gh) h19 D9.gb (.inl (.inl rfl)) e10).1
        have sepD : ∀ c, DOwn p s w9 c → ¬ BOwn b pg c := fun c hd hb => sepN nh9 c hb hd
        have Dk10 := Dk9.stp s9b sepD
        have hr10 := hrows.keep D Dk s10
        refine ⟨_, rfl, b, dx9, _, rfl, f10, bf_no (by decide +kernel) (by decide +kernel) (by decide +kernel) (by decide +kernel) (by decide +kernel) (by decide +kernel) (by decide +kernel), _, rfl, G9, b, p, pg, _, a, rows, rfl, s10.gh, D10, hr10.lst, sz, fun G11 H11 s11 D11 => ?_⟩
        have z := k w9 G11 H11 (s10.trans s11 fun c hc => .inl (.inr hc)) (Dk10.stp s11 sepD) (by unfold BS.commit; rw [hc, hcs]; exact D11) nh9
        rw [hc] at z
        exact z
end
end K51

/-! KCM: what is read back of a batch that was written. -/
namespace K51
open Y
/-- the content, filled up to whole parts -/
def padC (c : List Int) : List Int := c ++ List.replicate (15 * parts c - c.length) 0
theorem padC_len (c : List Int) : (padC c).length = 15 * parts c := by
  unfold padC
  rw [List.length_append, List.length_replicate]
  have : c.length ≤ 15 * parts c := by unfold parts; omega
  omega
theorem part_tail (c : List Int) {i : Nat} (h : i < parts c) : (part c i).drop 1 = ((padC c).drop (15 * i)).take 15 := by
  show ((c.drop (15 * i)).take 15 ++ List.replicate (15 - ((c.drop (15 * i)).take 15).length) 0) = _
  unfold padC
  have hp : c.length ≤ 15 * parts c := by unfold parts; omega
  have h1 : 15 * i < c.length ∨ c.length = 0 := by unfold parts at h; omega
  have h0 : 15 * i ≤ c.length := by unfold parts at h; omega
  rw [List.drop_append_of_le_length h0]
  generalize hd : c.drop (15 * i) = y
  have ly : y.length = c.length - 15 * i := by rw [← hd, List.length_drop]
  rw [List.take_append, List.length_take, List.take_replicate]
  congr 2
  unfold parts at hp h ⊢
  omega
theorem strm_pad {rd : Rd} {e : Int} {c : List Int} (h : ∀ i : Nat, i < parts c → (rd (lg (e + i))).drop 1 = (part c i).drop 1) : ∀ m, m ≤ parts c → strm rd e m = (padC c).take (15 * m)
  | 0, _ => by rw [Nat.mul_zero, List.take_zero]; rfl
  | m + 1, hm => by
    rw [strm_succ, strm_pad h m (by omega), h m (by omega), part_tail c (by omega)]
    rw [show 15 * (m + 1) = 15 * m + 15 by omega, List.take_add]
theorem sl_take {xs : List Int} {a b n : Nat} (h : b ≤ n) : sl (xs.take n) a b = sl xs a b := by
  unfold sl
  rw [List.take_take, Nat.min_eq_left h]
theorem sl_pad {c : List Int} {a b : Nat} (h : b ≤ c.length) : sl (padC c) a b = sl c a b := by
  unfold sl padC
  rw [List.take_append_of_le_length h]
abbrev encB (r : Int × Page) : List Int := four r.1 ++ r.2
theorem flat_drop : ∀ {rows : BRows} (k : Nat), (∀ r ∈ rows, r.2.length = 64) → ∀ {r : Int × Page}, rows[k]? = some r → ∃ rest, (rows.flatMap encB).drop (68 * k) = four r.1 ++ (r.2 ++ rest)
  | [], k, _, r, h => by simp at h
  | x :: rows, 0, _, r, h => by
    obtain rfl : x = r := Option.some.inj h
    refine ⟨rows.flatMap encB, ?_⟩
    rw [Nat.mul_zero, List.drop_zero, List.flatMap_cons, List.append_assoc]
  | x :: rows, k + 1, h64, r, h => by
    obtain ⟨rest, e⟩ := flat_drop k (fun y hy => h64 y (List.mem_cons_of_mem _ hy)) (r := r) h
    refine ⟨rest, ?_⟩
    have lx : (encB x).length = 68 := by
      show (four x.1 ++ x.2).length = 68
      rw [List.length_append, h64 x List.mem_cons_self]
      rfl
    have e1 : (encB x ++ rows.flatMap encB).drop 68 = rows.flatMap encB := by
      rw [List.drop_append_of_le_length (by rw [lx]; exact Nat.le_refl _), List.drop_of_length_le (by rw [lx]; exact Nat.le_refl _), List.nil_append]
    rw [List.flatMap_cons, show 68 * (k + 1) = 68 + 68 * k by omega, ← List.drop_drop, e1]
    exact e
theorem cont_drop {ep : Int} {rows : BRows} (h64 : ∀ r ∈ rows, r.2.length = 64) {k : Nat} {r : Int × Page} (h : rows[k]? = some r) : ∃ rest, (contOf ep rows).drop (8 + 68 * k) = four r.1 ++ (r.2 ++ rest) := by
  obtain ⟨rest, e⟩ := flat_drop k h64 h
  refine ⟨rest, ?_⟩
  have e1 : (contOf ep rows).drop 8 = rows.flatMap encB := rfl
  rw [← List.drop_drop, e1]
  exact e
theorem cont_len' {e : Int} : ∀ {rows : BRows}, (∀ r ∈ rows, r.2.length = 64) → (contOf e rows).length = 8 + 68 * rows.length := by
  intro rows h
  have el : ∀ rows : BRows, (∀ r ∈ rows, r.2.length = 64) → (rows.flatMap encB).length = 68 * rows.length := by
    intro rows
    induction rows with
    | nil => intro _; rfl
    | cons r rows ih =>
      intro h
      rw [List.flatMap_cons, List.length_append, ih fun r hr => h r (List.mem_cons_of_mem _ hr), List.length_append, h r List.mem_cons_self, List.length_cons]
      show 4 + 64 + _ = _
      omega
  show (four e ++ four (rows.length : Int) ++ rows.flatMap encB).length = _
  rw [List.length_append, List.length_append, el rows h]
  show 4 + 4 + _ = _
  omega
theorem drop_take_sl {xs : List Int} {a b : Nat} : sl xs a b = (xs.drop a).take (b - a) := by
  unfold sl
  rw [List.drop_take]
/-- a batch that stands written, its head marked -/
theorem batch_back {rd : Rd} {e ep : Int} {rows : BRows} (h64 : ∀ r ∈ rows, r.2.length = 64) (hn : ∀ r ∈ rows, 0 ≤ r.1 ∧ r.1 < 4294967296) (hr : rising rows) (hl : rows.length ≤ 60000) (he : 0 ≤ ep ∧ ep < 4294967296)
    (h0 : rd (lg e) = mark (part (contOf ep rows) 0)) (hs : ∀ i : Nat, 0 < i → i < parts (contOf ep rows) → rd (lg (e + i)) = part (contOf ep rows) i) :
    batchAt rd e ep = some (rows, ((parts (contOf ep rows) : Nat) : Int)) ∧ CntOk rd e ep := by
  generalize hc : contOf ep rows = c at *
  have lc : c.length = 8 + 68 * rows.length := by rw [← hc]; exact cont_len' h64
  have lp : 0 < parts c := by unfold parts; omega
  have htail : ∀ i : Nat, i < parts c → (rd (lg (e + i))).drop 1 = (part c i).drop 1 := fun i hi => by
    by_cases hz : i = 0
    · subst hz
      have : e + ((0 : Nat) : Int) = e := by omega
      rw [this, h0]
      rfl
    · rw [hs i (by omega) hi]
  have hh : ∀ {a b : Nat}, 1 ≤ a → a ≤ b → b ≤ 9 → sl (rd (lg e)) a b = sl c (a - 1) (b - 1) := fun {a b} h1 h2 h3 => by
    rw [h0]
    have e1 : mark (part c 0) = 1 :: ((padC c).drop 0).take 15 := by
      show 1 :: (part c 0).drop 1 = _
      rw [part_tail c lp]
    rw [e1, List.drop_zero]
    obtain ⟨a', rfl⟩ : ∃ a', a = a' + 1 := ⟨a - 1, by omega⟩
    obtain ⟨b', rfl⟩ : ∃ b', b = b' + 1 := ⟨b - 1, by omega⟩
    show sl (1 :: (padC c).take 15) (a' + 1) (b' + 1) = sl c a' b'
    have e2 : sl (1 :: (padC c).take 15) (a' + 1) (b' + 1) = sl ((padC c).take 15) a' b' := rfl
    rw [e2, sl_take (by omega), sl_pad (by omega)]
  have h15 : sl (rd (lg e)) 1 5 = four ep := by
    rw [hh (by decide) (by decide) (by decide), ← hc]
    rfl
  have h59 : sl (rd (lg e)) 5 9 = four rows.length := by
    rw [hh (by decide) (by decide) (by decide), ← hc]
    rfl
  have ecnt : ofFour (sl (rd (lg e)) 5 9) = (rows.length : Int) := by rw [h59]; exact ofFour_four (by omega) (by omega)
  have hd : headOk rd e ep := ⟨by rw [h0]; rfl, by rw [h15]; exact ofFour_four he.1 he.2⟩
  have hcn : cnt rd e = rows.length := by unfold cnt; rw [ecnt]; omega
  have hsec : secs rows.length = parts c := by unfold secs parts; rw [lc]; congr 1; omega
  have hrow : ∀ k, k < rows.length → brow rd e k = rows.getD k (0, []) := fun k hk => by
    have hk' : rows[k]? = some rows[k] := List.getElem?_eq_getElem hk
    obtain ⟨rest, er⟩ := cont_drop (ep := ep) h64 hk'
    rw [hc] at er
    have hm : secs (k + 1) ≤ parts c := by rw [← hsec]; exact secs_le hk
    have est := strm_pad (rd := rd) (e := e) htail _ hm
    have hb : 76 + 68 * k ≤ 15 * secs (k + 1) := by unfold secs; omega
    have hx := h64 _ (List.getElem_mem hk)
    unfold brow
    rw [est, sl_take (by omega), sl_take hb, sl_pad (by omega), sl_pad (by omega)]
    have g1 : sl c (8 + 68 * k) (12 + 68 * k) = four rows[k].1 := by
      rw [drop_take_sl, er, show 12 + 68 * k - (8 + 68 * k) = 4 by omega]
      rfl
    have g2 : sl c (12 + 68 * k) (76 + 68 * k) = rows[k].2 := by
      rw [drop_take_sl, show 12 + 68 * k = (8 + 68 * k) + 4 by omega, ← List.drop_drop, er, show 76 + 68 * k - (8 + 68 * k + 4) = 64 by omega]
      show (rows[k].2 ++ rest).take 64 = _
      rw [List.take_append_of_le_length (by omega), List.take_of_length_le (by omega)]
    rw [g1, g2, ofFour_four (hn _ (List.getElem_mem hk)).1 (hn _ (List.getElem_mem hk)).2, List.getD_eq_getElem?_getD, hk']
    rfl
  have hb : browsN rd e (cnt rd e) = rows := by
    rw [hcn]
    unfold browsN
    apply List.ext_getElem?
    intro i
    rw [List.getElem?_map]
    by_cases hi : i < rows.length
    · rw [List.getElem?_range hi, Option.map_some, hrow i hi, List.getD_eq_getElem?_getD, List.getElem?_eq_getElem hi]
      rfl
    · rw [List.getElem?_eq_none (by rw [List.length_range]; omega), List.getElem?_eq_none (by omega)]
      rfl
  refine ⟨?_, fun _ => ⟨by rw [ecnt]; omega, by rw [ecnt]; omega, fun i hi _ => by omega⟩⟩
  unfold batchAt
  rw [if_pos hd, hb, if_pos hr, hcn, hsec]
end K51

/-! KB7: disks with roots. -/
namespace K51
open PySem PySem.Spec PyProof.Rows L2 Y
abbrev RT := (Int × Int) × Int
/-- the marked roots -/
def rts (rd : Rd) (n : Nat) : List RT := (List.range n).filterMap fun k : Nat => (rootAt rd (k : Int)).map fun x => (x, (k : Int))
theorem rts_some {rd : Rd} {n : Nat} {x : Int × Int} (h : rootAt rd (n : Int) = some x) : rts rd (n + 1) = rts rd n ++ [(x, (n : Int))] := by
  unfold rts
  rw [List.range_succ, List.filterMap_append]
  simp [h]
theorem rts_none {rd : Rd} {n : Nat} (h : rootAt rd (n : Int) = none) : rts rd (n + 1) = rts rd n := by
  unfold rts
  rw [List.range_succ, List.filterMap_append]
  simp [h]
theorem rts_len (rd : Rd) (n : Nat) : (rts rd n).length ≤ n := by
  unfold rts
  refine Nat.le_trans (List.length_filterMap_le _ _) ?_
  rw [List.length_range]
  exact Nat.le_refl _
abbrev rRT : Rp RT := rP (rP rI rI) rI
theorem eRT : En rRT (fun x : RT => PySem.W.Datum.toD x) (fun _ => True) 2 :=
  ⟨fun s h => ((eI.p eI).p eI).dp s h, fun x _ => ((eI.p eI).p eI).lay x ⟨⟨trivial, trivial⟩, trivial⟩, fun x => ((eI.p eI).p eI).dep x⟩
/-- the greatest root tells the newest one -/
theorem newest_max {rd : Rd} {x : RT} {ys : List RT} (h : rts rd 2 = x :: ys) : newest rd = ((PySem.W.maxOf x ys).2, (PySem.W.maxOf x ys).1.1, (PySem.W.maxOf x ys).1.2) := by
  unfold newest
  unfold rts at h
  have e2 : List.range 2 = [0, 1] := rfl
  rw [e2] at h
  have z0 : ((0 : Nat) : Int) = 0 := rfl
  have z1 : ((1 : Nat) : Int) = 1 := rfl
  simp only [List.filterMap_cons, List.filterMap_nil, z0, z1] at h
  cases h0 : rootAt rd 0 with
  | none =>
    rw [h0] at h
    cases h1 : rootAt rd 1 with
    | none => rw [h1] at h; cases h
    | some b =>
      rw [h1] at h
      simp only [Option.map_some, Option.map_none] at h
      cases h
      rfl
  | some a =>
    rw [h0] at h
    cases h1 : rootAt rd 1 with
    | none =>
      rw [h1] at h
      simp only [Option.map_some, Option.map_none] at h
      cases h
      rfl
    | some b =>
      rw [h1] at h
      simp only [Option.map_some] at h
      cases h
      obtain ⟨e, m⟩ := a
      obtain ⟨e', m'⟩ := b
      unfold PySem.W.maxOf
      simp only [List.foldl_cons, List.foldl_nil]
      have key : (PySem.W.DatumOrd.lt (((e, m), (0 : Int)) : RT) ((e', m'), (1 : Int)) = true) ↔ (e < e' ∨ (e = e' ∧ m ≤ m')) := by
        show ((if (e, m) = (e', m') then decide ((0 : Int) < 1) else if e = e' then decide (m < m') else decide (e < e')) = true) ↔ _
        by_cases h1 : e = e'
        · by_cases h2 : m = m'
          · rw [if_pos (by rw [h1, h2])]
            simp [h1, h2]
          · rw [if_neg (fun z => h2 (congrArg Prod.snd z)), if_pos h1, decide_eq_true_iff]
            omega
        · rw [if_neg (fun z => h1 (congrArg Prod.fst z)), if_neg h1, decide_eq_true_iff]
          omega
      by_cases hc : e < e' ∨ (e = e' ∧ m ≤ m')
      · rw [if_pos hc, if_pos (key.mpr hc)]
      · rw [if_neg hc, if_neg (fun z => hc (key.mp z))]
section
variable {P : Program} {w : World} {K : PySem.W.Frag} {mg : Str → Option Value} {base : Heap} {C B : Addr} {tP tR tW tH : Tok}
abbrev s_newest_root : Stmt := top 14
theorem sc_newest_root : FnScope ["disk", "roots", "place", "epoch", "many"] ["disk"] (defScope s_newest_root) := ⟨rfl, rfl, rfl, by decide +kernel, rfl, by decide +kernel, by decide +kernel⟩
theorem ok_newest {f : Addr} {fd : FuncData} (F : Fun K "newest_root" "newest_root" s_newest_root f fd) (T : TxB K mg B tP tR tW tH) (L_root_at : FnC P w K mg base "root_at" 3 ["disk", "place"] (spRootAt C)) :
    FnOk P w K mg base CX0 4 f fd ["disk"] (spNewest C fun _ => True) := by
  refine F.ok sc_newest_root (fun vs H Q E h => ?_) (fun cdv A outer st H vs Q E hr h => ?_)
  · obtain ⟨G, p, s, wl, d, rfl, _⟩ := h
    rfl
  · obtain ⟨G, p, s, wl, d, rfl, gh, Dk, l16, _, k⟩ := h
    have nd := sc_newest_root.nd
    refine ⟨_, (pss_cons (ps_setLc (i := 1) (own := [("place", 2)]) rfl nd rfl rfl (sw_true rfl rfl rfl (by decide +kernel)) (pi_tupK (K := K) rfl (pe_tup (pa_cons pe_int (pa_cons pe_int pa_nil)))) (blkOk_by (own := [("place", 2)]) (N := ["disk", "roots", "place", "epoch", "many"]) (sc := defScope s_newest_root) (by decide +kernel)) (fun _ _ _ _ _ => (pg_name (i := 2) nd rfl (Or.inl rfl))) (fun _ _ _ _ _ => (pts_one (pt_cmp (pc_notN (pe_fnc L_root_at (hr.mono (by decide)) rfl (pa_cons (pv 0) (pa_cons (pv 2) pa_nil))))))) (fun _ _ _ _ _ => (pe_tup (pa_cons (pe_fnc L_root_at (hr.mono (by decide)) rfl (pa_cons (pv 0) (pa_cons (pv 2) pa_nil))) (pa_cons (pv 2) pa_nil)))))
    (pss_cons (ps_if (pt_cmpR op_eq (pe_callB (call_len_seqK (K := K) rfl) (by rfl) T.b_len (by decide +kernel) (pa_cons (pv 1) pa_nil)) pe_int (nomark _))
    (pss_one (ps_ret (pe_tup (pa_cons pe_int (pa_cons pe_int (pa_cons pe_int pa_nil))))))
    pss_nil)
    (pss_cons (ps_asg (pe_callB (cr_maxTK (α := (Int × Int) × Int) (K := K) rfl rfl hr.units) (by rfl) T.b_max (by decide +kernel) (pa_cons (pv 1) pa_nil)) (pg_tupK (K := K) (n := 2) rfl rfl (pgs_cons (pg_tupK (K := K) (n := 2) rfl rfl (pgs_cons (pg_name (i := 3) nd rfl (Or.inl rfl)) (pgs_cons (pg_name (i := 4) nd rfl (Or.inl rfl)) pgs_nil))) (pgs_cons (pg_name (i := 2) nd rfl (Or.inl rfl)) pgs_nil))))
    (pss_one (ps_ret (pe_tup (pa_cons (pv 2) (pa_cons (pv 3) (pa_cons (pv 4) pa_nil))))))))), ?_⟩
    refine ⟨(by show 2 ≤ sizeLine; decide), fun t nt => ?_⟩
    generalize e1 : upd H t _ = H1
    obtain ⟨s1, f1, k1, g1, z1⟩ := own_of (Stp.refl (O := O0) gh) nt e1
    refine ⟨t, rfl, ⟨_, SqT.of f1⟩, fun D nD => ?_⟩
    obtain ⟨s2, f2, k2, g2, z2⟩ := own_of (o := .lst []) s1 nD rfl
    refine lc_tup (K := K) (a := t) (xs := [.int 0, .int 1]) (fun i H2 => ∃ G2 acc, Stp O0 G H G2 H2 ∧ H2 t = some (.tup [.int 0, .int 1]) ∧ H2 D = some (.lst acc) ∧ G2 D = none ∧ Paired (rRT G2) acc (rts d.read i))
      ⟨G, [], s2, k2 _ _ f1, f2, g2, .nil⟩ (fun i H2 _ ⟨_, _, _, q, _⟩ => SqT.of q) ?_ ?_
    · rintro i y H2 hi ⟨G2, acc, s2, f2, fD, gD, pD⟩
      have D2 := Dk.stp s2 fun _ _ z => z
      have hi2 : i < 2 := (List.getElem?_eq_some_iff.mp hi).1
      obtain rfl : y = .int (i : Int) := by
        match i, hi, hi2 with
        | 0, hi, _ => cases hi; rfl
        | 1, hi, _ => cases hi; rfl
      have ll := pd_len pD
      have lr := rts_len d.read i
      refine ⟨rfl, _, rfl, _, rfl, G2, p, s, wl, d, i, rfl, s2.gh, D2, l16, fun v G3 H3 s3 hv => ?_⟩
      have s23 := s2.trans s3 fun _ z => z.elim
      have fD3 := s3.kp _ _ fD fun z => z
      have f23 := s3.kp _ _ f2 fun z => z
      have gD3 := s3.nw _ (ne_none fD) gD
      cases hm : rootAt d.read (i : Int) with
      | none =>
        rw [hm] at hv
        obtain rfl : v = .non := hv
        refine ⟨_, rfl, iteF ?_⟩
        exact ⟨G3, acc, s23, f23, fD3, gD3, by rw [rts_none hm]; exact ((mI.p mI).p mI).ps s3.gg pD⟩
      | some x =>
        rw [hm] at hv
        obtain ⟨t1, rfl, _, _, _⟩ := hv
        refine ⟨_, rfl, iteT ?_⟩
        have D3 := D2.stp s3 fun _ _ z => z
        refine ⟨_, rfl, _, rfl, G3, p, s, wl, d, i, rfl, s23.gh, D3, l16, fun v2 G4 H4 s4 hv2 => ?_⟩
        rw [hm] at hv2
        obtain ⟨t2, rfl, n2, g2', f2'⟩ := hv2
        have s24 := s23.trans s4 fun _ z => z.elim
        have zt2 : H t2 = none := s23.fr n2
        obtain ⟨G5, s5, f5, gg5, gk5⟩ := pub_of s24 f2' g2' zt2
        refine ⟨_, rfl, (by show 2 ≤ sizeLine; decide), fun t3 n3 => ?_⟩
        generalize e6 : upd H4 t3 _ = H6
        obtain ⟨G6, s6, f6, gg6, k6, gk6⟩ := data_of s5 n3 e6
        have fD4 := s4.kp _ _ fD3 fun z => z
        have gD4 := s4.nw _ (ne_none fD3) gD3
        have fD6 := k6 _ _ fD4
        have nDt2 : D ≠ t2 := ne_of_none fD3 n2
        have nDt3 : D ≠ t3 := ne_of_none fD4 n3
        have gD6 : G6 D = none := by rw [gk6 D nDt3, gk5 D nDt2]; exact gD4
        refine ⟨acc, fD6, by rw [sizeLine_eq]; omega, ?_⟩
        generalize e7 : upd H6 D _ = H7
        obtain ⟨s7, f7, k7⟩ := wr_of s6 fD6 gD6 (.inr z2) e7
        refine ⟨G6, _, s7, k7 _ _ (ne_of f23 fD3 fun z => nomatch z) (k6 _ _ (s4.kp _ _ f23 fun z => z)), f7, gD6, ?_⟩
        rw [rts_some hm]
        exact pd_snoc (((mI.p mI).p mI).ps ((s3.gg.trans s4.gg).trans (gg5.trans gg6)) pD) ⟨t3, _, _, rfl, f6, ⟨t2, _, _, rfl, gg6 _ _ f5, rfl, rfl⟩, rfl⟩
    · rintro H2 ⟨G2, acc, s2, f2, fD, gD, pD⟩
      have pD : Paired (rRT G2) acc (rts d.read 2) := pD
      have ll := pd_len pD
      refine ⟨_, rfl, D, _, rfl, .inl (SqL.of fD), rfl, _, rfl, if_int (fun hz => ?_) (fun hz => ?_)⟩
      · refine ⟨(by show 3 ≤ sizeLine; decide), fun q nq => ?_⟩
        generalize e3 : upd H2 q _ = H3
        obtain ⟨s3, f3, k3, g3, z3⟩ := own_of s2 nq e3
        refine k _ G2 H3 s3 ?_
        have hr0 : rts d.read 2 = [] := List.eq_nil_of_length_eq_zero (by omega)
        have : newest d.read = (1, 0, 0) := by
          unfold newest
          unfold rts at hr0
          have e2 : List.range 2 = [0, 1] := rfl
          have z0 : ((0 : Nat) : Int) = 0 := rfl
          have z1 : ((1 : Nat) : Int) = 1 := rfl
          rw [e2] at hr0
          simp only [List.filterMap_cons, List.filterMap_nil, z0, z1] at hr0
          cases h0 : rootAt d.read 0 with
          | some a => rw [h0] at hr0; simp at hr0
          | none =>
            cases h1 : rootAt d.read 1 with
            | some a => rw [h0, h1] at hr0; simp at hr0
            | none => rfl
        rw [this]
        exact ⟨q, rfl, f3, z3, g3⟩
      · cases hx : rts d.read 2 with
        | nil => rw [hx] at ll; exact absurd (by rw [ll]; rfl) hz
        | cons x ys =>
          rw [hx] at pD
          refine ⟨_, rfl, D, acc, x, ys, rfl, SqL.of fD, dpAll_of eRT s2.gh pD, by decide, fun i v hv he => ?_⟩
          obtain ⟨y, hy, rv⟩ := pd_get pD hv
          rw [he] at hy
          cases hy
          obtain ⟨t3, u3, w3, rfl, a1, ⟨t4, u4, w4, rfl, b1, rfl, rfl⟩, rfl⟩ := rv
          refine g_pair (s2.gh _ _ a1) (g_pair (s2.gh _ _ b1) ?_)
          refine ⟨_, rfl, _, rfl, _, rfl, (by show 3 ≤ sizeLine; decide), fun q nq => ?_⟩
          generalize e3 : upd H2 q _ = H3
          obtain ⟨s3, f3, k3, g3, z3⟩ := own_of s2 nq e3
          refine k _ G2 H3 s3 ?_
          rw [newest_max hx]
          exact ⟨q, rfl, f3, z3, g3⟩
end
end K51

/-! KB8: all pages are brought home, the log begins anew. -/
namespace K51
open PySem PySem.Spec PyProof.Rows L2 Y
/-- all that is new becomes data -/
theorem pub_all {O : Addr → Prop} {G H G' H' : Hp} (s : Stp O G H G' H') (gh : Same G H) : ∃ G2, Stp O G H G2 H' ∧ Same G' G2 ∧ ∀ b u, H b = none → H' b = some u → G2 b = some u := by
  refine ⟨fun b => if H b = none then H' b else G' b, ⟨fun b u e => ?_, fun b u e => ?_, s.kp, fun b h1 h2 => ?_, s.al⟩, fun b u e => ?_, fun b u h1 h2 => (if_pos h1).trans h2⟩
  · rw [if_neg (ne_none (gh b u e))]
    exact s.gg b u e
  · by_cases h : H b = none
    · rw [if_pos h] at e
      exact e
    · rw [if_neg h] at e
      exact s.gh b u e
  · rw [if_neg h1]
    exact s.nw b h1 h2
  · by_cases h : H b = none
    · exact (if_pos h).trans (s.gh b u e)
    · exact (if_neg h).trans e
/-- a page's part at home -/
def hmPart (pages : List (Int × Page)) (n : Int) (j : Nat) : Int × Sec := (hm n j, sl ((look pages n).getD []) (16 * j) (16 * (j + 1)))
def hmRow (pages : List (Int × Page)) (n : Int) : List (Int × Sec) := (List.range 4).map (hmPart pages n)
def homeOf (pages : List (Int × Page)) (ns : List Int) : List (Int × Sec) := ns.flatMap (hmRow pages)
def homeW (pages : List (Int × Page)) : List (Int × Sec) := homeOf pages (nums (pages.map (·.1)))
def rootSec (e m : Int) : Sec := 0 :: (four e ++ four m ++ List.replicate 7 0)
def DS.keep (d : DS) (x : BS) : DS := ((((d.writes (homeW x.pages)).sync.write (1 - x.place) (rootSec (x.epoch + 1) x.many)).sync).write (1 - x.place) (mark (rootSec (x.epoch + 1) x.many))).sync
def BS.keep (x : BS) (cut : Bool) : BS := if cut then x else { place := 1 - x.place, epoch := x.epoch + 1, many := x.many, pages := [], fin := 0 }
theorem rootSec_len (e m : Int) : (rootSec e m).length = 16 := rfl
theorem hmRow_len (pages : List (Int × Page)) (n : Int) : (hmRow pages n).length = 4 := rfl
theorem homeOf_len (pages : List (Int × Page)) : ∀ ns : List Int, (homeOf pages ns).length = 4 * ns.length
  | [] => rfl
  | n :: ns => by
    have : (homeOf pages (n :: ns)).length = (hmRow pages n).length + (homeOf pages ns).length := by
      unfold homeOf
      rw [List.flatMap_cons, List.length_append]
    rw [this, homeOf_len pages ns, hmRow_len, List.length_cons]
    omega
theorem homeOf_snoc (pages : List (Int × Page)) (ns : List Int) (n : Int) : homeOf pages (ns ++ [n]) = homeOf pages ns ++ hmRow pages n := by
  unfold homeOf
  rw [List.flatMap_append]
  simp
theorem hmPart_16 {pages : List (Int × Page)} (h64 : ∀ y ∈ pages, y.2.length = 64) {n : Int} (hn : n ∈ pages.map (·.1)) {j : Nat} (hj : j < 4) : (hmPart pages n j).2.length = 16 := by
  obtain ⟨x, hx⟩ := Option.isSome_iff_exists.mp (look_isSome.mpr hn)
  have l := h64 _ (look_some_mem hx)
  show (sl ((look pages n).getD []) (16 * j) (16 * (j + 1))).length = 16
  rw [hx]
  rw [sl_len (by show 16 * (j + 1) ≤ x.length; have l : x.length = 64 := l; omega)]
  omega
theorem homeOf_16 {pages : List (Int × Page)} (h64 : ∀ y ∈ pages, y.2.length = 64) {ns : List Int} (hn : ∀ n ∈ ns, n ∈ pages.map (·.1)) : ∀ x ∈ homeOf pages ns, x.2.length = 16 := fun x hx => by
  unfold homeOf at hx
  obtain ⟨n, h1, h2⟩ := List.mem_flatMap.mp hx
  unfold hmRow at h2
  obtain ⟨j, hj, rfl⟩ := List.mem_map.mp h2
  exact hmPart_16 h64 (hn n h1) (List.mem_range.mp hj)
theorem writes_app (d : DS) (l m : List (Int × Sec)) : d.writes (l ++ m) = (d.writes l).writes m := by
  unfold DS.writes
  rw [List.foldl_append]
structure TxH (K : PySem.W.Frag) (mg : Str → Option Value) (B : Addr) (tS tH : Tok) : Prop where
  cl : Cls K B
  m1 : NoAttr K B "disk"
  m2 : NoAttr K B "bend"
  m3 : NoAttr K B "place"
  m4 : NoAttr K B "epoch"
  m5 : NoAttr K B "many"
  m6 : NoAttr K B "pages"
  m7 : NoAttr K B "end"
  c_SECTOR : mg "SECTOR" = some (.int 16 tS)
  c_HEAD : mg "HEAD" = some (.int 8 tH)
  b_sorted : mg "sorted" = none
  b_range : mg "range" = none
  b_int : mg "int" = none
section
variable {P : Program} {w : World} {K : PySem.W.Frag} {mg : Str → Option Value} {base : Heap} {C B : Addr} {tS tH : Tok}
theorem DBsep {p s wl b pg : Addr} {G H : Hp} {x : BS} (sep : ∀ a, DOwn p s wl a → ¬ BOwn b pg a) (D : BatAt B G H b p pg x) {w1 : Addr} (hw : w1 = wl ∨ H w1 = none) : ∀ c, BOwn b pg c → ¬ DOwn p s w1 c := fun c hc hd => by
  obtain ⟨dx, h1⟩ := D.ob
  rcases hd with z | z | z
  · exact sep c (.inl z) hc
  · exact sep c (.inr (.inl z)) hc
  · rcases hw with e | e
    · exact sep c (.inr (.inr (z.trans e))) hc
    · obtain ⟨kvb, hpg, _⟩ := D.pa
      rw [← z] at e
      rcases hc with y | y
      · rw [y, h1] at e; cases e
      · rw [y, hpg] at e; cases e
theorem DBtr {p s wl b pg w1 : Addr} {H : Hp} (hw : w1 = wl ∨ H w1 = none) : ∀ c, DOwn p s w1 c → DBOwn p s wl b pg c ∨ H c = none := fun c hd => by
  rcases hd with z | z | z
  · exact .inl (.inl (.inl z))
  · exact .inl (.inl (.inr (.inl z)))
  · rcases hw with e | e
    · exact .inl (.inl (.inr (.inr (z.trans e))))
    · exact .inr (by rw [z]; exact e)
theorem wtr {O : Addr → Prop} {G H G' H' : Hp} {w1 w2 wl : Addr} (s : Stp O G H G' H') (h1 : w1 = wl ∨ H w1 = none) (h2 : w2 = w1 ∨ H' w2 = none) : w2 = wl ∨ H w2 = none := by
  rcases h2 with e | e
  · rw [e]; exact h1
  · exact .inr (s.fr e)
def spHomes (B C : Addr) : Sp := fun vs H Q _ => ∃ (G : Hp) (b p pg s wl : Addr) (x : BS) (d : DS), vs = [.ref b] ∧ Same G H ∧ BatAt B G H b p pg x ∧ DiskAt C G H p s wl d ∧ (∀ a, DOwn p s wl a → ¬ BOwn b pg a) ∧
  Fit d ∧ d.wai = [] ∧ d.sec.length ≤ 59000 ∧ x.pages.length ≤ 15 ∧ (∀ y ∈ x.pages, y.2.length = 64) ∧ (x.pages.map (·.1)).Nodup ∧
  ∀ w' G' H', Stp (DBOwn p s wl b pg) G H G' H' → DiskAt C G' H' p s w' (d.writes (homeW x.pages)) → BatAt B G' H' b p pg x → (w' = wl ∨ H w' = none) → Q .non H'
abbrev s_Batches_bring_home : Stmt := inClass (top 18) 6
theorem sc_Batches_bring_home : FnScope ["self", "number", "part", "content"] ["self"] (defScope s_Batches_bring_home) := ⟨rfl, rfl, rfl, by decide +kernel, rfl, by decide +kernel, by decide +kernel⟩
theorem ok_homes {f : Addr} {fd : FuncData} (F : Fun K "bring_home" "Batches.bring_home" s_Batches_bring_home f fd) (T : TxH K mg B tS tH) (L_home_sector : FnC P w K mg base "home_sector" 1 ["page", "part"] spHome) (L_Disk_write : MtC P w K mg base C "write" 4 ["self", "number", "content"] (spWrite C)) :
    FnOk P w K mg base CX0 5 f fd ["self"] (spHomes B C) := by
  refine F.ok sc_Batches_bring_home (fun vs H Q E h => ?_) (fun cdv A outer st H vs Q E hr h => ?_)
  · obtain ⟨G, b, p, pg, s, wl, x, d, rfl, _⟩ := h
    rfl
  · obtain ⟨G, b, p, pg, s, wl, x, d, rfl, gh, D, Dk, sep, fit, w0, sl0, pl, p64, pnd, k⟩ := h
    have nd := sc_Batches_bring_home.nd
    have hu := hu_of hr
    refine ⟨_, (pss_one (ps_for PassesOwn.never rfl (pi_listK (K := K) rfl (pe_callB (call_sortedDA rfl) (by rfl) T.b_sorted (by decide +kernel) (pa_cons (pe_fldK (K := K) rfl (pv 0) rfl) pa_nil))) (pg_name (i := 1) nd rfl (Or.inl rfl))
    (pss_one (ps_for PassesOwn.never rfl (pi_range1 rfl T.b_range (pa_cons pe_int pa_nil)) (pg_name (i := 2) nd rfl (Or.inl rfl))
    (pss_cons (ps_set (i := 3) nd rfl (Or.inl rfl) (pe_slice (sl_listK (K := K) rfl) (pe_dget hu (pe_fldK (K := K) rfl (pv 0) rfl) (pv 1) (fun _ _ => rfl)) (po_some (pe_op op_mul (pe_glob (v := .int 16) rfl T.c_SECTOR ⟨_, rfl⟩) (pv 2))) (po_some (pe_op op_mul (pe_glob (v := .int 16) rfl T.c_SECTOR ⟨_, rfl⟩) (pe_op op_add (pv 2) pe_int)))))
    (pss_one (ps_expr (pe_mtc (pe_fldK (K := K) rfl (pv 0) rfl) L_Disk_write (hr.mono (by decide)) (pa_cons (pe_fnc L_home_sector (hr.mono (by decide)) rfl (pa_cons (pv 1) (pa_cons (pv 2) pa_nil))) (pa_cons (pv 3) pa_nil)))))))))), ?_⟩
    obtain ⟨dx, h1⟩ := id D.ob
    obtain ⟨kvs, h2, r2⟩ := id D.pa
    refine ⟨_, rfl, b, B, dx, _, _, rfl, h1, T.cl, T.m6, bf_pages, pg, kvs, _, rfl, .inl h2, r2.keys, by rw [List.length_map]; omega, fun ys N1 pm asc nN1 => ?_⟩
    have eys : ys = nums (x.pages.map (·.1)) := asc_same (lt_of_le_nodup ys asc (pm.nodup_iff.mpr pnd)) (asc_nums _) fun q => by rw [pm.mem_iff, mem_nums]
    have ysl : ys.length ≤ 15 := by rw [pm.length_eq, List.length_map]; omega
    have ysm : ∀ n ∈ ys, n ∈ x.pages.map (·.1) := fun n hn => pm.mem_iff.mp hn
    generalize e1 : upd H N1 _ = H1
    obtain ⟨s1, f1, k1, g1, z1⟩ := own_of (Stp.refl (O := DBOwn p s wl b pg) gh) nN1 e1
    have s1' : Stp O0 G H G H1 := (own_of (Stp.refl (O := O0) gh) nN1 e1).1
    have D1 := D.stp s1' fun _ _ z => z
    have Dk1 := Dk.stp s1' fun _ _ z => z
    have nNw : N1 ≠ wl := fun z => by
      obtain ⟨wsp, hwl, _⟩ := id Dk.wai
      rw [z, hwl] at nN1; cases nN1
    refine ⟨N1, rfl, ⟨_, SqL.of f1⟩, for_list (K := K) (a := N1) (xs := ys.map V.int)
      (fun i σ H2 => (∃ x1 x2 x3, σ = [some (.ref b), x1, x2, x3]) ∧ ∃ G2 w2, Stp (DBOwn p s wl b pg) G H G2 H2 ∧ DiskAt C G2 H2 p s w2 (d.writes (homeOf x.pages (ys.take i))) ∧ BatAt B G2 H2 b p pg x ∧ (w2 = wl ∨ H w2 = none) ∧ H2 N1 = some (rowI ys) ∧ N1 ≠ w2)
      ⟨⟨_, _, _, rfl⟩, G, wl, s1, Dk1, D1, .inl rfl, f1, nNw⟩ (fun i σ H2 _ ⟨_, _, _, _, _, _, _, z, _⟩ => SqL.of z) ?_ ?_⟩
    · rintro i y σ H2 hi ⟨⟨x1, x2, x3, rfl⟩, G2, w2, s2, Dk2, D2, hw2, fN2, nN2⟩
      obtain ⟨n, hn, rfl⟩ : ∃ n, ys[i]? = some n ∧ y = V.int n := by
        rw [List.getElem?_map] at hi
        cases e : ys[i]? with
        | none => rw [e] at hi; cases hi
        | some z => rw [e] at hi; exact ⟨z, rfl, (Option.some.inj hi).symm⟩
      have hi2 := (List.getElem?_eq_some_iff.mp hn).1
      have hnm := ysm n (List.mem_of_getElem? hn)
      obtain ⟨c, hc⟩ := Option.isSome_iff_exists.mp (look_isSome.mpr hnm)
      have lc := p64 _ (look_some_mem hc)
      have lc : c.length = 64 := lc
      have ltk : (ys.take i).length = i := by rw [List.length_take]; omega
      refine ⟨4, rfl, by decide, by decide, for_range (n := 4)
        (fun j σ H3 => j ≤ 4 ∧ (∃ x2 x3, σ = [some (.ref b), some (.int n), x2, x3]) ∧ ∃ G3 w3, Stp (DBOwn p s wl b pg) G H G3 H3 ∧ DiskAt C G3 H3 p s w3 (d.writes (homeOf x.pages (ys.take i) ++ (List.range j).map (hmPart x.pages n))) ∧ BatAt B G3 H3 b p pg x ∧ (w3 = wl ∨ H w3 = none) ∧ H3 N1 = some (rowI ys) ∧ N1 ≠ w3)
        ⟨Nat.zero_le _, ⟨_, _, rfl⟩, G2, w2, s2, by rw [List.range_zero, List.map_nil, List.append_nil]; exact Dk2, D2, hw2, fN2, nN2⟩ ?_ ?_⟩
      · rintro j σ H3 hj ⟨_, ⟨x2, x3, rfl⟩, G3, w3, s3, Dk3, D3, hw3, fN3, nN3⟩
        obtain ⟨dx3, h13⟩ := id D3.ob
        obtain ⟨kvs3, h23, r23⟩ := id D3.pa
        obtain ⟨v, hv, rv⟩ := r23.look_some hc
        obtain ⟨ca, rfl, hca⟩ := rLI rv
        have g3 := DGet.k (k := Sum.inl n) h23
        rw [hv] at g3
        have hca3 := s3.gh _ _ hca
        refine ⟨_, rfl, b, B, dx3, _, _, rfl, h13, T.cl, T.m6, bf_pages, _, rfl, pg, _, rfl, g3, ?_⟩
        have c16 : CMul 16 (0 + (j : Int)) := .inl ⟨by decide, by decide⟩
        have c16' : CMul 16 (0 + (j : Int) + 1) := .inl ⟨by decide, by decide⟩
        refine ⟨_, rfl, _, _, rfl, rfl, c16, _, rfl, _, rfl, _, _, rfl, rfl, _, _, rfl, rfl, c16', _, rfl, ca, _, rfl, SqL.of hca3, fun q nq => ?_⟩
        have ea : (16 * (0 + (j : Int))) = ((16 * j : Nat) : Int) := by omega
        have eb : (16 * (0 + (j : Int) + 1)) = ((16 * (j + 1) : Nat) : Int) := by omega
        rw [ea, eb, cut_mid c (by omega)]
        generalize e4 : upd H3 q _ = H4
        obtain ⟨s4, f4, k4, g4, z4⟩ := own_of s3 nq e4
        have s34 : Stp O0 G3 H3 G3 H4 := (own_of (Stp.refl (O := O0) s3.gh) nq e4).1
        have D4 := D3.stp s34 fun _ _ z => z
        have Dk4 := Dk3.stp s34 fun _ _ z => z
        have h14 := k4 _ _ h13
        obtain ⟨dxp, rlp, hp4, _⟩ := id Dk4.ob
        have hl0 : ∀ y ∈ homeOf x.pages (ys.take i) ++ (List.range j).map (hmPart x.pages n), y.2.length = 16 := fun y hy => by
          rcases List.mem_append.mp hy with hy | hy
          · exact homeOf_16 p64 (fun m hm => ysm m (List.mem_of_mem_take hm)) y hy
          · obtain ⟨m, hm, rfl⟩ := List.mem_map.mp hy
            exact hmPart_16 p64 hnm (by have := List.mem_range.mp hm; omega)
        have hll : (homeOf x.pages (ys.take i) ++ (List.range j).map (hmPart x.pages n)).length = 4 * i + j := by rw [List.length_append, homeOf_len, ltk, List.length_map, List.length_range]
        obtain ⟨fi, fs, fw⟩ := fit_writes _ fit hl0 (by rw [w0, hll]; show _ + 0 + _ ≤ _; omega) (by rw [w0, hll]; show 0 + _ ≤ _; omega)
        rw [w0, hll] at fs fw
        have fs : _ ≤ d.sec.length + 0 + (4 * i + j) := fs
        have fw : _ ≤ 0 + (4 * i + j) := fw
        have nqw : q ≠ w3 := fun z => by
          obtain ⟨wsp, hwl, _⟩ := id Dk3.wai
          rw [z, hwl] at nq; cases nq
        have fN4 := k4 _ _ fN3
        refine ⟨_, rfl, b, B, dx3, _, _, rfl, h14, T.cl, T.m1, bf_disk, p, dxp, _, rfl, hp4, df_no (by decide +kernel) (by decide +kernel) (by decide +kernel) (by decide +kernel) (by decide +kernel), _, rfl, _, rfl, n, _, rfl, _, rfl, G3, p, s, w3, _, _, q, _, rfl, s4.gh, Dk4, fi, f4, nqw, fun w5 G5 H5 s5 D5 hw5 => ?_⟩
        have nh5 := wtr s4 hw3 hw5
        have ex : (hmPart x.pages n j) = (hm n (0 + (j : Int)), sl c (16 * j) (16 * (j + 1))) := by
          unfold hmPart
          rw [hc, Int.zero_add]
          rfl
        refine ⟨hj, ⟨_, _, rfl⟩, G5, w5, s4.trans s5 (DBtr hw3), ?_, D4.stp s5 (DBsep sep D hw3), nh5, Dk4.keepL s5 fN4 nN3, ?_⟩
        · rw [List.range_succ, List.map_append, ← List.append_assoc]
          show DiskAt C G5 H5 p s w5 (d.writes (_ ++ [hmPart x.pages n j]))
          rw [writes_snoc, ex]
          exact D5
        · rcases hw5 with e | e
          · rw [e]; exact nN3
          · exact ne_of_none fN4 e
      · rintro σ H3 ⟨_, ⟨x2, x3, rfl⟩, G3, w3, s3, Dk3, D3, hw3, fN3, nN3⟩
        refine ⟨⟨_, _, _, rfl⟩, G3, w3, s3, ?_, D3, hw3, fN3, nN3⟩
        rw [List.take_add_one, hn]
        show DiskAt C G3 H3 p s w3 (d.writes (homeOf x.pages (ys.take i ++ [n])))
        rw [homeOf_snoc]
        exact Dk3
    · rintro σ H2 ⟨⟨x1, x2, x3, rfl⟩, G2, w2, s2, Dk2, D2, hw2, fN2, nN2⟩
      refine k w2 G2 H2 s2 ?_ D2 hw2
      rw [List.length_map, List.take_of_length_le (Nat.le_refl _), eys] at Dk2
      exact Dk2
def spKeep (B C : Addr) : Sp := fun vs H Q _ => ∃ (G : Hp) (b p pg s wl : Addr) (x : BS) (d : DS), vs = [.ref b] ∧ Same G H ∧ BatAt B G H b p pg x ∧ DiskAt C G H p s wl d ∧ (∀ a, DOwn p s wl a → ¬ BOwn b pg a) ∧
  Fit d ∧ d.wai = [] ∧ d.sec.length ≤ 58000 ∧ x.pages.length ≤ 14 ∧ (∀ y ∈ x.pages, y.2.length = 64) ∧ (x.pages.map (·.1)).Nodup ∧
  ∀ w' pg' G' H', Stp (DBOwn p s wl b pg) G H G' H' → DiskAt C G' H' p s w' (d.keep x) → BatAt B G' H' b p pg' (x.keep (d.keep x).cut) → (w' = wl ∨ H w' = none) → (pg' = pg ∨ (H pg' = none ∧ pg' ≠ w')) → Q (.bl (!(d.keep x).cut)) H'
abbrev s_Batches_keep : Stmt := inClass (top 18) 5
theorem sc_Batches_keep : FnScope ["self", "place", "content"] ["self"] (defScope s_Batches_keep) := ⟨rfl, rfl, rfl, by decide +kernel, rfl, by decide +kernel, by decide +kernel⟩
theorem ok_keep {f : Addr} {fd : FuncData} (F : Fun K "keep" "Batches.keep" s_Batches_keep f fd) (T : TxH K mg B tS tH) (TD : Cls K C ∧ NoAttr K C "is_cut") (L_four : FnC P w K mg base "four" 1 ["number"] spFour) (L_Batches_bring_home : MtC P w K mg base B "bring_home" 5 ["self"] (spHomes B C))
    (L_Disk_write : MtC P w K mg base C "write" 4 ["self", "number", "content"] (spWrite C)) (L_Disk_sync : MtC P w K mg base C "sync" 4 ["self"] (spSync C)) : FnOk P w K mg base CX0 6 f fd ["self"] (spKeep B C) := by
  refine F.ok sc_Batches_keep (fun vs H Q E h => ?_) (fun cdv A outer st H vs Q E hr h => ?_)
  · obtain ⟨G, b, p, pg, s, wl, x, d, rfl, _⟩ := h
    rfl
  · obtain ⟨G, b, p, pg, s, wl, x, d, rfl, gh, D, Dk, sep, fit, w0, sl0, pl, p64, pnd, k⟩ := h
    have nd := sc_Batches_keep.nd
    have hu := hu_of hr
    refine ⟨_, (pss_cons (ps_set (i := 1) nd rfl (Or.inl rfl) (pe_op op_sub pe_int (pe_fldK (K := K) rfl (pv 0) rfl)))
    (pss_cons (ps_set (i := 2) nd rfl (Or.inl rfl) (pe_op op_cat (pe_op op_cat (pe_op op_cat (pe_lst (pa_cons pe_int pa_nil)) (pe_fnc L_four (hr.mono (by decide)) rfl (pa_cons (pe_op op_add (pe_fldK (K := K) rfl (pv 0) rfl) pe_int) pa_nil))) (pe_fnc L_four (hr.mono (by decide)) rfl (pa_cons (pe_fldK (K := K) rfl (pv 0) rfl) pa_nil))) (pe_op op_rep (pe_lst (pa_cons pe_int pa_nil)) (pe_op op_sub (pe_op op_sub (pe_glob (v := .int 16) rfl T.c_SECTOR ⟨_, rfl⟩) (pe_glob (v := .int 8) rfl T.c_HEAD ⟨_, rfl⟩)) pe_int))))
    (pss_cons (ps_if (pt_cmpR op_ne (pe_fldK (K := K) rfl (pv 0) rfl) pe_str (nomark _))
    (pss_cons (ps_expr (pe_mtc0 (pv 0) L_Batches_bring_home (hr.mono (by decide))))
    (pss_one (ps_expr (pe_mtc0 (pe_fldK (K := K) rfl (pv 0) rfl) L_Disk_sync (hr.mono (by decide))))))
    pss_nil)
    (pss_cons (ps_expr (pe_mtc (pe_fldK (K := K) rfl (pv 0) rfl) L_Disk_write (hr.mono (by decide)) (pa_cons (pv 1) (pa_cons (pv 2) pa_nil))))
    (pss_cons (ps_expr (pe_mtc0 (pe_fldK (K := K) rfl (pv 0) rfl) L_Disk_sync (hr.mono (by decide))))
    (pss_cons (ps_expr (pe_mtc (pe_fldK (K := K) rfl (pv 0) rfl) L_Disk_write (hr.mono (by decide)) (pa_cons (pv 1) (pa_cons (pe_op op_cat (pe_lst (pa_cons pe_int pa_nil)) (pe_slice (sl_listK (K := K) rfl) (pv 2) (po_some pe_int) po_none)) pa_nil))))
    (pss_cons (ps_expr (pe_mtc0 (pe_fldK (K := K) rfl (pv 0) rfl) L_Disk_sync (hr.mono (by decide))))
    (pss_cons (ps_if (pt_cmpR op_eq (pe_fldK (K := K) rfl (pv 0) rfl) pe_str (nomark _))
    (pss_cons (ps_expr (pe_mtc0 (pv 0) L_Batches_bring_home (hr.mono (by decide))))
    (pss_one (ps_expr (pe_mtc0 (pe_fldK (K := K) rfl (pv 0) rfl) L_Disk_sync (hr.mono (by decide))))))
    pss_nil)
    (pss_cons (ps_if (pt_val (pe_fldK (K := K) rfl (pe_fldK (K := K) rfl (pv 0) rfl) rfl))
    (pss_one (ps_ret pe_bl))
    pss_nil)
    (pss_cons (ps_asg (pe_tup (pa_cons (pv 1) (pa_cons (pe_op op_add (pe_fldK (K := K) rfl (pv 0) rfl) (pe_callTy call_int1 (by rfl) T.b_int (by decide +kernel) (pa_cons (pe_cmpR op_ne (pe_fldK (K := K) rfl (pv 0) rfl) pe_str (nomark _)) pa_nil))) (pa_cons pe_int pa_nil)))) (pg_tupK (K := K) (n := 3) rfl rfl (pgs_cons (pg_fldK (K := K) rfl (pv 0)) (pgs_cons (pg_fldK (K := K) rfl (pv 0)) (pgs_cons (pg_fldK (K := K) rfl (pv 0)) pgs_nil)))))
    (pss_cons (ps_fldK (K := K) rfl (pv 0) pe_dnewK rfl)
    (pss_one (ps_ret pe_bl))))))))))))), ?_⟩
    obtain ⟨dx, h1⟩ := id D.ob
    refine ⟨_, rfl, b, B, dx, _, _, rfl, h1, T.cl, T.m3, bf_place, _, _, rfl, rfl, ?_⟩
    refine ⟨(by show 1 ≤ sizeLine; decide), fun p1 n1 => ?_⟩
    generalize e1 : upd H p1 _ = H1
    obtain ⟨s1, f1, k1, g1, z1⟩ := own_of (Stp.refl (O := O0) gh) n1 e1
    have h11 := k1 _ _ h1
    refine ⟨_, rfl, b, B, dx, _, _, rfl, h11, T.cl, T.m4, bf_epoch, _, _, rfl, rfl, G, _, rfl, s1.gh, fun p2 G2 H2 s2 n2 g2 f2 => ?_⟩
    have s12 := s1.trans s2 fun _ z => z.elim
    have h12 := s2.kp _ _ h11 fun z => z
    have f12 := s2.kp _ _ f1 fun z => z
    refine ⟨p1, p2, _, _, rfl, rfl, f12, f2, (by show 1 + 4 ≤ sizeLine; decide), fun p3 n3 => ?_⟩
    generalize e3 : upd H2 p3 _ = H3
    obtain ⟨s3, f3, k3, g3, z3⟩ := own_of s12 n3 e3
    have h13 := k3 _ _ h12
    refine ⟨_, rfl, b, B, dx, _, _, rfl, h13, T.cl, T.m5, bf_many, G2, _, rfl, s3.gh, fun p4 G4 H4 s4 n4 g4 f4 => ?_⟩
    have s14 := s3.trans s4 fun _ z => z.elim
    have h14 := s4.kp _ _ h13 fun z => z
    have f34 := s4.kp _ _ f3 fun z => z
    refine ⟨p3, p4, _, _, rfl, rfl, f34, f4, (by show 1 + 4 + 4 ≤ sizeLine; decide), fun p5 n5 => ?_⟩
    generalize e5 : upd H4 p5 _ = H5
    obtain ⟨s5, f5, k5, g5, z5⟩ := own_of s14 n5 e5
    refine ⟨(by show 1 ≤ sizeLine; decide), fun p6 n6 => ?_⟩
    generalize e6 : upd H5 p6 _ = H6
    obtain ⟨s6, f6, k6, g6, z6⟩ := own_of s5 n6 e6
    refine ⟨_, _, rfl, rfl, _, _, rfl, rfl, p6, 7, _, rfl, rfl, f6, by decide, by decide, (by show 1 * 7 ≤ sizeLine; decide), fun p7 n7 => ?_⟩
    generalize e7 : upd H6 p7 _ = H7
    obtain ⟨s7, f7, k7, g7, z7⟩ := own_of s6 n7 e7
    refine ⟨p5, p7, _, _, rfl, rfl, k7 _ _ (k6 _ _ f5), f7, (by show 1 + 4 + 4 + 7 ≤ sizeLine; decide), fun p8 n8 => ?_⟩
    generalize e8 : upd H7 p8 _ = H8
    obtain ⟨s8, f8, k8, g8, z8⟩ := own_of s7 n8 e8
    have f8 : H8 p8 = some (rowI (rootSec (x.epoch + 1) x.many)) := f8
    generalize hrs : rootSec (x.epoch + 1) x.many = rs at *
    have lrs : rs.length = 16 := by rw [← hrs]; rfl
    have D8 := D.stp s8 fun _ _ z => z
    have Dk8 := Dk.stp s8 fun _ _ z => z
    have s8' : Stp (DBOwn p s wl b pg) G H G4 H8 := s8.mono fun _ z => z.elim
    obtain ⟨dx8, h18⟩ := id D8.ob
    have eNo : ∀ z : Str, decide (V.non = V.str z) = false := fun z => decide_eq_false fun e => nomatch e
    have n8w : p8 ≠ wl := fun z => by
      obtain ⟨wsp, hwl, _⟩ := id Dk.wai
      rw [z, hwl] at z8; cases z8
    refine ⟨_, rfl, b, B, dx8, _, _, rfl, h18, T.cl, T.m2, bf_bend, rfl, _, rfl, ?_⟩
    rw [eNo]
    refine iteT ?_
    refine ⟨_, rfl, b, dx8, _, rfl, h18, bf_no (by decide +kernel) (by decide +kernel) (by decide +kernel) (by decide +kernel) (by decide +kernel) (by decide +kernel) (by decide +kernel), G4, b, p, pg, s, wl, x, d, rfl, s8.gh, D8, Dk8, sep, fit, w0, by omega, by omega, p64, pnd, fun w9 G9 H9 s9 Dk9 D9 hw9 => ?_⟩
    have s09 := s8'.trans s9 fun c hc => .inl hc
    have nh9 : w9 = wl ∨ H w9 = none := hw9.imp id fun e => s8.fr e
    have f9 : H9 p8 = some (rowI rs) := s9.kp _ _ f8 fun z => by
      obtain ⟨dxp, rlp, hp, _⟩ := Dk.ob
      obtain ⟨kvp, hs, _⟩ := Dk.sec
      obtain ⟨kvb, hpg, _⟩ := D.pa
      rcases z with (z | z | z) | (z | z)
      · rw [z, hp] at z8; cases z8
      · rw [z, hs] at z8; cases z8
      · exact n8w z
      · rw [z, h1] at z8; cases z8
      · rw [z, hpg] at z8; cases z8
    have n9w : p8 ≠ w9 := by
      rcases hw9 with e | e
      · rw [e]; exact n8w
      · exact ne_of_none f8 e
    have lns : (nums (x.pages.map (·.1))).length ≤ 14 := by
      have := le_nums_len (x.pages.map (·.1))
      rw [List.length_map] at this
      omega
    have hl0 : ∀ y ∈ homeW x.pages, y.2.length = 16 := homeOf_16 p64 fun n hn => (mem_nums n _).mp hn
    have hll : (homeW x.pages).length ≤ 56 := by unfold homeW; rw [homeOf_len]; omega
    obtain ⟨fa, fas, faw⟩ := fit_writes _ fit hl0 (by rw [w0]; show _ + 0 + _ ≤ _; omega) (by rw [w0]; show 0 + _ ≤ _; omega)
    rw [w0] at fas faw
    have fas : _ ≤ d.sec.length + 0 + (homeW x.pages).length := fas
    have faw : _ ≤ 0 + (homeW x.pages).length := faw
    obtain ⟨fb, fbs, fbw⟩ := fit_sync fa
    obtain ⟨fc, fcs, fcw⟩ := fit_write fb (n := 1 - x.place) (x := rs) lrs (by omega) (by omega)
    obtain ⟨fd', fds, fdw⟩ := fit_sync fc
    obtain ⟨fe, fes, few⟩ := fit_write fd' (n := 1 - x.place) (x := mark rs) (by show (1 :: rs.drop 1).length = 16; rw [List.length_cons, List.length_drop, lrs]) (by omega) (by omega)
    obtain ⟨ff, ffs, ffw⟩ := fit_sync fe
    -- sync
    obtain ⟨dx9, h19⟩ := id D9.ob
    obtain ⟨dxp9, rlp9, hp9, _⟩ := id Dk9.ob
    refine ⟨_, rfl, b, B, dx9, _, _, rfl, h19, T.cl, T.m1, bf_disk, p, dxp9, _, rfl, hp9, df_no (by decide +kernel) (by decide +kernel) (by decide +kernel) (by decide +kernel) (by decide +kernel), G9, p, s, w9, _, rfl, s09.gh, Dk9, fa, fun wA GA HA sA DkA hwA => ?_⟩
    have s0A := s09.trans sA (DBtr nh9)
    have DA := D9.stp sA (DBsep sep D nh9)
    have nhA := wtr s09 nh9 hwA
    have fA := Dk9.keepL sA f9 n9w
    have nAw : p8 ≠ wA := by
      rcases hwA with e | e
      · rw [e]; exact n9w
      · exact ne_of_none f9 e
    obtain ⟨dxA, h1A⟩ := id DA.ob
    obtain ⟨dxpA, rlpA, hpA, _⟩ := id DkA.ob
    -- the root, not marked
    refine ⟨_, rfl, b, B, dxA, _, _, rfl, h1A, T.cl, T.m1, bf_disk, p, dxpA, _, rfl, hpA, df_no (by decide +kernel) (by decide +kernel) (by decide +kernel) (by decide +kernel) (by decide +kernel), _, rfl, _, rfl, GA, p, s, wA, _, _, p8, _, rfl, s0A.gh, DkA, fb, fA, nAw, fun wB GB HB sB DkB hwB => ?_⟩
    have s0B := s0A.trans sB (DBtr nhA)
    have DB := DA.stp sB (DBsep sep D nhA)
    have nhB := wtr s0A nhA hwB
    have fB := DkA.keepL sB fA nAw
    have nBw : p8 ≠ wB := by
      rcases hwB with e | e
      · rw [e]; exact nAw
      · exact ne_of_none fA e
    obtain ⟨dxB, h1B⟩ := id DB.ob
    obtain ⟨dxpB, rlpB, hpB, _⟩ := id DkB.ob
    refine ⟨_, rfl, b, B, dxB, _, _, rfl, h1B, T.cl, T.m1, bf_disk, p, dxpB, _, rfl, hpB, df_no (by decide +kernel) (by decide +kernel) (by decide +kernel) (by decide +kernel) (by decide +kernel), GB, p, s, wB, _, rfl, s0B.gh, DkB, fc, fun wC GC HC sC DkC hwC => ?_⟩
    have s0C := s0B.trans sC (DBtr nhB)
    have DC := DB.stp sC (DBsep sep D nhB)
    have nhC := wtr s0B nhB hwC
    have fC := DkB.keepL sC fB nBw
    have nCw : p8 ≠ wC := by
      rcases hwC with e | e
      · rw [e]; exact nBw
      · exact ne_of_none fB e
    obtain ⟨dxC, h1C⟩ := id DC.ob
    obtain ⟨dxpC, rlpC, hpC, _⟩ := id DkC.ob
    -- marked
    refine ⟨_, rfl, b, B, dxC, _, _, rfl, h1C, T.cl, T.m1, bf_disk, p, dxpC, _, rfl, hpC, df_no (by decide +kernel) (by decide +kernel) (by decide +kernel) (by decide +kernel) (by decide +kernel), _, rfl, (by show 1 ≤ sizeLine; decide), fun q1 m1 => ?_⟩
    generalize e9 : upd HC q1 _ = HD
    obtain ⟨sD, fD, kD, gD, zD⟩ := own_of (Stp.refl (O := O0) s0C.gh) m1 e9
    refine ⟨_, rfl, _, rfl, p8, _, rfl, SqL.of (kD _ _ fC), fun q2 m2 => ?_⟩
    rw [cut_1]
    generalize e10 : upd HD q2 _ = HE
    obtain ⟨sE, fE, kE, gE, zE⟩ := own_of sD m2 e10
    refine ⟨q1, q2, _, _, rfl, rfl, kE _ _ fD, fE, by rw [List.length_map, List.length_drop, lrs]; show 1 + 15 ≤ sizeLine; decide, fun q3 m3 => ?_⟩
    generalize e11 : upd HE q3 _ = HF
    obtain ⟨sF, fF, kF, gF, zF⟩ := own_of sE m3 e11
    have fF : HF q3 = some (rowI (mark rs)) := fF
    have s0F := s0C.trans sF fun _ z => z.elim
    have DF' := DC.stp sF fun _ _ z => z
    have DkF := DkC.stp sF fun _ _ z => z
    have n3w : q3 ≠ wC := fun z => by
      obtain ⟨wsp, hwl, _⟩ := id DkC.wai
      rw [z, hwl] at zF; cases zF
    refine ⟨GC, p, s, wC, _, _, q3, _, rfl, s0F.gh, DkF, fd', fF, n3w, fun wG GG HG sG DkG hwG => ?_⟩
    have s0G := s0F.trans sG (DBtr nhC)
    have DG := DF'.stp sG (DBsep sep D nhC)
    have nhG := wtr s0F nhC hwG
    obtain ⟨dxG, h1G⟩ := id DG.ob
    obtain ⟨dxpG, rlpG, hpG, _⟩ := id DkG.ob
    refine ⟨_, rfl, b, B, dxG, _, _, rfl, h1G, T.cl, T.m1, bf_disk, p, dxpG, _, rfl, hpG, df_no (by decide +kernel) (by decide +kernel) (by decide +kernel) (by decide +kernel) (by decide +kernel), GG, p, s, wG, _, rfl, s0G.gh, DkG, fe, fun wI GI HI sI DkI hwI => ?_⟩
    have s0I := s0G.trans sI (DBtr nhG)
    have DI := DG.stp sI (DBsep sep D nhG)
    have nhI := wtr s0G nhG hwI
    obtain ⟨dxI, h1I⟩ := id DI.ob
    have ed : ((((d.writes (homeW x.pages)).sync.write (1 - x.place) rs).sync).write (1 - x.place) (mark rs)).sync = d.keep x := by
      unfold DS.keep
      rw [hrs]
    rw [ed] at DkI
    obtain ⟨dxpI, rlpI, hpI, _⟩ := id DkI.ob
    refine ⟨_, rfl, b, B, dxI, _, _, rfl, h1I, T.cl, T.m2, bf_bend, rfl, _, rfl, ?_⟩
    rw [eNo]
    refine iteF ?_
    refine ⟨_, rfl, b, B, dxI, _, _, rfl, h1I, T.cl, T.m1, bf_disk, p, C, dxpI, _, _, rfl, hpI, TD.1, TD.2, df_cut, _, rfl, if_bool (fun hc => ?_) (fun hc => ?_)⟩
    · have z := k wI pg GI HI s0I DkI (by unfold BS.keep; rw [hc]; exact DI) nhI (.inl rfl)
      rw [hc] at z
      exact z
    · refine ⟨_, rfl, _, rfl, b, B, dxI, _, _, rfl, h1I, T.cl, T.m4, bf_epoch, _, rfl, b, B, dxI, _, _, rfl, h1I, T.cl, T.m2, bf_bend, rfl, .inr ⟨_, rfl, _, _, rfl, rfl, (by show 3 ≤ sizeLine; decide), fun t nt => ?_⟩⟩
      rw [eNo]
      generalize e12 : upd HI t _ = HJ
      obtain ⟨sJ, fJ, kJ, gJ, zJ⟩ := own_of s0I nt e12
      have h1J := kJ _ _ h1I
      refine g_trip fJ ?_
      refine ⟨_, rfl, b, B, dxI, _, rfl, h1J, T.cl, T.m3, (by show 7 < 1000; decide), ?_⟩
      rw [bf_p_place]
      generalize e13 : upd HJ b _ = HK
      obtain ⟨sK, fK, kK⟩ := wr_of sJ h1J DI.gb (.inl (.inr (.inl rfl))) e13
      refine ⟨_, rfl, b, B, dxI, _, rfl, fK, T.cl, T.m4, (by show 7 < 1000; decide), ?_⟩
      rw [bf_p_epoch]
      generalize e14 : upd HK b _ = HL
      obtain ⟨sL, fL, kL⟩ := wr_of sK fK DI.gb (.inl (.inr (.inl rfl))) e14
      refine ⟨_, rfl, b, B, dxI, _, rfl, fL, T.cl, T.m7, (by show 7 < 1000; decide), ?_⟩
      rw [bf_p_end]
      generalize e15 : upd HL b _ = HM
      obtain ⟨sM, fM, kM⟩ := wr_of sL fL DI.gb (.inl (.inr (.inl rfl))) e15
      refine fun q nq => ?_
      generalize e16 : upd HM q _ = HN
      obtain ⟨sN, fN, kN, gN, zN⟩ := own_of sM nq e16
      have fMN := kN _ _ fM
      refine ⟨_, rfl, b, B, dxI, _, rfl, fMN, T.cl, T.m6, (by show 7 < 1000; decide), ?_⟩
      rw [bf_p_pages]
      generalize e17 : upd HN b _ = HO
      obtain ⟨sO, fO, kO⟩ := wr_of sN fMN DI.gb (.inl (.inr (.inl rfl))) e17
      have nqb : q ≠ b := (ne_of_none fM nq).symm
      have sep9 : ∀ c, DOwn p s wI c → ¬ c = b := fun c hc e => DBsep sep D nhI b (.inl rfl) (e ▸ hc)
      have sIO : Stp (fun c => c = b) GI HI GI HO := by
        have a1 := (own_of (Stp.refl (O := fun c => c = b) s0I.gh) nt e12).1
        have a2 := (wr_of a1 h1J DI.gb (.inl rfl) e13).1
        have a3 := (wr_of a2 fK DI.gb (.inl rfl) e14).1
        have a4 := (wr_of a3 fL DI.gb (.inl rfl) e15).1
        have a5 := (own_of a4 nq e16).1
        exact (wr_of a5 fMN DI.gb (.inl rfl) e17).1
      have DkO := DkI.stp sIO sep9
      have z := k wI q GI HO sO DkO (by
        unfold BS.keep
        rw [hc]
        exact ⟨⟨dxI, fO⟩, ⟨[], kO _ _ nqb fN, .nil⟩, DI.gb, gN⟩) nhI (.inr ⟨zN, ?_⟩)
      · rw [hc] at z
        exact z
      · obtain ⟨wsI, hwI', _⟩ := id DkI.wai
        exact fun e => by
          have := sIO.kp _ _ hwI' fun y => sep9 wI (.inr (.inr rfl)) y
          rw [e] at nq fN
          have fN2 := kO _ _ (e ▸ nqb) fN
          rw [this] at fN2
          cases fN2
end
end K51

/-! KPM: a commit as a plain function; writes and syncs upon a disk that may be cut. -/
namespace K51
open Y
def Wz (d : DS) : Prop := d.cut = true → d.wai = []
theorem counts_cut {d : DS} (h : d.cut = true) : d.counts = d := by
  unfold DS.counts
  split
  · rfl
  · rw [if_pos h]
theorem counts_wz {d : DS} (h : Wz d) : Wz d.counts := by
  unfold DS.counts
  split
  · exact h
  · split
    · exact h
    · split
      · exact fun _ => rfl
      · rename_i hc _
        exact fun z => absurd z hc
theorem write_wz {d : DS} (h : Wz d) (n : Int) (x : Sec) : Wz (d.write n x) := by
  by_cases hc : d.counts.cut = true
  · have e : d.write n x = d.counts := if_pos hc
    rw [e]
    exact counts_wz h
  · have e : d.write n x = { d.counts with wai := d.counts.wai ++ [(n, x)] } := if_neg hc
    rw [e]
    exact fun z => absurd z hc
theorem writes_wz : ∀ (l : List (Int × Sec)) {d : DS}, Wz d → Wz (d.writes l)
  | [], _, h => h
  | x :: l, _, h => writes_wz l (write_wz h x.1 x.2)
theorem sync_wai {d : DS} (h : Wz d) : d.sync.wai = [] := by
  by_cases hc : d.counts.cut = true
  · have e : d.sync = d.counts := if_pos hc
    rw [e]
    exact counts_wz h hc
  · have e : d.sync = { d.counts with sec := synS d.counts.sec d.counts.wai, wai := [] } := if_neg hc
    rw [e]
theorem write_cut {d : DS} (h : d.cut = true) (n : Int) (x : Sec) : d.write n x = d := by
  have e : d.counts = d := counts_cut h
  have e2 : d.write n x = d.counts := if_pos (by rw [e]; exact h)
  rw [e2, e]
theorem writes_cut : ∀ (l : List (Int × Sec)) {d : DS}, d.cut = true → d.writes l = d
  | [], _, _ => rfl
  | x :: l, d, h => by
    have e : d.writes (x :: l) = (d.write x.1 x.2).writes l := rfl
    rw [e, write_cut h, writes_cut l h]
theorem sync_cut {d : DS} (h : d.cut = true) : d.sync = d := by
  have e : d.counts = d := counts_cut h
  have e2 : d.sync = d.counts := if_pos (by rw [e]; exact h)
  rw [e2, e]
theorem commit_cut {d : DS} (h : d.cut = true) (ep e : Int) (rows : BRows) : d.commit ep e rows = d := by
  show ((d.writes (logW e (contOf ep rows))).sync.write (lg e) (mark (part (contOf ep rows) 0))).sync = d
  rw [writes_cut _ h, sync_cut h, write_cut h, sync_cut h]
theorem logW_len (e : Int) (c : List Int) : (logW e c).length = parts c := by
  unfold logW
  rw [List.length_map, List.length_range]
theorem logW_16 (e : Int) (c : List Int) : ∀ y ∈ logW e c, y.2.length = 16 := fun y hy => by
  obtain ⟨j, _, e⟩ := List.mem_map.mp hy
  rw [← e]
  exact part_len _ _
theorem commit_fit {d : DS} (h : Fit d) (w0 : d.wai = []) (hs : d.sec.length ≤ 59000) (ep e : Int) {rows : BRows} (hl : rows.length ≤ 12) (h64 : ∀ r ∈ rows, r.2.length = 64) :
    Fit (d.commit ep e rows) ∧ (d.commit ep e rows).wai = [] ∧ (d.commit ep e rows).sec.length ≤ d.sec.length + 57 := by
  have lc := cont_len (e := ep) h64
  have lp : parts (contOf ep rows) ≤ 56 := by unfold parts; omega
  obtain ⟨f1, s1, w1⟩ := fit_writes (logW e (contOf ep rows)) h (logW_16 _ _) (by rw [logW_len, w0]; show _ + 0 + _ ≤ _; omega) (by rw [logW_len, w0]; show 0 + _ ≤ _; omega)
  rw [logW_len, w0] at s1 w1
  have s1 : (d.writes (logW e (contOf ep rows))).sec.length + (d.writes (logW e (contOf ep rows))).wai.length ≤ d.sec.length + 0 + parts (contOf ep rows) := s1
  have w1 : (d.writes (logW e (contOf ep rows))).wai.length ≤ 0 + parts (contOf ep rows) := w1
  obtain ⟨f2, s2, w2⟩ := fit_sync f1
  obtain ⟨f3, s3, w3⟩ := fit_write f2 (n := lg e) (x := mark (part (contOf ep rows) 0)) (by show (1 :: (part (contOf ep rows) 0).drop 1).length = 16; rw [List.length_cons, List.length_drop, part_len]) (by omega) (by omega)
  obtain ⟨f4, s4, w4⟩ := fit_sync f3
  have z1 : Wz (d.writes (logW e (contOf ep rows))) := writes_wz _ fun _ => w0
  have z2 : Wz (d.writes (logW e (contOf ep rows))).sync := fun _ => sync_wai z1
  have z3 : Wz ((d.writes (logW e (contOf ep rows))).sync.write (lg e) (mark (part (contOf ep rows) 0))) := write_wz z2 _ _
  exact ⟨f4, sync_wai z3, by show (DS.sync _).sec.length ≤ _; omega⟩
def W (sec : List (Int × Sec)) (n : Int) : Sec := (look sec n).getD blank
theorem look_cons'' {β : Type} (y : Int × β) (mem : List (Int × β)) (n : Int) : look (y :: mem) n = if y.1 = n then some y.2 else look mem n := look_cons y mem n
theorem look_map_put {β : Type} (k : Int) (x : β) (m : Int) : ∀ ds : List (Int × β), look (ds.map fun p => if p.1 = k then (p.1, x) else p) m = if m = k then (if ds.any (fun p => decide (p.1 = k)) then some x else none) else look ds m
  | [] => by
    by_cases h : m = k
    · rw [if_pos h]; rfl
    · rw [if_neg h]; rfl
  | y :: ds => by
    rw [List.map_cons, look_cons'', look_map_put k x m ds, look_cons'', List.any_cons]
    by_cases hy : y.1 = k
    · rw [if_pos hy, decide_eq_true hy, Bool.true_or]
      show (if y.1 = m then some x else _) = _
      by_cases hm : m = k
      · rw [if_pos (hy.trans hm.symm), if_pos hm]; rfl
      · rw [if_neg fun z => hm (z.symm.trans hy), if_neg hm, if_neg hm, if_neg fun z => hm (z.symm.trans hy)]
    · rw [if_neg hy, decide_eq_false hy, Bool.false_or]
      by_cases hm : m = k
      · rw [if_neg fun z => hy (z.trans hm), if_pos hm, if_pos hm]
      · rw [if_neg hm, if_neg hm]
theorem look_snoc {β : Type} (k : Int) (x : β) (m : Int) : ∀ ds : List (Int × β), ds.any (fun p => decide (p.1 = k)) = false → look (ds ++ [(k, x)]) m = if m = k then some x else look ds m
  | [], _ => by
    rw [List.nil_append, look_cons'']
    by_cases h : m = k
    · rw [if_pos h, if_pos h.symm]
    · rw [if_neg h, if_neg fun z => h z.symm]
  | y :: ds, h => by
    rw [List.any_cons, Bool.or_eq_false_iff] at h
    rw [List.cons_append, look_cons'', look_snoc k x m ds h.2, look_cons'']
    have hy := of_decide_eq_false h.1
    by_cases hm : m = k
    · rw [if_pos hm, if_neg (fun z => hy (z.trans hm)), if_pos hm]
    · rw [if_neg hm, if_neg hm]
theorem look_put {β : Type} (ds : List (Int × β)) (k : Int) (x : β) (m : Int) : look (put ds k x) m = if m = k then some x else look ds m := by
  unfold put
  cases h : ds.any (fun p => decide (p.1 = k)) with
  | true =>
    show look (ds.map _) m = _
    rw [look_map_put, h]
    rfl
  | false => exact look_snoc k x m ds h
theorem W_put (sec : List (Int × Sec)) (n : Int) (x : Sec) (m : Int) : W (put sec n x) m = if m = n then x else W sec m := by
  unfold W
  rw [look_put]
  by_cases h : m = n
  · rw [if_pos h, if_pos h]; rfl
  · rw [if_neg h, if_neg h]
theorem W_syn : ∀ (wai sec : List (Int × Sec)) (m : Int), W (synS sec wai) m = lastOf wai m (W sec m)
  | [], _, _ => rfl
  | x :: wai, sec, m => by
    have e1 : synS sec (x :: wai) = synS (put sec x.1 x.2) wai := rfl
    have e2 : lastOf (x :: wai) m (W sec m) = lastOf wai m (if x.1 = m then x.2 else W sec m) := rfl
    rw [e1, e2, W_syn wai, W_put]
    by_cases h : m = x.1
    · rw [if_pos h, if_pos h.symm]
    · rw [if_neg h, if_neg fun z => h z.symm]
def Safe (e : Int) (base f : Rd) : Prop := ∀ n, f n = base n ∨ ∃ k, e ≤ k ∧ n = lg k ∧ (f n).getD 0 0 ≠ 1
def OkW (e : Int) (x : Int × Sec) : Prop := x.2.length = 16 ∧ x.2.getD 0 0 ≠ 1 ∧ ∃ k, e ≤ k ∧ x.1 = lg k
theorem lastOf_or : ∀ (wai : List (Int × Sec)) (n : Int) (x : Sec), lastOf wai n x = x ∨ ∃ y ∈ wai, y.1 = n ∧ lastOf wai n x = y.2
  | [], _, _ => .inl rfl
  | y :: wai, n, x => by
    have e : lastOf (y :: wai) n x = lastOf wai n (if y.1 = n then y.2 else x) := rfl
    rw [e]
    rcases lastOf_or wai n (if y.1 = n then y.2 else x) with h | ⟨z, hz, h1, h2⟩
    · by_cases hy : y.1 = n
      · rw [if_pos hy] at h ⊢
        exact .inr ⟨y, List.mem_cons_self, hy, h⟩
      · rw [if_neg hy] at h ⊢
        exact .inl h
    · exact .inr ⟨z, List.mem_cons_of_mem _ hz, h1, h2⟩
theorem torn_W (wai sec : List (Int × Sec)) (r : (Int × Int) × Int) (m : Int) : W (torn wai sec r) m = W sec m ∨ (m = r.2 ∧ ∃ x ∈ wai, x.1 = m ∧ W (torn wai sec r) m = x.2.take (clip r.1.2) ++ (W sec m).drop (clip r.1.2)) := by
  unfold torn
  split
  · rename_i h
    rw [W_put]
    by_cases hm : m = r.2
    · rw [if_pos hm]
      refine .inr ⟨hm, ?_⟩
      have hj : r.1.1.toNat < (ofN wai r.2).length := by omega
      have hmem : (ofN wai r.2).getD r.1.1.toNat [] ∈ ofN wai r.2 := by
        rw [List.getD_eq_getElem?_getD, List.getElem?_eq_getElem hj, Option.getD_some]
        exact List.getElem_mem hj
      obtain ⟨x, hx, ex⟩ := List.mem_map.mp hmem
      obtain ⟨hx1, hx2⟩ := List.mem_filter.mp hx
      refine ⟨x, hx1, (of_decide_eq_true hx2).trans hm.symm, ?_⟩
      rw [ex, hm]
      rfl
    · rw [if_neg hm]
      exact .inl rfl
  · exact .inl rfl
theorem getD_take {w o : Sec} {c : Nat} (hw : w.length = 16) : (w.take c ++ o.drop c).getD 0 0 = if c = 0 then o.getD 0 0 else w.getD 0 0 := by
  cases c with
  | zero => simp
  | succ c =>
    rw [if_neg (by omega)]
    cases w with
    | nil => cases hw
    | cons a w => rfl
theorem torn_safe {e : Int} {base : Rd} {wai sec : List (Int × Sec)} (hw : ∀ x ∈ wai, OkW e x) (h : Safe e base (W sec)) (r : (Int × Int) × Int) : Safe e base (W (torn wai sec r)) := fun n => by
  rcases torn_W wai sec r n with q | ⟨_, x, hx, hn, q⟩
  · rw [q]
    exact h n
  · obtain ⟨h16, h0, k, hk, ek⟩ := hw x hx
    by_cases hc : clip r.1.2 = 0
    · rw [hc] at q
      have e2 : x.2.take 0 ++ (W sec n).drop 0 = W sec n := rfl
      rw [e2] at q
      rw [q]
      exact h n
    · refine .inr ⟨k, hk, hn.symm.trans ek, ?_⟩
      rw [q, getD_take h16, if_neg hc]
      exact h0
theorem crashed_safe {e : Int} {base : Rd} {wai : List (Int × Sec)} (hw : ∀ x ∈ wai, OkW e x) : ∀ (rs : List ((Int × Int) × Int)) (sec : List (Int × Sec)), Safe e base (W sec) → Safe e base (W (rs.foldl (torn wai) sec))
  | [], _, h => h
  | r :: rs, sec, h => crashed_safe hw rs _ (torn_safe hw h r)
/-- one count: cut off here, or nothing happens -/
theorem counts_run {e : Int} {base : Rd} {d : DS} (hc : d.cut = false) (hs : Safe e base (W d.sec)) (hw : ∀ x ∈ d.wai, OkW e x) :
    (d.counts.cut = true ∧ Safe e base (W d.counts.sec)) ∨ (d.counts.cut = false ∧ d.counts.sec = d.sec ∧ d.counts.wai = d.wai) := by
  unfold DS.counts
  split
  · exact .inr ⟨hc, rfl, rfl⟩
  · rw [if_neg (by rw [hc]; exact Bool.false_ne_true)]
    split
    · exact .inl ⟨rfl, crashed_safe hw _ _ hs⟩
    · exact .inr ⟨hc, rfl, rfl⟩
theorem writes_run {e : Int} {base : Rd} : ∀ (l : List (Int × Sec)) {d : DS}, d.cut = false → Safe e base (W d.sec) → (∀ x ∈ d.wai, OkW e x) → (∀ x ∈ l, OkW e x) →
    ((d.writes l).cut = true ∧ Safe e base (W (d.writes l).sec)) ∨ ((d.writes l).cut = false ∧ (d.writes l).sec = d.sec ∧ (d.writes l).wai = d.wai ++ l)
  | [], d, hc, hs, hw, _ => .inr ⟨hc, rfl, (List.append_nil _).symm⟩
  | x :: l, d, hc, hs, hw, hl => by
    have e0 : d.writes (x :: l) = (d.write x.1 x.2).writes l := rfl
    rw [e0]
    rcases counts_run hc hs hw with ⟨c1, c2⟩ | ⟨c1, c2, c3⟩
    · have ew : d.write x.1 x.2 = d.counts := if_pos c1
      rw [ew, writes_cut l c1]
      exact .inl ⟨c1, c2⟩
    · have ew : d.write x.1 x.2 = { d.counts with wai := d.counts.wai ++ [(x.1, x.2)] } := if_neg (by rw [c1]; exact Bool.false_ne_true)
      rw [ew]
      rcases writes_run l (d := { d.counts with wai := d.counts.wai ++ [(x.1, x.2)] }) c1 (by rw [c2]; exact hs) (by
        intro y hy
        have hy : y ∈ d.counts.wai ++ [(x.1, x.2)] := hy
        rw [c3] at hy
        rcases List.mem_append.mp hy with hy | hy
        · exact hw y hy
        · rw [List.mem_singleton] at hy
          subst hy
          exact hl x List.mem_cons_self) (fun y hy => hl y (List.mem_cons_of_mem _ hy)) with q | ⟨q1, q2, q3⟩
      · exact .inl q
      · refine .inr ⟨q1, q2.trans c2, ?_⟩
        rw [q3]
        show (d.counts.wai ++ [(x.1, x.2)]) ++ l = _
        rw [c3, List.append_assoc]
        rfl
theorem sync_run {e : Int} {base : Rd} {d : DS} (hc : d.cut = false) (hs : Safe e base (W d.sec)) (hw : ∀ x ∈ d.wai, OkW e x) :
    (d.sync.cut = true ∧ Safe e base (W d.sync.sec)) ∨ (d.sync.cut = false ∧ d.sync.sec = synS d.sec d.wai ∧ d.sync.wai = []) := by
  rcases counts_run hc hs hw with ⟨c1, c2⟩ | ⟨c1, c2, c3⟩
  · have e : d.sync = d.counts := if_pos c1
    rw [e]
    exact .inl ⟨c1, c2⟩
  · have e : d.sync = { d.counts with sec := synS d.counts.sec d.counts.wai, wai := [] } := if_neg (by rw [c1]; exact Bool.false_ne_true)
    rw [e]
    refine .inr ⟨c1, ?_, rfl⟩
    show synS d.counts.sec d.counts.wai = _
    rw [c2, c3]
/-- what stands in the log behind the first sync of a commit, and behind the last -/
def lay0 (e : Int) (c : List Int) (base : Rd) : Rd := fun n => lastOf (logW e c) n (base n)
def lay1 (e : Int) (c : List Int) (base : Rd) : Rd := fun n => if n = lg e then mark (part c 0) else lay0 e c base n
theorem part_head (c : List Int) (i : Nat) : (part c i).getD 0 0 = 0 := rfl
theorem logW_ok (e : Int) (c : List Int) : ∀ x ∈ logW e c, OkW e x := fun x hx => by
  obtain ⟨i, _, rfl⟩ := List.mem_map.mp hx
  exact ⟨part_len _ _, by rw [part_head]; decide, e + i, by omega, rfl⟩
theorem lay0_safe (e : Int) (c : List Int) (base : Rd) : Safe e base (lay0 e c base) := fun n => by
  unfold lay0
  rcases lastOf_or (logW e c) n (base n) with h | ⟨y, hy, h1, h2⟩
  · exact .inl h
  · obtain ⟨_, h0, k, hk, ek⟩ := logW_ok e c y hy
    exact .inr ⟨k, hk, h1.symm.trans ek, by rw [h2]; exact h0⟩
theorem lay0_at {e : Int} {c : List Int} {base : Rd} {i : Nat} (h : i < parts c) : lay0 e c base (lg (e + i)) = part c i := by
  have key : ∀ m : Nat, i < m → lastOf ((List.range m).map fun j : Nat => (lg (e + j), part c j)) (lg (e + i)) (base (lg (e + i))) = part c i := fun m => by
    induction m with
    | zero => intro h; omega
    | succ m ih =>
      intro hm
      rw [List.range_succ, List.map_append]
      unfold lastOf
      rw [List.foldl_append]
      show (if lg (e + m) = lg (e + i) then part c m else _) = _
      by_cases hi : i = m
      · subst hi
        rw [if_pos rfl]
      · rw [if_neg (by unfold lg; omega)]
        exact ih (by omega)
  exact key _ h
theorem lay0_off {e : Int} {c : List Int} {base : Rd} {n : Int} (h : ∀ i : Nat, i < parts c → n ≠ lg (e + i)) : lay0 e c base n = base n := by
  unfold lay0
  rcases lastOf_or (logW e c) n (base n) with q | ⟨y, hy, h1, _⟩
  · exact q
  · obtain ⟨i, hi, rfl⟩ := List.mem_map.mp hy
    exact absurd h1.symm (h i (List.mem_range.mp hi))
/-- a commit of a disk that stands: cut off with nothing of it, cut off with all of it, or done -/
theorem commit_run {d : DS} (hc : d.cut = false) (w0 : d.wai = []) (ep e : Int) (rows : BRows) :
    ((d.commit ep e rows).cut = true ∧ Safe e (W d.sec) (W (d.commit ep e rows).sec)) ∨ (∀ n, W (d.commit ep e rows).sec n = lay1 e (contOf ep rows) (W d.sec) n) := by
  show ((DS.sync _).cut = true ∧ _) ∨ _
  generalize hcs : contOf ep rows = c
  have e0 : d.commit ep e rows = ((d.writes (logW e c)).sync.write (lg e) (mark (part c 0))).sync := by rw [← hcs]; rfl
  rw [e0]
  have base0 : Safe e (W d.sec) (W d.sec) := fun n => .inl rfl
  rcases writes_run (logW e c) hc base0 (by rw [w0]; intro x hx; cases hx) (logW_ok e c) with ⟨a1, a2⟩ | ⟨a1, a2, a3⟩
  · rw [sync_cut a1, write_cut a1, sync_cut a1]
    exact .inl ⟨a1, a2⟩
  rw [w0, List.nil_append] at a3
  rcases sync_run (e := e) (base := W d.sec) a1 (by rw [a2]; exact base0) (by rw [a3]; exact logW_ok e c) with ⟨b1, b2⟩ | ⟨b1, b2, b3⟩
  · rw [write_cut b1, sync_cut b1]
    exact .inl ⟨b1, b2⟩
  rw [a2, a3] at b2
  generalize hd2 : (d.writes (logW e c)).sync = d2 at *
  have hW2 : ∀ n, W d2.sec n = lay0 e c (W d.sec) n := fun n => by rw [b2, W_syn]; rfl
  have s2 : Safe e (W d.sec) (W d2.sec) := fun n => by rw [hW2]; exact lay0_safe e c (W d.sec) n
  rcases counts_run (e := e) (base := W d.sec) b1 s2 (by rw [b3]; intro x hx; cases hx) with ⟨c1, c2⟩ | ⟨c1, c2, c3⟩
  · have ew : d2.write (lg e) (mark (part c 0)) = d2.counts := if_pos c1
    rw [ew, sync_cut c1]
    exact .inl ⟨c1, c2⟩
  have ew : d2.write (lg e) (mark (part c 0)) = { d2.counts with wai := d2.counts.wai ++ [(lg e, mark (part c 0))] } := if_neg (by rw [c1]; exact Bool.false_ne_true)
  rw [c3, b3, List.nil_append] at ew
  generalize hd3 : d2.write (lg e) (mark (part c 0)) = d3 at *
  have h3c : d3.cut = false := by rw [ew]; exact c1
  have h3s : d3.sec = d2.sec := by rw [ew]; exact c2
  have h3w : d3.wai = [(lg e, mark (part c 0))] := by rw [ew]
  have l1 : 0 < parts c ∨ parts c = 0 := by omega
  -- the last count
  have last : (d3.counts.cut = true ∧ ((∀ n, W d3.counts.sec n = W d2.sec n) ∨ ∀ n, W d3.counts.sec n = lay1 e c (W d.sec) n)) ∨ (d3.counts.cut = false ∧ d3.counts.sec = d3.sec ∧ d3.counts.wai = d3.wai) := by
    have hl : 0 < parts c := by
      have : 8 ≤ c.length := by
        rw [← hcs]
        unfold contOf
        rw [List.length_append, List.length_append]
        show 8 ≤ 4 + 4 + _
        omega
      unfold parts
      omega
    have h2e : W d2.sec (lg e) = part c 0 := by
      rw [hW2]
      have := lay0_at (e := e) (c := c) (base := W d.sec) (i := 0) hl
      rw [show e + ((0 : Nat) : Int) = e by omega] at this
      exact this
    unfold DS.counts
    split
    · exact .inr ⟨h3c, rfl, rfl⟩
    · rw [if_neg (by rw [h3c]; exact Bool.false_ne_true)]
      split
      · refine .inl ⟨rfl, ?_⟩
        show (∀ n, W (crashed d3.sec d3.wai d3.rows) n = W d2.sec n) ∨ ∀ n, W (crashed d3.sec d3.wai d3.rows) n = _
        have en : nums (d3.wai.map (·.1)) = [lg e] := by
          rw [h3w]
          exact nums_asc (List.pairwise_singleton _ _)
        unfold crashed
        rw [en, h3s]
        cases d3.rows with
        | nil => exact .inl fun n => rfl
        | cons r rows' =>
          have ez : (r :: rows').zip [lg e] = [(r, lg e)] := by
            show (r, lg e) :: rows'.zip [] = _
            rw [List.zip_nil_right]
          rw [ez]
          show (∀ n, W (torn d3.wai d2.sec (r, lg e)) n = W d2.sec n) ∨ ∀ n, W (torn d3.wai d2.sec (r, lg e)) n = lay1 e c (W d.sec) n
          have off : ∀ n, n ≠ lg e → W (torn d3.wai d2.sec (r, lg e)) n = W d2.sec n := fun n hn => by
            rcases torn_W d3.wai d2.sec (r, lg e) n with q | ⟨q, _⟩
            · exact q
            · exact absurd q hn
          rcases torn_W d3.wai d2.sec (r, lg e) (lg e) with q | ⟨_, x, hx, _, q⟩
          · refine .inl fun n => ?_
            by_cases hn : n = lg e
            · rw [hn]; exact q
            · exact off n hn
          · rw [h3w, List.mem_singleton] at hx
            rw [hx, h2e] at q
            by_cases hz : clip r.2 = 0
            · refine .inl fun n => ?_
              by_cases hn : n = lg e
              · rw [hn, q, h2e]
                show (mark (part c 0)).take (clip r.2) ++ (part c 0).drop (clip r.2) = _
                rw [hz]
                rfl
              · exact off n hn
            · refine .inr fun n => ?_
              unfold lay1
              by_cases hn : n = lg e
              · rw [if_pos hn, hn, q]
                show (mark (part c 0)).take (clip r.2) ++ (part c 0).drop (clip r.2) = _
                obtain ⟨k, hk⟩ : ∃ k, clip r.2 = k + 1 := ⟨clip r.2 - 1, by omega⟩
                rw [hk]
                show 1 :: (((part c 0).drop 1).take k ++ ((part c 0).drop 1).drop k) = _
                rw [List.take_append_drop]
                rfl
              · rw [if_neg hn, off n hn]
                exact hW2 n
      · exact .inr ⟨h3c, rfl, rfl⟩
  rcases last with ⟨q1, q2⟩ | ⟨q1, q2, q3⟩
  · have es : d3.sync = d3.counts := if_pos q1
    rw [es]
    rcases q2 with q2 | q2
    · refine .inl ⟨q1, fun n => ?_⟩
      rw [q2]
      exact s2 n
    · exact .inr q2
  · have es : d3.sync = { d3.counts with sec := synS d3.counts.sec d3.counts.wai, wai := [] } := if_neg (by rw [q1]; exact Bool.false_ne_true)
    rw [es]
    refine .inr fun n => ?_
    show W (synS d3.counts.sec d3.counts.wai) n = _
    rw [q2, q3, h3w, W_syn, h3s, hW2]
    unfold lay1
    show (if lg e = n then _ else _) = _
    by_cases hn : n = lg e
    · rw [if_pos hn, if_pos hn.symm]
    · rw [if_neg hn, if_neg fun z => hn z.symm]
theorem W_told (sec : List (Int × Sec)) (hnd : (sec.map (·.1)).Nodup) (n : Int) : W (ofRows (told sec)) n = W sec n := by
  have h := told_nodup sec
  have e : ofRows (told sec) = told sec := by
    have := ofRows_asc (told sec) [] (by simpa using h)
    simpa [ofRows] using this
  rw [e]
  have nd : ((told sec).map (·.1)).Nodup := by
    rw [List.nodup_iff_pairwise_ne, List.pairwise_map]
    exact h.imp fun q => by omega
  unfold W
  cases el : look sec n with
  | none =>
    have : look (told sec) n = none := by
      cases e2 : look (told sec) n with
      | none => rfl
      | some x =>
        have hm := look_some_mem e2
        unfold told at hm
        obtain ⟨m, hm1, hm2⟩ := List.mem_map.mp (List.mem_filter.mp hm).1
        have : m = n := congrArg Prod.fst hm2
        subst this
        rw [mem_nums] at hm1
        have := look_isSome.mpr hm1
        rw [el] at this
        cases this
    rw [this]
  | some x =>
    have hk : n ∈ sec.map (·.1) := look_isSome.mp (by rw [el]; rfl)
    by_cases hx : x = blank
    · have : look (told sec) n = none := by
        cases e2 : look (told sec) n with
        | none => rfl
        | some y =>
          have hm := look_some_mem e2
          unfold told at hm
          obtain ⟨hm0, hm3⟩ := List.mem_filter.mp hm
          obtain ⟨m, hm1, hm2⟩ := List.mem_map.mp hm0
          have e3 : m = n := congrArg Prod.fst hm2
          subst e3
          have e4 : (look sec m).getD blank = y := congrArg Prod.snd hm2
          rw [el] at e4
          have e4 : x = y := e4
          have := of_decide_eq_true hm3
          exact absurd (e4.symm.trans hx) this
      rw [this, hx]
      rfl
    · have hm : (n, x) ∈ told sec := by
        unfold told
        refine List.mem_filter.mpr ⟨List.mem_map.mpr ⟨n, (mem_nums n _).mpr hk, ?_⟩, decide_eq_true hx⟩
        rw [el]
        rfl
      rw [look_of_mem nd hm]
/-- what Disk(disk.synced()) is -/
def DS.again (d : DS) : DS := ⟨ofRows (told d.sec), [], none, [], false⟩
theorem told_le (sec : List (Int × Sec)) : (told sec).length ≤ sec.length := by
  unfold told
  refine Nat.le_trans (List.length_filter_le _ _) ?_
  rw [List.length_map]
  refine Nat.le_trans (le_nums_len _) ?_
  rw [List.length_map]
  exact Nat.le_refl _
theorem told_l16 {sec : List (Int × Sec)} (h : ∀ x ∈ sec, x.2.length = 16) : ∀ x ∈ told sec, x.2.length = 16 := fun x hx => by
  obtain ⟨n, _, e⟩ := List.mem_map.mp (List.mem_filter.mp hx).1
  rw [← e]
  exact whole_len (d := ⟨sec, [], none, [], false⟩) h n
theorem again_len (d : DS) : d.again.sec.length ≤ d.sec.length := by
  show (synS [] (told d.sec)).length ≤ _
  have h1 := synS_len (told d.sec) []
  have h2 := told_le d.sec
  rw [List.length_nil] at h1
  omega
theorem Fit.again {d : DS} (h : Fit d) : Fit d.again := by
  have h1 := again_len d
  have h2 := h.sz
  refine ⟨synS_nd (told d.sec) [] (by simp), ?_, Nat.zero_le _, synS_16 (told d.sec) [] (fun x hx => by cases hx) (told_l16 h.ls), (fun x hx => by cases hx), Nat.zero_le _⟩
  show d.again.sec.length + 0 ≤ 60000
  omega
theorem read_W {d : DS} (h : d.wai = []) : d.read = W d.sec := funext fun n => by
  unfold DS.read
  rw [h]
  rfl
theorem lastOf_len : ∀ (wai : List (Int × Sec)) {n : Int} {x : Sec}, (∀ y ∈ wai, y.2.length = 16) → x.length = 16 → (lastOf wai n x).length = 16
  | [], _, _, _, h => h
  | y :: wai, n, x, hw, h => by
    have e : lastOf (y :: wai) n x = lastOf wai n (if y.1 = n then y.2 else x) := rfl
    rw [e]
    refine lastOf_len wai (fun z hz => hw z (List.mem_cons_of_mem _ hz)) ?_
    split
    · exact hw y List.mem_cons_self
    · exact h
theorem Fit.rd {d : DS} (h : Fit d) (n : Int) : (d.read n).length = 16 := lastOf_len _ h.lw (whole_len h.ls n)
theorem look_mem64 {pages : List (Int × Page)} {n : Int} {p : Page} (h : ∀ y ∈ pages, y.2.length = 64) (e : look pages n = some p) : p.length = 64 := h _ (look_some_mem e)
theorem pageOf_64 {d : DS} (h : Fit d) {pages : List (Int × Page)} (hp : ∀ y ∈ pages, y.2.length = 64) (n : Int) : (pageOf d.read pages n).length = 64 := by
  unfold pageOf
  cases e : look pages n with
  | some p => exact look_mem64 hp e
  | none =>
    simp only [List.length_append, h.rd]
end K51

/-! KB9: the pages that have something at home; the paper. -/
namespace K51
open PySem PySem.Spec PyProof.Rows L2 Y
abbrev z64 : Page := List.replicate 64 0
def isHome (n : Int) : Bool := decide (2 ≤ n) && decide (n % 2 = 0)
def homeNs (xs : List (Int × Sec)) : List Int := (xs.filter fun y => isHome y.1).map fun y => (y.1 - 2) / 8
def pageRows (f : Rd) (pages : List (Int × Page)) (ns : List Int) : BRows := (ns.map fun n => (n, pageOf f pages n)).filter fun r => !decide (r.2 = z64)
def paperOf (d : DS) (x : BS) : Int × BRows := (x.many, pageRows d.read x.pages (nums (x.pages.map (·.1) ++ nums (homeNs (told d.sec)))))
structure TxP (K : PySem.W.Frag) (mg : Str → Option Value) (B : Addr) (tP : Tok) : Prop where
  cl : Cls K B
  m1 : NoAttr K B "disk"
  m5 : NoAttr K B "many"
  m6 : NoAttr K B "pages"
  c_PAGE : mg "PAGE" = some (.int 64 tP)
  b_sorted : mg "sorted" = none
  b_set : mg "set" = none
  b_list : mg "list" = none
theorem homeNs_snoc (xs : List (Int × Sec)) (y : Int × Sec) : homeNs (xs ++ [y]) = if isHome y.1 = true then homeNs xs ++ [(y.1 - 2) / 8] else homeNs xs := by
  unfold homeNs
  rw [List.filter_append]
  cases h : isHome y.1 with
  | true => simp [h]
  | false => simp [h]
theorem homeNs_len (xs : List (Int × Sec)) : (homeNs xs).length ≤ xs.length := by
  unfold homeNs
  rw [List.length_map]
  exact List.length_filter_le _ _
theorem take_snoc {α : Type} {xs : List α} {i : Nat} {x : α} (h : xs[i]? = some x) : xs.take (i + 1) = xs.take i ++ [x] := by
  rw [List.take_add_one, h]
  rfl
theorem int_at {xs : List Int} {i : Nat} {y : V} (h : (xs.map V.int)[i]? = some y) : ∃ n, xs[i]? = some n ∧ y = V.int n := by
  rw [List.getElem?_map] at h
  cases e : xs[i]? with
  | none => rw [e] at h; cases h
  | some z => rw [e] at h; exact ⟨z, rfl, (Option.some.inj h).symm⟩
theorem keys_int {r : Rp (List Int)} {G : Hp} {kvs : List (Key × V)} {ds : List (Int × List Int)} (h : DRel r G kvs ds) : (kvs.map fun kv => kV kv.1) = (ds.map (·.1)).map V.int := by
  have e := congrArg (List.map kV) h.keys
  rw [List.map_map, List.map_map] at e
  exact e
section
variable {P : Program} {w : World} {K : PySem.W.Frag} {mg : Str → Option Value} {base : Heap} {C B : Addr} {tP : Tok}
def spHomeP : Sp := fun vs H Q _ => ∃ (G : Hp) (a : Addr) (xs : List (Int × Sec)), vs = [.ref a] ∧ Same G H ∧ LstAt rSec H H a xs ∧ xs.length ≤ 1000 ∧
  ∀ q H', Stp O0 G H G H' → H q = none → H' q = some (rowI (nums (homeNs xs))) → Q (.ref q) H'
abbrev s_home_pages : Stmt := top 20
theorem sc_home_pages : FnScope ["sectors", "number", "content"] ["sectors"] (defScope s_home_pages) := ⟨rfl, rfl, rfl, by decide +kernel, rfl, by decide +kernel, by decide +kernel⟩
theorem ok_homeP {f : Addr} {fd : FuncData} (F : Fun K "home_pages" "home_pages" s_home_pages f fd) (T : TxP K mg B tP) : FnOk P w K mg base CX0 1 f fd ["sectors"] spHomeP := by
  refine F.ok sc_home_pages (fun vs H Q E h => ?_) (fun cdv A outer st H vs Q E hr h => ?_)
  · obtain ⟨G, a, xs, rfl, _⟩ := h
    rfl
  · obtain ⟨G, a, xs, rfl, gh, ⟨us, ha, pu⟩, hl, k⟩ := h
    have nd := sc_home_pages.nd
    refine ⟨_, (pss_one (ps_ret (pe_callB (cr_sortedSetAK (w := w) rfl rfl) (by rfl) T.b_sorted (by decide +kernel) (pa_cons (pe_callTy (cr_setIK (K := K) (w := w) rfl rfl rfl) (by rfl) T.b_set (by decide +kernel) (pa_cons (pe_lc (own := [("number", 1), ("content", 2)]) rfl nd (pi_listK (K := K) rfl (pv 0)) (blkOk_by (own := [("number", 1), ("content", 2)]) (N := ["sectors", "number", "content"]) (sc := defScope s_home_pages) (by decide +kernel)) (fun _ _ _ _ _ => (pg_tupK (K := K) (n := 2) rfl rfl (pgs_cons (pg_name (i := 1) nd rfl (Or.inl rfl)) (pgs_cons (pg_name (i := 2) nd rfl (Or.inl rfl)) pgs_nil)))) (fun _ _ _ _ _ => (pts_one (PW.pt (pw_and (pt_cmpR op_ge (pv 1) pe_int (nomark _)) (pw_and1 (pt_cmpR op_eq (pe_op op_mod (pv 1) pe_int) pe_int (nomark _))))))) (fun _ _ _ _ _ => (pe_op op_fdiv (pe_op op_sub (pv 1) pe_int) pe_int))) pa_nil)) pa_nil)))), ?_⟩
    have lus := pd_len pu
    refine ⟨_, rfl, a, rfl, ⟨_, SqL.of ha⟩, fun D nD => ?_⟩
    obtain ⟨s1, f1, k1, g1, z1⟩ := own_of (o := .lst []) (Stp.refl (O := O0) gh) nD rfl
    refine lc_list (K := K) (a := a) (xs := us) (fun i H2 => Stp O0 G H G H2 ∧ H2 D = some (rowI (homeNs (xs.take i)))) ⟨s1, f1⟩ (fun i H2 _ ⟨s2, _⟩ => SqL.of (s2.kp _ _ ha fun z => z)) ?_ ?_
    · rintro i y H2 hi ⟨s2, f2⟩
      obtain ⟨r, hr', t, u, c, rfl, ht, hu', hc⟩ := pd_get pu hi
      cases hu'
      have hi2 := (List.getElem?_eq_some_iff.mp hi).1
      have hlen := homeNs_len (xs.take i)
      rw [List.length_take] at hlen
      have yes : isHome r.1 = true → H2 D = some (rowI (homeNs (xs.take i))) ∧ Stp O0 G H G (upd H2 D (.lst ((homeNs (xs.take i)).map V.int ++ [.int ((r.1 - 2) / 8)]))) ∧ (upd H2 D (.lst ((homeNs (xs.take i)).map V.int ++ [.int ((r.1 - 2) / 8)]))) D = some (rowI (homeNs (xs.take (i + 1)))) := fun e => by
        refine ⟨f2, s2.wr f2 g1 (.inr z1), ?_⟩
        rw [upd_same, take_snoc hr', homeNs_snoc, if_pos e, rowI, List.map_append]
        rfl
      have no : isHome r.1 = false → Stp O0 G H G H2 ∧ H2 D = some (rowI (homeNs (xs.take (i + 1)))) := fun e => by
        refine ⟨s2, ?_⟩
        rw [f2, take_snoc hr', homeNs_snoc, if_neg (by rw [e]; exact Bool.false_ne_true)]
      refine g_pair (s2.kp _ _ ht fun z => z) ⟨rfl, ?_⟩
      refine ⟨_, rfl, _, _, rfl, rfl, _, rfl, if_dec (fun h2 => ?_) (fun h2 => ?_)⟩
      · refine ⟨_, rfl, _, _, rfl, rfl, (by show (0 : Int) < 2; decide), rfl, _, rfl, if_int (fun h3 => ?_) (fun h3 => ?_)⟩
        · have e : isHome r.1 = true := by unfold isHome; rw [decide_eq_true h2, decide_eq_true h3]; rfl
          obtain ⟨a1, a2, a3⟩ := yes e
          exact ⟨_, rfl, _, _, rfl, rfl, _, _, rfl, rfl, (by show (0 : Int) < 8 ∧ (8 : Int) < 1073741824; decide), _, a1, by rw [List.length_map, sizeLine_eq]; omega, a2, a3⟩
        · exact no (by unfold isHome; rw [decide_eq_false h3, Bool.and_false])
      · exact iteF (no (by unfold isHome; rw [decide_eq_false h2, Bool.false_and]))
    · rintro H2 ⟨s2, f2⟩
      rw [lus, List.take_of_length_le (Nat.le_refl _)] at f2
      have hlen := homeNs_len xs
      refine ⟨D, homeNs xs, rfl, SqL.of f2, by omega, fun S c nS hc => ?_⟩
      generalize e3 : upd H2 S _ = H3
      obtain ⟨s3, f3, k3, g3, z3⟩ := own_of s2 nS e3
      refine ⟨S, _, c, rfl, f3, by omega, fun ns N asc hmem hlen nN => ?_⟩
      generalize e4 : upd H3 N _ = H4
      obtain ⟨s4, f4, k4, g4, z4⟩ := own_of s3 nN e4
      have ens : ns = nums (homeNs xs) := asc_same asc (asc_nums _) fun q => by rw [hmem q, decide_eq_true_iff, mem_nums]
      rw [ens] at f4
      exact k N H4 s4 z4 f4
theorem row_ne {r : Int × Page} : (!decide (r.2 = z64)) = true ↔ ¬ r.2 = z64 := by
  by_cases h : r.2 = z64 <;> simp [h]
theorem NewRow.dat {H G G' H' : Hp} {v : V} {x : Int × Sec} (h : NewRow H G H' v x) (p : ∀ b u, H b = none → H' b = some u → G' b = some u) : rSec G' v x := by
  obtain ⟨t, c, e, a1, a2, n1, n2, _⟩ := h
  exact ⟨t, _, _, e, p _ _ n1 a1, rfl, rLI_of (p _ _ n2 a2)⟩
def spPaper (B C : Addr) : Sp := fun vs H Q _ => ∃ (G : Hp) (b p pg s wl : Addr) (x : BS) (d : DS), vs = [.ref b] ∧ Same G H ∧ BatAt B G H b p pg x ∧ DiskAt C G H p s wl d ∧ Fit d ∧ d.sec.length ≤ 1000 ∧ x.pages.length ≤ 1000 ∧ (∀ y ∈ x.pages, y.2.length = 64) ∧ (x.pages.map (·.1)).Nodup ∧
  ∀ v G' H', Stp O0 G H G' H' → rP rI (rL rSec) G' v (paperOf d x) → Q v H'
abbrev s_pages_paper : Stmt := top 19
theorem sc_pages_paper : FnScope ["batches", "numbers", "rows", "number", "row"] ["batches"] (defScope s_pages_paper) := ⟨rfl, rfl, rfl, by decide +kernel, rfl, by decide +kernel, by decide +kernel⟩
theorem ok_paper {f : Addr} {fd : FuncData} (F : Fun K "pages_paper" "pages_paper" s_pages_paper f fd) (T : TxP K mg B tP) (L_home_pages : FnC P w K mg base "home_pages" 1 ["sectors"] spHomeP) (L_Disk_synced : MtC P w K mg base C "synced" 1 ["self"] (spSynced C))
    (L_Batches_page : MtC P w K mg base B "page" 3 ["self", "number"] (spPageB B C)) : FnOk P w K mg base CX0 4 f fd ["batches"] (spPaper B C) := by
  refine F.ok sc_pages_paper (fun vs H Q E h => ?_) (fun cdv A outer st H vs Q E hr h => ?_)
  · obtain ⟨G, b, p, pg, s, wl, x, d, rfl, _⟩ := h
    rfl
  · obtain ⟨G, b, p, pg, s, wl, x, d, rfl, gh, D, Dk, fit, sl0, pl, p64, pnd, k⟩ := h
    have nd := sc_pages_paper.nd
    have hu := hu_of hr
    refine ⟨_, (pss_cons (ps_set (i := 1) nd rfl (Or.inl rfl) (pe_callB (cr_sortedSetAK (w := w) rfl rfl) (by rfl) T.b_sorted (by decide +kernel) (pa_cons (pe_callTy (cr_setIK (K := K) (w := w) rfl rfl rfl) (by rfl) T.b_set (by decide +kernel) (pa_cons (pe_op op_cat (pe_callTy (call_listD rfl) (by rfl) T.b_list (by decide +kernel) (pa_cons (pe_fldK (K := K) rfl (pv 0) rfl) pa_nil)) (pe_fnc L_home_pages (hr.mono (by decide)) rfl (pa_cons (pe_mtc0 (pe_fldK (K := K) rfl (pv 0) rfl) L_Disk_synced (hr.mono (by decide))) pa_nil))) pa_nil)) pa_nil)))
    (pss_cons (ps_setLc (i := 2) (own := [("number", 3)]) rfl nd rfl rfl (sw_true rfl rfl rfl (by decide +kernel)) (pi_listK (K := K) rfl (pv 1)) (blkOk_by (own := [("number", 3)]) (N := ["batches", "numbers", "rows", "number", "row"]) (sc := defScope s_pages_paper) (by decide +kernel)) (fun _ _ _ _ _ => (pg_name (i := 3) nd rfl (Or.inl rfl))) (fun _ _ _ _ _ => pts_nil) (fun _ _ _ _ _ => (pe_tup (pa_cons (pv 3) (pa_cons (pe_mtc (pv 0) L_Batches_page (hr.mono (by decide)) (pa_cons (pv 3) pa_nil)) pa_nil)))))
    (pss_one (ps_ret (pe_tup (pa_cons (pe_fldK (K := K) rfl (pv 0) rfl) (pa_cons (pe_lc (own := [("row", 4)]) rfl nd (pi_listK (K := K) rfl (pv 2)) (blkOk_by (own := [("row", 4)]) (N := ["batches", "numbers", "rows", "number", "row"]) (sc := defScope s_pages_paper) (by decide +kernel)) (fun _ _ _ _ _ => (pg_name (i := 4) nd rfl (Or.inl rfl))) (fun _ _ _ _ _ => (pts_one (pt_cmpR (op_neDK (K := K) rfl hr.units) (pe_ix (ix_tupK (K := K) rfl) (pv 4) pe_int (fun _ _ => rfl)) (pe_op op_rep (pe_lst (pa_cons pe_int pa_nil)) (pe_glob (v := .int 64) rfl T.c_PAGE ⟨_, rfl⟩)) (nomark _)))) (fun _ _ _ _ _ => (pv 4))) pa_nil))))))), ?_⟩
    obtain ⟨dx, h1⟩ := id D.ob
    obtain ⟨kvs, h2, r2⟩ := id D.pa
    refine ⟨_, rfl, b, B, dx, _, _, rfl, h1, T.cl, T.m6, bf_pages, pg, kvs, rfl, .inl h2, fun q1 n1 => ?_⟩
    rw [keys_int r2]
    generalize e1 : upd H q1 _ = H1
    obtain ⟨s1, f1, k1, g1, z1⟩ := own_of (Stp.refl (O := O0) gh) n1 e1
    have h11 := k1 _ _ h1
    have Dk1 := Dk.stp s1 fun _ _ z => z
    obtain ⟨dxp, rlp, hp1, _⟩ := id Dk1.ob
    refine ⟨_, rfl, b, B, dx, _, _, rfl, h11, T.cl, T.m1, bf_disk, p, dxp, _, rfl, hp1, df_no (by decide +kernel) (by decide +kernel) (by decide +kernel) (by decide +kernel) (by decide +kernel), G, p, s, wl, d, rfl, s1.gh, Dk1, fit, fun q2 us H2 s2 n2 f2 pu => ?_⟩
    have s12 := s1.trans s2 fun _ z => z.elim
    have ltold := told_le d.sec
    refine ⟨G, q2, told d.sec, rfl, s12.gh, ⟨us, f2, pd_mono (fun v y z => by
      obtain ⟨t, c, e, a1, a2, _⟩ := z.row
      exact ⟨t, _, _, e, a1, rfl, rLI_of a2⟩) pu⟩, by omega, fun q3 H3 s3 n3 f3 => ?_⟩
    have s13 := s12.trans s3 fun _ z => z.elim
    have f13 := s3.kp _ _ (s2.kp _ _ f1 fun z => z) fun z => z
    generalize hns : nums (homeNs (told d.sec)) = hn at *
    have lhn : hn.length ≤ 1000 := by
      rw [← hns]
      have a := le_nums_len (homeNs (told d.sec))
      have b := homeNs_len (told d.sec)
      omega
    refine ⟨q1, q3, _, _, rfl, rfl, f13, f3, by rw [List.length_map, List.length_map, List.length_map, sizeLine_eq]; omega, fun q4 n4 => ?_⟩
    rw [← List.map_append]
    generalize e4 : upd H3 q4 _ = H4
    obtain ⟨s4, f4, k4, g4, z4⟩ := own_of s13 n4 e4
    refine ⟨q4, _, rfl, SqL.of f4, by rw [List.length_append, List.length_map]; omega, fun S c nS hc => ?_⟩
    generalize e5 : upd H4 S _ = H5
    obtain ⟨s5, f5, k5, g5, z5⟩ := own_of s4 nS e5
    rw [List.length_append, List.length_map] at hc
    refine ⟨S, _, c, rfl, f5, by omega, fun ns N asc hmem hlen nN => ?_⟩
    generalize e6 : upd H5 N _ = H6
    obtain ⟨s6, f6, k6, g6, z6⟩ := own_of s5 nN e6
    have ens : ns = nums (x.pages.map (·.1) ++ hn) := asc_same asc (asc_nums _) fun q => by rw [hmem q, decide_eq_true_iff, mem_nums]
    -- the rows
    refine ⟨_, rfl, N, rfl, ⟨_, SqL.of f6⟩, fun D1 nD1 => ?_⟩
    obtain ⟨s7, f7, k7, g7, z7⟩ := own_of (o := .lst []) s6 nD1 rfl
    refine lc_list (K := K) (a := N) (xs := ns.map V.int) (fun i H8 => ∃ G8 acc, Stp O0 G H G8 H8 ∧ H8 N = some (rowI ns) ∧ H8 D1 = some (.lst acc) ∧ G8 D1 = none ∧ Paired (rSec G8) acc ((ns.take i).map fun n => (n, pageOf d.read x.pages n)))
      ⟨G, [], s7, k7 _ _ f6, f7, g7, .nil⟩ (fun i H8 _ ⟨_, _, _, z, _⟩ => SqL.of z) ?_ ?_
    · rintro i y H8 hi ⟨G8, acc, s8, fN8, fD8, gD8, p8⟩
      obtain ⟨n, hn', rfl⟩ := int_at hi
      have hi2 := (List.getElem?_eq_some_iff.mp hn').1
      have D8 := D.stp s8 fun _ _ z => z
      have Dk8 := Dk.stp s8 fun _ _ z => z
      obtain ⟨dx8, h18⟩ := id D8.ob
      have l8 := pd_len p8
      rw [List.length_map, List.length_take] at l8
      refine ⟨rfl, g_yes ⟨_, rfl, _, rfl, b, dx8, _, rfl, h18, bf_no (by decide +kernel) (by decide +kernel) (by decide +kernel) (by decide +kernel) (by decide +kernel) (by decide +kernel) (by decide +kernel), _, rfl, G8, b, p, pg, s, wl, x, d, n, rfl, s8.gh, D8, Dk8, fit.rd, (fun y hy => by rw [p64 y hy]; decide), fun q9 G9 H9 s9 n9 g9 f9 => ⟨(by show 2 ≤ sizeLine; decide), fun t nt => ?_⟩⟩⟩
      have s89 := s8.trans s9 fun _ z => z.elim
      have fN9 := s9.kp _ _ fN8 fun z => z
      have fD9 := s9.kp _ _ fD8 fun z => z
      have gD9 := s9.nw _ (ne_none fD8) gD8
      obtain ⟨GA, sA, fA, ggA, gkA⟩ := pub_of s89 f9 g9 (s8.fr n9)
      generalize eB : upd H9 t _ = HB
      obtain ⟨GB, sB, fB, ggB, kB, gkB⟩ := data_of sA nt eB
      have gDB : GB D1 = none := by rw [gkB D1 (ne_of_none fD9 nt), gkA D1 (ne_of_none fD8 n9)]; exact gD9
      refine ⟨acc, kB _ _ fD9, by rw [l8, sizeLine_eq]; omega, ?_⟩
      generalize eC : upd HB D1 _ = HC
      obtain ⟨sC, fC, kC⟩ := wr_of sB (kB _ _ fD9) gDB (.inr z7) eC
      refine ⟨GB, _, sC, kC _ _ (ne_of_none f6 nD1) (kB _ _ fN9), fC, gDB, ?_⟩
      rw [take_snoc hn', List.map_append]
      exact pd_snoc (mRow.ps (s9.gg.trans (ggA.trans ggB)) p8) ⟨t, _, _, rfl, fB, rfl, rLI_of (ggB _ _ fA)⟩
    · rintro H8 ⟨G8, acc, s8, fN8, fD8, gD8, p8⟩
      rw [List.length_map, List.take_of_length_le (Nat.le_refl _)] at p8
      have l8 := pd_len p8
      rw [List.length_map] at l8
      have D8 := D.stp s8 fun _ _ z => z
      obtain ⟨dx8, h18⟩ := id D8.ob
      generalize hrows : (ns.map fun n => (n, pageOf d.read x.pages n)) = rows at *
      refine ⟨_, rfl, b, B, dx8, _, _, rfl, h18, T.cl, T.m5, bf_many, _, rfl, D1, rfl, ⟨_, SqL.of fD8⟩, fun D2 nD2 => ?_⟩
      obtain ⟨s9, f9, k9, g9, z9⟩ := own_of (o := .lst []) s8 nD2 rfl
      have nD12 : D1 ≠ D2 := ne_of_none fD8 nD2
      refine lc_list (K := K) (a := D1) (xs := acc) (fun i H9 => ∃ acc2, Stp O0 G H G8 H9 ∧ H9 D1 = some (.lst acc) ∧ H9 D2 = some (.lst acc2) ∧ acc2.length ≤ i ∧ Paired (rSec G8) acc2 ((rows.take i).filter fun r => !decide (r.2 = z64)))
        ⟨[], s9, k9 _ _ fD8, f9, Nat.le_refl _, .nil⟩ (fun i H9 _ ⟨_, _, z, _⟩ => SqL.of z) ?_ ?_
      · rintro i y H9 hi ⟨acc2, s9, f19, f29, l9, p9⟩
        obtain ⟨r, hr', t, u, c, rfl, ht, hu', hc⟩ := pd_get p8 hi
        cases hu'
        obtain ⟨ca, rfl, hca⟩ := rLI hc
        have hi2 := (List.getElem?_eq_some_iff.mp hi).1
        refine ⟨rfl, _, rfl, t, _, _, _, rfl, rfl, SqT.of (s9.gh _ _ ht), at_of (j := 1) rfl rfl, (by show 1 ≤ sizeLine; decide), fun qa na => ?_⟩
        generalize eA : upd H9 qa _ = HA
        obtain ⟨sA, fA, kA, gA, zA⟩ := own_of s9 na eA
        refine ⟨qa, 64, _, rfl, rfl, fA, by decide, by decide, (by show 1 * 64 ≤ sizeLine; decide), fun qb nb => ?_⟩
        generalize eB : upd HA qb _ = HB
        obtain ⟨sB, fB, kB, gB, zB⟩ := own_of sA nb eB
        have fB : HB qb = some (rowI z64) := fB
        refine ⟨_, _, dp_ints (sB.gh _ _ hca), dp_ints fB, shaped_ints _, shaped_ints _, _, rfl, ?_⟩
        rw [eqv_ints]
        have f2B := kB _ _ (kA _ _ f29)
        have f1B := kB _ _ (kA _ _ f19)
        have et : (rows.take (i + 1)).filter (fun r => !decide (r.2 = z64)) = (rows.take i).filter (fun r => !decide (r.2 = z64)) ++ (if r.2 = z64 then [] else [r]) := by
          rw [take_snoc hr', List.filter_append]
          by_cases h : r.2 = z64 <;> simp [h]
        refine if_nbool (fun hne => ?_) (fun he => ?_)
        · refine ⟨_, rfl, acc2, f2B, by rw [sizeLine_eq]; omega, ?_⟩
          generalize eC : upd HB D2 _ = HC
          obtain ⟨sC, fC, kC⟩ := wr_of sB f2B g9 (.inr z9) eC
          refine ⟨_, sC, kC _ _ nD12 f1B, fC, by rw [List.length_append]; show _ + 1 ≤ _; omega, ?_⟩
          rw [et, if_neg (of_decide_eq_false hne)]
          exact pd_snoc p9 ⟨t, _, _, rfl, ht, rfl, hc⟩
        · refine ⟨acc2, sB, f1B, f2B, by omega, ?_⟩
          rw [et, if_pos (of_decide_eq_true he), List.append_nil]
          exact p9
      · rintro H9 ⟨acc2, s9, f19, f29, l9, p9⟩
        rw [l8, ← l8, pd_len p8, List.take_of_length_le (Nat.le_refl _)] at p9
        refine ⟨(by show 2 ≤ sizeLine; decide), fun t nt => ?_⟩
        generalize eA : upd H9 t _ = HA
        obtain ⟨sA, fA, kA, gA, zA⟩ := own_of s9 nt eA
        obtain ⟨GB, sB, ggB, allB⟩ := pub_all sA gh
        have f2A := kA _ _ f29
        refine k _ GB HA sB ⟨t, _, _, rfl, allB _ _ zA fA, rfl, D2, acc2, rfl, allB _ _ z9 f2A, ?_⟩
        have er : (paperOf d x).2 = rows.filter fun r => !decide (r.2 = z64) := by
          unfold paperOf pageRows
          rw [hns, ← ens, hrows]
        rw [er]
        exact mRow.ps ggB p9
end
end K51

/-! KBA: Batches(Disk(sectors)); what is wrong first with a paper. -/
namespace K51
open PySem PySem.Spec PyProof.Rows L2 Y
def dOf (xs : List (Int × Sec)) : DS := ⟨ofRows xs, [], none, [], false⟩
def fOf (xs : List (Int × Sec)) : Rd := W (ofRows xs)
def bOf (xs : List (Int × Sec)) (bs : List BRows) (e : Int) : BS := ({ place := (newest (fOf xs)).1, epoch := (newest (fOf xs)).2.1, many := (newest (fOf xs)).2.2, pages := [], fin := 0 } : BS).opened bs e
structure SecOk (xs : List (Int × Sec)) (bs : List BRows) (e : Int) : Prop where
  l16 : ∀ x ∈ xs, x.2.length = 16
  few : xs.length ≤ 900
  log : LogIs (fOf xs) (newest (fOf xs)).2.1 0 bs e
  sum : rowsSum bs ≤ 900
  h64 : ∀ g ∈ bs, ∀ r ∈ g, r.2.length = 64
theorem takeR_keys {pages : List (Int × Page)} (h : (pages.map (·.1)).Nodup) : ∀ rows : BRows, ((takeR pages rows).map (·.1)).Nodup := fun rows => by
  induction rows generalizing pages with
  | nil => exact h
  | cons r rows ih => exact ih (put_nodup pages r.1 r.2 h)
theorem takeR_h64 {pages : List (Int × Page)} (h : ∀ y ∈ pages, y.2.length = 64) : ∀ {rows : BRows}, (∀ r ∈ rows, r.2.length = 64) → ∀ y ∈ takeR pages rows, y.2.length = 64 := by
  intro rows
  induction rows generalizing pages with
  | nil => intro _; exact h
  | cons r rows ih =>
    intro h2
    refine ih (pages := put pages r.1 r.2) (fun y hy => ?_) fun z hz => h2 z (List.mem_cons_of_mem _ hz)
    rcases put_mem hy with e | e
    · rw [e]
      exact h2 r List.mem_cons_self
    · exact h y e
theorem logPages (bs : List BRows) : ∀ (pages : List (Int × Page)), (pages.map (·.1)).Nodup → (∀ y ∈ pages, y.2.length = 64) → (∀ g ∈ bs, ∀ r ∈ g, r.2.length = 64) →
    ((bs.foldl takeR pages).map (·.1)).Nodup ∧ (∀ y ∈ bs.foldl takeR pages, y.2.length = 64) ∧ (bs.foldl takeR pages).length ≤ pages.length + rowsSum bs := by
  induction bs with
  | nil => intro pages h1 h2 _; exact ⟨h1, h2, Nat.le_add_right _ _⟩
  | cons g bs ih =>
    intro pages h1 h2 h3
    obtain ⟨a, b, c⟩ := ih (takeR pages g) (takeR_keys h1 g) (takeR_h64 h2 (h3 g List.mem_cons_self)) fun z hz => h3 z (List.mem_cons_of_mem _ hz)
    refine ⟨a, b, Nat.le_trans c ?_⟩
    have d := takeR_len g pages
    unfold rowsSum
    rw [List.map_cons, List.sum_cons]
    unfold rowsSum at *
    omega
theorem SecOk.fit {xs : List (Int × Sec)} {bs : List BRows} {e : Int} (h : SecOk xs bs e) : Fit (dOf xs) := by
  have l := synS_len xs []
  have few := h.few
  rw [List.length_nil] at l
  refine ⟨synS_nd xs [] (by simp), ?_, Nat.zero_le _, synS_16 xs [] (fun x hx => by cases hx) h.l16, (fun x hx => by cases hx), Nat.zero_le _⟩
  show (synS [] xs).length + 0 ≤ 60000
  omega
theorem SecOk.pages {xs : List (Int × Sec)} {bs : List BRows} {e : Int} (h : SecOk xs bs e) : ((bOf xs bs e).pages.map (·.1)).Nodup ∧ (∀ y ∈ (bOf xs bs e).pages, y.2.length = 64) ∧ (bOf xs bs e).pages.length ≤ 900 := by
  obtain ⟨a, b, c⟩ := logPages bs [] (by simp) (fun y hy => by cases hy) h.h64
  have := h.sum
  rw [List.length_nil] at c
  exact ⟨a, b, by show (bs.foldl takeR []).length ≤ 900; omega⟩
theorem dOf_read (xs : List (Int × Sec)) : (dOf xs).read = fOf xs := read_W rfl
section
variable {P : Program} {w : World} {K : PySem.W.Frag} {mg : Str → Option Value} {base : Heap} {C B : Addr} {tP tR tW tH tS : Tok}
abbrev RAny : Rd → Prop := fun _ => True
/-- Batches(Disk(..)), the list once made -/
theorem batches_key {Q : VK} {v : V} {H1 : Hp} (h : ∃ (G1 : Hp) (q : Addr) (us : List V) (xs : List (Int × Sec)) (bs : List BRows) (e : Int), v = .ref q ∧ Same G1 H1 ∧ H1 q = some (.lst us) ∧ Paired (rSec H1) us xs ∧ SecOk xs bs e ∧
      ∀ b p ds wl pg G4 H4, Stp O0 G1 H1 G4 H4 → BatAt B G4 H4 b p pg (bOf xs bs e) → DiskAt C G4 H4 p ds wl (dOf xs) → Q (.ref b) H4) :
    ∀ x dx, H1 x = none → H1 dx = none → dx ≠ x → spInit C (.ref x :: ([v] ++ [])) (upd (upd H1 dx (.own x)) x (.ins C dx [])) (fun v H2 => v = .non ∧ ∀ b db, H2 b = none → H2 db = none → db ≠ b →
        spInitB B C RAny (.ref b :: ([.ref x] ++ [.non])) (upd (upd H2 db (.own b)) b (.ins B db [])) (fun v H2 => v = .non ∧ Q (.ref b) H2) E0) E0 := by
    obtain ⟨G1, q, us, xs, bs, e, rfl, gh, fq, pq, ok, k⟩ := h
    intro p dx np ndx nex
    have kx : ∀ b o, H1 b = some o → (upd (upd H1 dx (.own p)) p (.ins C dx [])) b = some o := fun b o e => by rw [upd_ne (ne_of_none e np), upd_ne (ne_of_none e ndx)]; exact e
    have few := ok.few
    refine ⟨G1, p, dx, q, us, xs, rfl, fun b o e => kx b o (gh b o e), upd_same, gn_of gh np, kx _ _ fq, pd_mono (fun v x z => by
      obtain ⟨t', u', c', e1, a1, a2, c2, vs2, e3, a3, p3⟩ := z
      exact ⟨t', _, _, e1, kx _ _ a1, a2, c2, vs2, e3, kx _ _ a3, p3⟩) pq, by omega, fun ds wl G3 H3 t3 D3 z3 z4 => ⟨rfl, ?_⟩⟩
    have back : ∀ {b : Addr}, (upd (upd H1 dx (.own p)) p (.ins C dx [])) b = none → H1 b = none := fun {b} hb => by
      cases e : H1 b with
      | none => rfl
      | some u => rw [kx b u e] at hb; cases hb
    have s13 : Stp O0 G1 H1 G3 H3 := ⟨t3.gg, t3.gh, fun b o e _ => t3.kp b o (kx b o e) (ne_of_none e np), fun b hb hg => t3.nw b (fun z => hb (back z)) hg, fun b hb => t3.al b fun z => hb (back z)⟩
    intro b db nb ndb nbd
    generalize e1 : upd H3 db _ = H4
    obtain ⟨t4, f4, k4, g4, z4'⟩ := own_of s13 ndb e1
    have nb4 : H4 b = none := by rw [← e1, upd_ne nbd.symm]; exact nb
    generalize e2 : upd H4 b _ = H5
    obtain ⟨t5, f5, k5, g5, z5⟩ := own_of t4 nb4 e2
    have s35 : Stp O0 G3 H3 G3 H5 := (own_of (own_of (Stp.refl (O := O0) s13.gh) ndb e1).1 nb4 e2).1
    have D5 : DiskAt C G3 H5 p ds wl (dOf xs) := D3.stp s35 fun _ _ z => z
    have sum := ok.sum
    refine ⟨G3, b, db, p, ds, wl, dOf xs, bs, e, rfl, t5.gh, f5, g5, D5, ok.fit.rd, trivial, by rw [dOf_read]; exact ok.log, by omega, fun pg G6 H6 s6 B6 npg => ⟨rfl, ?_⟩⟩
    rw [dOf_read] at B6
    have D6 := D5.stp s6 fun c' hc' z => by
      obtain ⟨dxp, rlp, h1, _⟩ := D3.ob
      obtain ⟨kvs, h2, _⟩ := D3.sec
      obtain ⟨ws, h3, _⟩ := D3.wai
      rcases hc' with q | q | q <;> rw [q] at z <;> rw [z] at *
      · rw [nb] at h1; cases h1
      · rw [nb] at h2; cases h2
      · rw [nb] at h3; cases h3
    exact k b p ds wl pg G6 H6 (t5.trans s6 fun c' hc' => .inr (by rw [hc']; exact z5)) B6 D6
theorem batches_var {i : Nat} {σ : L2.St} {H : Hp} {Q : VK} {v : V} (hv : σ[i]? = some (some v)) (h : ∃ (G1 : Hp) (q : Addr) (us : List V) (xs : List (Int × Sec)) (bs : List BRows) (e : Int), v = .ref q ∧ Same G1 H ∧ H q = some (.lst us) ∧ Paired (rSec H) us xs ∧ SecOk xs bs e ∧
      ∀ b p ds wl pg G4 H4, Stp O0 G1 H G4 H4 → BatAt B G4 H4 b p pg (bOf xs bs e) → DiskAt C G4 H4 p ds wl (dOf xs) → Q (.ref b) H4) :
    tMake B (spInitB B C RAny) [.non] E0 (tCons (tMake C (spInit C) [] E0 (tCons (tVar i) tNil)) tNil) σ H Q := ⟨v, hv, batches_key h⟩
inductive Flt
  | no
  | many
  | page (n : Int)
  | order
def ofR (rows : BRows) : List (Int × Page) := takeR [] rows
/-- the first number at which two dicts differ -/
def firstOff (a b : List (Int × Page)) : List Int → Option Int
  | [] => none
  | n :: ns => if look a n = look b n then firstOff a b ns else some n
def faultOf (due told : Int × BRows) : Flt :=
  if told.1 ≠ due.1 then .many else match firstOff (ofR due.2) (ofR told.2) (nums ((ofR due.2).map (·.1) ++ (ofR told.2).map (·.1))) with
    | some n => .page n
    | none => if told.2.map (·.1) = nums ((ofR told.2).map (·.1)) then .no else .order
def FltV (G : Hp) (v : V) : Flt → Prop
  | .no => v = .non
  | .many => ∃ t, v = .ref t ∧ G t = some (.tup [.str "many"])
  | .page n => ∃ t, v = .ref t ∧ G t = some (.tup [.str "page", .int n])
  | .order => ∃ t, v = .ref t ∧ G t = some (.tup [.str "order"])
def encO : Option (List Int) → PyData
  | none => .none
  | some p => .list (p.map PyData.int)
theorem eqv_O (a b : Option (List Int)) : PyData.eqv (encO a) (encO b) = decide (a = b) := by
  cases a <;> cases b
  · rfl
  · simp [encO, PyData.eqv]
  · simp [encO, PyData.eqv]
  · show PyData.eqv (.list _) (.list _) = _
    rw [eqv_ints]
    simp
theorem shaped_O (a : Option (List Int)) : SeqAt.shaped (encO a) = true := by
  cases a
  · rfl
  · exact shaped_ints _
theorem ofR_snoc' (pages : List (Int × Page)) (rows : BRows) (r : Int × Page) : takeR pages (rows ++ [r]) = put (takeR pages rows) r.1 r.2 := by
  unfold takeR
  rw [List.foldl_append]
  rfl
theorem dget_rel {K : PySem.W.Frag} {G H : Hp} {D : Addr} {kvs : List (Key × V)} {ds : List (Int × Page)} (h : H D = some (.dK kvs)) (r : DRel (rL rI) G kvs ds) (gh : Same G H) (n : Int) : ∃ oo, DGet H D (.int n) oo ∧ Dp K H (oo.getD .non) (encO (look ds n)) := by
  have g := DGet.k (k := Sum.inl n) h
  cases e : look ds n with
  | none =>
    rw [r.look_none e] at g
    exact ⟨none, g, .non⟩
  | some p =>
    obtain ⟨v, hv, rv⟩ := r.look_some e
    obtain ⟨c, rfl, hc⟩ := rLI rv
    rw [hv] at g
    exact ⟨_, g, dp_ints (gh _ _ hc)⟩
theorem pageRows_len (f : Rd) (pages : List (Int × Page)) (ns : List Int) : (pageRows f pages ns).length ≤ ns.length := by
  unfold pageRows
  refine Nat.le_trans (List.length_filter_le _ _) ?_
  rw [List.length_map]
  exact Nat.le_refl _
theorem paper_len {xs : List (Int × Sec)} {bs : List BRows} {e : Int} (ok : SecOk xs bs e) : (paperOf (dOf xs) (bOf xs bs e)).2.length ≤ 1800 := by
  obtain ⟨_, _, l⟩ := ok.pages
  have few := ok.few
  have a := pageRows_len (dOf xs).read (bOf xs bs e).pages (nums ((bOf xs bs e).pages.map (·.1) ++ nums (homeNs (told (dOf xs).sec))))
  have b := le_nums_len ((bOf xs bs e).pages.map (·.1) ++ nums (homeNs (told (dOf xs).sec)))
  have c := le_nums_len (homeNs (told (dOf xs).sec))
  have d := homeNs_len (told (dOf xs).sec)
  have e' := told_le (dOf xs).sec
  have f := synS_len xs []
  rw [List.length_append, List.length_map] at b
  have f : (dOf xs).sec.length ≤ 0 + xs.length := f
  show (pageRows _ _ _).length ≤ 1800
  omega
theorem firstOff_none {a b : List (Int × Page)} : ∀ {ns : List Int}, (∀ n ∈ ns, look a n = look b n) → firstOff a b ns = none
  | [], _ => rfl
  | n :: ns, h => by
    unfold firstOff
    rw [if_pos (h n List.mem_cons_self)]
    exact firstOff_none fun m hm => h m (List.mem_cons_of_mem _ hm)
theorem firstOff_at {a b : List (Int × Page)} : ∀ {ns : List Int} {i : Nat} {n : Int}, (∀ m ∈ ns.take i, look a m = look b m) → ns[i]? = some n → look a n ≠ look b n → firstOff a b ns = some n
  | [], i, n, _, h, _ => by simp at h
  | m :: ns, 0, n, _, h, hne => by
    simp at h
    subst h
    unfold firstOff
    rw [if_neg hne]
  | m :: ns, i + 1, n, h1, h, hne => by
    unfold firstOff
    rw [if_pos (h1 m (by simp))]
    exact firstOff_at (i := i) (fun k hk => h1 k (by simp [hk])) (by simpa using h) hne
/-- {number: page for number, page in rows} -/
theorem dc_rows {O : Addr → Prop} {G0 H0 G H1 : Hp} {l : Addr} {us : List V} {rows : BRows} {i j : Nat} {σ : L2.St} {D : Addr} {Qd : Hp → Prop} {vs : List Nat} (s : Stp O G0 H0 G H1) (hl : H1 l = some (.lst us)) (pr : Paired (rSec G) us rows) (lt : rows.length ≤ 100000) (nD : H1 D = none)
    (hw : ∀ a b : V, wipe (((wipe σ vs).set i (some a)).set j (some b)) vs = wipe σ vs) (hi : ∀ a b : V, (((wipe σ vs).set i (some a)).set j (some b))[i]? = some (some a)) (hj : ∀ a b : V, (((wipe σ vs).set i (some a)).set j (some b))[j]? = some (some b))
    (k : ∀ kvs H', Stp O G0 H0 G H' → H' D = some (.dK kvs) → DRel (rL rI) G kvs (takeR [] rows) → (∀ b u, H1 b = some u → H' b = some u) → Qd H') :
    ∃ W : Nat → Nat → Hp → Prop, (∃ m, W 0 m (upd H1 D (.dK []))) ∧ ∀ i' m H, W i' m H →
      ((Itl K l).stop i' H ∧ Qd H) ∨ ((Itl K l).go i' H ∧ ∃ Nx : Hp → Prop, (∀ H', Nx H' → ∃ m', m' < m ∧ W (i' + 1) m' H') ∧ ∀ x H', (Itl K l).yld i' H x H' → (gTup K 2 (gCons (gName i) (gCons (gName j) gNil))) x (wipe σ vs) H' fun σ2 H2 => wipe σ2 vs = wipe σ vs ∧ tYes σ2 H2 fun b H3 =>
        if b = true then tVar i σ2 H3 fun y H4 => tVar j σ2 H4 fun z H5 => ∃ kvs k, y = kV k ∧ H5 D = some (.dK kvs) ∧ kvs.length < sizeLine ∧ Nx (upd H5 D (.dK (putK kvs k z))) else Nx H3) := by
  obtain ⟨s1, f1, k1, g1, z1⟩ := own_of (o := .dK []) s nD rfl
  have lus := pd_len pr
  have nl : l ≠ D := ne_of_none hl nD
  refine dc_list (K := K) (a := l) (xs := us) (fun n H2 => ∃ kvs, Stp O G0 H0 G H2 ∧ H2 l = some (.lst us) ∧ H2 D = some (.dK kvs) ∧ DRel (rL rI) G kvs (takeR [] (rows.take n)) ∧ ∀ b u, H1 b = some u → H2 b = some u) ⟨[], s1, k1 _ _ hl, f1, .nil, k1⟩ (fun n H2 _ ⟨_, _, z, _⟩ => SqL.of z) ?_ ?_
  · rintro n y H2 hn ⟨kvs, s2, fl, fD, r2, kk⟩
    obtain ⟨r, hr', t, u, c, rfl, ht, hu', hc⟩ := pd_get pr hn
    cases hu'
    have hn2 := (List.getElem?_eq_some_iff.mp hn).1
    have lk := pd_len r2
    have tl := takeR_len (rows.take n) []
    rw [List.length_take, List.length_nil] at tl
    refine g_pair (s2.gh _ _ ht) ⟨hw _ _, g_yes ⟨_, hi _ _, _, hj _ _, kvs, Sum.inl r.1, rfl, fD, by rw [lk, sizeLine_eq]; omega, ?_⟩⟩
    generalize e3 : upd H2 D _ = H3
    obtain ⟨s3, f3, k3⟩ := wr_of s2 fD g1 (.inr z1) e3
    refine ⟨_, s3, k3 _ _ nl fl, f3, ?_, fun b u hb => k3 _ _ (ne_of_none hb nD) (kk b u hb)⟩
    rw [take_snoc hr', ofR_snoc']
    exact r2.put hc
  · rintro H2 ⟨kvs, s2, fl, fD, r2, kk⟩
    rw [lus, List.take_of_length_le (Nat.le_refl _)] at r2
    exact k kvs H2 s2 fD r2 kk
/-! ### what is wrong first -/
theorem tAsg_of {te : TE} {g : TG} {D : Ends} {σ : L2.St} {H : Hp} (h : te σ H fun x H1 => g x σ H1 D.nx) : tAsg te g D σ H := h
theorem tSeq_of {t u : TS} {D : Ends} {σ : L2.St} {H : Hp} (h : t { D with nx := u D } σ H) : tSeq t u D σ H := h
structure TxF (K : PySem.W.Frag) (mg : Str → Option Value) (B : Addr) : Prop where
  cl : Cls K B
  m5 : NoAttr K B "many"
  b_sorted : mg "sorted" = none
  b_set : mg "set" = none
  b_list : mg "list" = none
def spFault (B C : Addr) : Sp := fun vs H Q _ => ∃ (G : Hp) (a pt : Addr) (us : List V) (xs : List (Int × Sec)) (bs : List BRows) (e : Int) (told : Int × BRows), vs = [.ref a, .ref pt] ∧ Same G H ∧ H a = some (.lst us) ∧ Paired (rSec H) us xs ∧ SecOk xs bs e ∧ rP rI (rL rSec) G (.ref pt) told ∧ told.2.length ≤ 1000 ∧
  ∀ v G' H', Stp O0 G H G' H' → FltV G' v (faultOf (paperOf (dOf xs) (bOf xs bs e)) told) → Q v H'
abbrev s_pages_fault : Stmt := top 21
theorem sc_pages_fault : FnScope ["sectors", "paper", "here", "many", "pages", "due", "number", "page", "told", "row"] ["sectors", "paper"] (defScope s_pages_fault) := ⟨rfl, rfl, rfl, by decide +kernel, rfl, by decide +kernel, by decide +kernel⟩
theorem ok_fault {f : Addr} {fd : FuncData} (F : Fun K "pages_fault" "pages_fault" s_pages_fault f fd) (T : TxF K mg B) (L_c_Disk : CsC P w K mg base "Disk" C 1 ["self", "sectors"] (spInit C)) (L_c_Batches : CsD P w K mg base "Batches" B 5 ["self", "disk", "bend"] [.non] (spInitB B C RAny))
    (L_pages_paper : FnC P w K mg base "pages_paper" 4 ["batches"] (spPaper B C)) : FnOk P w K mg base CX0 7 f fd ["sectors", "paper"] (spFault B C) := by
  refine F.ok sc_pages_fault (fun vs H Q E h => ?_) (fun cdv A outer st H vs Q E hr h => ?_)
  · obtain ⟨G, a, pt, us, xs, bs, e, told, rfl, _⟩ := h
    rfl
  · obtain ⟨G, a, pt, us, xs, bs, e, told, rfl, gh, ha, pu, ok, ⟨t0, u0, w0, e0, ht0, hu0, lw, ws, rfl, hlw, pw⟩, lt, k⟩ := h
    cases e0
    cases hu0
    have nd := sc_pages_fault.nd
    have hu := hu_of hr
    refine ⟨_, (pss_cons (ps_set (i := 2) nd rfl (Or.inl rfl) (pe_mkd L_c_Batches (hr.mono (by decide)) rfl (pa_cons (pe_mkc L_c_Disk (hr.mono (by decide)) rfl (pa_cons (pv 0) pa_nil)) pa_nil)))
    (pss_cons (ps_asg (pv 1) (pg_tupK (K := K) (n := 2) rfl rfl (pgs_cons (pg_name (i := 3) nd rfl (Or.inl rfl)) (pgs_cons (pg_name (i := 4) nd rfl (Or.inl rfl)) pgs_nil))))
    (pss_cons (ps_if (pt_cmpR op_ne (pv 3) (pe_fldK (K := K) rfl (pv 2) rfl) (nomark _))
    (pss_one (ps_ret (pe_tup (pa_cons pe_str pa_nil))))
    pss_nil)
    (pss_cons (ps_setDc (i := 5) (own := [("number", 6), ("page", 7)]) rfl nd rfl rfl (sw_trueD rfl rfl rfl (by decide +kernel)) (pi_listK (K := K) rfl (pe_ix (ix_tupK (K := K) rfl) (pe_fnc L_pages_paper (hr.mono (by decide)) rfl (pa_cons (pv 2) pa_nil)) pe_int (fun _ _ => rfl))) (blkOk_by (own := [("number", 6), ("page", 7)]) (N := ["sectors", "paper", "here", "many", "pages", "due", "number", "page", "told", "row"]) (sc := defScope s_pages_fault) (by decide +kernel)) (fun _ _ _ _ _ => (pg_tupK (K := K) (n := 2) rfl rfl (pgs_cons (pg_name (i := 6) nd rfl (Or.inl rfl)) (pgs_cons (pg_name (i := 7) nd rfl (Or.inl rfl)) pgs_nil)))) (fun _ _ _ _ _ => pts_nil) (fun _ _ _ _ _ => (pv 6)) (fun _ _ _ _ _ => (pv 7)))
    (pss_cons (ps_setDc (i := 8) (own := [("number", 6), ("page", 7)]) rfl nd rfl rfl (sw_trueD rfl rfl rfl (by decide +kernel)) (pi_listK (K := K) rfl (pv 4)) (blkOk_by (own := [("number", 6), ("page", 7)]) (N := ["sectors", "paper", "here", "many", "pages", "due", "number", "page", "told", "row"]) (sc := defScope s_pages_fault) (by decide +kernel)) (fun _ _ _ _ _ => (pg_tupK (K := K) (n := 2) rfl rfl (pgs_cons (pg_name (i := 6) nd rfl (Or.inl rfl)) (pgs_cons (pg_name (i := 7) nd rfl (Or.inl rfl)) pgs_nil)))) (fun _ _ _ _ _ => pts_nil) (fun _ _ _ _ _ => (pv 6)) (fun _ _ _ _ _ => (pv 7)))
    (pss_cons (ps_for PassesOwn.never rfl (pi_listK (K := K) rfl (pe_callB (cr_sortedSetAK (w := w) rfl rfl) (by rfl) T.b_sorted (by decide +kernel) (pa_cons (pe_callTy (cr_setIK (K := K) (w := w) rfl rfl rfl) (by rfl) T.b_set (by decide +kernel) (pa_cons (pe_op op_cat (pe_callTy (call_listD rfl) (by rfl) T.b_list (by decide +kernel) (pa_cons (pv 5) pa_nil)) (pe_callTy (call_listD rfl) (by rfl) T.b_list (by decide +kernel) (pa_cons (pv 8) pa_nil))) pa_nil)) pa_nil))) (pg_name (i := 6) nd rfl (Or.inl rfl))
    (pss_one (ps_if (pt_cmpR (op_neDK (K := K) rfl hr.units) (pe_dget2 hu (pv 5) (pv 6) pe_non ⟨rfl, rfl, rfl, rfl⟩) (pe_dget2 hu (pv 8) (pv 6) pe_non ⟨rfl, rfl, rfl, rfl⟩) (nomark _))
    (pss_one (ps_ret (pe_tup (pa_cons pe_str (pa_cons (pv 6) pa_nil)))))
    pss_nil)))
    (pss_one (ps_ret (pe_ifExp (pt_cmpR (op_eqDK (K := K) rfl hr.units) (pe_lc (own := [("row", 9)]) rfl nd (pi_listK (K := K) rfl (pv 4)) (blkOk_by (own := [("row", 9)]) (N := ["sectors", "paper", "here", "many", "pages", "due", "number", "page", "told", "row"]) (sc := defScope s_pages_fault) (by decide +kernel)) (fun _ _ _ _ _ => (pg_name (i := 9) nd rfl (Or.inl rfl))) (fun _ _ _ _ _ => pts_nil) (fun _ _ _ _ _ => (pe_ix (ix_tupK (K := K) rfl) (pv 9) pe_int (fun _ _ => rfl)))) (pe_callB (call_sortedDA rfl) (by rfl) T.b_sorted (by decide +kernel) (pa_cons (pv 8) pa_nil)) (nomark _)) pe_non (pe_tup (pa_cons pe_str pa_nil))))))))))), ?_⟩
    refine tSeq_of (tAsg_of (batches_var rfl ⟨G, a, us, xs, bs, e, rfl, gh, ha, pu, ok, fun b p ds wl pg G4 H4 s4 B4 D4 => ?_⟩))
    obtain ⟨pn, p64, plen⟩ := ok.pages
    have few := ok.few
    obtain ⟨dxb, hb4⟩ := id B4.ob
    refine ⟨_, rfl, g_pair (s4.kp _ _ (gh _ _ ht0) fun z => z) ?_⟩
    refine ⟨_, rfl, _, rfl, b, B, dxb, _, _, rfl, hb4, T.cl, T.m5, bf_many, rfl, _, rfl, if_nint (fun hne => ?_) (fun hme => ?_)⟩
    · refine ⟨(by show 1 ≤ sizeLine; decide), fun t nt => ?_⟩
      generalize eA : upd H4 t _ = HA
      obtain ⟨GA, sA, fA, ggA, kA, gkA⟩ := data_of s4 nt eA
      refine k _ GA HA sA ?_
      unfold faultOf
      rw [if_pos (by exact hne)]
      exact ⟨t, rfl, fA⟩
    have lpap := paper_len ok
    have lsec : (dOf xs).sec.length ≤ 900 := by
      have f := synS_len xs []
      have f : (dOf xs).sec.length ≤ 0 + xs.length := f
      omega
    refine ⟨_, rfl, G4, b, p, pg, ds, wl, _, _, rfl, s4.gh, B4, D4, ok.fit, by omega, by omega, p64, pn, fun v5 G5 H5 s5 ⟨t5, u5, w5, e5, h5, hu5, l5, vs5, hw5, h5l, p5⟩ => ?_⟩
    subst e5
    subst hw5
    generalize hpap : paperOf (dOf xs) (bOf xs bs e) = pap at *
    have hm1 : pap.1 = (bOf xs bs e).many := by rw [← hpap]; rfl
    have s45 := s4.trans s5 fun _ z => z.elim
    refine ⟨t5, _, _, _, rfl, rfl, SqT.of (s5.gh _ _ h5), at_of (j := 1) rfl rfl, l5, rfl, ⟨_, SqL.of (s5.gh _ _ h5l)⟩, fun D1 nD1 => dc_rows s45 (s5.gh _ _ h5l) p5 (by omega) nD1 (fun _ _ => rfl) (fun _ _ => rfl) (fun _ _ => rfl) fun kv6 H6 s6 f6 r6 k6 => ?_⟩
    have z1 : H D1 = none := s45.fr nD1
    refine ⟨_, rfl, lw, rfl, ⟨_, SqL.of (s6.gh _ _ (s45.gg _ _ hlw))⟩, fun D2 nD2 => dc_rows s6 (s6.gh _ _ (s45.gg _ _ hlw)) (mRow.ps s45.gg pw) (by omega) nD2 (fun _ _ => rfl) (fun _ _ => rfl) (fun _ _ => rfl) fun kv7 H7 s7 f7 r7 k7 => ?_⟩
    have z2 : H D2 = none := s6.fr nD2
    have f67 := k7 _ _ f6
    have ld := takeR_len pap.2 []
    have lt' := takeR_len told.2 []
    rw [List.length_nil] at ld lt'
    refine ⟨_, rfl, D1, kv6, rfl, .inl f67, fun q1 n1 => ?_⟩
    rw [keys_int r6]
    generalize e8 : upd H7 q1 _ = H8
    obtain ⟨s8, f8, k8, g8, z8⟩ := own_of s7 n1 e8
    refine ⟨_, rfl, D2, kv7, rfl, .inl (k8 _ _ f7), fun q2 n2 => ?_⟩
    rw [keys_int r7]
    generalize e9 : upd H8 q2 _ = H9
    obtain ⟨s9, f9, k9, g9, z9⟩ := own_of s8 n2 e9
    refine ⟨q1, q2, _, _, rfl, rfl, k9 _ _ f8, f9, by rw [List.length_map, List.length_map, List.length_map, List.length_map, sizeLine_eq]; omega, fun q3 n3 => ?_⟩
    rw [← List.map_append]
    generalize e10 : upd H9 q3 _ = HA
    obtain ⟨sA, fA, kA, gA, zA⟩ := own_of s9 n3 e10
    refine ⟨q3, _, rfl, SqL.of fA, by rw [List.length_append, List.length_map, List.length_map]; omega, fun S c nS hc => ?_⟩
    generalize e11 : upd HA S _ = HB
    obtain ⟨sB, fB, kB, gB, zB⟩ := own_of sA nS e11
    rw [List.length_append, List.length_map, List.length_map] at hc
    refine ⟨S, _, c, rfl, fB, by omega, fun ns N asc hmem hlen nN => ?_⟩
    generalize e12 : upd HB N _ = HC
    obtain ⟨sC, fC, kC, gC, zC⟩ := own_of sB nN e12
    have ens : ns = nums ((ofR pap.2).map (·.1) ++ (ofR told.2).map (·.1)) := asc_same asc (asc_nums _) fun q => by rw [hmem q, decide_eq_true_iff, mem_nums]; rfl
    have kk : ∀ b u, H7 b = some u → HC b = some u := fun b u hb => kC _ _ (kB _ _ (kA _ _ (k9 _ _ (k8 _ _ hb))))
    have fd1 := kk _ _ f67
    have fd2 := kk _ _ f7
    refine ⟨N, rfl, ⟨_, SqL.of fC⟩, for_list (K := K) (a := N) (xs := ns.map V.int)
      (fun i σ HX => HX = HC ∧ (∃ x6, σ = [some (.ref a), some (.ref pt), some (.ref b), some (.int told.1), some (.ref lw), some (.ref D1), x6, none, some (.ref D2), none]) ∧ ∀ m ∈ ns.take i, look (ofR pap.2) m = look (ofR told.2) m)
      ⟨rfl, ⟨_, rfl⟩, fun m hm => by simp at hm⟩ (fun i σ HX _ ⟨z, _⟩ => by rw [z]; exact SqL.of fC) ?_ ?_⟩
    · rintro i y σ HX hi ⟨rfl, ⟨x6, rfl⟩, hall⟩
      obtain ⟨n, hn, rfl⟩ := int_at hi
      obtain ⟨o1, d1, p1⟩ := dget_rel (K := K) fd1 r6 sC.gh n
      obtain ⟨o2, d2, p2⟩ := dget_rel (K := K) fd2 r7 sC.gh n
      refine ⟨_, rfl, D1, rfl, .inl ⟨kv6, .inl fd1⟩, _, rfl, o1, d1, _, rfl, D2, rfl, .inl ⟨kv7, .inl fd2⟩, _, rfl, o2, d2, _, _, p1, p2, shaped_O _, shaped_O _, _, rfl, ?_⟩
      rw [eqv_O]
      refine if_nbool (fun hne => ?_) (fun he => ⟨rfl, ⟨_, rfl⟩, fun m hm => ?_⟩)
      · refine ⟨_, rfl, (by show 2 ≤ sizeLine; decide), fun t nt => ?_⟩
        generalize eD : upd HX t _ = HD
        obtain ⟨GD, sD, fD, ggD, kD, gkD⟩ := data_of sC nt eD
        refine k _ GD HD sD ?_
        have hoff : firstOff (ofR pap.2) (ofR told.2) ns = some n := firstOff_at hall hn (of_decide_eq_false hne)
        unfold faultOf
        rw [if_neg (fun z => z (hme.trans hm1.symm)), ← ens, hoff]
        exact ⟨t, rfl, fD⟩
      · rw [take_snoc hn] at hm
        rcases List.mem_append.mp hm with hm | hm
        · exact hall m hm
        · rw [List.mem_singleton] at hm
          rw [hm]
          exact of_decide_eq_true he
    · rintro σ HX ⟨rfl, ⟨x6, rfl⟩, hall⟩
      rw [List.length_map, List.take_of_length_le (Nat.le_refl _)] at hall
      have hno : firstOff (ofR pap.2) (ofR told.2) (nums ((ofR pap.2).map (·.1) ++ (ofR told.2).map (·.1))) = none := firstOff_none (by rw [← ens]; exact hall)
      refine ⟨_, rfl, lw, rfl, ⟨_, SqL.of (sC.gh _ _ (s45.gg _ _ hlw))⟩, fun D3 nD3 => ?_⟩
      obtain ⟨sD, fD, kD, gD, zD⟩ := own_of (o := .lst []) sC nD3 rfl
      have lws := pd_len pw
      refine lc_list (K := K) (a := lw) (xs := ws) (fun i H2 => Stp O0 G H G5 H2 ∧ H2 D2 = some (.dK kv7) ∧ H2 D3 = some (rowI ((told.2.take i).map (·.1)))) ⟨sD, kD _ _ fd2, fD⟩ (fun i H2 _ ⟨z, _⟩ => SqL.of (z.gh _ _ (s45.gg _ _ hlw))) ?_ ?_
      · rintro i y H2 hi ⟨s2, f2, f3⟩
        obtain ⟨r, hr', t, u, cc, rfl, ht, hu', hc'⟩ := pd_get pw hi
        cases hu'
        have hi2 := (List.getElem?_eq_some_iff.mp hi).1
        refine ⟨rfl, g_yes ⟨_, rfl, t, _, _, _, rfl, rfl, SqT.of (s2.gh _ _ (s45.gg _ _ ht)), at_of (j := 0) rfl rfl, _, f3, by rw [List.length_map, List.length_map, List.length_take, sizeLine_eq]; omega, ?_⟩⟩
        generalize eE : upd H2 D3 _ = HE
        obtain ⟨sE, fE, kE⟩ := wr_of s2 f3 gD (.inr zD) eE
        refine ⟨sE, kE _ _ (ne_of_none fd2 nD3) f2, ?_⟩
        rw [fE, take_snoc hr', List.map_append, rowI, List.map_append]
        rfl
      · rintro H2 ⟨s2, f2, f3⟩
        rw [lws, List.take_of_length_le (Nat.le_refl _)] at f3
        refine ⟨_, rfl, D2, kv7, _, rfl, .inl f2, r7.keys, by rw [List.length_map]; omega, fun ys N2 pm as2 nN2 => ?_⟩
        generalize eE : upd H2 N2 _ = HE
        obtain ⟨sE, fE, kE, gE, zE⟩ := own_of s2 nN2 eE
        have nd7 : ((ofR told.2).map (·.1)).Nodup := takeR_keys (by simp) _
        have eys : ys = nums ((ofR told.2).map (·.1)) := asc_same (lt_of_le_nodup ys as2 (pm.nodup_iff.mpr nd7)) (asc_nums _) fun q => by rw [pm.mem_iff, mem_nums]; rfl
        refine ⟨_, _, dp_ints (kE _ _ f3), dp_ints fE, shaped_ints _, shaped_ints _, _, rfl, ?_⟩
        rw [eqv_ints]
        have ef : faultOf pap told = if told.2.map (·.1) = nums ((ofR told.2).map (·.1)) then .no else .order := by
          unfold faultOf
          rw [if_neg (fun z => z (hme.trans hm1.symm)), hno]
        refine if_bool (fun he => ?_) (fun hne => ?_)
        · refine k _ G5 HE sE ?_
          rw [ef, if_pos (by rw [← eys]; exact of_decide_eq_true he)]
          rfl
        · refine ⟨(by show 1 ≤ sizeLine; decide), fun t nt => ?_⟩
          generalize eF : upd HE t _ = HF
          obtain ⟨GF, sF, fF, ggF, kF, gkF⟩ := data_of sE nt eF
          refine k _ GF HF sF ?_
          rw [ef, if_neg (by rw [← eys]; exact of_decide_eq_false hne)]
          exact ⟨t, rfl, fF⟩
end
end K51

/-! KBB: what a law reads from sectors by their layout. -/
namespace K51
open PySem PySem.Spec PyProof.Rows L2 Y
def rowsOf (ds : List (Int × Page)) : BRows := ((nums (ds.map (·.1))).map fun n => (n, (look ds n).getD [])).filter fun r => !decide (r.2 = z64)
def rSDA : List V → Hp → VK → Prop := fun xs H Q => ∃ (a : Addr) (kvs : List (Key × V)) (ks : List Int), xs = [.ref a] ∧ L2.Rd H a (.dK kvs) ∧ kvs.map (·.1) = ks.map Sum.inl ∧ ks.length ≤ 100000 ∧
    ∀ (ys : List Int) (p : Addr), ys.Perm ks → ys.Pairwise (· ≤ ·) → H p = none → Q (.ref p) (upd H p (.lst (ys.map V.int)))
section
variable {K : PySem.W.Frag}
/-- [(n, d[n]) for n in sorted(d) if d[n] != [0] * 64] -/
theorem lc_pages {O : Addr → Prop} {G0 H0 G H : Hp} {D : Addr} {kvs : List (Key × V)} {ds : List (Int × Page)} {σ : L2.St} {i : Nat} {vs : List Nat} {tc : TE} {Q : VK} (s : Stp O G0 H0 G H) (gh0 : Same G0 H0) (hD : H D = some (.dK kvs))
    (r : DRel (rL rI) G kvs ds) (nd : (ds.map (·.1)).Nodup) (few : ds.length ≤ 10000)
    (c0 : ∀ Q' : VK, Q' (.ref D) H → tc σ H Q') (c1 : ∀ (a : V) (H' : Hp) (Q' : VK), (∀ b u, H b = some u → H' b = some u) → Q' (.ref D) H' → tc ((wipe σ vs).set i (some a)) H' Q') (hw : ∀ a, wipe ((wipe σ vs).set i (some a)) vs = wipe σ vs) (hi : ∀ a : V, ((wipe σ vs).set i (some a))[i]? = some (some a))
    (k : ∀ l G' H', Stp O G0 H0 G' H' → H0 l = none → rL rSec G' (.ref l) (rowsOf ds) → Q (.ref l) H') :
    tLc (iList K (tCB rSDA (tCons tc tNil))) (gName i) (tTest (tOp (rNeD K) (tDGet tc (tVar i)) (tOp rRep (tLst (tCons (tC (.int 0)) tNil)) (tC (.int 64))))) (tTup (tCons (tVar i) (tCons (tDGet tc (tVar i)) tNil))) vs σ H Q := by
  refine c0 _ ⟨D, kvs, ds.map (·.1), rfl, .inl hD, r.keys, by rw [List.length_map]; omega, fun ys N pm asc nN => ?_⟩
  have eys : ys = nums (ds.map (·.1)) := asc_same (lt_of_le_nodup ys asc (pm.nodup_iff.mpr nd)) (asc_nums _) fun q => by rw [pm.mem_iff, mem_nums]
  have ly : ys.length = ds.length := by rw [pm.length_eq, List.length_map]
  generalize e1 : upd H N _ = H1
  obtain ⟨s1, f1, k1, g1, z1⟩ := own_of s nN e1
  refine ⟨N, rfl, ⟨_, SqL.of f1⟩, fun D2 nD2 => ?_⟩
  obtain ⟨s2, f2, k2, g2, z2⟩ := own_of (o := .lst []) s1 nD2 rfl
  have nND : N ≠ D2 := ne_of_none f1 nD2
  have hDD : D ≠ D2 := ne_of_none (k1 _ _ hD) nD2
  refine lc_list (K := K) (a := N) (xs := ys.map V.int) (fun j H3 => ∃ G3 acc, Stp O G0 H0 G3 H3 ∧ Same G G3 ∧ (∀ b u, H b = some u → H3 b = some u) ∧ H3 N = some (rowI ys) ∧ H3 D2 = some (.lst acc) ∧ G3 D2 = none ∧ acc.length ≤ j ∧ Paired (rSec G3) acc (((ys.take j).map fun n => (n, (look ds n).getD [])).filter fun r => !decide (r.2 = z64)))
    ⟨G, [], s2, Same.refl _, fun b u hb => k2 _ _ (k1 _ _ hb), k2 _ _ f1, f2, g2, Nat.le_refl _, .nil⟩ (fun j H3 _ ⟨_, _, _, _, _, z, _⟩ => SqL.of z) ?_ ?_
  · rintro j y H3 hj ⟨G3, acc, s3, gg3, kk3, fN3, fD3, gD3, l3, p3⟩
    obtain ⟨n, hn, rfl⟩ := int_at hj
    have hj2 := (List.getElem?_eq_some_iff.mp hn).1
    have hm : n ∈ ds.map (·.1) := pm.mem_iff.mp (List.mem_of_getElem? hn)
    obtain ⟨pp, hpp⟩ := Option.isSome_iff_exists.mp (look_isSome.mpr hm)
    obtain ⟨v, hv, rv⟩ := r.look_some hpp
    obtain ⟨c, rfl, hc⟩ := rLI rv
    have gD : ∀ (H' : Hp), (∀ b u, H b = some u → H' b = some u) → DGet H' D (.int n) (some (.ref c)) := fun H' hk => by
      have g := DGet.k (k := Sum.inl n) (hk _ _ hD)
      rw [hv] at g
      exact g
    refine ⟨hw _, c1 _ _ _ kk3 ⟨_, hi _, D, _, rfl, gD _ kk3, (by show 1 ≤ sizeLine; decide), fun qa na => ?_⟩⟩
    generalize eA : upd H3 qa _ = HA
    obtain ⟨sA, fA, kA, gA, zA⟩ := own_of s3 na eA
    refine ⟨qa, 64, _, rfl, rfl, fA, by decide, by decide, (by show 1 * 64 ≤ sizeLine; decide), fun qb nb => ?_⟩
    generalize eB : upd HA qb _ = HB
    obtain ⟨sB, fB, kB, gB, zB⟩ := own_of sA nb eB
    have fB : HB qb = some (rowI z64) := fB
    have hcB := sB.gh _ _ (gg3 _ _ hc)
    refine ⟨_, _, dp_ints hcB, dp_ints fB, shaped_ints _, shaped_ints _, _, rfl, ?_⟩
    rw [eqv_ints]
    have fDB := kB _ _ (kA _ _ fD3)
    have fNB := kB _ _ (kA _ _ fN3)
    have kkB : ∀ b u, H b = some u → HB b = some u := fun b u hb => kB _ _ (kA _ _ (kk3 b u hb))
    have et : (((ys.take (j + 1)).map fun n => (n, (look ds n).getD [])).filter fun r => !decide (r.2 = z64)) = (((ys.take j).map fun n => (n, (look ds n).getD [])).filter fun r => !decide (r.2 = z64)) ++ (if pp = z64 then [] else [(n, pp)]) := by
      rw [take_snoc hn, List.map_append, List.filter_append]
      simp only [List.map_cons, List.map_nil, hpp, Option.getD_some]
      by_cases h : pp = z64 <;> simp [h]
    refine if_nbool (fun hne => ?_) (fun he => ?_)
    · refine ⟨_, hi _, c1 _ _ _ kkB ⟨_, hi _, D, _, rfl, gD _ kkB, (by show 2 ≤ sizeLine; decide), fun t nt => ?_⟩⟩
      generalize eC : upd HB t _ = HC
      obtain ⟨GC, sC, fC, ggC, kC, gkC⟩ := data_of sB nt eC
      refine ⟨acc, kC _ _ fDB, by rw [sizeLine_eq]; omega, ?_⟩
      generalize eE : upd HC D2 _ = HE
      have gDC : GC D2 = none := by rw [gkC D2 (ne_of_none fDB nt)]; exact gD3
      obtain ⟨sE, fE, kE⟩ := wr_of sC (kC _ _ fDB) gDC (.inr z2) eE
      refine ⟨GC, _, sE, gg3.trans ggC, fun b u hb => kE _ _ (fun e => by rw [e] at hb; rw [k1 _ _ hb] at nD2; cases nD2) (kC _ _ (kkB b u hb)), kE _ _ nND (kC _ _ fNB), fE, gDC, by rw [List.length_append]; show _ + 1 ≤ _; omega, ?_⟩
      rw [et, if_neg (of_decide_eq_false hne)]
      exact pd_snoc (mRow.ps ggC p3) ⟨t, _, _, rfl, fC, rfl, rLI_of (ggC _ _ (gg3 _ _ hc))⟩
    · refine ⟨G3, acc, sB, gg3, kkB, fNB, fDB, gD3, by omega, ?_⟩
      rw [et, if_pos (of_decide_eq_true he), List.append_nil]
      exact p3
  · rintro H3 ⟨G3, acc, s3, gg3, kk3, fN3, fD3, gD3, l3, p3⟩
    rw [List.length_map, List.take_of_length_le (Nat.le_refl _)] at p3
    obtain ⟨G4, s4, f4, gg4, gk4⟩ := pub_of s3 fD3 gD3 z2
    refine k D2 G4 H3 s4 z2 ⟨D2, acc, rfl, f4, ?_⟩
    unfold rowsOf
    rw [← eys]
    exact mRow.ps gg4 p3
end
end K51

/-! KBC: what a law reads from sectors, walked. -/
namespace K51
open PySem PySem.Spec PyProof.Rows L2 Y
structure TxL (K : PySem.W.Frag) (mg : Str → Option Value) : Prop where
  b_dict : mg "dict" = none
  b_len : mg "len" = none
  b_max : mg "max" = none
  b_sorted : mg "sorted" = none
  b_range : mg "range" = none
/-- a dict of such pairs -/
theorem merge_rel {G : Hp} : ∀ {ps : List (Key × V)} {xs : List (Int × Sec)} {kvs : List (Key × V)} {ds : List (Int × Sec)}, Paired (fun (p : Key × V) (x : Int × Sec) => p.1 = Sum.inl x.1 ∧ rL rI G p.2 x.2) ps xs → DRel (rL rI) G kvs ds → DRel (rL rI) G (mergeK kvs ps) (synS ds xs)
  | _, _, _, _, .nil, r => r
  | p :: ps, x :: xs, kvs, ds, .cons ⟨h1, h2⟩ t, r => by
    have e1 : mergeK kvs (p :: ps) = mergeK (putK kvs p.1 p.2) ps := rfl
    have e2 : synS ds (x :: xs) = synS (put ds x.1 x.2) xs := rfl
    rw [e1, e2, h1]
    exact merge_rel t (r.put h2)
theorem dget_blank {G H : Hp} {D bl : Addr} {kvs : List (Key × V)} {xs : List (Int × Sec)} (h : H D = some (.dK kvs)) (r : DRel (rL rI) G kvs (ofRows xs)) (hb : G bl = some (rowI blank)) (n : Int) :
    ∃ oo c, DGet H D (.int n) oo ∧ oo.getD (.ref bl) = .ref c ∧ G c = some (rowI (fOf xs n)) := by
  have g := DGet.k (k := Sum.inl n) h
  unfold fOf W
  cases e : look (ofRows xs) n with
  | none =>
    rw [r.look_none e] at g
    exact ⟨none, bl, g, rfl, hb⟩
  | some p =>
    obtain ⟨v, hv, rv⟩ := r.look_some e
    obtain ⟨c, rfl, hc⟩ := rLI rv
    rw [hv] at g
    exact ⟨_, c, g, rfl, hc⟩
theorem secs_pairs {K : PySem.W.Frag} {G H : Hp} (gh : Same G H) : ∀ {us : List V} {xs : List (Int × Sec)}, Paired (rSec G) us xs → ∃ (ps : List Addr) (kvs : List (Key × V)), us = ps.map V.ref ∧ Paired (fun p (kv : Key × V) => SqT K H p [kV kv.1, kv.2]) ps kvs ∧ Paired (fun (p : Key × V) (x : Int × Sec) => p.1 = Sum.inl x.1 ∧ rL rI G p.2 x.2) kvs xs
  | _, _, .nil => ⟨[], [], rfl, .nil, .nil⟩
  | _, x :: _, .cons ⟨t, u, w, e, h, hu, hw⟩ r => by
    obtain ⟨ps, kvs, e1, h1, h2⟩ := secs_pairs gh r
    cases hu
    exact ⟨t :: ps, (Sum.inl x.1, w) :: kvs, by rw [e, e1]; rfl, .cons (SqT.of (gh _ _ h)) h1, .cons ⟨rfl, hw⟩ h2⟩
def rts2 (rd : Rd) (n : Nat) : List (Int × Int) := (List.range n).filterMap fun k : Nat => rootAt rd (k : Int)
theorem rts2_snoc (rd : Rd) (n : Nat) : rts2 rd (n + 1) = rts2 rd n ++ (rootAt rd (n : Int)).toList := by
  unfold rts2
  rw [List.range_succ, List.filterMap_append]
  cases h : rootAt rd (n : Int) <;> simp [h]
theorem rts2_len (rd : Rd) (n : Nat) : (rts2 rd n).length ≤ n := by
  unfold rts2
  refine Nat.le_trans (List.length_filterMap_le _ _) ?_
  rw [List.length_range]
  exact Nat.le_refl _
theorem rts2_two (rd : Rd) : rts2 rd 2 = (rootAt rd 0).toList ++ (rootAt rd 1).toList := by
  rw [rts2_snoc, rts2_snoc]
  rfl
theorem newest_max2 {rd : Rd} {x : Int × Int} {ys : List (Int × Int)} (h : rts2 rd 2 = x :: ys) : (newest rd).2 = PySem.W.maxOf x ys := by
  rw [rts2_two] at h
  unfold newest
  cases h0 : rootAt rd 0 with
  | none =>
    cases h1 : rootAt rd 1 with
    | none => rw [h0, h1] at h; cases h
    | some b => rw [h0, h1] at h; cases h; rfl
  | some a =>
    cases h1 : rootAt rd 1 with
    | none => rw [h0, h1] at h; cases h; rfl
    | some b =>
      rw [h0, h1] at h
      cases h
      obtain ⟨e, m⟩ := x
      obtain ⟨e', m'⟩ := b
      show (if e < e' ∨ (e = e' ∧ m ≤ m') then ((1 : Int), (e', m')) else ((0 : Int), (e, m))).2 = (if PySem.W.DatumOrd.lt ((e, m) : Int × Int) (e', m') = true then (e', m') else (e, m))
      have key : (PySem.W.DatumOrd.lt ((e, m) : Int × Int) (e', m') = true) ↔ (e < e' ∨ (e = e' ∧ m < m')) := by
        show ((if e = e' then decide (m < m') else decide (e < e')) = true) ↔ _
        by_cases h1 : e = e'
        · rw [if_pos h1, decide_eq_true_iff]; omega
        · rw [if_neg h1, decide_eq_true_iff]; omega
      by_cases hc : e < e' ∨ (e = e' ∧ m ≤ m')
      · rw [if_pos hc]
        by_cases hk : e < e' ∨ (e = e' ∧ m < m')
        · rw [if_pos (key.mpr hk)]
        · rw [if_neg (fun z => hk (key.mp z))]
          have a1 : e = e' := by omega
          have a2 : m = m' := by omega
          rw [a1, a2]
      · rw [if_neg hc, if_neg (fun z => hc (by have := key.mp z; omega))]
theorem newest_none2 {rd : Rd} (h : rts2 rd 2 = []) : (newest rd).2 = (0, 0) := by
  rw [rts2_two] at h
  unfold newest
  cases h0 : rootAt rd 0 with
  | some a => rw [h0] at h; cases h
  | none =>
    cases h1 : rootAt rd 1 with
    | some b => rw [h0, h1] at h; cases h
    | none => rfl
theorem nodup_le {a b : List Int} (h : a.Nodup) (s : ∀ x ∈ a, x ∈ b) : a.length ≤ b.length := by
  have h1 : (nums a).length = a.length := by
    have : ∀ a : List Int, a.Nodup → (nums a).length = a.length := fun a => by
      induction a with
      | nil => intro _; rfl
      | cons x a ih =>
        intro h
        obtain ⟨h1, h2⟩ := List.nodup_cons.mp h
        have e : ∀ l : List Int, x ∉ l → (insU x l).length = l.length + 1 := fun l => by
          induction l with
          | nil => intro _; rfl
          | cons y r ih2 =>
            intro hx
            unfold insU
            split
            · rfl
            · split
              · rename_i _ e
                exact absurd (e ▸ List.mem_cons_self) hx
              · rw [List.length_cons, ih2 (fun z => hx (List.mem_cons_of_mem _ z)), List.length_cons]
        show (insU x (nums a)).length = _
        rw [e _ (fun z => h1 ((mem_nums x a).mp z)), ih h2, List.length_cons]
    exact this a h
  have h2 : nums a = (nums b).filter fun x => decide (x ∈ a) := by
    refine asc_same (asc_nums _) ((asc_nums _).filter _) fun k => ?_
    rw [mem_nums, List.mem_filter, mem_nums, decide_eq_true_iff]
    exact ⟨fun h => ⟨s k h, h⟩, fun h => h.2⟩
  rw [← h1, h2]
  exact Nat.le_trans (List.length_filter_le _ _) (le_nums_len b)
theorem takeR_all : ∀ (bs : List BRows) (d : List (Int × Page)), (bs.foldl takeR d).length ≤ d.length + rowsSum bs := fun bs => by
  induction bs with
  | nil => intro d; exact Nat.le_add_right _ _
  | cons g bs ih =>
    intro d
    have a := ih (takeR d g)
    have b := takeR_len g d
    unfold rowsSum at *
    rw [List.map_cons, List.sum_cons]
    show (bs.foldl takeR (takeR d g)).length ≤ _
    omega
/-- a page's octets at home -/
def catH (f : Rd) (n : Int) (j : Nat) : Page := (List.range j).flatMap fun k : Nat => f (hm n k)
theorem catH_4 (f : Rd) (n : Int) : catH f n 4 = pageOf f [] n := by
  unfold catH pageOf
  simp [List.range_succ, look]
abbrev rPP : Rp (Int × Int) := rP rI rI
theorem ePP : En rPP (fun x : Int × Int => PySem.W.Datum.toD x) (fun _ => True) 1 :=
  ⟨fun s h => (eI.p eI).dp s h, fun x _ => (eI.p eI).lay x ⟨trivial, trivial⟩, fun x => (eI.p eI).dep x⟩
section
variable {P : Program} {w : World} {K : PySem.W.Frag} {mg : Str → Option Value} {base : Heap}
abbrev s__law_of_four : Stmt := top 25
theorem sc__law_of_four : FnScope ["octets"] ["octets"] (defScope s__law_of_four) := ⟨rfl, rfl, rfl, by decide +kernel, rfl, by decide +kernel, by decide +kernel⟩
theorem ok_lof {f : Addr} {fd : FuncData} (F : Fun K "_law_of_four" "_law_of_four" s__law_of_four f fd) : FnOk P w K mg base CX0 1 f fd ["octets"] spOfFour := by
  refine F.ok sc__law_of_four (fun vs H Q E h => ?_) (fun cdv A outer st H vs Q E hr h => ?_)
  · obtain ⟨a, x, rfl, _⟩ := h
    rfl
  · obtain ⟨a, x, rfl, ha, hl, k⟩ := h
    have nd := sc__law_of_four.nd
    refine ⟨_, (pss_one (ps_ret (pe_op op_add (pe_op op_add (pe_op op_add (pe_op op_mul (pe_ix (ix_listK (K := K) rfl) (pv 0) pe_int (fun _ _ => rfl)) pe_int) (pe_op op_mul (pe_ix (ix_listK (K := K) rfl) (pv 0) pe_int (fun _ _ => rfl)) pe_int)) (pe_op op_mul (pe_ix (ix_listK (K := K) rfl) (pv 0) pe_int (fun _ _ => rfl)) pe_int)) (pe_ix (ix_listK (K := K) rfl) (pv 0) pe_int (fun _ _ => rfl))))), ?_⟩
    have q : ∀ i : Nat, i < x.length → (x.map V.int)[i]? = some (.int (x.getD i 0)) := fun i hi => by
      rw [List.getElem?_map, List.getD_eq_getElem?_getD, List.getElem?_eq_getElem hi]
      rfl
    refine ⟨_, rfl, a, _, _, _, rfl, rfl, SqL.of ha, at_of (j := 0) rfl (q 0 (by omega)), _, _, rfl, rfl, .inr ⟨by decide, by decide⟩, _, rfl, a, _, _, _, rfl, rfl, SqL.of ha, at_of (j := 1) rfl (q 1 (by omega)), _, _, rfl, rfl, .inr ⟨by decide, by decide⟩, _, _, rfl, rfl, _, rfl, a, _, _, _, rfl, rfl, SqL.of ha, at_of (j := 2) rfl (q 2 (by omega)), _, _, rfl, rfl, .inr ⟨by decide, by decide⟩, _, _, rfl, rfl, _, rfl, a, _, _, _, rfl, rfl, SqL.of ha, at_of (j := 3) rfl (q 3 (by omega)), _, _, rfl, rfl, k⟩
theorem sl_head (xs : List Int) (a b : Nat) (h : a + 4 ≤ b) : (sl xs a b).take 4 = sl xs a (a + 4) := by
  unfold sl
  rw [List.take_drop, List.take_take, Nat.min_eq_left h]
theorem sl_tail (xs : List Int) (a b : Nat) : (sl xs a b).drop 4 = sl xs (a + 4) b := by
  unfold sl
  rw [List.drop_drop]
theorem cut_to4 (xs : List Int) : cutV (xs.map V.int) none (some 4) = (xs.take 4).map V.int := by
  have := cut_to (xs.map V.int) 4
  rw [List.map_take]
  exact this
theorem cut_4 (xs : List Int) : cutV (xs.map V.int) (some 4) none = (xs.drop 4).map V.int := by
  have := cut_from (xs.map V.int) 4
  rw [List.map_drop]
  exact this
/-- the rows that are told, whatever dict they stand in -/
theorem rowsOf_eq {f : Rd} {ds : List (Int × Page)} {bs : List BRows} {hs : List Int} (nd : (ds.map (·.1)).Nodup) (mem : ∀ n, n ∈ ds.map (·.1) ↔ n ∈ hs) (home : ∀ n ∈ ds.map (·.1), look ds n = some (pageOf f [] n)) :
    rowsOf (bs.foldl takeR ds) = pageRows f (bs.foldl takeR []) (nums ((bs.foldl takeR []).map (·.1) ++ hs)) := by
  have hl : ∀ (bs : List BRows) (d1 d2 : List (Int × Page)) (n : Int), (∀ n, look d1 n = ((look d2 n).or (look ds n))) → look (bs.foldl takeR d1) n = ((look (bs.foldl takeR d2) n).or (look ds n)) := by
    intro bs
    induction bs with
    | nil => intro d1 d2 n h; exact h n
    | cons g bs ih =>
      intro d1 d2 n h
      refine ih _ _ n ?_
      have hg : ∀ (g : BRows) (d1 d2 : List (Int × Page)), (∀ n, look d1 n = ((look d2 n).or (look ds n))) → ∀ n, look (takeR d1 g) n = ((look (takeR d2 g) n).or (look ds n)) := by
        intro g
        induction g with
        | nil => intro d1 d2 h; exact h
        | cons r g ih2 =>
          intro d1 d2 h
          refine ih2 (put d1 r.1 r.2) (put d2 r.1 r.2) fun n => ?_
          rw [look_put, look_put]
          by_cases e : n = r.1
          · rw [if_pos e, if_pos e]; rfl
          · rw [if_neg e, if_neg e]; exact h n
      exact hg g d1 d2 h
  have hlk : ∀ n, look (bs.foldl takeR ds) n = ((look (bs.foldl takeR []) n).or (look ds n)) := fun n => hl bs ds [] n fun n => rfl
  have keys : nums ((bs.foldl takeR ds).map (·.1)) = nums ((bs.foldl takeR []).map (·.1) ++ hs) := by
    refine asc_same (asc_nums _) (asc_nums _) fun n => ?_
    rw [mem_nums, mem_nums, List.mem_append, ← look_isSome, hlk n, ← look_isSome, ← mem n, ← look_isSome]
    cases look (bs.foldl takeR []) n <;> cases look ds n <;> simp
  unfold rowsOf pageRows
  rw [keys]
  congr 1
  refine List.map_congr_left fun n hn => ?_
  rw [mem_nums, List.mem_append] at hn
  rw [hlk n]
  unfold pageOf
  cases e : look (bs.foldl takeR []) n with
  | some p => rfl
  | none =>
    rcases hn with hn | hn
    · have := look_isSome.mpr hn
      rw [e] at this
      cases this
    · rw [home n ((mem n).mpr hn)]
      rfl
/-- behind the roots -/
def LtA (G H : Hp) (a : Addr) (xs : List (Int × Sec)) (σ : L2.St) (H1 : Hp) : Prop := ∃ (G1 : Hp) (hD bl : Addr) (kvs : List (Key × V)) (x3 x4 x5 : Option V), σ = [some (.ref a), some (.ref hD), some (.ref bl), x3, x4, x5, some (.int (newest (fOf xs)).2.1), some (.int (newest (fOf xs)).2.2), none, none, none, none, none, none, none, none, none, none, none] ∧
  Stp O0 G H G1 H1 ∧ H1 hD = some (.dK kvs) ∧ H hD = none ∧ DRel (rL rI) G1 kvs (ofRows xs) ∧ G1 bl = some (rowI blank)
/-- behind the pages' homes -/
def LtB (G H : Hp) (a : Addr) (xs : List (Int × Sec)) (σ : L2.St) (H1 : Hp) : Prop := ∃ (G1 : Hp) (hD bl pD : Addr) (kvs kv2 : List (Key × V)) (ds : List (Int × Page)) (x3 x4 x5 x9 x10 : Option V), σ = [some (.ref a), some (.ref hD), some (.ref bl), x3, x4, x5, some (.int (newest (fOf xs)).2.1), some (.int (newest (fOf xs)).2.2), some (.ref pD), x9, x10, none, none, none, none, none, none, none, none] ∧
  Stp O0 G H G1 H1 ∧ H1 hD = some (.dK kvs) ∧ H hD = none ∧ DRel (rL rI) G1 kvs (ofRows xs) ∧ G1 bl = some (rowI blank) ∧ H1 pD = some (.dK kv2) ∧ H pD = none ∧ G1 pD = none ∧ hD ≠ pD ∧ DRel (rL rI) G1 kv2 ds ∧ (ds.map (·.1)).Nodup ∧ (∀ n, n ∈ ds.map (·.1) ↔ n ∈ homeNs (ofRows xs)) ∧ ∀ n ∈ ds.map (·.1), look ds n = some (pageOf (fOf xs) [] n)
def toldOf (f : Rd) (xs : List (Int × Sec)) (bs : List BRows) : Int × BRows := ((newest f).2.2 + bs.length, pageRows f (bs.foldl takeR []) (nums ((bs.foldl takeR []).map (·.1) ++ homeNs xs)))
def spTold : Sp := fun vs H Q _ => ∃ (G : Hp) (a : Addr) (xs : List (Int × Sec)) (bs : List BRows) (e : Int), vs = [.ref a] ∧ Same G H ∧ rL rSec G (.ref a) xs ∧ SecOk xs bs e ∧
  ∀ v G' H', Stp O0 G H G' H' → rP rI (rL rSec) G' v (toldOf (fOf xs) (ofRows xs) bs) → Q v H'
abbrev s__law_told : Stmt := top 26
theorem sc__law_told : FnScope ["sectors", "here", "blank", "roots", "k", "root", "epoch", "many", "pages", "number", "part", "place", "head", "count", "used", "octets", "rows", "row", "page"] ["sectors"] (defScope s__law_told) := ⟨rfl, rfl, rfl, by decide +kernel, rfl, by decide +kernel, by decide +kernel⟩
theorem ok_told {f : Addr} {fd : FuncData} (F : Fun K "_law_told" "_law_told" s__law_told f fd) (T : TxL K mg) (L__law_of_four : FnC P w K mg base "_law_of_four" 1 ["octets"] spOfFour) : FnOk P w K mg base CX0 2 f fd ["sectors"] spTold := by
  refine F.ok sc__law_told (fun vs H Q E h => ?_) (fun cdv A outer st H vs Q E hr h => ?_)
  · obtain ⟨G, a, xs, bs, e, rfl, _⟩ := h
    rfl
  · obtain ⟨G, a, xs, bs, e, rfl, gh, ⟨a', us, e', ha, pu⟩, ok, k⟩ := h
    cases e'
    have nd := sc__law_told.nd
    have hu := hu_of hr
    refine ⟨_, (pss_cons (ps_set (i := 1) nd rfl (Or.inr rfl) (pe_callTy (call_dictP rfl) (by rfl) T.b_dict (by decide +kernel) (pa_cons (pv 0) pa_nil)))
    (pss_cons (ps_set (i := 2) nd rfl (Or.inr rfl) (pe_op op_rep (pe_lst (pa_cons pe_int pa_nil)) pe_int))
    (pss_cons (ps_setLc (i := 3) (own := [("k", 4)]) rfl nd rfl rfl (sw_true rfl rfl rfl (by decide +kernel)) (pi_listK (K := K) rfl (pe_lst (pa_cons pe_int (pa_cons pe_int pa_nil)))) (blkOk_by (own := [("k", 4)]) (N := ["sectors", "here", "blank", "roots", "k", "root", "epoch", "many", "pages", "number", "part", "place", "head", "count", "used", "octets", "rows", "row", "page"]) (sc := defScope s__law_told) (by decide +kernel)) (fun _ _ _ _ _ => (pg_name (i := 4) nd rfl (Or.inl rfl))) (fun _ _ _ _ _ => pts_nil) (fun _ _ _ _ _ => (pe_dget2 hu (pv 1) (pv 4) (pv 2) ⟨rfl, rfl, rfl, rfl⟩)))
    (pss_cons (ps_setLc (i := 3) (own := [("root", 5)]) rfl nd rfl rfl (sw_true rfl rfl rfl (by decide +kernel)) (pi_listK (K := K) rfl (pv 3)) (blkOk_by (own := [("root", 5)]) (N := ["sectors", "here", "blank", "roots", "k", "root", "epoch", "many", "pages", "number", "part", "place", "head", "count", "used", "octets", "rows", "row", "page"]) (sc := defScope s__law_told) (by decide +kernel)) (fun _ _ _ _ _ => (pg_name (i := 5) nd rfl (Or.inl rfl))) (fun _ _ _ _ _ => (pts_one (pt_cmpR op_eq (pe_ix (ix_listK (K := K) rfl) (pv 5) pe_int (fun _ _ => rfl)) pe_int (nomark _)))) (fun _ _ _ _ _ => (pe_tup (pa_cons (pe_fnc L__law_of_four (hr.mono (by decide)) rfl (pa_cons (pe_slice (sl_listK (K := K) rfl) (pv 5) (po_some pe_int) (po_some pe_int)) pa_nil)) (pa_cons (pe_fnc L__law_of_four (hr.mono (by decide)) rfl (pa_cons (pe_slice (sl_listK (K := K) rfl) (pv 5) (po_some pe_int) (po_some pe_int)) pa_nil)) pa_nil)))))
    (C8.pss_cut (ps_asg (pe_ifExp (pt_cmpR op_gt (pe_callB (call_len_seqK (K := K) rfl) (by rfl) T.b_len (by decide +kernel) (pa_cons (pv 3) pa_nil)) pe_int (nomark _)) (pe_callB (cr_maxTK (α := Int × Int) (K := K) rfl rfl hr.units) (by rfl) T.b_max (by decide +kernel) (pa_cons (pv 3) pa_nil)) (pe_tup (pa_cons pe_int (pa_cons pe_int pa_nil)))) (pg_tupK (K := K) (n := 2) rfl rfl (pgs_cons (pg_name (i := 6) nd rfl (Or.inl rfl)) (pgs_cons (pg_name (i := 7) nd rfl (Or.inl rfl)) pgs_nil))))
    (pss_cons (ps_set (i := 8) nd rfl (Or.inr rfl) pe_dnewK)
    (pss_cons (ps_for PassesOwn.never rfl (pi_listK (K := K) rfl (pe_callB (call_sortedDA rfl) (by rfl) T.b_sorted (by decide +kernel) (pa_cons (pv 1) pa_nil))) (pg_name (i := 9) nd rfl (Or.inl rfl))
    (pss_one (ps_if (PW.pt (pw_and (pt_cmpR op_ge (pv 9) pe_int (nomark _)) (pw_and1 (pt_cmpR op_eq (pe_op op_mod (pv 9) pe_int) pe_int (nomark _)))))
    (pss_one (ps_dput hu (pv 8) (pe_op op_fdiv (pe_op op_sub (pv 9) pe_int) pe_int) (pe_lst pa_nil) rfl))
    pss_nil)))
    (C8.pss_cut (ps_for PassesOwn.never rfl (pi_listK (K := K) rfl (pe_callB (call_sortedDA rfl) (by rfl) T.b_sorted (by decide +kernel) (pa_cons (pv 8) pa_nil))) (pg_name (i := 9) nd rfl (Or.inl rfl))
    (pss_one (ps_for PassesOwn.never rfl (pi_range1 rfl T.b_range (pa_cons pe_int pa_nil)) (pg_name (i := 10) nd rfl (Or.inl rfl))
    (pss_one (ps_dput hu (pv 8) (pv 9) (pe_op op_cat (pe_dget hu (pv 8) (pv 9) (fun _ _ => rfl)) (pe_dget2 hu (pv 1) (pe_op op_add pe_int (pe_op op_mul pe_int (pe_op op_add (pe_op op_mul pe_int (pv 9)) (pv 10)))) (pv 2) ⟨rfl, rfl, rfl, rfl⟩)) rfl)))))
    (pss_cons (ps_set (i := 11) nd rfl (Or.inl rfl) pe_int)
    (pss_one (ps_while PassesOwn.never (pt_val pe_bl)
    (pss_cons (ps_set (i := 12) nd rfl (Or.inl rfl) (pe_dget2 hu (pv 1) (pe_op op_add pe_int (pe_op op_mul pe_int (pv 11))) (pv 2) ⟨rfl, rfl, rfl, rfl⟩))
    (pss_cons (ps_if (PW.pt (pw_or (pt_cmpR op_ne (pe_ix (ix_listK (K := K) rfl) (pv 12) pe_int (fun _ _ => rfl)) pe_int (nomark _)) (pw_or1 (pt_cmpR op_ne (pe_fnc L__law_of_four (hr.mono (by decide)) rfl (pa_cons (pe_slice (sl_listK (K := K) rfl) (pv 12) (po_some pe_int) (po_some pe_int)) pa_nil)) (pv 6) (nomark _)))))
    (pss_one (ps_ret (pe_tup (pa_cons (pv 7) (pa_cons (pe_lc (own := [("number", 9)]) rfl nd (pi_listK (K := K) rfl (pe_callB (call_sortedDA rfl) (by rfl) T.b_sorted (by decide +kernel) (pa_cons (pv 8) pa_nil))) (blkOk_by (own := [("number", 9)]) (N := ["sectors", "here", "blank", "roots", "k", "root", "epoch", "many", "pages", "number", "part", "place", "head", "count", "used", "octets", "rows", "row", "page"]) (sc := defScope s__law_told) (by decide +kernel)) (fun _ _ _ _ _ => (pg_name (i := 9) nd rfl (Or.inl rfl))) (fun _ _ _ _ _ => (pts_one (pt_cmpR (op_neDK (K := K) rfl hr.units) (pe_dget hu (pv 8) (pv 9) (fun _ _ => rfl)) (pe_op op_rep (pe_lst (pa_cons pe_int pa_nil)) pe_int) (nomark _)))) (fun _ _ _ _ _ => (pe_tup (pa_cons (pv 9) (pa_cons (pe_dget hu (pv 8) (pv 9) (fun _ _ => rfl)) pa_nil))))) pa_nil)))))
    pss_nil)
    (pss_cons (ps_set (i := 13) nd rfl (Or.inl rfl) (pe_fnc L__law_of_four (hr.mono (by decide)) rfl (pa_cons (pe_slice (sl_listK (K := K) rfl) (pv 12) (po_some pe_int) (po_some pe_int)) pa_nil)))
    (pss_cons (ps_par3 (i := 14) (j := 15) (l := 16) rfl nd rfl rfl rfl (by decide) (by decide) (by decide) rfl rfl rfl (pa_cons pe_int (pa_cons (pe_slice (sl_listK (K := K) rfl) (pv 12) (po_some pe_int) po_none) (pa_cons (pe_lst pa_nil) pa_nil))) rfl)
    (pss_cons (ps_for PassesOwn.never rfl (pi_range1 rfl T.b_range (pa_cons (pv 13) pa_nil)) (pg_name (i := 4) nd rfl (Or.inl rfl))
    (pss_cons (ps_while PassesOwn.never (pt_cmpR op_lt (pe_callB (call_len_seqK (K := K) rfl) (by rfl) T.b_len (by decide +kernel) (pa_cons (pv 15) pa_nil)) (pe_op op_add pe_int (pe_op op_mul pe_int (pe_op op_add (pv 4) pe_int))) (nomark _))
    (pss_one (ps_par (i := 15) (j := 14) rfl nd rfl rfl (by decide) rfl rfl (pa_cons (pe_op op_cat (pv 15) (pe_slice (sl_listK (K := K) rfl) (pe_dget2 hu (pv 1) (pe_op op_add pe_int (pe_op op_mul pe_int (pe_op op_add (pv 11) (pv 14)))) (pv 2) ⟨rfl, rfl, rfl, rfl⟩) (po_some pe_int) po_none)) (pa_cons (pe_op op_add (pv 14) pe_int) pa_nil)) rfl)))
    (pss_cons (ps_set (i := 17) nd rfl (Or.inl rfl) (pe_slice (sl_listK (K := K) rfl) (pv 15) (po_some (pe_op op_add pe_int (pe_op op_mul pe_int (pv 4)))) (po_some (pe_op op_add pe_int (pe_op op_mul pe_int (pe_op op_add (pv 4) pe_int))))))
    (C8.pss_cut (ps_if (PW.pt (pw_and (pt_cmpR op_gt (pe_callB (call_len_seqK (K := K) rfl) (by rfl) T.b_len (by decide +kernel) (pa_cons (pv 16) pa_nil)) pe_int (nomark _)) (pw_and1 (pt_cmpR op_le (pe_fnc L__law_of_four (hr.mono (by decide)) rfl (pa_cons (pe_slice (sl_listK (K := K) rfl) (pv 17) po_none (po_some pe_int)) pa_nil)) (pe_ix (ix_tupK (K := K) rfl) (pe_ix (ix_listK (K := K) rfl) (pv 16) (pe_un un_neg pe_int) (fun _ _ => rfl)) pe_int (fun _ _ => rfl)) (nomark _)))))
    (pss_one (ps_ret (pe_tup (pa_cons (pv 7) (pa_cons (pe_lc (own := [("number", 9)]) rfl nd (pi_listK (K := K) rfl (pe_callB (call_sortedDA rfl) (by rfl) T.b_sorted (by decide +kernel) (pa_cons (pv 8) pa_nil))) (blkOk_by (own := [("number", 9)]) (N := ["sectors", "here", "blank", "roots", "k", "root", "epoch", "many", "pages", "number", "part", "place", "head", "count", "used", "octets", "rows", "row", "page"]) (sc := defScope s__law_told) (by decide +kernel)) (fun _ _ _ _ _ => (pg_name (i := 9) nd rfl (Or.inl rfl))) (fun _ _ _ _ _ => (pts_one (pt_cmpR (op_neDK (K := K) rfl hr.units) (pe_dget hu (pv 8) (pv 9) (fun _ _ => rfl)) (pe_op op_rep (pe_lst (pa_cons pe_int pa_nil)) pe_int) (nomark _)))) (fun _ _ _ _ _ => (pe_tup (pa_cons (pv 9) (pa_cons (pe_dget hu (pv 8) (pv 9) (fun _ _ => rfl)) pa_nil))))) pa_nil)))))
    pss_nil)
    (pss_one (ps_expr (pe_bmK (K := K) rfl PySem.F.plainAttrs_list PySem.F.slot_list_append PySem.F.type_list_append mt_append (pv 16) (pa_cons (pe_tup (pa_cons (pe_fnc L__law_of_four (hr.mono (by decide)) rfl (pa_cons (pe_slice (sl_listK (K := K) rfl) (pv 17) po_none (po_some pe_int)) pa_nil)) (pa_cons (pe_slice (sl_listK (K := K) rfl) (pv 17) (po_some pe_int) po_none) pa_nil))) pa_nil))))))))
    (pss_cons (ps_for PassesOwn.never rfl (pi_listK (K := K) rfl (pv 16)) (pg_tupK (K := K) (n := 2) rfl rfl (pgs_cons (pg_name (i := 9) nd rfl (Or.inl rfl)) (pgs_cons (pg_name (i := 18) nd rfl (Or.inl rfl)) pgs_nil)))
    (pss_one (ps_dput hu (pv 8) (pv 9) (pv 18) rfl)))
    (pss_one (ps_par (i := 7) (j := 11) rfl nd rfl rfl (by decide) rfl rfl (pa_cons (pe_op op_add (pv 7) pe_int) (pa_cons (pe_op op_add (pv 11) (pv 14)) pa_nil)) rfl))))))))))))))))))), ?_⟩
    have f16 : ∀ n, (fOf xs n).length = 16 := fun n => by rw [← dOf_read]; exact ok.fit.rd n
    have few := ok.few
    have lus := pd_len pu
    obtain ⟨ps, kv0, rfl, pq, pr⟩ := secs_pairs (K := K) gh pu
    refine ⟨_, rfl, a, ps, kv0, rfl, SqL.of (gh _ _ ha), pq, fun hD nhD => ?_⟩
    generalize e1 : upd H hD _ = H1
    obtain ⟨s1, f1, k1, g1, z1⟩ := own_of (Stp.refl (O := O0) gh) nhD e1
    have r1 : DRel (rL rI) G (mergeK [] kv0) (ofRows xs) := merge_rel pr .nil
    generalize mergeK [] kv0 = kvs at *
    refine ⟨(by show 1 ≤ sizeLine; decide), fun q2 n2 => ?_⟩
    generalize e2 : upd H1 q2 _ = H2
    obtain ⟨s2, f2, k2, g2, z2⟩ := own_of s1 n2 e2
    refine ⟨q2, 16, _, rfl, rfl, f2, by decide, by decide, (by show 1 * 16 ≤ sizeLine; decide), fun bl nbl => ?_⟩
    generalize e3 : upd H2 bl _ = H3
    obtain ⟨G3, s3, f3, gg3, k3, gk3⟩ := data_of s2 nbl e3
    have fbl : G3 bl = some (rowI blank) := f3
    have fD3 := k3 _ _ (k2 _ _ f1)
    have r3 := r1.mono mI.l gg3
    -- the two sectors
    refine ⟨(by show 2 ≤ sizeLine; decide), fun q4 n4 => ?_⟩
    generalize e4 : upd H3 q4 _ = H4
    obtain ⟨s4, f4, k4, g4, z4⟩ := own_of s3 n4 e4
    refine ⟨q4, rfl, ⟨_, SqL.of f4⟩, fun D5 nD5 => ?_⟩
    obtain ⟨s5, f5, k5, g5, z5⟩ := own_of (o := .lst []) s4 nD5 rfl
    refine lc_list (K := K) (a := q4) (xs := [.int 0, .int 1]) (fun i H6 => ∃ acc, Stp O0 G H G3 H6 ∧ H6 q4 = some (.lst [.int 0, .int 1]) ∧ H6 hD = some (.dK kvs) ∧ H6 D5 = some (.lst acc) ∧ Paired (rL rI G3) acc ((List.range i).map fun k : Nat => fOf xs (k : Int)))
      ⟨[], s5, k5 _ _ f4, k5 _ _ (k4 _ _ fD3), f5, .nil⟩ (fun i H6 _ ⟨_, _, z, _⟩ => SqL.of z) ?_ ?_
    · rintro i y H6 hi ⟨acc, s6, f46, fD6, f56, p6⟩
      have hi2 : i < 2 := (List.getElem?_eq_some_iff.mp hi).1
      obtain rfl : y = .int (i : Int) := by
        match i, hi, hi2 with
        | 0, hi, _ => cases hi; rfl
        | 1, hi, _ => cases hi; rfl
      have l6 := pd_len p6
      rw [List.length_map, List.length_range] at l6
      obtain ⟨oo, c, g, eg, hc⟩ := dget_blank fD6 r3 fbl (i : Int)
      refine ⟨rfl, g_yes ⟨_, rfl, hD, rfl, .inl ⟨kvs, .inl fD6⟩, _, rfl, _, rfl, oo, g, ?_⟩⟩
      rw [eg]
      refine ⟨acc, f56, by rw [l6, sizeLine_eq]; omega, ?_⟩
      generalize e7 : upd H6 D5 _ = H7
      obtain ⟨s7, f7, k7⟩ := wr_of s6 f56 g5 (.inr z5) e7
      refine ⟨_, s7, k7 _ _ (ne_of_none f4 nD5) f46, k7 _ _ (ne_of_none (k4 _ _ fD3) nD5) fD6, f7, ?_⟩
      rw [List.range_succ, List.map_append]
      exact pd_snoc p6 (rLI_of hc)
    rintro H6 ⟨acc, s6, f46, fD6, f56, p6⟩
    -- the marked ones
    refine ⟨_, rfl, D5, rfl, ⟨_, SqL.of f56⟩, fun D7 nD7 => ?_⟩
    obtain ⟨s7, f7, k7, g7, z7⟩ := own_of (o := .lst []) s6 nD7 rfl
    refine lc_list (K := K) (a := D5) (xs := acc) (fun i H8 => ∃ G8 acc2, Stp O0 G H G8 H8 ∧ Same G3 G8 ∧ H8 D5 = some (.lst acc) ∧ H8 hD = some (.dK kvs) ∧ H8 D7 = some (.lst acc2) ∧ G8 D7 = none ∧ Paired (rPP G8) acc2 (rts2 (fOf xs) i))
      ⟨G3, [], s7, Same.refl _, k7 _ _ f56, k7 _ _ fD6, f7, g7, .nil⟩ (fun i H8 _ ⟨_, _, _, _, z, _⟩ => SqL.of z) ?_ ?_
    · rintro i y H8 hi ⟨G8, acc2, s8, gg8, f58, fD8, f78, g78, p8⟩
      obtain ⟨yy, hyy, rv⟩ := pd_get p6 hi
      have hi2 : i < 2 := by
        have := (List.getElem?_eq_some_iff.mp hyy).1
        rw [List.length_map, List.length_range] at this
        exact this
      have eyy : yy = fOf xs (i : Int) := by
        have hyy : ((List.range 2).map fun k : Nat => fOf xs (k : Int))[i]? = some yy := hyy
        rw [List.getElem?_map, List.getElem?_range hi2] at hyy
        exact (Option.some.inj hyy).symm
      subst eyy
      obtain ⟨c, rfl, hc⟩ := rLI rv
      have l := f16 (i : Int)
      have l8 := pd_len p8
      have l9 := rts2_len (fOf xs) i
      have hc8 := s8.gh _ _ (gg8 _ _ hc)
      refine ⟨rfl, _, rfl, c, _, _, _, rfl, rfl, SqL.of hc8, at_of (j := 0) rfl (at0 (by omega)), rfl, _, rfl, if_int (fun e0 => ?_) (fun e0 => ?_)⟩
      · refine ⟨_, rfl, _, rfl, _, rfl, c, _, rfl, SqL.of hc8, fun p1 n1 => ?_⟩
        rw [cut_mid1]
        generalize eA : upd H8 p1 _ = HA
        obtain ⟨sA, fA, kA, gA, zA⟩ := own_of s8 n1 eA
        refine ⟨p1, _, rfl, fA, by rw [sl_len (by omega)]; decide, _, rfl, _, rfl, _, rfl, c, _, rfl, SqL.of (kA _ _ hc8), fun p2 n2 => ?_⟩
        rw [cut_mid5]
        generalize eB : upd HA p2 _ = HB
        obtain ⟨sB, fB, kB, gB, zB⟩ := own_of sA n2 eB
        refine ⟨p2, _, rfl, fB, by rw [sl_len (by omega)]; decide, (by show 2 ≤ sizeLine; decide), fun t nt => ?_⟩
        generalize eC : upd HB t _ = HC
        obtain ⟨GC, sC, fC, ggC, kC, gkC⟩ := data_of sB nt eC
        have f7C := kC _ _ (kB _ _ (kA _ _ f78))
        have g7C : GC D7 = none := by rw [gkC D7 (ne_of_none (kB _ _ (kA _ _ f78)) nt)]; exact g78
        refine ⟨acc2, f7C, by rw [l8, sizeLine_eq]; omega, ?_⟩
        generalize eE : upd HC D7 _ = HE
        obtain ⟨sE, fE, kE⟩ := wr_of sC f7C g7C (.inr z7) eE
        refine ⟨GC, _, sE, gg8.trans ggC, kE _ _ (ne_of_none f56 nD7) (kC _ _ (kB _ _ (kA _ _ f58))), kE _ _ (ne_of_none fD6 nD7) (kC _ _ (kB _ _ (kA _ _ fD8))), fE, g7C, ?_⟩
        rw [rts2_snoc]
        have : rootAt (fOf xs) (i : Int) = some (ofFour (sl (fOf xs (i : Int)) 1 5), ofFour (sl (fOf xs (i : Int)) 5 9)) := by unfold rootAt; rw [if_pos e0]
        rw [this]
        exact pd_snoc ((mI.p mI).ps ggC p8) ⟨t, _, _, rfl, fC, rfl, rfl⟩
      · refine ⟨G8, acc2, s8, gg8, f58, fD8, f78, g78, ?_⟩
        rw [rts2_snoc]
        have : rootAt (fOf xs) (i : Int) = none := by unfold rootAt; rw [if_neg e0]
        rw [this]
        show Paired _ _ (_ ++ [])
        rw [List.append_nil]
        exact p8
    rintro H8 ⟨G8, acc2, s8, gg8, f58, fD8, f78, g78, p8⟩
    have l6 : acc.length = 2 := by
      have := pd_len p6
      rw [List.length_map, List.length_range] at this
      exact this
    rw [l6] at p8
    have l8 := pd_len p8
    refine ⟨LtA G H a xs, ?_, ?_⟩
    · refine ⟨_, rfl, D7, _, rfl, .inl (SqL.of f78), _, _, rfl, rfl, _, rfl, if_dec (fun hz => ?_) (fun hz => ?_)⟩
      · cases hx : rts2 (fOf xs) 2 with
        | nil => rw [hx] at l8; rw [l8] at hz; exact absurd hz (by decide)
        | cons x ys =>
          rw [hx] at p8
          refine ⟨_, rfl, D7, acc2, x, ys, rfl, SqL.of f78, dpAll_of ePP s8.gh p8, by decide, fun i v hv he => ?_⟩
          obtain ⟨y, hy, rv⟩ := pd_get p8 hv
          rw [he] at hy
          cases hy
          obtain ⟨t3, u3, w3, rfl, a1, rfl, rfl⟩ := rv
          refine g_pair (s8.gh _ _ a1) ?_
          rw [← newest_max2 hx]
          exact ⟨G8, hD, bl, kvs, _, _, _, rfl, s8, fD8, z1, r3.mono mI.l gg8, gg8 _ _ fbl⟩
      · refine ⟨(by show 2 ≤ sizeLine; decide), fun t nt => ?_⟩
        generalize eA : upd H8 t _ = HA
        obtain ⟨sA, fA, kA, gA, zA⟩ := own_of s8 nt eA
        have hr0 : rts2 (fOf xs) 2 = [] := List.eq_nil_of_length_eq_zero (by omega)
        have en := newest_none2 hr0
        refine g_pair fA ⟨G8, hD, bl, kvs, _, _, _, by rw [en]; rfl, sA, kA _ _ fD8, z1, r3.mono mI.l gg8, gg8 _ _ fbl⟩
    clear s8 f58 fD8 f78 g78 p8 s6 f46 fD6 f56 p6 r1 r3 s1 s2 s3 s4 s5 s7 e1 e2 e3 e4
    rintro σ H1' ⟨G1, hD, bl, kvs, x3, x4, x5, rfl, s1, fD1, zD, r1, fbl⟩
    have lsy : (ofRows xs).length ≤ 900 := by
      have f := synS_len xs []
      have f : (ofRows xs).length ≤ 0 + xs.length := f
      omega
    have ndx : ((ofRows xs).map (·.1)).Nodup := synS_nd xs [] (by simp)
    refine fun pD npD => ?_
    generalize e2 : upd H1' pD _ = H2
    obtain ⟨s2, f2, k2, g2, z2⟩ := own_of s1 npD e2
    have nhp : hD ≠ pD := ne_of_none fD1 npD
    have fD2 := k2 _ _ fD1
    refine ⟨_, rfl, hD, kvs, _, rfl, .inl fD2, r1.keys, by rw [List.length_map]; omega, fun ys N pm asc nN => ?_⟩
    have eys : ys = nums ((ofRows xs).map (·.1)) := asc_same (lt_of_le_nodup ys asc (pm.nodup_iff.mpr ndx)) (asc_nums _) fun q => by rw [pm.mem_iff, mem_nums]
    generalize e3 : upd H2 N _ = H3
    obtain ⟨s3, f3, k3, g3, z3⟩ := own_of s2 nN e3
    have nNp : N ≠ pD := (ne_of_none f2 nN).symm
    refine ⟨N, rfl, ⟨_, SqL.of f3⟩, for_list (K := K) (a := N) (xs := ys.map V.int)
      (fun i σ H4 => (∃ x9, σ = [some (.ref a), some (.ref hD), some (.ref bl), x3, x4, x5, some (.int (newest (fOf xs)).2.1), some (.int (newest (fOf xs)).2.2), some (.ref pD), x9, none, none, none, none, none, none, none, none, none]) ∧
        ∃ G4 kv ds, Stp O0 G H G4 H4 ∧ Same G1 G4 ∧ H4 hD = some (.dK kvs) ∧ H4 N = some (rowI ys) ∧ H4 pD = some (.dK kv) ∧ G4 pD = none ∧ DRel (rL rI) G4 kv ds ∧ (ds.map (·.1)).Nodup ∧ (∀ n, n ∈ ds.map (·.1) ↔ n ∈ (((ys.take i).filter isHome).map fun y => (y - 2) / 8)) ∧ (∀ y ∈ ds, y.2 = []) ∧ ds.length ≤ i)
      ⟨⟨_, rfl⟩, G1, [], [], s3, Same.refl _, k3 _ _ fD2, f3, k3 _ _ f2, g2, .nil, by simp, fun n => by simp, (fun y hy => by cases hy), Nat.le_refl _⟩ (fun i σ H4 _ ⟨_, _, _, _, _, _, _, z, _⟩ => SqL.of z) ?_ ?_⟩
    · rintro i y σ H4 hi ⟨⟨x9, rfl⟩, G4, kv, ds, s4, gg4, fD4, fN4, fp4, gp4, r4, nd4, mem4, nil4, l4⟩
      obtain ⟨n, hn, rfl⟩ := int_at hi
      have hi2 := (List.getElem?_eq_some_iff.mp hn).1
      have ly : ys.length ≤ 900 := by rw [pm.length_eq, List.length_map]; exact lsy
      have memN : ∀ b : Bool, isHome n = b → ∀ q, q ∈ (((ys.take (i + 1)).filter isHome).map fun y => (y - 2) / 8) ↔ (q ∈ ds.map (·.1) ∨ (b = true ∧ q = (n - 2) / 8)) := fun b hb q => by
        rw [take_snoc hn, List.filter_append, List.map_append, List.mem_append, ← mem4 q]
        cases b <;> simp [hb]
      have no : isHome n = false → (∃ G4 kv ds, Stp O0 G H G4 H4 ∧ Same G1 G4 ∧ H4 hD = some (.dK kvs) ∧ H4 N = some (rowI ys) ∧ H4 pD = some (.dK kv) ∧ G4 pD = none ∧ DRel (rL rI) G4 kv ds ∧ (ds.map (·.1)).Nodup ∧ (∀ n, n ∈ ds.map (·.1) ↔ n ∈ (((ys.take (i + 1)).filter isHome).map fun y => (y - 2) / 8)) ∧ (∀ y ∈ ds, y.2 = []) ∧ ds.length ≤ i + 1) := fun hb =>
        ⟨G4, kv, ds, s4, gg4, fD4, fN4, fp4, gp4, r4, nd4, fun q => by rw [memN false hb q]; simp, nil4, by omega⟩
      refine ⟨_, rfl, _, _, rfl, rfl, _, rfl, if_dec (fun h2 => ?_) (fun h2 => iteF ⟨⟨_, rfl⟩, no (by unfold isHome; rw [decide_eq_false h2, Bool.false_and])⟩)⟩
      refine ⟨_, rfl, _, _, rfl, rfl, (by show (0 : Int) < 2; decide), rfl, _, rfl, if_int (fun h3 => ?_) (fun h3 => ⟨⟨_, rfl⟩, no (by unfold isHome; rw [decide_eq_false h3, Bool.and_false])⟩)⟩
      have hb : isHome n = true := by unfold isHome; rw [decide_eq_true h2, decide_eq_true h3]; rfl
      refine ⟨(by show 0 ≤ sizeLine; decide), fun q nq => ?_⟩
      generalize e5 : upd H4 q _ = H5
      obtain ⟨G5, s5, f5, gg5, k5, gk5⟩ := data_of s4 nq e5
      have fp5 := k5 _ _ fp4
      have gp5 : G5 pD = none := by rw [gk5 pD (ne_of_none fp4 nq)]; exact gp4
      have lk := pd_len r4
      refine ⟨_, rfl, _, rfl, _, _, rfl, rfl, _, _, rfl, rfl, (by show (0 : Int) < 8 ∧ (8 : Int) < 1073741824; decide), pD, _, rfl, DPut.k (k := Sum.inl ((n - 2) / 8)) fp5 (by rw [lk, sizeLine_eq]; omega), ?_⟩
      generalize e6 : upd H5 pD _ = H6
      obtain ⟨s6, f6, k6⟩ := wr_of s5 fp5 gp5 (.inr z2) e6
      have lp := put_len ds ((n - 2) / 8) []
      refine ⟨⟨_, rfl⟩, G5, _, put ds ((n - 2) / 8) [], s6, gg4.trans gg5, k6 _ _ nhp (k5 _ _ fD4), k6 _ _ nNp (k5 _ _ fN4), f6, gp5, (r4.mono mI.l gg5).put (rLI_of (xs := []) f5), put_nodup _ _ _ nd4, fun q => ?_, fun y hy => ?_, by omega⟩
      · rw [memN true hb q, put_keys, look_any]
        cases hl : (look ds ((n - 2) / 8)).isSome with
        | true =>
          have := look_isSome.mp hl
          simp
          intro e
          rw [e]
          simpa using this
        | false => simp
      · rcases put_mem hy with e | e
        · rw [e]
        · exact nil4 y e
    rintro σ H4 ⟨⟨x9, rfl⟩, G4, kv, ds, s4, gg4, fD4, fN4, fp4, gp4, r4, nd4, mem4, nil4, l4⟩
    rw [List.length_map] at l4 mem4
    rw [List.take_of_length_le (Nat.le_refl _)] at mem4
    have ly : ys.length ≤ 900 := by rw [pm.length_eq, List.length_map]; exact lsy
    have mem5 : ∀ n, n ∈ ds.map (·.1) ↔ n ∈ homeNs (ofRows xs) := fun n => by
      rw [mem4 n]
      unfold homeNs
      constructor
      · intro h
        obtain ⟨y, hy, rfl⟩ := List.mem_map.mp h
        obtain ⟨h1, h2⟩ := List.mem_filter.mp hy
        obtain ⟨z, hz, rfl⟩ := List.mem_map.mp (pm.mem_iff.mp h1)
        exact List.mem_map.mpr ⟨z, List.mem_filter.mpr ⟨hz, h2⟩, rfl⟩
      · intro h
        obtain ⟨y, hy, rfl⟩ := List.mem_map.mp h
        obtain ⟨h1, h2⟩ := List.mem_filter.mp hy
        exact List.mem_map.mpr ⟨y.1, List.mem_filter.mpr ⟨pm.mem_iff.mpr (List.mem_map.mpr ⟨y, h1, rfl⟩), h2⟩, rfl⟩
    clear mem4 s1 s2 s3
    refine ⟨LtB G H a xs, ?_, ?_⟩
    · refine ⟨_, rfl, pD, kv, _, rfl, .inl fp4, r4.keys, by rw [List.length_map]; omega, fun zs M pm2 asc2 nM => ?_⟩
      have ezs : zs = nums (ds.map (·.1)) := asc_same (lt_of_le_nodup zs asc2 (pm2.nodup_iff.mpr nd4)) (asc_nums _) fun q => by rw [pm2.mem_iff, mem_nums]
      have ndz : zs.Nodup := pm2.nodup_iff.mpr nd4
      generalize e5 : upd H4 M _ = H5
      obtain ⟨s5, f5, k5, g5, z5⟩ := own_of s4 nM e5
      have nMp : M ≠ pD := (ne_of_none fp4 nM).symm
      refine ⟨M, rfl, ⟨_, SqL.of f5⟩, for_list (K := K) (a := M) (xs := zs.map V.int)
        (fun i σ H6 => (∃ x9 x10, σ = [some (.ref a), some (.ref hD), some (.ref bl), x3, x4, x5, some (.int (newest (fOf xs)).2.1), some (.int (newest (fOf xs)).2.2), some (.ref pD), x9, x10, none, none, none, none, none, none, none, none]) ∧
          ∃ G6 kv6 ds6, Stp O0 G H G6 H6 ∧ Same G4 G6 ∧ H6 hD = some (.dK kvs) ∧ H6 M = some (rowI zs) ∧ H6 pD = some (.dK kv6) ∧ G6 pD = none ∧ DRel (rL rI) G6 kv6 ds6 ∧ ds6.map (·.1) = ds.map (·.1) ∧ (∀ m ∈ zs.take i, look ds6 m = some (catH (fOf xs) m 4)) ∧ (∀ m ∈ zs.drop i, look ds6 m = some []))
        ⟨⟨_, _, rfl⟩, G4, kv, ds, s5, Same.refl _, k5 _ _ fD4, f5, k5 _ _ fp4, gp4, r4, rfl, (fun m hm => by simp at hm), fun m hm => ?_⟩ (fun i σ H6 _ ⟨_, _, _, _, _, _, _, z, _⟩ => SqL.of z) ?_ ?_⟩
      · have hm : m ∈ zs := by simpa using hm
        obtain ⟨y, hy⟩ := Option.isSome_iff_exists.mp (look_isSome.mpr (pm2.mem_iff.mp hm))
        have e0 : y = [] := nil4 _ (look_some_mem hy)
        rw [hy, e0]
      · rintro i y σ H6 hi ⟨⟨x9, x10, rfl⟩, G6, kv6, ds6, s6, gg6, fD6, fM6, fp6, gp6, r6, ek6, dn6, td6⟩
        obtain ⟨n, hn, rfl⟩ := int_at hi
        have hi2 := (List.getElem?_eq_some_iff.mp hn).1
        have hdrop : zs.drop i = n :: zs.drop (i + 1) := by
          rw [List.drop_eq_getElem_cons hi2]
          rw [List.getElem?_eq_getElem hi2] at hn
          rw [Option.some.inj hn]
        have ndd : (n :: zs.drop (i + 1)).Nodup := by rw [← hdrop]; exact ndz.sublist (List.drop_sublist _ _)
        have ndt : n ∉ zs.take i := fun h => by
          have := ndz
          rw [← List.take_append_drop i zs, hdrop] at this
          exact (List.nodup_append.mp this).2.2 n h n List.mem_cons_self rfl
        refine ⟨4, rfl, by decide, by decide, for_range (n := 4)
          (fun j σ H7 => j ≤ 4 ∧ (∃ x10, σ = [some (.ref a), some (.ref hD), some (.ref bl), x3, x4, x5, some (.int (newest (fOf xs)).2.1), some (.int (newest (fOf xs)).2.2), some (.ref pD), some (.int n), x10, none, none, none, none, none, none, none, none]) ∧
            ∃ G7 kv7 ds7, Stp O0 G H G7 H7 ∧ Same G4 G7 ∧ H7 hD = some (.dK kvs) ∧ H7 M = some (rowI zs) ∧ H7 pD = some (.dK kv7) ∧ G7 pD = none ∧ DRel (rL rI) G7 kv7 ds7 ∧ ds7.map (·.1) = ds.map (·.1) ∧ look ds7 n = some (catH (fOf xs) n j) ∧ ∀ m, m ≠ n → look ds7 m = look ds6 m)
          ⟨Nat.zero_le _, ⟨_, rfl⟩, G6, kv6, ds6, s6, gg6, fD6, fM6, fp6, gp6, r6, ek6, td6 n (by rw [hdrop]; exact List.mem_cons_self), fun _ _ => rfl⟩ ?_ ?_⟩
        · rintro j σ H7 hj ⟨_, ⟨x10, rfl⟩, G7, kv7, ds7, s7, gg7, fD7, fM7, fp7, gp7, r7, ek7, ln7, lo7⟩
          obtain ⟨v, hv, rv⟩ := r7.look_some ln7
          obtain ⟨c, rfl, hc⟩ := rLI rv
          have g := DGet.k (k := Sum.inl n) fp7
          rw [hv] at g
          have r1' := r1.mono mI.l (gg4.trans gg7)
          have fb' := gg7 _ _ (gg4 _ _ fbl)
          obtain ⟨oo, c2, g2', eg, hc2⟩ := dget_blank fD7 r1' fb' (2 + 2 * (4 * n + (0 + (j : Int))))
          have lc : ((catH (fOf xs) n j)).length = 16 * j := by
            unfold catH
            have : ∀ m : Nat, ((List.range m).flatMap fun k : Nat => fOf xs (hm n k)).length = 16 * m := fun m => by
              induction m with
              | zero => rfl
              | succ m ih => rw [List.range_succ, List.flatMap_append, List.length_append, ih]; simp [f16]; omega
            exact this j
          have cm : ∀ z : Int, CMul 2 z := fun z => .inl ⟨by decide, by decide⟩
          have cm4 : ∀ z : Int, CMul 4 z := fun z => .inl ⟨by decide, by decide⟩
          refine ⟨_, rfl, _, rfl, pD, _, rfl, g, _, rfl, hD, rfl, .inl ⟨kvs, .inl fD7⟩, _, rfl, _, _, rfl, rfl, cm4 _, _, rfl, _, _, rfl, rfl, _, _, rfl, rfl, cm _, _, _, rfl, rfl, _, rfl, oo, g2', ?_⟩
          rw [eg]
          refine ⟨c, c2, _, _, rfl, rfl, s7.gh _ _ hc, s7.gh _ _ hc2, by rw [List.length_map, List.length_map, lc, f16, sizeLine_eq]; omega, fun q nq => ?_⟩
          rw [← List.map_append]
          generalize e8 : upd H7 q _ = H8
          obtain ⟨G8, s8, f8, gg8, k8, gk8⟩ := data_of s7 nq e8
          have fp8 := k8 _ _ fp7
          have gp8 : G8 pD = none := by rw [gk8 pD (ne_of_none fp7 nq)]; exact gp7
          have lk := pd_len r7
          have ll7 : ds7.length = ds.length := by rw [← List.length_map (f := (·.1)), ek7, List.length_map]
          refine ⟨_, rfl, _, rfl, pD, _, rfl, DPut.k (k := Sum.inl n) fp8 (by rw [lk, ll7, sizeLine_eq]; omega), ?_⟩
          generalize e9 : upd H8 pD _ = H9
          obtain ⟨s9, f9, k9⟩ := wr_of s8 fp8 gp8 (.inr z2) e9
          have ec : catH (fOf xs) n j ++ fOf xs (2 + 2 * (4 * n + (0 + (j : Int)))) = catH (fOf xs) n (j + 1) := by
            unfold catH
            rw [List.range_succ, List.flatMap_append]
            simp [hm]
          rw [ec] at f8
          refine ⟨hj, ⟨_, rfl⟩, G8, _, put ds7 n (catH (fOf xs) n (j + 1)), s9, gg7.trans gg8, k9 _ _ nhp (k8 _ _ fD7), k9 _ _ nMp (k8 _ _ fM7), f9, gp8, (r7.mono mI.l gg8).put (rLI_of f8), ?_, by rw [look_put, if_pos rfl], fun m hm' => by rw [look_put, if_neg hm']; exact lo7 m hm'⟩
          rw [put_keys, look_any, ln7]
          exact ek7
        · rintro σ H7 ⟨_, ⟨x10, rfl⟩, G7, kv7, ds7, s7, gg7, fD7, fM7, fp7, gp7, r7, ek7, ln7, lo7⟩
          refine ⟨⟨_, _, rfl⟩, G7, kv7, ds7, s7, gg7, fD7, fM7, fp7, gp7, r7, ek7, fun m hm' => ?_, fun m hm' => ?_⟩
          · rw [take_snoc hn] at hm'
            rcases List.mem_append.mp hm' with h | h
            · rw [lo7 m (fun e => ndt (e ▸ h))]
              exact dn6 m h
            · rw [List.mem_singleton] at h
              rw [h]
              exact ln7
          · have h1 : m ∈ zs.drop i := by rw [hdrop]; exact List.mem_cons_of_mem _ hm'
            rw [lo7 m (fun e => (List.nodup_cons.mp ndd).1 (e ▸ hm'))]
            exact td6 m h1
      · rintro σ H6 ⟨⟨x9, x10, rfl⟩, G6, kv6, ds6, s6, gg6, fD6, fM6, fp6, gp6, r6, ek6, dn6, td6⟩
        rw [List.length_map, List.take_of_length_le (Nat.le_refl _)] at dn6
        refine ⟨G6, hD, bl, pD, kvs, kv6, ds6, _, _, _, _, _, rfl, s6, fD6, zD, r1.mono mI.l (gg4.trans gg6), gg6 _ _ (gg4 _ _ fbl), fp6, z2, gp6, nhp, r6, by rw [ek6]; exact nd4, fun n => by rw [ek6]; exact mem5 n, fun n hn => ?_⟩
        rw [ek6] at hn
        rw [dn6 n (pm2.mem_iff.mpr hn), catH_4]
    clear s4 fD4 fN4 fp4 gp4 r4 nd4 mem5 nil4 l4 f2 f3 z2 z3 fD1 zD r1 fbl fD2 nhp npD nN nNp e2 e3
    rintro σ H2 ⟨G2, hD, bl, pD, kvs, kv2, ds, x3, x4, x5, x9, x10, rfl, s2, fD2, zD, r1, fbl, fp2, zp, gp2, nhp, r2, nd2, mem2, home2⟩
    have lsy : (ofRows xs).length ≤ 900 := by
      have f := synS_len xs []
      have f : (ofRows xs).length ≤ 0 + xs.length := f
      omega
    have lds : ds.length ≤ 900 := by
      have h1 : ds.length = (ds.map (·.1)).length := (List.length_map _).symm
      have h2 := homeNs_len (ofRows xs)
      have h3 : (ds.map (·.1)).length ≤ (homeNs (ofRows xs)).length := nodup_le nd2 fun n hn => (mem2 n).mp hn
      omega
    generalize hep : (newest (fOf xs)).2.1 = ep at *
    generalize hm0 : (newest (fOf xs)).2.2 = m0 at *
    have lgx : LogIs (fOf xs) ep 0 bs e := by rw [← hep]; exact ok.log
    have cm2 : ∀ z : Int, CMul 2 z := fun z => .inl ⟨by decide, by decide⟩
    have cm68 : ∀ z : Int, CMul 68 z := fun z => .inl ⟨by decide, by decide⟩
    refine ⟨fun m σ H3 => ∃ (G3 : Hp) (bd b2 : List BRows) (e3 : Int) (kv : List (Key × V)) (y4 y9 y10 y12 y13 y14 y15 y16 y17 y18 : Option V), m = b2.length ∧ σ = [some (.ref a), some (.ref hD), some (.ref bl), x3, y4, x5, some (.int ep), some (.int (m0 + bd.length)), some (.ref pD), y9, y10, some (.int e3), y12, y13, y14, y15, y16, y17, y18] ∧
      Stp O0 G H G3 H3 ∧ Same G2 G3 ∧ H3 hD = some (.dK kvs) ∧ H3 pD = some (.dK kv) ∧ G3 pD = none ∧ DRel (rL rI) G3 kv (bd.foldl takeR ds) ∧ bd ++ b2 = bs ∧ LogIs (fOf xs) ep e3 b2 e,
      ⟨_, G2, [], bs, 0, kv2, _, _, _, _, _, _, _, _, _, _, rfl, by rw [show m0 + (([] : List BRows).length : Int) = m0 from Int.add_zero _]; rfl, s2, Same.refl _, fD2, fp2, gp2, r2, rfl, lgx⟩, ?_⟩
    rintro m σ H3 ⟨G3, bd, b2, e3, kv, y4, y9, y10, y12, y13, y14, y15, y16, y17, y18, rfl, rfl, s3, gg3, fD3, fp3, gp3, r3, ebs, lg3⟩
    have r13 := r1.mono mI.l gg3
    have fb3 := gg3 _ _ fbl
    -- the end, wherever it is met
    have fin : ∀ (σ' : L2.St) (G4 H4 : Hp), (∀ g ∈ b2, False) → (∃ z4 z12 z13 z14 z15 z16 z17, σ' = [some (.ref a), some (.ref hD), some (.ref bl), x3, z4, x5, some (.int ep), some (.int (m0 + bd.length)), some (.ref pD), y9, y10, some (.int e3), z12, z13, z14, z15, z16, z17, y18]) → Stp O0 G H G4 H4 → Same G3 G4 → H4 pD = some (.dK kv) →
        tTup (tCons (tVar 7) (tCons (tLc (iList K (tCB rSDA (tCons (tVar 8) tNil))) (gName 9) (tTest (tOp (rNeD K) (tDGet (tVar 8) (tVar 9)) (tOp rRep (tLst (tCons (tC (.int 0)) tNil)) (tC (.int 64))))) (tTup (tCons (tVar 9) (tCons (tDGet (tVar 8) (tVar 9)) tNil))) [9]) tNil)) σ' H4 Q := by
      rintro σ' G4 H4 hb ⟨z4, z12, z13, z14, z15, z16, z17, rfl⟩ s4 gg4 fp4
      have eb2 : b2 = [] := by
        cases b2 with
        | nil => rfl
        | cons g r => exact (hb g List.mem_cons_self).elim
      have ebd : bd = bs := by rw [eb2, List.append_nil] at ebs; exact ebs
      have few2 : (bd.foldl takeR ds).length ≤ 10000 := by
        have := (takeR_all bd ds)
        have hs := ok.sum
        rw [ebd] at this ⊢
        omega
      have ndf : ((bd.foldl takeR ds).map (·.1)).Nodup := by
        have : ∀ (bs : List BRows) (d : List (Int × Page)), (d.map (·.1)).Nodup → ((bs.foldl takeR d).map (·.1)).Nodup := fun bs => by
          induction bs with
          | nil => intro d h; exact h
          | cons g bs ih => intro d h; exact ih _ (takeR_keys h g)
        exact this bd ds nd2
      refine ⟨_, rfl, lc_pages s4 gh fp4 (r3.mono mI.l gg4) ndf few2 (fun Q' h => ⟨_, rfl, h⟩) (fun _ _ Q' _ h => ⟨_, rfl, h⟩) (fun _ => rfl) (fun _ => rfl) fun l G5 H5 s5 nl rl => ⟨(by show 2 ≤ sizeLine; decide), fun t nt => ?_⟩⟩
      generalize e6 : upd H5 t _ = H6
      obtain ⟨G6, s6, f6, gg6, k6, gk6⟩ := data_of s5 nt e6
      refine k _ G6 H6 s6 ⟨t, _, _, rfl, f6, ?_, ?_⟩
      · show V.int _ = V.int _
        unfold toldOf
        rw [hm0, ← ebd]
      · have := rowsOf_eq (bs := bs) nd2 mem2 home2
        unfold toldOf
        rw [← this, ← ebd]
        exact mRow.l _ _ _ _ gg6 rl
    refine ⟨_, rfl, iteT ⟨fun σ' H' => ∃ m', m' < b2.length ∧ _, fun σ' H' z => z, ?_⟩⟩
    obtain ⟨oo, c, g, eg, hc⟩ := dget_blank fD3 r13 fb3 (3 + 2 * e3)
    refine ⟨_, rfl, hD, rfl, .inl ⟨kvs, .inl fD3⟩, _, rfl, _, _, rfl, rfl, cm2 _, _, _, rfl, rfl, _, rfl, oo, g, ?_⟩
    rw [eg]
    have l := f16 (3 + 2 * e3)
    have hc3 := s3.gh _ _ hc
    refine ⟨_, rfl, c, _, _, _, rfl, rfl, SqL.of hc3, at_of (j := 0) rfl (at0 (by omega)), rfl, _, rfl, if_nint (fun e0 => iteT ?_) (fun e0 => ?_)⟩
    · refine fin _ G3 H3 (fun g hg => ?_) ⟨_, _, _, _, _, _, _, rfl⟩ s3 (Same.refl _) fp3
      cases lg3 with
      | nil => cases hg
      | cons hb _ _ =>
        unfold batchAt at hb
        rw [if_neg fun z => e0 z.1] at hb
        cases hb
    refine ⟨_, rfl, _, rfl, _, rfl, c, _, rfl, SqL.of hc3, fun p1 n1 => ?_⟩
    rw [cut_mid1]
    generalize e4 : upd H3 p1 _ = H4
    obtain ⟨s4, f4, k4, g4, z4⟩ := own_of s3 n1 e4
    refine ⟨p1, _, rfl, f4, by rw [sl_len (by omega)]; decide, _, rfl, rfl, _, rfl, if_nint (fun e1 => ?_) (fun e1 => ?_)⟩
    · refine fin _ G3 H4 (fun g hg => ?_) ⟨_, _, _, _, _, _, _, rfl⟩ s4 (Same.refl _) (k4 _ _ fp3)
      cases lg3 with
      | nil => cases hg
      | cons hb _ _ =>
        unfold batchAt at hb
        rw [if_neg fun z => e1 z.2] at hb
        cases hb
    have hdk : headOk (fOf xs) e3 ep := ⟨e0, e1⟩
    have hcnt : CntOk (fOf xs) e3 ep := by
      cases lg3 with
      | nil _ h => exact h
      | cons _ h _ => exact h
    obtain ⟨c0, c1, c2⟩ := hcnt hdk
    refine ⟨_, rfl, _, rfl, _, rfl, c, _, rfl, SqL.of (k4 _ _ hc3), fun p2 n2 => ?_⟩
    rw [cut_mid5]
    generalize e5 : upd H4 p2 _ = H5
    obtain ⟨s5, f5, k5, g5, z5⟩ := own_of s4 n2 e5
    refine ⟨p2, _, rfl, f5, by rw [sl_len (by omega)]; decide, ?_⟩
    refine ⟨_, rfl, _, rfl, c, _, rfl, SqL.of (k5 _ _ (k4 _ _ hc3)), fun O nO => ?_⟩
    rw [cut_1]
    generalize e6 : upd H5 O _ = H6
    obtain ⟨G6, s6, f6, gg6, k6, gk6⟩ := data_of s5 nO e6
    refine ⟨(by show 0 ≤ sizeLine; decide), fun R nR => ?_⟩
    generalize e7 : upd H6 R _ = H7
    obtain ⟨s7, f7, k7, g7, z7⟩ := own_of s6 nR e7
    refine ⟨_, _, _, rfl, ?_⟩
    have fD7 := k7 _ _ (k6 _ _ (k5 _ _ (k4 _ _ fD3)))
    have fp7 := k7 _ _ (k6 _ _ (k5 _ _ (k4 _ _ fp3)))
    have gp6 : G6 pD = none := by rw [gk6 pD (ne_of_none (k5 _ _ (k4 _ _ fp3)) nO)]; exact gp3
    have nRp : R ≠ pD := (ne_of_none (k6 _ _ (k5 _ _ (k4 _ _ fp3))) nR).symm
    have nRD : R ≠ hD := (ne_of_none (k6 _ _ (k5 _ _ (k4 _ _ fD3))) nR).symm
    have ecnt : ofFour (sl (fOf xs (lg e3)) 5 9) = ((cnt (fOf xs) e3 : Nat) : Int) := by unfold cnt; omega
    have ec13 : (V.int (ofFour (sl (fOf xs (3 + 2 * e3)) 5 9))) = V.int ((cnt (fOf xs) e3 : Nat) : Int) := congrArg V.int ecnt
    refine ⟨_, rfl, _, rfl, by show -(2 ^ 62) ≤ _; have : (3 + 2 * e3) = lg e3 := rfl; rw [this]; omega, by have : (3 + 2 * e3) = lg e3 := rfl; rw [this]; omega, for_range (n := cnt (fOf xs) e3)
      (fun i σ H8 => i ≤ cnt (fOf xs) e3 ∧ ∃ (G8 : Hp) (O8 : Addr) (us : List V) (z4 z17 : Option V), σ = [some (.ref a), some (.ref hD), some (.ref bl), x3, z4, x5, some (.int ep), some (.int (m0 + bd.length)), some (.ref pD), y9, y10, some (.int e3), some (.ref c), some (.int (ofFour (sl (fOf xs (3 + 2 * e3)) 5 9))), some (.int (secs i : Nat)), some (.ref O8), some (.ref R), z17, y18] ∧
        Stp O0 G H G8 H8 ∧ Same G3 G8 ∧ H8 hD = some (.dK kvs) ∧ H8 pD = some (.dK kv) ∧ G8 pD = none ∧ G8 O8 = some (rowI (strm (fOf xs) e3 (secs i))) ∧ H8 R = some (.lst us) ∧ G8 R = none ∧ Paired (rSec G8) us (browsN (fOf xs) e3 i) ∧ rising (browsN (fOf xs) e3 i))
      ⟨Nat.zero_le _, G6, O, [], _, _, rfl, s7, gg6, fD7, fp7, gp6, by rw [show secs 0 = 1 from rfl, strm_one]; exact f6, f7, g7, .nil, List.Pairwise.nil⟩ ?_ ?_⟩
    · rintro i σ H8 hi ⟨_, G8, O8, us8, z4', z17, rfl, s8, gg8, fD8, fp8, gp8, gO8, fR8, gR8, pR8, rR8⟩
      have cl : i ≤ 60000 := c2 i (by omega) rR8
      have le1 : secs i ≤ secs (i + 1) := secs_le (Nat.le_succ _)
      have le2 : secs (i + 1) ≤ 300000 := by unfold secs; omega
      have e81 : (22 + 68 * (i + 1)) / 15 = secs (i + 1) := rfl
      refine ⟨fun m σ H9 => ∃ (mm : Nat) (G9 : Hp) (O9 : Addr), m = secs (i + 1) - mm ∧ secs i ≤ mm ∧ mm ≤ secs (i + 1) ∧ σ = [some (.ref a), some (.ref hD), some (.ref bl), x3, some (.int (0 + (i : Int))), x5, some (.int ep), some (.int (m0 + bd.length)), some (.ref pD), y9, y10, some (.int e3), some (.ref c), some (.int (ofFour (sl (fOf xs (3 + 2 * e3)) 5 9))), some (.int (mm : Nat)), some (.ref O9), some (.ref R), z17, y18] ∧
        Stp O0 G H G9 H9 ∧ Same G8 G9 ∧ H9 hD = some (.dK kvs) ∧ H9 pD = some (.dK kv) ∧ G9 pD = none ∧ G9 O9 = some (rowI (strm (fOf xs) e3 mm)) ∧ H9 R = some (.lst us8) ∧ G9 R = none, ⟨_, secs i, G8, O8, rfl, Nat.le_refl _, le1, rfl, s8, Same.refl _, fD8, fp8, gp8, gO8, fR8, gR8⟩, ?_⟩
      rintro m σ H9 ⟨mm, G9, O9, rfl, m1, m2, rfl, s9, gg9, fD9, fp9, gp9, gO9, fR9, gR9⟩
      have lstrm := strm_len (rd := fOf xs) f16 e3 mm
      have fO9 := s9.gh _ _ gO9
      refine ⟨_, rfl, O9, _, rfl, .inl (SqL.of fO9), _, rfl, _, _, rfl, rfl, _, _, rfl, rfl, cm68 _, _, _, rfl, rfl, _, _, rfl, rfl, _, rfl, if_dec (fun lt => ?_) (fun ge => ?_)⟩
      · rw [List.length_map, lstrm] at lt
        have m3 : mm + 1 ≤ secs (i + 1) := by omega
        refine ⟨fun σ' H' => ∃ m', m' < secs (i + 1) - mm ∧ _, fun σ' H' z => z, ?_⟩
        obtain ⟨oo, c2, g2', eg, hc2⟩ := dget_blank fD9 (r13.mono mI.l (gg8.trans gg9)) (gg9 _ _ (gg8 _ _ fb3)) (3 + 2 * (e3 + (mm : Nat)))
        refine ⟨_, rfl, _, rfl, hD, rfl, .inl ⟨kvs, .inl fD9⟩, _, rfl, _, rfl, _, _, rfl, rfl, _, _, rfl, rfl, cm2 _, _, _, rfl, rfl, _, rfl, oo, g2', ?_⟩
        rw [eg]
        refine ⟨_, rfl, c2, _, rfl, SqL.of (s9.gh _ _ hc2), fun q nq => ?_⟩
        rw [cut_1]
        generalize eA : upd H9 q _ = HA
        obtain ⟨sA, fA, kA, gA, zA⟩ := own_of s9 nq eA
        refine ⟨O9, q, _, _, rfl, rfl, kA _ _ fO9, fA, by rw [List.length_map, List.length_map, lstrm, List.length_drop, f16, sizeLine_eq]; omega, fun q2 nq2 => ?_⟩
        rw [← List.map_append]
        generalize eB : upd HA q2 _ = HB
        obtain ⟨GB, sB, fB, ggB, kB, gkB⟩ := data_of sA nq2 eB
        have es : strm (fOf xs) e3 mm ++ (fOf xs (3 + 2 * (e3 + (mm : Nat)))).drop 1 = strm (fOf xs) e3 (mm + 1) := (strm_succ _ _ _).symm
        rw [es] at fB
        have fRA := kA _ _ fR9
        have fpA := kA _ _ fp9
        refine ⟨_, rfl, _, _, rfl, rfl, _, _, rfl, secs (i + 1) - (mm + 1), by omega, mm + 1, GB, q2, rfl, by omega, m3, rfl, sB, gg9.trans ggB, kB _ _ (kA _ _ fD9), kB _ _ fpA, by rw [gkB pD (ne_of_none fpA nq2)]; exact gp9, fB, kB _ _ fRA, by rw [gkB R (ne_of_none fRA nq2)]; exact gR9⟩
      · rw [List.length_map, lstrm] at ge
        have em : mm = secs (i + 1) := by omega
        subst em
        have ea : (8 : Int) + 68 * (0 + (i : Int)) = ((8 + 68 * i : Nat) : Int) := by omega
        have eb68 : (8 : Int) + 68 * (0 + (i : Int) + 1) = ((76 + 68 * i : Nat) : Int) := by omega
        refine ⟨_, rfl, _, rfl, _, _, rfl, rfl, cm68 _, _, _, rfl, rfl, _, rfl, _, rfl, _, _, rfl, rfl, _, _, rfl, rfl, cm68 _, _, _, rfl, rfl, _, rfl, O9, _, rfl, SqL.of fO9, fun q nq => ?_⟩
        rw [ea, eb68, cut_mid _ (by omega)]
        generalize eA : upd H9 q _ = HA
        obtain ⟨GA, sA, fA, ggA, kA, gkA⟩ := data_of s9 nq eA
        have gq := fA
        have lrow : (sl (strm (fOf xs) e3 (secs (i + 1))) (8 + 68 * i) (76 + 68 * i)).length = 68 := by rw [sl_len (by omega)]; omega
        have etk : (sl (strm (fOf xs) e3 (secs (i + 1))) (8 + 68 * i) (76 + 68 * i)).take 4 = sl (strm (fOf xs) e3 (secs (i + 1))) (8 + 68 * i) (12 + 68 * i) := by
          rw [sl_head _ _ _ (by omega)]
          congr 1
          omega
        have edr : (sl (strm (fOf xs) e3 (secs (i + 1))) (8 + 68 * i) (76 + 68 * i)).drop 4 = sl (strm (fOf xs) e3 (secs (i + 1))) (12 + 68 * i) (76 + 68 * i) := by
          rw [sl_tail]
          congr 1
          omega
        have eb : (brow (fOf xs) e3 i).1 = ofFour (sl (strm (fOf xs) e3 (secs (i + 1))) (8 + 68 * i) (12 + 68 * i)) := rfl
        have eb2 : (brow (fOf xs) e3 i).2 = sl (strm (fOf xs) e3 (secs (i + 1))) (12 + 68 * i) (76 + 68 * i) := rfl
        have l12 : (sl (strm (fOf xs) e3 (secs (i + 1))) (8 + 68 * i) (12 + 68 * i)).length = 4 := by rw [sl_len (by omega)]; omega
        have lus := pd_len pR8
        have pRA := mRow.ps (gg9.trans ggA) pR8
        have fDA := kA _ _ fD9
        have fpA := kA _ _ fp9
        have fRA := kA _ _ fR9
        have gpA : GA pD = none := by rw [gkA pD (ne_of_none fp9 nq)]; exact gp9
        have gRA : GA R = none := by rw [gkA R (ne_of_none fR9 nq)]; exact gR9
        generalize hrow : sl (strm (fOf xs) e3 (secs (i + 1))) (8 + 68 * i) (76 + 68 * i) = row at *
        refine ⟨fun σ HX => σ = [some (.ref a), some (.ref hD), some (.ref bl), x3, some (.int (0 + (i : Int))), x5, some (.int ep), some (.int (m0 + bd.length)), some (.ref pD), y9, y10, some (.int e3), some (.ref c), some (.int (ofFour (sl (fOf xs (3 + 2 * e3)) 5 9))), some (.int (secs (i + 1) : Nat)), some (.ref O9), some (.ref R), some (.ref q), y18] ∧
          Stp O0 G H GA HX ∧ HX hD = some (.dK kvs) ∧ HX pD = some (.dK kv) ∧ HX R = some (.lst us8) ∧ rising (browsN (fOf xs) e3 (i + 1)), ?_, ?_⟩
        · refine ⟨_, rfl, R, _, rfl, .inl (SqL.of fRA), _, _, rfl, rfl, _, rfl, if_dec (fun h0 => ?_) (fun h0 => iteF ⟨rfl, sA, fDA, fpA, fRA, ?_⟩)⟩
          · rw [lus] at h0
            refine ⟨_, rfl, _, rfl, q, _, rfl, SqL.of (sA.gh _ _ fA), fun p3 n3 => ?_⟩
            rw [cut_to4, etk]
            generalize eB : upd HA p3 _ = HB
            obtain ⟨sB, fB, kB, gB, zB⟩ := own_of sA n3 eB
            refine ⟨p3, _, rfl, fB, by omega, ?_⟩
            rw [← eb]
            cases i with
            | zero => exact absurd h0 (by show ¬ (0 : Int) < ((0 : Nat) : Int); decide)
            | succ j =>
              have hl : us8.getLast? ≠ none := fun z => by
                rw [List.getLast?_eq_none_iff] at z
                rw [z] at lus
                unfold browsN at lus
                rw [List.length_map, List.length_range] at lus
                cases lus
              obtain ⟨u, hu'⟩ := Option.ne_none_iff_exists'.mp hl
              have hu2 : us8[j]? = some u := by
                rw [List.getLast?_eq_getElem?, lus] at hu'
                unfold browsN at hu'
                rw [List.length_map, List.length_range] at hu'
                exact hu'
              obtain ⟨r, hr2, t, v0, cc0, rfl, ht, hv, hc0⟩ := pd_get pRA hu2
              cases hv
              have hlast : (browsN (fOf xs) e3 (j + 1)).getLast? = some r := by
                rw [List.getLast?_eq_getElem?]
                unfold browsN at hr2 ⊢
                rw [List.length_map, List.length_range]
                exact hr2
              refine ⟨_, rfl, _, rfl, R, _, _, _, rfl, rfl, SqL.of (kB _ _ fRA), atI_last hu', t, _, _, _, rfl, rfl, SqT.of (sB.gh _ _ ht), at_of (j := 0) rfl rfl, _, _, rfl, rfl, _, rfl, if_dec (fun h1 => ?_) (fun h1 => ?_)⟩
              · refine fin _ GA HB (fun g hg => ?_) ⟨_, _, _, _, _, _, _, rfl⟩ sB (gg8.trans (gg9.trans ggA)) (kB _ _ fpA)
                cases lg3 with
                | nil => cases hg
                | cons hb _ _ =>
                  unfold batchAt at hb
                  rw [if_pos hdk, if_neg] at hb
                  · cases hb
                  · intro z
                    have z2 : rising (browsN (fOf xs) e3 (j + 1 + 1)) := by
                      unfold rising browsN at z ⊢
                      have e : List.range (j + 1 + 1) = (List.range (cnt (fOf xs) e3)).take (j + 1 + 1) := by rw [List.take_range, Nat.min_eq_left (by omega)]
                      rw [e, List.map_take, List.map_take]
                      exact z.take
                    rw [browsN_succ] at z2
                    have := (rising_snoc.mp z2).2 r (List.mem_of_getLast? hlast)
                    omega
              · refine ⟨rfl, sB, kB _ _ fDA, kB _ _ fpA, kB _ _ fRA, ?_⟩
                rw [browsN_succ]
                exact rising_last rR8 hlast (by omega)
          · rw [lus] at h0
            have : i = 0 := by
              unfold browsN at h0
              rw [List.length_map, List.length_range] at h0
              omega
            subst this
            exact List.pairwise_singleton _ _
        · rintro σ HX ⟨rfl, sX, fDX, fpX, fRX, hris⟩
          refine ⟨_, rfl, .inl ⟨rfl, _, SqL.of fRX⟩, _, rfl, _, rfl, q, _, rfl, SqL.of (sX.gh _ _ gq), fun p3 n3 => ?_⟩
          rw [cut_to4, etk]
          generalize eB : upd HX p3 _ = HB
          obtain ⟨sB, fB, kB, gB, zB⟩ := own_of sX n3 eB
          refine ⟨p3, _, rfl, fB, by omega, ?_⟩
          rw [← eb]
          refine ⟨_, rfl, _, rfl, q, _, rfl, SqL.of (sB.gh _ _ gq), fun p4 n4' => ?_⟩
          rw [cut_4, edr, ← eb2]
          generalize eC : upd HB p4 _ = HC
          obtain ⟨GC, sC, fC, ggC, kC, gkC⟩ := data_of sB n4' eC
          refine ⟨(by show 2 ≤ sizeLine; decide), fun t nt => ?_⟩
          generalize eE : upd HC t _ = HE
          obtain ⟨GE, sE, fE, ggE, kE, gkE⟩ := data_of sC nt eE
          have fRB := kB _ _ fRX
          have fRC := kC _ _ fRB
          have fRE := kE _ _ fRC
          have fpB := kB _ _ fpX
          have gRE : GE R = none := by rw [gkE R (ne_of_none fRC nt), gkC R (ne_of_none fRB n4')]; exact gRA
          have gpE : GE pD = none := by rw [gkE pD (ne_of_none (kC _ _ fpB) nt), gkC pD (ne_of_none fpB n4')]; exact gpA
          refine ⟨R, us8, _, rfl, rfl, fRE, ?_, ?_⟩
          · rw [lus]
            unfold browsN
            rw [List.length_map, List.length_range, sizeLine_eq]
            omega
          generalize eF : upd HE R _ = HF
          obtain ⟨sF, fF, kF⟩ := wr_of sE fRE gRE (.inr z7) eF
          refine ⟨hi, GE, O9, _, _, _, rfl, sF, gg8.trans (gg9.trans (ggA.trans (ggC.trans ggE))), kF _ _ nRD.symm (kE _ _ (kC _ _ (kB _ _ fDX))), kF _ _ nRp.symm (kE _ _ (kC _ _ fpB)), gpE, ggE _ _ (ggC _ _ (ggA _ _ gO9)), fF, gRE, ?_, hris⟩
          rw [browsN_succ]
          exact pd_snoc (mRow.ps (ggC.trans ggE) pRA) ⟨t, _, _, rfl, fE, rfl, rLI_of (ggE _ _ fC)⟩
    · rintro σ H8 ⟨_, G8, O8, us8, z4', z17, rfl, s8, gg8, fD8, fp8, gp8, gO8, fR8, gR8, pR8, rR8⟩
      have hbat : batchAt (fOf xs) e3 ep = some (browsN (fOf xs) e3 (cnt (fOf xs) e3), ((secs (cnt (fOf xs) e3) : Nat) : Int)) := by
        unfold batchAt
        rw [if_pos hdk, if_pos rR8]
      obtain ⟨b3, eb2, lg4⟩ : ∃ b3, b2 = browsN (fOf xs) e3 (cnt (fOf xs) e3) :: b3 ∧ LogIs (fOf xs) ep (e3 + (secs (cnt (fOf xs) e3) : Nat)) b3 e := by
        cases lg3 with
        | nil h _ => rw [hbat] at h; cases h
        | cons hb _ lg =>
          rw [hbat] at hb
          cases hb
          exact ⟨_, rfl, lg⟩
      generalize hrws : browsN (fOf xs) e3 (cnt (fOf xs) e3) = rws at *
      have lus := pd_len pR8
      have ltot : (bd.foldl takeR ds).length + rws.length ≤ 10000 := by
        have h1 := takeR_all bd ds
        have h2 := ok.sum
        rw [← ebs, eb2] at h2
        unfold rowsSum at h1 h2
        rw [List.map_append, List.sum_append, List.map_cons, List.sum_cons] at h2
        omega
      refine ⟨_, rfl, R, rfl, ⟨_, SqL.of fR8⟩, for_list (K := K) (a := R) (xs := us8)
        (fun j σ H9 => (∃ y9 z18, σ = [some (.ref a), some (.ref hD), some (.ref bl), x3, z4', x5, some (.int ep), some (.int (m0 + bd.length)), some (.ref pD), y9, y10, some (.int e3), some (.ref c), some (.int (ofFour (sl (fOf xs (3 + 2 * e3)) 5 9))), some (.int (secs (cnt (fOf xs) e3) : Nat)), some (.ref O8), some (.ref R), z17, z18]) ∧
          ∃ kv9, Stp O0 G H G8 H9 ∧ H9 hD = some (.dK kvs) ∧ H9 R = some (.lst us8) ∧ H9 pD = some (.dK kv9) ∧ DRel (rL rI) G8 kv9 (takeR (bd.foldl takeR ds) (rws.take j)))
        ⟨⟨_, _, rfl⟩, kv, s8, fD8, fR8, fp8, r3.mono mI.l gg8⟩ (fun j σ H9 _ ⟨_, _, _, _, z, _⟩ => SqL.of z) ?_ ?_⟩
      · rintro j y σ H9 hj ⟨⟨y9', z18, rfl⟩, kv9, s9, fD9, fR9, fp9, r9⟩
        obtain ⟨r, hr', t, u, cc, rfl, ht, hu', hc'⟩ := pd_get pR8 hj
        cases hu'
        have hj2 := (List.getElem?_eq_some_iff.mp hj).1
        have lk := pd_len r9
        have tl := takeR_len (rws.take j) (bd.foldl takeR ds)
        rw [List.length_take] at tl
        refine g_pair (s9.gh _ _ ht) ⟨_, rfl, _, rfl, _, rfl, pD, _, rfl, DPut.k (k := Sum.inl r.1) fp9 (by rw [lk, sizeLine_eq]; omega), ?_⟩
        generalize eA : upd H9 pD _ = HA
        obtain ⟨sA, fA, kA⟩ := wr_of s9 fp9 gp8 (.inr zp) eA
        refine ⟨⟨_, _, rfl⟩, _, sA, kA _ _ nhp fD9, kA _ _ nRp fR9, fA, ?_⟩
        rw [take_snoc hr', ofR_snoc']
        exact r9.put hc'
      · rintro σ H9 ⟨⟨y9', z18, rfl⟩, kv9, s9, fD9, fR9, fp9, r9⟩
        rw [lus, List.take_of_length_le (Nat.le_refl _)] at r9
        refine ⟨_, rfl, _, _, rfl, rfl, _, rfl, _, rfl, _, _, rfl, rfl, _, _, rfl, b3.length, by rw [eb2]; exact Nat.lt_succ_self _, G8, bd ++ [rws], b3, e3 + (secs (cnt (fOf xs) e3) : Nat), kv9, z4', y9', y10, some (.ref c), some (.int (ofFour (sl (fOf xs (3 + 2 * e3)) 5 9))), some (.int (secs (cnt (fOf xs) e3) : Nat)), some (.ref O8), some (.ref R), z17, z18, rfl, ?_, s9, gg3.trans gg8, fD9, fp9, gp8, ?_, ?_, lg4⟩
        · have : m0 + (bd.length : Int) + 1 = m0 + ((bd ++ [rws]).length : Nat) := by rw [List.length_append]; show _ = m0 + ((bd.length + 1 : Nat) : Int); omega
          rw [← this]
          rfl
        · rw [List.foldl_append]
          exact r9
        · rw [List.append_assoc, ← ebs, eb2]
          rfl
end
end K51

/-! KPL: batches on a disk that may be cut off: whole or not at all, by commits and keeps. -/
namespace K51
open Y
theorem strm_congr {f g : Rd} {p : Int} : ∀ {m : Nat}, (∀ i : Nat, i < m → f (lg (p + i)) = g (lg (p + i))) → strm f p m = strm g p m
  | 0, _ => rfl
  | m + 1, h => by rw [strm_succ, strm_succ, strm_congr (m := m) (fun i hi => h i (by omega)), h m (by omega)]
theorem secs_pos (k : Nat) : 1 ≤ secs k := by unfold secs; omega
theorem batchAt_congr {f g : Rd} {p ep : Int} {b : BRows} {s : Int} (h : batchAt f p ep = some (b, s)) (e : ∀ i : Nat, (i : Int) < s → f (lg (p + i)) = g (lg (p + i))) : batchAt g p ep = some (b, s) ∧ 1 ≤ s ∧ (CntOk f p ep → CntOk g p ep) := by
  unfold batchAt at h
  by_cases hd : headOk f p ep
  · rw [if_pos hd] at h
    by_cases hr : rising (browsN f p (cnt f p))
    · rw [if_pos hr] at h
      have h := Option.some.inj h
      have hb : browsN f p (cnt f p) = b := congrArg Prod.fst h
      have hs : ((secs (cnt f p) : Nat) : Int) = s := congrArg Prod.snd h
      have sp := secs_pos (cnt f p)
      have e0 : f (lg p) = g (lg p) := by
        have := e 0 (by omega)
        rw [show p + ((0 : Nat) : Int) = p by omega] at this
        exact this
      have hd' : headOk g p ep := by unfold headOk at hd ⊢; rw [← e0]; exact hd
      have hc : cnt g p = cnt f p := by unfold cnt; rw [e0]
      have hbr : browsN g p (cnt g p) = b := by
        rw [hc, ← hb]
        unfold browsN
        apply List.map_congr_left
        intro k hk
        have hk := List.mem_range.mp hk
        have hle : secs (k + 1) ≤ secs (cnt f p) := secs_le (by omega)
        unfold brow
        rw [strm_congr (f := g) (g := f) (p := p) (m := secs (k + 1)) fun i hi => (e i (by omega)).symm]
      refine ⟨?_, by omega, fun z _ => ?_⟩
      · unfold batchAt
        rw [if_pos hd', hbr, if_pos (by rw [← hb]; exact hr), hc, hs]
      · obtain ⟨z1, z2, z3⟩ := z hd
        refine ⟨by rw [← e0]; exact z1, by rw [← e0]; exact z2, fun i hi _ => ?_⟩
        have := z3 (cnt f p) (Nat.le_refl _) hr
        omega
    · rw [if_neg hr] at h; cases h
  · rw [if_neg hd] at h; cases h
theorem LogIs.le {f : Rd} {ep p e : Int} {bs : List BRows} (h : LogIs f ep p bs e) : p ≤ e := by
  induction h with
  | nil _ _ => omega
  | cons hb _ _ ih =>
    have := (batchAt_congr hb fun _ _ => rfl).2.1
    omega
theorem lg_inj {a b : Int} (h : lg a = lg b) : a = b := by unfold lg at h; omega
theorem noHead {g : Rd} {e ep : Int} (h : ¬ headOk g e ep) : batchAt g e ep = none ∧ CntOk g e ep := ⟨by unfold batchAt; rw [if_neg h], fun z => absurd z h⟩
theorem LogIs.same {f g : Rd} {ep p e : Int} {bs : List BRows} (h : LogIs f ep p bs e) (eq : ∀ k, p ≤ k → k < e → f (lg k) = g (lg k)) (hn : ¬ headOk g e ep) : LogIs g ep p bs e := by
  induction h with
  | nil _ _ => exact .nil (noHead hn).1 (noHead hn).2
  | cons hb hc hl ih =>
    rename_i p e b s bs
    have hle := LogIs.le hl
    obtain ⟨h1, h2, h3⟩ := batchAt_congr hb fun i hi => eq (p + i) (by omega) (by omega)
    exact .cons h1 (h3 hc) (ih (fun k h4 h5 => eq k (by omega) h5) hn)
theorem LogIs.more {f g : Rd} {ep p e e' : Int} {bs : List BRows} {b : BRows} (h : LogIs f ep p bs e) (eq : ∀ k, p ≤ k → k < e → f (lg k) = g (lg k)) (hb : batchAt g e ep = some (b, e' - e)) (hc : CntOk g e ep) (hn : ¬ headOk g e' ep) : LogIs g ep p (bs ++ [b]) e' := by
  induction h with
  | nil _ _ =>
    refine .cons hb hc ?_
    have q : ∀ z : Int, z + (e' - z) = e' := fun z => by omega
    rw [q]
    exact .nil (noHead hn).1 (noHead hn).2
  | cons hb' hc' hl ih =>
    rename_i p e b' s bs
    have hle := LogIs.le hl
    obtain ⟨h1, h2, h3⟩ := batchAt_congr hb' fun i hi => eq (p + i) (by omega) (by omega)
    exact .cons h1 (h3 hc') (ih (fun k h4 h5 => eq k (by omega) h5) hb hc)
/-- rows of a batch -/
structure RFit (rows : BRows) : Prop where
  h64 : ∀ r ∈ rows, r.2.length = 64
  few : rows.length ≤ 4
  num : ∀ r ∈ rows, 0 ≤ r.1 ∧ r.1 < 5
  up : rising rows
def pg (M : List (Int × Page)) (n : Int) : Page := (look M n).getD z64
structure BatOk (f : Rd) (x : BS) (bs : List BRows) (M : List (Int × Page)) : Prop where
  l16 : ∀ n, (f n).length = 16
  pl : x.place = 0 ∨ x.place = 1
  root : ∃ m0, 0 ≤ m0 ∧ x.many = m0 + bs.length ∧ ((x.epoch = 0 ∧ m0 = 0 ∧ x.place = 1 ∧ rootAt f 0 = none ∧ rootAt f 1 = none) ∨ (0 < x.epoch ∧ rootAt f x.place = some (x.epoch, m0) ∧ ∀ y, rootAt f (1 - x.place) = some y → y.1 < x.epoch))
  log : LogIs f x.epoch 0 bs x.fin
  old : ∀ k, 0 ≤ k → (f (lg k)).getD 0 0 = 1 → ofFour (sl (f (lg k)) 1 5) ≤ x.epoch
  bey : ∀ k, x.fin ≤ k → ¬ headOk f k x.epoch
  pages : x.pages = bs.foldl takeR []
  fit : ∀ g ∈ bs, RFit g
  page : ∀ n, 0 ≤ n → pageOf f x.pages n = pg M n
theorem takeR_look : ∀ (rows : BRows) (d : List (Int × Page)) (n : Int), look (takeR d rows) n = ((look (takeR [] rows) n).or (look d n)) := by
  have key : ∀ (rows : BRows) (d1 d2 ds : List (Int × Page)), (∀ n, look d1 n = ((look d2 n).or (look ds n))) → ∀ n, look (takeR d1 rows) n = ((look (takeR d2 rows) n).or (look ds n)) := by
    intro rows
    induction rows with
    | nil => intro d1 d2 ds h; exact h
    | cons r rows ih =>
      intro d1 d2 ds h
      refine ih (put d1 r.1 r.2) (put d2 r.1 r.2) ds fun n => ?_
      rw [look_put, look_put]
      by_cases e : n = r.1
      · rw [if_pos e, if_pos e]; rfl
      · rw [if_neg e, if_neg e]; exact h n
  exact fun rows d n => key rows d [] d (fun n => rfl) n
theorem BatOk.fin0 {f : Rd} {x : BS} {bs : List BRows} {M : List (Int × Page)} (h : BatOk f x bs M) : 0 ≤ x.fin := h.log.le
theorem BatOk.ep0 {f : Rd} {x : BS} {bs : List BRows} {M : List (Int × Page)} (h : BatOk f x bs M) : 0 ≤ x.epoch := by
  obtain ⟨m0, _, _, ⟨h, _⟩ | ⟨h, _⟩⟩ := h.root <;> omega
theorem rootAt_of {f g : Rd} {n : Int} (h : f n = g n) : rootAt f n = rootAt g n := by unfold rootAt; rw [h]
/-- what is told of the roots -/
theorem BatOk.newest {f : Rd} {x : BS} {bs : List BRows} {M : List (Int × Page)} (h : BatOk f x bs M) : ∃ m0, newest f = (x.place, x.epoch, m0) ∧ x.many = m0 + bs.length := by
  obtain ⟨m0, _, hm, ⟨h1, h2, h3, h4, h5⟩ | ⟨h1, h2, h3⟩⟩ := h.root
  · refine ⟨m0, ?_, hm⟩
    unfold K51.newest
    rw [h4, h5, h1, h2, h3]
  · refine ⟨m0, ?_, hm⟩
    rcases h.pl with e | e
    · rw [e] at h2 h3 ⊢
      have h3 : ∀ y, rootAt f 1 = some y → y.1 < x.epoch := h3
      unfold K51.newest
      rw [h2]
      cases h4 : rootAt f 1 with
      | none => rfl
      | some y =>
        have := h3 y h4
        obtain ⟨e', m'⟩ := y
        have this : e' < x.epoch := this
        show (if x.epoch < e' ∨ (x.epoch = e' ∧ m0 ≤ m') then ((1 : Int), e', m') else ((0 : Int), x.epoch, m0)) = _
        rw [if_neg (by omega)]
    · rw [e] at h2 h3 ⊢
      have h3 : ∀ y, rootAt f 0 = some y → y.1 < x.epoch := h3
      unfold K51.newest
      rw [h2]
      cases h4 : rootAt f 0 with
      | none => rfl
      | some y =>
        have := h3 y h4
        obtain ⟨e', m'⟩ := y
        have this : e' < x.epoch := this
        show (if e' < x.epoch ∨ (e' = x.epoch ∧ m' ≤ m0) then ((1 : Int), x.epoch, m0) else ((0 : Int), e', m')) = _
        rw [if_pos (by omega)]
/-- sectors beyond the log's end may change, if no batch of the epoch, or of a later one, stands there -/
theorem BatOk.safe {f g : Rd} {x : BS} {bs : List BRows} {M : List (Int × Page)} (h : BatOk f x bs M) (l16 : ∀ n, (g n).length = 16) (s : Safe x.fin f g) : BatOk g x bs M := by
  have f0 := h.fin0
  have off : ∀ n, (∀ k, x.fin ≤ k → n ≠ lg k) → g n = f n := fun n hn => by
    rcases s n with e | ⟨k, hk, e, _⟩
    · exact e
    · exact absurd e (hn k hk)
  have r0 : ∀ n, n < 2 → g n = f n := fun n hn => off n fun k hk e => by unfold lg at e; omega
  have bey : ∀ k, x.fin ≤ k → ¬ headOk g k x.epoch := fun k hk z => by
    rcases s (lg k) with e | ⟨_, _, _, e⟩
    · refine h.bey k hk ?_
      unfold headOk at z ⊢
      rw [← e]
      exact z
    · exact e z.1
  refine ⟨l16, h.pl, ?_, h.log.same (fun k _ h2 => (off (lg k) fun j hj e => by have := lg_inj e; omega).symm) (bey _ (Int.le_refl _)), fun k hk hh => ?_, bey, h.pages, h.fit, fun n hn => ?_⟩
  · obtain ⟨m0, a, b, c⟩ := h.root
    refine ⟨m0, a, b, ?_⟩
    rw [rootAt_of (r0 0 (by decide)), rootAt_of (r0 1 (by decide)), rootAt_of (r0 x.place (by rcases h.pl with e | e <;> omega)), rootAt_of (r0 (1 - x.place) (by rcases h.pl with e | e <;> omega))]
    exact c
  · rcases s (lg k) with e | ⟨_, _, _, e⟩
    · rw [e] at hh ⊢
      exact h.old k hk hh
    · exact absurd hh e
  · rw [← h.page n hn]
    unfold pageOf
    cases look x.pages n with
    | some p => rfl
    | none => rw [off (hm n 0) fun k hk e => by unfold hm lg at e; omega, off (hm n 1) fun k hk e => by unfold hm lg at e; omega, off (hm n 2) fun k hk e => by unfold hm lg at e; omega, off (hm n 3) fun k hk e => by unfold hm lg at e; omega]
/-- a batch stands -/
theorem BatOk.done {f g : Rd} {x : BS} {bs : List BRows} {M : List (Int × Page)} (h : BatOk f x bs M) (l16 : ∀ n, (g n).length = 16) {rows : BRows} (hr : RFit rows) (he : x.epoch < 4294967296) (s : ∀ n, g n = lay1 x.fin (contOf x.epoch rows) f n) :
    BatOk g (x.commit false rows) (bs ++ [rows]) (takeR M rows) ∧ (∀ n, (∀ i : Nat, i < parts (contOf x.epoch rows) → n ≠ lg (x.fin + i)) → g n = f n) := by
  have f0 := h.fin0
  have e0 := h.ep0
  have lp : 0 < parts (contOf x.epoch rows) := by
    have := cont_len' (e := x.epoch) hr.h64
    unfold parts
    omega
  have off : ∀ n, (∀ i : Nat, i < parts (contOf x.epoch rows) → n ≠ lg (x.fin + i)) → g n = f n := fun n hn => by
    rw [s]
    unfold lay1
    rw [if_neg, lay0_off hn]
    have := hn 0 lp
    rw [show x.fin + ((0 : Nat) : Int) = x.fin by omega] at this
    exact this
  have offn : ∀ n, (∀ k, x.fin ≤ k → n ≠ lg k) → g n = f n := fun n hn => off n fun i _ => hn _ (by omega)
  have g0 : g (lg x.fin) = mark (part (contOf x.epoch rows) 0) := by
    rw [s]
    unfold lay1
    rw [if_pos rfl]
  have gi : ∀ i : Nat, 0 < i → i < parts (contOf x.epoch rows) → g (lg (x.fin + i)) = part (contOf x.epoch rows) i := fun i h1 h2 => by
    rw [s]
    unfold lay1
    rw [if_neg (by unfold lg; omega), lay0_at h2]
  obtain ⟨b1, b2⟩ := batch_back (ep := x.epoch) hr.h64 (fun r hr' => by have := hr.num r hr'; omega) hr.up (by have := hr.few; omega) ⟨e0, he⟩ g0 gi
  have hd : headOk g x.fin x.epoch := by
    unfold batchAt at b1
    by_cases z : headOk g x.fin x.epoch
    · exact z
    · rw [if_neg z] at b1; cases b1
  have bey : ∀ k, x.fin + (parts (contOf x.epoch rows) : Nat) ≤ k → ¬ headOk g k x.epoch := fun k hk z => by
    have e : g (lg k) = f (lg k) := off (lg k) fun i hi e => by have := lg_inj e; omega
    refine h.bey k (by omega) ?_
    unfold headOk at z ⊢
    rw [← e]
    exact z
  have r0 : ∀ n, n < 2 → g n = f n := fun n hn => offn n fun k hk e => by unfold lg at e; omega
  refine ⟨⟨l16, h.pl, ?_, ?_, fun k hk hh => ?_, bey, ?_, fun g' hg => ?_, fun n hn => ?_⟩, off⟩
  · obtain ⟨m0, a, b, c⟩ := h.root
    refine ⟨m0, a, ?_, ?_⟩
    · show x.many + 1 = m0 + ((bs ++ [rows]).length : Nat)
      rw [b, List.length_append]
      show _ = m0 + ((bs.length + 1 : Nat) : Int)
      omega
    · show (x.epoch = 0 ∧ m0 = 0 ∧ x.place = 1 ∧ _) ∨ (0 < x.epoch ∧ rootAt g x.place = _ ∧ ∀ y, rootAt g (1 - x.place) = _ → _)
      rw [rootAt_of (r0 0 (by decide)), rootAt_of (r0 1 (by decide)), rootAt_of (r0 x.place (by rcases h.pl with e | e <;> omega)), rootAt_of (r0 (1 - x.place) (by rcases h.pl with e | e <;> omega))]
      exact c
  · refine h.log.more (e' := x.fin + (parts (contOf x.epoch rows) : Nat)) (fun k h1 h2 => (offn (lg k) fun j hj e => by have := lg_inj e; omega).symm) ?_ b2 (bey _ (Int.le_refl _))
    rw [b1]
    congr 2
    omega
  · by_cases hin : ∃ i : Nat, i < parts (contOf x.epoch rows) ∧ lg k = lg (x.fin + i)
    · obtain ⟨i, hi, e⟩ := hin
      have ek := lg_inj e
      by_cases hz : i = 0
      · subst hz
        have : k = x.fin := by omega
        rw [this]
        show _ ≤ x.epoch
        rw [hd.2]
        exact Int.le_refl _
      · rw [ek, gi i (by omega) hi, part_head] at hh
        exact absurd hh (by decide)
    · have e : g (lg k) = f (lg k) := off (lg k) fun i hi e => hin ⟨i, hi, e⟩
      rw [e] at hh ⊢
      exact h.old k hk hh
  · show takeR x.pages rows = _
    rw [List.foldl_append, h.pages]
    rfl
  · rcases List.mem_append.mp hg with hg | hg
    · exact h.fit g' hg
    · rw [List.mem_singleton] at hg
      rw [hg]
      exact hr
  · have hp := h.page n hn
    unfold pg at hp ⊢
    show pageOf g (takeR x.pages rows) n = _
    rw [takeR_look rows M n]
    unfold pageOf at hp ⊢
    rw [takeR_look rows x.pages n]
    cases e : look (takeR [] rows) n with
    | some p => rfl
    | none =>
      simp only [Option.none_or]
      rw [← hp]
      cases look x.pages n with
      | some p => rfl
      | none => rw [offn (hm n 0) fun k hk e => by unfold hm lg at e; omega, offn (hm n 1) fun k hk e => by unfold hm lg at e; omega, offn (hm n 2) fun k hk e => by unfold hm lg at e; omega, offn (hm n 3) fun k hk e => by unfold hm lg at e; omega]
theorem BatOk.commit {d : DS} {x : BS} {bs : List BRows} {M : List (Int × Page)} (h : BatOk (W d.sec) x bs M) (hc : d.cut = false) (w0 : d.wai = []) {rows : BRows} (hr : RFit rows) (he : x.epoch < 4294967296) (l16 : ∀ n, (W (d.commit x.epoch x.fin rows).sec n).length = 16) :
    ((d.commit x.epoch x.fin rows).cut = true ∧ BatOk (W (d.commit x.epoch x.fin rows).sec) x bs M) ∨
    (BatOk (W (d.commit x.epoch x.fin rows).sec) (x.commit false rows) (bs ++ [rows]) (takeR M rows) ∧ ∀ n, (∀ i : Nat, i < parts (contOf x.epoch rows) → n ≠ lg (x.fin + i)) → W (d.commit x.epoch x.fin rows).sec n = W d.sec n) := by
  rcases commit_run hc w0 x.epoch x.fin rows with ⟨a, b⟩ | b
  · exact .inl ⟨a, h.safe l16 b⟩
  · exact .inr (h.done l16 hr he b)
end K51

/-! KPK: a keep is done or not: what a disk reads behind it. -/
namespace K51
open Y
/-- what holds of a disk's sectors holds when some of what waits is written, torn -/
def TearOk (S : Rd → Prop) (wai : List (Int × Sec)) : Prop := ∀ f, S f → ∀ x ∈ wai, ∀ c : Nat, S fun n => if n = x.1 then x.2.take c ++ (f n).drop c else f n
theorem torn_good {S : Rd → Prop} {wai sec : List (Int × Sec)} (h : S (W sec)) (t : TearOk S wai) (r : (Int × Int) × Int) : S (W (torn wai sec r)) := by
  by_cases hd : ∃ x ∈ wai, x.1 = r.2 ∧ W (torn wai sec r) r.2 = x.2.take (clip r.1.2) ++ (W sec r.2).drop (clip r.1.2)
  · obtain ⟨x, hx, e1, e2⟩ := hd
    have : W (torn wai sec r) = fun n => if n = x.1 then x.2.take (clip r.1.2) ++ (W sec n).drop (clip r.1.2) else W sec n := by
      funext n
      by_cases e : n = x.1
      · rw [if_pos e, e, e1]
        exact e2
      · rw [if_neg e]
        rcases torn_W wai sec r n with q | ⟨q, _⟩
        · exact q
        · exact absurd (q.trans e1.symm) e
    rw [this]
    exact t _ h x hx _
  · have : W (torn wai sec r) = W sec := by
      funext n
      rcases torn_W wai sec r n with q | ⟨q, x, hx, e, q2⟩
      · exact q
      · exact absurd ⟨x, hx, e.trans q, by rw [← q]; exact q2⟩ hd
    rw [this]
    exact h
theorem crashed_good {S : Rd → Prop} {wai : List (Int × Sec)} (t : TearOk S wai) : ∀ (rs : List ((Int × Int) × Int)) (sec : List (Int × Sec)), S (W sec) → S (W (rs.foldl (torn wai) sec))
  | [], _, h => h
  | r :: rs, sec, h => crashed_good t rs _ (torn_good h t r)
theorem counts_good {S : Rd → Prop} {d : DS} (hc : d.cut = false) (hs : S (W d.sec)) (t : TearOk S d.wai) : (d.counts.cut = true ∧ S (W d.counts.sec)) ∨ (d.counts.cut = false ∧ d.counts.sec = d.sec ∧ d.counts.wai = d.wai) := by
  unfold DS.counts
  split
  · exact .inr ⟨hc, rfl, rfl⟩
  · rw [if_neg (by rw [hc]; exact Bool.false_ne_true)]
    split
    · exact .inl ⟨rfl, crashed_good t _ _ hs⟩
    · exact .inr ⟨hc, rfl, rfl⟩
theorem write_good {S : Rd → Prop} {d : DS} (hc : d.cut = false) (hs : S (W d.sec)) (t : TearOk S d.wai) (n : Int) (x : Sec) : ((d.write n x).cut = true ∧ S (W (d.write n x).sec)) ∨ ((d.write n x).cut = false ∧ (d.write n x).sec = d.sec ∧ (d.write n x).wai = d.wai ++ [(n, x)]) := by
  rcases counts_good hc hs t with ⟨c1, c2⟩ | ⟨c1, c2, c3⟩
  · have e : d.write n x = d.counts := if_pos c1
    rw [e]
    exact .inl ⟨c1, c2⟩
  · have e : d.write n x = { d.counts with wai := d.counts.wai ++ [(n, x)] } := if_neg (by rw [c1]; exact Bool.false_ne_true)
    rw [e]
    exact .inr ⟨c1, c2, by show d.counts.wai ++ _ = _; rw [c3]⟩
theorem writes_good {S : Rd → Prop} : ∀ (l : List (Int × Sec)) {d : DS}, d.cut = false → S (W d.sec) → TearOk S (d.wai ++ l) → ((d.writes l).cut = true ∧ S (W (d.writes l).sec)) ∨ ((d.writes l).cut = false ∧ (d.writes l).sec = d.sec ∧ (d.writes l).wai = d.wai ++ l)
  | [], d, hc, hs, _ => .inr ⟨hc, rfl, (List.append_nil _).symm⟩
  | x :: l, d, hc, hs, t => by
    have e0 : d.writes (x :: l) = (d.write x.1 x.2).writes l := rfl
    rw [e0]
    rcases write_good (S := S) hc hs (fun f hf y hy c => t f hf y (List.mem_append_left _ hy) c) x.1 x.2 with ⟨c1, c2⟩ | ⟨c1, c2, c3⟩
    · rw [writes_cut l c1]
      exact .inl ⟨c1, c2⟩
    · have hs2 : S (W (d.write x.1 x.2).sec) := c2.symm ▸ hs
      have t2 : TearOk S ((d.write x.1 x.2).wai ++ l) := by
        have e2 : (d.write x.1 x.2).wai ++ l = d.wai ++ x :: l := by rw [c3, List.append_assoc]; rfl
        rw [e2]; exact t
      rcases writes_good (S := S) l c1 hs2 t2 with q | ⟨q1, q2, q3⟩
      · exact .inl q
      · exact .inr ⟨q1, q2.trans c2, by rw [q3, c3, List.append_assoc]; rfl⟩
theorem sync_good {S : Rd → Prop} {d : DS} (hc : d.cut = false) (hs : S (W d.sec)) (t : TearOk S d.wai) : (d.sync.cut = true ∧ S (W d.sync.sec)) ∨ (d.sync.cut = false ∧ d.sync.sec = synS d.sec d.wai ∧ d.sync.wai = []) := by
  rcases counts_good hc hs t with ⟨c1, c2⟩ | ⟨c1, c2, c3⟩
  · have e : d.sync = d.counts := if_pos c1
    rw [e]
    exact .inl ⟨c1, c2⟩
  · have e : d.sync = { d.counts with sec := synS d.counts.sec d.counts.wai, wai := [] } := if_neg (by rw [c1]; exact Bool.false_ne_true)
    rw [e]
    refine .inr ⟨c1, ?_, rfl⟩
    show synS d.counts.sec d.counts.wai = _
    rw [c2, c3]
theorem tear_nil (S : Rd → Prop) : TearOk S [] := fun _ _ x hx => by cases hx
/-- ahead of the new root -/
def Ahead (A : Int → Prop) (r : Int) (base f : Rd) : Prop := ∀ n, f n = base n ∨ A n ∨ (n = r ∧ (f n).getD 0 0 ≠ 1)
/-- a keep's end, if it is not cut off ahead of its mark -/
def kept (pages : List (Int × Page)) (r : Int) (rs : Sec) (base : Rd) : Rd := fun n => if n = r then mark rs else lastOf (homeW pages) n (base n)
theorem keep_run {d : DS} (hc : d.cut = false) (w0 : d.wai = []) (x : BS) (hA : ∀ y ∈ homeW x.pages, y.1 ≠ 1 - x.place) :
    ((d.keep x).cut = true ∧ Ahead (fun n => ∃ y ∈ homeW x.pages, y.1 = n) (1 - x.place) (W d.sec) (W (d.keep x).sec)) ∨ (∀ n, W (d.keep x).sec n = kept x.pages (1 - x.place) (rootSec (x.epoch + 1) x.many) (W d.sec) n) := by
  generalize hrs : rootSec (x.epoch + 1) x.many = rs
  have h16 : rs.length = 16 := by rw [← hrs]; rfl
  have h0 : rs.getD 0 0 = 0 := by rw [← hrs]; rfl
  generalize hr : 1 - x.place = r at *
  have e0 : d.keep x = ((((d.writes (homeW x.pages)).sync.write r rs).sync).write r (mark rs)).sync := by unfold DS.keep; rw [hr, hrs]
  rw [e0]
  have base0 : Ahead (fun n => ∃ y ∈ homeW x.pages, y.1 = n) r (W d.sec) (W d.sec) := fun n => .inl rfl
  have t1 : TearOk (Ahead (fun n => ∃ y ∈ homeW x.pages, y.1 = n) r (W d.sec)) (homeW x.pages) := fun f hf y hy c n => by
    by_cases e : n = y.1
    · exact .inr (.inl ⟨y, hy, e.symm⟩)
    · have := hf n
      dsimp only
      rw [if_neg e]
      exact this
  rcases writes_good (homeW x.pages) hc base0 (by rw [w0]; exact t1) with ⟨a1, a2⟩ | ⟨a1, a2, a3⟩
  · rw [sync_cut a1, write_cut a1, sync_cut a1, write_cut a1, sync_cut a1]
    exact .inl ⟨a1, a2⟩
  rw [w0, List.nil_append] at a3
  rcases sync_good (S := Ahead (fun n => ∃ y ∈ homeW x.pages, y.1 = n) r (W d.sec)) a1 (by rw [a2]; exact base0) (by rw [a3]; exact t1) with ⟨b1, b2⟩ | ⟨b1, b2, b3⟩
  · rw [write_cut b1, sync_cut b1, write_cut b1, sync_cut b1]
    exact .inl ⟨b1, b2⟩
  rw [a2, a3] at b2
  generalize hd2 : (d.writes (homeW x.pages)).sync = d2 at *
  have W2 : ∀ n, W d2.sec n = lastOf (homeW x.pages) n (W d.sec n) := fun n => by rw [b2, W_syn]
  have s2 : Ahead (fun n => ∃ y ∈ homeW x.pages, y.1 = n) r (W d.sec) (W d2.sec) := fun n => by
    rw [W2]
    rcases lastOf_or (homeW x.pages) n (W d.sec n) with h | ⟨y, hy, h1, _⟩
    · exact .inl h
    · exact .inr (.inl ⟨y, hy, h1⟩)
  have t2 : TearOk (Ahead (fun n => ∃ y ∈ homeW x.pages, y.1 = n) r (W d.sec)) [(r, rs)] := fun f hf y hy c n => by
    rw [List.mem_singleton] at hy
    subst hy
    dsimp only
    by_cases e : n = r
    · rw [if_pos e]
      by_cases hz : c = 0
      · rw [hz]
        have := hf n
        exact this
      · refine .inr (.inr ⟨e, ?_⟩)
        rw [getD_take h16, if_neg hz, h0]
        decide
    · have := hf n
      rw [if_neg e]
      exact this
  rcases write_good b1 s2 (by rw [b3]; exact tear_nil _) r rs with ⟨c1, c2⟩ | ⟨c1, c2, c3⟩
  · rw [sync_cut c1, write_cut c1, sync_cut c1]
    exact .inl ⟨c1, c2⟩
  rw [b3, List.nil_append] at c3
  rcases sync_good (S := Ahead (fun n => ∃ y ∈ homeW x.pages, y.1 = n) r (W d.sec)) c1 (by rw [c2]; exact s2) (by rw [c3]; exact t2) with ⟨f1, f2⟩ | ⟨f1, f2, f3⟩
  · rw [write_cut f1, sync_cut f1]
    exact .inl ⟨f1, f2⟩
  rw [c2, c3] at f2
  generalize hd3 : (d2.write r rs).sync = d3 at *
  have W3 : ∀ n, W d3.sec n = if n = r then rs else lastOf (homeW x.pages) n (W d.sec n) := fun n => by
    rw [f2, W_syn]
    show (if r = n then rs else W d2.sec n) = _
    rw [W2]
    by_cases e : n = r
    · rw [if_pos e.symm, if_pos e]
    · rw [if_neg (fun z => e z.symm), if_neg e]
  have s3 : Ahead (fun n => ∃ y ∈ homeW x.pages, y.1 = n) r (W d.sec) (W d3.sec) := fun n => by
    by_cases e : n = r
    · refine .inr (.inr ⟨e, ?_⟩)
      rw [W3, if_pos e, h0]
      decide
    · have := s2 n
      rw [W2] at this
      rw [W3, if_neg e]
      rcases this with h | h | h
      · exact .inl h
      · exact .inr (.inl h)
      · exact absurd h.1 e
  rcases write_good f1 s3 (by rw [f3]; exact tear_nil _) r (mark rs) with ⟨g1, g2⟩ | ⟨g1, g2, g3⟩
  · rw [sync_cut g1]
    exact .inl ⟨g1, g2⟩
  rw [f3, List.nil_append] at g3
  -- the last sync: the mark is there or not
  have emark : ∀ c, 0 < c → (mark rs).take c ++ rs.drop c = mark rs := fun c hc => by
    obtain ⟨k, rfl⟩ : ∃ k, c = k + 1 := ⟨c - 1, by omega⟩
    cases hrs' : rs with
    | nil => rw [hrs'] at h16; cases h16
    | cons a t =>
      show 1 :: (t.take k ++ t.drop k) = 1 :: t
      rw [List.take_append_drop]
  let S : Rd → Prop := fun f => (∀ n, f n = W d3.sec n) ∨ ∀ n, f n = kept x.pages r rs (W d.sec) n
  have t3 : TearOk S [(r, mark rs)] := fun f hf y hy c => by
    rw [List.mem_singleton] at hy
    subst hy
    by_cases hz : c = 0
    · rw [hz]
      have : (fun n => if n = r then (mark rs).take 0 ++ (f n).drop 0 else f n) = f := by
        funext n
        by_cases e : n = r
        · rw [if_pos e]; rfl
        · rw [if_neg e]
      rw [this]
      exact hf
    · refine .inr fun n => ?_
      unfold kept
      dsimp only
      rcases hf with hf | hf
      · by_cases e : n = r
        · rw [if_pos e, if_pos e, hf, W3, if_pos e]
          exact emark c (by omega)
        · rw [if_neg e, if_neg e, hf, W3, if_neg e]
      · by_cases e : n = r
        · rw [if_pos e, if_pos e, hf]
          unfold kept
          rw [if_pos e]
          exact List.take_append_drop _ _
        · rw [if_neg e, if_neg e, hf]
          unfold kept
          rw [if_neg e]
  have sS : S (W (d3.write r (mark rs)).sec) := .inl fun n => by rw [g2]
  rcases sync_good g1 sS (by rw [g3]; exact t3) with ⟨h1, h2⟩ | ⟨h1, h2, h3⟩
  · rcases h2 with h2 | h2
    · refine .inl ⟨h1, fun n => ?_⟩
      have := s3 n
      rw [h2 n]
      exact this
    · exact .inr h2
  · refine .inr fun n => ?_
    rw [h2, g2, g3, W_syn]
    show (if r = n then mark rs else W d3.sec n) = _
    rw [W3]
    unfold kept
    by_cases e : n = r
    · rw [if_pos e.symm, if_pos e]
    · rw [if_neg (fun z => e z.symm), if_neg e, if_neg e]
end K51

/-! KPN: what stands behind a keep. -/
namespace K51
open Y
theorem lastOf_app (a b : List (Int × Sec)) (n : Int) (x : Sec) : lastOf (a ++ b) n x = lastOf b n (lastOf a n x) := by
  unfold lastOf
  rw [List.foldl_append]
theorem hm_inj {n m : Int} {i j : Nat} (hi : i < 4) (hj : j < 4) (h : hm n i = hm m j) : n = m ∧ i = j := by
  unfold hm at h
  omega
theorem lastOf_row (pages : List (Int × Page)) (n' n : Int) {j : Nat} (hj : j < 4) (b : Sec) : lastOf (hmRow pages n') (hm n j) b = if n' = n then (hmPart pages n j).2 else b := by
  have key : ∀ m : Nat, m ≤ 4 → lastOf ((List.range m).map (hmPart pages n')) (hm n j) b = if n' = n ∧ j < m then (hmPart pages n j).2 else b := fun m => by
    induction m with
    | zero => intro _; rw [if_neg (by omega)]; rfl
    | succ m ih =>
      intro hm4
      rw [List.range_succ, List.map_append, lastOf_app, ih (by omega)]
      show (if hm n' m = hm n j then (hmPart pages n' m).2 else _) = _
      by_cases e : hm n' m = hm n j
      · obtain ⟨e1, e2⟩ := hm_inj (by omega) hj e
        rw [if_pos e, e1, e2, if_pos ⟨rfl, by omega⟩]
      · rw [if_neg e]
        by_cases h : n' = n ∧ j < m
        · rw [if_pos h, if_pos ⟨h.1, by omega⟩]
        · rw [if_neg h, if_neg]
          rintro ⟨e1, e2⟩
          refine e ?_
          rw [e1, show m = j by omega]
  have := key 4 (Nat.le_refl _)
  unfold hmRow
  rw [this]
  by_cases h : n' = n
  · rw [if_pos ⟨h, hj⟩, if_pos h]
  · rw [if_neg (fun z => h z.1), if_neg h]
theorem lastOf_home (pages : List (Int × Page)) (n : Int) {j : Nat} (hj : j < 4) : ∀ (ns : List Int) (b : Sec), lastOf (homeOf pages ns) (hm n j) b = if n ∈ ns then (hmPart pages n j).2 else b
  | [], b => by
    rw [if_neg (by simp)]
    rfl
  | m :: ns, b => by
    have e : homeOf pages (m :: ns) = hmRow pages m ++ homeOf pages ns := by
      unfold homeOf
      rw [List.flatMap_cons]
    rw [e, lastOf_app, lastOf_row _ _ _ hj, lastOf_home pages n hj ns]
    by_cases h : n ∈ ns
    · rw [if_pos h, if_pos (List.mem_cons_of_mem _ h)]
    · rw [if_neg h]
      by_cases e : m = n
      · rw [if_pos e, if_pos (by rw [e]; exact List.mem_cons_self)]
      · rw [if_neg e, if_neg]
        intro z
        rcases List.mem_cons.mp z with z | z
        · exact e z.symm
        · exact h z
theorem homeW_mem {pages : List (Int × Page)} {y : Int × Sec} (h : y ∈ homeW pages) : ∃ n j, n ∈ pages.map (·.1) ∧ j < 4 ∧ y.1 = hm n (j : Nat) := by
  unfold homeW homeOf at h
  obtain ⟨n, h1, h2⟩ := List.mem_flatMap.mp h
  unfold hmRow at h2
  obtain ⟨j, hj, rfl⟩ := List.mem_map.mp h2
  exact ⟨n, j, (mem_nums _ _).mp h1, List.mem_range.mp hj, rfl⟩
theorem lastOf_far {pages : List (Int × Page)} {m : Int} (b : Sec) (h : ∀ n j, n ∈ pages.map (·.1) → j < 4 → m ≠ hm n (j : Nat)) : lastOf (homeW pages) m b = b := by
  rcases lastOf_or (homeW pages) m b with e | ⟨y, hy, e, _⟩
  · exact e
  · obtain ⟨n, j, h1, h2, h3⟩ := homeW_mem hy
    exact absurd (e.symm.trans h3) (h n j h1 h2)
theorem sl4 {p : Page} (h : p.length = 64) : sl p 0 16 ++ sl p 16 32 ++ sl p 32 48 ++ sl p 48 64 = p := by
  have e : ∀ a b c : Nat, a ≤ b → b ≤ c → sl p a b ++ sl p b c = sl p a c := fun a b c h1 h2 => by
    obtain ⟨k, rfl⟩ : ∃ k, b = a + k := ⟨b - a, by omega⟩
    obtain ⟨m, rfl⟩ : ∃ m, c = a + k + m := ⟨c - (a + k), by omega⟩
    rw [drop_take_sl, drop_take_sl, drop_take_sl, show a + k - a = k by omega, show a + k + m - (a + k) = m by omega, show a + k + m - a = k + m by omega, ← List.drop_drop, ← List.take_add]
  rw [e 0 16 32 (by decide) (by decide), e 0 32 48 (by decide) (by decide), e 0 48 64 (by decide) (by decide)]
  unfold sl
  rw [List.drop_zero, List.take_of_length_le (by omega)]
theorem kept_page {pages : List (Int × Page)} (h64 : ∀ y ∈ pages, y.2.length = 64) {r : Int} (hr : r < 2) {rs : Sec} {base : Rd} {n : Int} (hn : 0 ≤ n) : pageOf (kept pages r rs base) [] n = pageOf base pages n := by
  have e : ∀ j : Nat, j < 4 → kept pages r rs base (hm n j) = if n ∈ pages.map (·.1) then (hmPart pages n j).2 else base (hm n j) := fun j hj => by
    unfold kept
    rw [if_neg (by unfold hm; omega)]
    unfold homeW
    rw [lastOf_home _ _ hj]
    by_cases h : n ∈ pages.map (·.1)
    · rw [if_pos ((mem_nums _ _).mpr h), if_pos h]
    · rw [if_neg (fun z => h ((mem_nums _ _).mp z)), if_neg h]
  have e0 := e 0 (by decide)
  have e1 := e 1 (by decide)
  have e2 := e 2 (by decide)
  have e3 := e 3 (by decide)
  have c0 : hm n ((0 : Nat) : Int) = hm n 0 := rfl
  have c1 : hm n ((1 : Nat) : Int) = hm n 1 := rfl
  have c2 : hm n ((2 : Nat) : Int) = hm n 2 := rfl
  have c3 : hm n ((3 : Nat) : Int) = hm n 3 := rfl
  rw [c0] at e0
  rw [c1] at e1
  rw [c2] at e2
  rw [c3] at e3
  unfold pageOf
  have lk : look ([] : List (Int × Page)) n = none := rfl
  rw [lk]
  simp only
  rw [e0, e1, e2, e3]
  cases el : look pages n with
  | none =>
    have : ¬ n ∈ pages.map (·.1) := fun z => by
      have := look_isSome.mpr z
      rw [el] at this
      cases this
    rw [if_neg this, if_neg this, if_neg this, if_neg this]
  | some p =>
    have hm' : n ∈ pages.map (·.1) := look_isSome.mp (by rw [el]; rfl)
    have l := h64 _ (look_some_mem el)
    rw [if_pos hm', if_pos hm', if_pos hm', if_pos hm']
    unfold hmPart
    rw [el]
    exact sl4 l
theorem BatOk.keep {d : DS} {x : BS} {bs : List BRows} {M : List (Int × Page)} (h : BatOk (W d.sec) x bs M) (hc : d.cut = false) (w0 : d.wai = []) (he : x.epoch < 4294967295) (hm' : x.many < 4294967296)
    (hk : ∀ n ∈ x.pages.map (·.1), 0 ≤ n) (h64 : ∀ y ∈ x.pages, y.2.length = 64) (l16 : ∀ n, (W (d.keep x).sec n).length = 16) :
    ((d.keep x).cut = true ∧ BatOk (W (d.keep x).sec) x bs M) ∨ BatOk (W (d.keep x).sec) (x.keep false) [] M := by
  have e0 := h.ep0
  have hpl := h.pl
  have hA : ∀ y ∈ homeW x.pages, y.1 ≠ 1 - x.place := fun y hy => by
    obtain ⟨n, j, h1, h2, h3⟩ := homeW_mem hy
    have := hk n h1
    rw [h3]
    unfold hm
    omega
  rcases keep_run hc w0 x hA with ⟨a, b⟩ | b
  · refine .inl ⟨a, ?_⟩
    generalize W (d.keep x).sec = g at *
    have off : ∀ n, n ≠ 1 - x.place → (∀ y ∈ homeW x.pages, y.1 ≠ n) → g n = W d.sec n := fun n h1 h2 => by
      rcases b n with q | ⟨y, hy, e⟩ | ⟨q, _⟩
      · exact q
      · exact absurd e (h2 y hy)
      · exact absurd q h1
    have glg : ∀ k, 0 ≤ k → g (lg k) = W d.sec (lg k) := fun k hk0 => off _ (by unfold lg; omega) fun y hy => by
      obtain ⟨n, j, h1, h2, h3⟩ := homeW_mem hy
      rw [h3]
      unfold hm lg
      omega
    have hA' : ∀ n, n < 2 → ∀ y ∈ homeW x.pages, y.1 ≠ n := fun n hn y hy => by
      obtain ⟨m, j, h1, h2, h3⟩ := homeW_mem hy
      have := hk m h1
      rw [h3]
      unfold hm
      omega
    have gpl : rootAt g x.place = rootAt (W d.sec) x.place := rootAt_of (off _ (by omega) (hA' _ (by omega)))
    have gr : rootAt g (1 - x.place) = rootAt (W d.sec) (1 - x.place) ∨ rootAt g (1 - x.place) = none := by
      rcases b (1 - x.place) with q | ⟨y, hy, e⟩ | ⟨_, q⟩
      · exact .inl (rootAt_of q)
      · exact absurd e (hA' _ (by omega) y hy)
      · refine .inr ?_
        unfold rootAt
        rw [if_neg q]
    refine ⟨l16, hpl, ?_, h.log.same (fun k h1 _ => (glg k h1).symm) ?_, fun k hk0 => ?_, fun k hk0 => ?_, h.pages, h.fit, fun n hn => ?_⟩
    · obtain ⟨m0, a1, a2, a3⟩ := h.root
      refine ⟨m0, a1, a2, ?_⟩
      rcases a3 with ⟨c1, c2, c3, c4, c5⟩ | ⟨c1, c2, c3⟩
      · refine .inl ⟨c1, c2, c3, ?_, ?_⟩
        · rw [c3] at gr
          rcases gr with q | q
          · exact q.trans c4
          · exact q
        · rw [c3] at gpl
          exact gpl.trans c5
      · refine .inr ⟨c1, gpl.trans c2, fun y hy => ?_⟩
        rcases gr with q | q
        · exact c3 y (q.symm.trans hy)
        · rw [q] at hy; cases hy
    · intro z
      refine h.bey x.fin (Int.le_refl _) ?_
      unfold headOk at z ⊢
      rw [← glg _ h.fin0]
      exact z
    · rw [glg k hk0]
      exact h.old k hk0
    · intro z
      refine h.bey k hk0 ?_
      have := h.fin0
      unfold headOk at z ⊢
      rw [← glg k (by omega)]
      exact z
    · rw [← h.page n hn]
      unfold pageOf
      cases el : look x.pages n with
      | some p => rfl
      | none =>
        have nk : ¬ n ∈ x.pages.map (·.1) := fun z => by
          have := look_isSome.mpr z
          rw [el] at this
          cases this
        have gh : ∀ j : Nat, j < 4 → g (hm n j) = W d.sec (hm n j) := fun j hj => off _ (by unfold hm; omega) fun y hy e => by
          obtain ⟨m, i, h1, h2, h3⟩ := homeW_mem hy
          obtain ⟨e1, _⟩ := hm_inj h2 hj (h3.symm.trans e)
          exact nk (e1 ▸ h1)
        have g0 := gh 0 (by decide)
        have g1 := gh 1 (by decide)
        have g2 := gh 2 (by decide)
        have g3 := gh 3 (by decide)
        show g (hm n 0) ++ g (hm n 1) ++ g (hm n 2) ++ g (hm n 3) = _
        have g0 : g (hm n 0) = W d.sec (hm n 0) := g0
        have g1 : g (hm n 1) = W d.sec (hm n 1) := g1
        have g2 : g (hm n 2) = W d.sec (hm n 2) := g2
        have g3 : g (hm n 3) = W d.sec (hm n 3) := g3
        rw [g0, g1, g2, g3]
  · refine .inr ?_
    have eg : W (d.keep x).sec = kept x.pages (1 - x.place) (rootSec (x.epoch + 1) x.many) (W d.sec) := funext b
    rw [eg] at l16 ⊢
    generalize hg : kept x.pages (1 - x.place) (rootSec (x.epoch + 1) x.many) (W d.sec) = g at *
    have off : ∀ n, n ≠ 1 - x.place → (∀ m j, m ∈ x.pages.map (·.1) → j < 4 → n ≠ hm m (j : Nat)) → g n = W d.sec n := fun n h1 h2 => by
      rw [← hg]
      unfold kept
      rw [if_neg h1, lastOf_far _ h2]
    have glg : ∀ k, 0 ≤ k → g (lg k) = W d.sec (lg k) := fun k hk0 => off _ (by unfold lg; omega) fun m j _ _ => by unfold hm lg; omega
    have gpl : rootAt g x.place = rootAt (W d.sec) x.place := rootAt_of (off _ (by omega) fun m j h1 _ => by have := hk m h1; unfold hm; omega)
    obtain ⟨m0, a1, a2, a3⟩ := h.root
    have gr : rootAt g (1 - x.place) = some (x.epoch + 1, x.many) := by
      have e1 : g (1 - x.place) = mark (rootSec (x.epoch + 1) x.many) := by
        rw [← hg]
        unfold kept
        rw [if_pos rfl]
      unfold rootAt
      rw [e1, if_pos (by rfl)]
      have e2 : sl (mark (rootSec (x.epoch + 1) x.many)) 1 5 = four (x.epoch + 1) := rfl
      have e3 : sl (mark (rootSec (x.epoch + 1) x.many)) 5 9 = four x.many := rfl
      rw [e2, e3, ofFour_four (by omega) (by omega), ofFour_four (by omega) hm']
    have noh : ∀ k, 0 ≤ k → ¬ headOk g k (x.epoch + 1) := fun k hk0 z => by
      obtain ⟨z1, z2⟩ := z
      rw [glg k hk0] at z1 z2
      have := h.old k hk0 z1
      omega
    refine ⟨l16, ?_, ⟨x.many, ?_, ?_, .inr ⟨?_, gr, ?_⟩⟩, ?_, fun k hk0 hh => ?_, fun k hk0 => ?_, rfl, (fun y hy => by cases hy), fun n hn => ?_⟩
    · show 1 - x.place = 0 ∨ 1 - x.place = 1
      omega
    · omega
    · show x.many = x.many + ((0 : Nat) : Int)
      omega
    · show 0 < x.epoch + 1
      omega
    · show ∀ y, rootAt g (1 - (1 - x.place)) = some y → y.1 < x.epoch + 1
      rw [show 1 - (1 - x.place) = x.place by omega, gpl]
      intro y hy
      rcases a3 with ⟨c1, c2, c3, c4, c5⟩ | ⟨c1, c2, c3⟩
      · rw [c3, c5] at hy; cases hy
      · rw [c2] at hy
        have hy := Option.some.inj hy
        rw [← hy]
        show x.epoch < _
        omega
    · exact .nil (noHead (noh 0 (Int.le_refl _))).1 (noHead (noh 0 (Int.le_refl _))).2
    · rw [glg k hk0] at hh ⊢
      have := h.old k hk0 hh
      show _ ≤ x.epoch + 1
      omega
    · exact noh k hk0
    · rw [← h.page n hn, ← hg]
      exact kept_page h64 (by omega) hn
end K51

/-! KPO: what is read of pages that stand. -/
namespace K51
open Y
theorem filter_map_fn (g : Int → Page) (a : List Int) : (a.map fun n => (n, g n)).filter (fun r : Int × Page => !decide (r.2 = z64)) = (a.filter fun n => !decide (g n = z64)).map fun n => (n, g n) := by
  induction a with
  | nil => rfl
  | cons x a ih =>
    rw [List.map_cons, List.filter_cons, List.filter_cons, ih]
    by_cases h : g x = z64 <;> simp [h]
theorem rows_same {g h : Int → Page} {a b : List Int} (ha : a.Pairwise (· < ·)) (hb : b.Pairwise (· < ·)) (e1 : ∀ n ∈ a, g n ≠ z64 → n ∈ b ∧ h n = g n) (e2 : ∀ n ∈ b, h n ≠ z64 → n ∈ a ∧ g n = h n) :
    (a.map fun n => (n, g n)).filter (fun r : Int × Page => !decide (r.2 = z64)) = (b.map fun n => (n, h n)).filter (fun r : Int × Page => !decide (r.2 = z64)) := by
  rw [filter_map_fn, filter_map_fn]
  have e : (a.filter fun n => !decide (g n = z64)) = b.filter fun n => !decide (h n = z64) := by
    refine asc_same (ha.filter _) (hb.filter _) fun k => ?_
    rw [List.mem_filter, List.mem_filter]
    have nb : ∀ p : Page, (!decide (p = z64)) = true ↔ p ≠ z64 := fun p => by by_cases q : p = z64 <;> simp [q]
    rw [nb, nb]
    constructor
    · rintro ⟨h1, h2⟩
      obtain ⟨h3, h4⟩ := e1 k h1 h2
      exact ⟨h3, by rw [h4]; exact h2⟩
    · rintro ⟨h1, h2⟩
      obtain ⟨h3, h4⟩ := e2 k h1 h2
      exact ⟨h3, by rw [h4]; exact h2⟩
  rw [← e]
  refine List.map_congr_left fun n hn => ?_
  obtain ⟨h1, h2⟩ := List.mem_filter.mp hn
  have h2 : g n ≠ z64 := by
    intro z
    rw [decide_eq_true z] at h2
    cases h2
  rw [(e1 n h1 h2).2]
theorem rows_canon {f : Rd} {pages M : List (Int × Page)} {hs : List Int} (hp : ∀ n, 0 ≤ n → pageOf f pages n = pg M n) (k0 : ∀ n ∈ pages.map (·.1), 0 ≤ n) (h0 : ∀ n ∈ hs, 0 ≤ n) (m0 : ∀ n ∈ M.map (·.1), 0 ≤ n)
    (hh : ∀ n, 0 ≤ n → n ∉ hs → ∀ j : Nat, j < 4 → f (hm n j) = blank) : pageRows f pages (nums (pages.map (·.1) ++ hs)) = rowsOf M := by
  unfold pageRows rowsOf
  refine rows_same (asc_nums _) (asc_nums _) (fun n hn hz => ?_) fun n hn hz => ?_
  · rw [mem_nums, List.mem_append] at hn
    have n0 : 0 ≤ n := hn.elim (k0 n) (h0 n)
    rw [hp n n0] at hz ⊢
    unfold pg at hz ⊢
    cases e : look M n with
    | none => rw [e] at hz; exact absurd rfl hz
    | some p => exact ⟨(mem_nums _ _).mpr (look_isSome.mp (by rw [e]; rfl)), rfl⟩
  · rw [mem_nums] at hn
    have n0 := m0 n hn
    obtain ⟨p, e⟩ := Option.isSome_iff_exists.mp (look_isSome.mpr hn)
    have ep : pageOf f pages n = p := by rw [hp n n0]; unfold pg; rw [e]; rfl
    rw [e] at hz ⊢
    have hz : p ≠ z64 := hz
    refine ⟨?_, ep⟩
    rw [mem_nums, List.mem_append]
    by_cases h1 : n ∈ pages.map (·.1)
    · exact .inl h1
    · by_cases h2 : n ∈ hs
      · exact .inr h2
      · exfalso
        apply hz
        rw [← ep]
        unfold pageOf
        cases el : look pages n with
        | some q => exact absurd (look_isSome.mp (by rw [el]; rfl)) h1
        | none =>
          have a0 : f (hm n 0) = blank := hh n n0 h2 0 (by decide)
          have a1 : f (hm n 1) = blank := hh n n0 h2 1 (by decide)
          have a2 : f (hm n 2) = blank := hh n n0 h2 2 (by decide)
          have a3 : f (hm n 3) = blank := hh n n0 h2 3 (by decide)
          rw [a0, a1, a2, a3]
          rfl
theorem homeNs_0 {xs : List (Int × Sec)} : ∀ n ∈ homeNs xs, 0 ≤ n := fun n hn => by
  unfold homeNs at hn
  obtain ⟨y, hy, rfl⟩ := List.mem_map.mp hn
  have := (List.mem_filter.mp hy).2
  unfold isHome at this
  rw [Bool.and_eq_true] at this
  have := of_decide_eq_true this.1
  show 0 ≤ (y.1 - 2) / 8
  omega
theorem homeNs_not {xs : List (Int × Sec)} {n : Int} (n0 : 0 ≤ n) (h : n ∉ homeNs xs) {j : Nat} (hj : j < 4) : W xs (hm n j) = blank := by
  unfold W
  cases e : look xs (hm n j) with
  | none => rfl
  | some x =>
    exfalso
    apply h
    unfold homeNs
    refine List.mem_map.mpr ⟨(hm n j, x), List.mem_filter.mpr ⟨look_some_mem e, ?_⟩, ?_⟩
    · unfold isHome
      rw [decide_eq_true (by show 2 ≤ hm n j; unfold hm; omega), decide_eq_true (by show hm n j % 2 = 0; unfold hm; omega)]
      rfl
    · show (hm n j - 2) / 8 = n
      unfold hm
      omega
theorem ofRows_told (sec : List (Int × Sec)) : ofRows (told sec) = told sec := by
  have h := told_nodup sec
  have := ofRows_asc (told sec) [] (by simpa using h)
  simpa [ofRows] using this
theorem pages_0 {f : Rd} {x : BS} {bs : List BRows} {M : List (Int × Page)} (h : BatOk f x bs M) : ∀ n ∈ x.pages.map (·.1), 0 ≤ n ∧ n < 5 := by
  have key : ∀ (bs : List BRows) (d : List (Int × Page)), (∀ g ∈ bs, RFit g) → (∀ n ∈ d.map (·.1), 0 ≤ n ∧ n < 5) → ∀ n ∈ (bs.foldl takeR d).map (·.1), 0 ≤ n ∧ n < 5 := by
    have k1 : ∀ (rows : BRows) (d : List (Int × Page)), (∀ r ∈ rows, 0 ≤ r.1 ∧ r.1 < 5) → (∀ n ∈ d.map (·.1), 0 ≤ n ∧ n < 5) → ∀ n ∈ (takeR d rows).map (·.1), 0 ≤ n ∧ n < 5 := by
      intro rows
      induction rows with
      | nil => intro d _ h; exact h
      | cons r rows ih =>
        intro d h1 h2
        refine ih (put d r.1 r.2) (fun y hy => h1 y (List.mem_cons_of_mem _ hy)) fun n hn => ?_
        obtain ⟨p, hp, rfl⟩ := List.mem_map.mp hn
        rcases put_mem hp with e | e
        · rw [e]; exact h1 r List.mem_cons_self
        · exact h2 _ (List.mem_map_of_mem e)
    intro bs
    induction bs with
    | nil => intro d _ h; exact h
    | cons g bs ih => intro d h1 h2; exact ih (takeR d g) (fun y hy => h1 y (List.mem_cons_of_mem _ hy)) (k1 g d (h1 g List.mem_cons_self).num h2)
  rw [h.pages]
  exact key bs [] h.fit (by simp)
theorem take_0 : ∀ (rows : BRows) (d : List (Int × Page)), (∀ r ∈ rows, 0 ≤ r.1 ∧ r.1 < 5) → (∀ n ∈ d.map (·.1), 0 ≤ n ∧ n < 5) → ∀ n ∈ (takeR d rows).map (·.1), 0 ≤ n ∧ n < 5 := by
  intro rows
  induction rows with
  | nil => intro d _ h; exact h
  | cons r rows ih =>
    intro d h1 h2
    refine ih (put d r.1 r.2) (fun y hy => h1 y (List.mem_cons_of_mem _ hy)) fun n hn => ?_
    obtain ⟨p, hp, rfl⟩ := List.mem_map.mp hn
    rcases put_mem hp with e | e
    · rw [e]; exact h1 r List.mem_cons_self
    · exact h2 _ (List.mem_map_of_mem e)
theorem few5 {ks : List Int} (nd : ks.Nodup) (h : ∀ n ∈ ks, 0 ≤ n ∧ n < 5) : ks.length ≤ 5 :=
  nodup_le (b := [0, 1, 2, 3, 4]) nd fun n hn => by have := h n hn; simp; omega
/-- what a disk's sectors tell of pages -/
theorem paper_is {d : DS} {x : BS} {bs : List BRows} {M : List (Int × Page)} (h : BatOk (W d.sec) x bs M) (w0 : d.wai = []) (nd : (d.sec.map (·.1)).Nodup) (m0 : ∀ n ∈ M.map (·.1), 0 ≤ n ∧ n < 5) : paperOf d x = (x.many, rowsOf M) := by
  unfold paperOf
  rw [read_W w0, rows_canon h.page (fun n hn => (pages_0 h n hn).1) (fun n hn => homeNs_0 n ((mem_nums _ _).mp hn)) (fun n hn => (m0 n hn).1) fun n n0 hn j hj => ?_]
  have := homeNs_not (xs := told d.sec) n0 (fun z => hn ((mem_nums _ _).mpr z)) hj
  rw [← ofRows_told, W_told _ nd] at this
  exact this
theorem toldOf_is {xs : List (Int × Sec)} {x : BS} {bs : List BRows} {M : List (Int × Page)} (h : BatOk (fOf xs) x bs M) (m0 : ∀ n ∈ M.map (·.1), 0 ≤ n ∧ n < 5) : toldOf (fOf xs) (ofRows xs) bs = (x.many, rowsOf M) := by
  obtain ⟨mm, e1, e2⟩ := h.newest
  unfold toldOf
  rw [e1, e2, ← h.pages, rows_canon h.page (fun n hn => (pages_0 h n hn).1) (fun n hn => homeNs_0 n hn) (fun n hn => (m0 n hn).1) fun n n0 hn j hj => homeNs_not n0 hn hj]
theorem bOf_is {xs : List (Int × Sec)} {x : BS} {bs : List BRows} {M : List (Int × Page)} (h : BatOk (fOf xs) x bs M) : bOf xs bs x.fin = x := by
  obtain ⟨mm, e1, e2⟩ := h.newest
  unfold bOf
  rw [e1]
  unfold BS.opened
  show ({ place := x.place, epoch := x.epoch, many := mm + (bs.length : Int), pages := bs.foldl takeR [], fin := x.fin } : BS) = x
  rw [← e2, ← h.pages]
theorem secOk_of {xs : List (Int × Sec)} {x : BS} {bs : List BRows} {M : List (Int × Page)} (h : BatOk (fOf xs) x bs M) (l16 : ∀ y ∈ xs, y.2.length = 16) (few : xs.length ≤ 900) (sum : rowsSum bs ≤ 900) : SecOk xs bs x.fin := by
  obtain ⟨mm, e1, e2⟩ := h.newest
  refine ⟨l16, few, ?_, sum, fun g hg => (h.fit g hg).h64⟩
  rw [e1]
  exact h.log
theorem firstOff_same (a : List (Int × Page)) (ns : List Int) : firstOff a a ns = none := firstOff_none fun _ _ => rfl
theorem rowsOf_asc (M : List (Int × Page)) : ((rowsOf M).map (·.1)).Pairwise (· < ·) := by
  unfold rowsOf
  rw [filter_map_fn (fun n => (look M n).getD [])]
  rw [List.map_map]
  have : ((fun r : Int × Page => r.1) ∘ fun n => (n, (look M n).getD [])) = id := rfl
  rw [this, List.map_id]
  exact (asc_nums _).filter _
theorem takeR_mem : ∀ (rows : BRows) (d : List (Int × Page)) (n : Int), n ∈ (takeR d rows).map (·.1) ↔ n ∈ d.map (·.1) ∨ n ∈ rows.map (·.1) := fun rows d n => by
  rw [← look_isSome, takeR_look, ← look_isSome]
  have key : ∀ (rows : BRows) (d : List (Int × Page)), (look (takeR d rows) n).isSome = true ↔ (look d n).isSome = true ∨ n ∈ rows.map (·.1) := by
    intro rows
    induction rows with
    | nil => intro d; exact ⟨.inl, fun h => h.elim id fun z => by cases z⟩
    | cons r rows ih =>
      intro d
      have e : takeR d (r :: rows) = takeR (put d r.1 r.2) rows := rfl
      rw [e, ih, look_put, List.map_cons, List.mem_cons]
      by_cases h : n = r.1
      · rw [if_pos h]
        exact ⟨fun _ => .inr (.inl h), fun _ => .inl rfl⟩
      · rw [if_neg h]
        constructor
        · rintro (z | z)
          · exact .inl z
          · exact .inr (.inr z)
        · rintro (z | z | z)
          · exact .inl z
          · exact absurd z h
          · exact .inr z
  have := key rows d
  rw [takeR_look] at this
  exact this
theorem fault_no {p : Int × BRows} {M : List (Int × Page)} (h : p.2 = rowsOf M) : faultOf p p = .no := by
  unfold faultOf
  rw [if_neg (fun z => z rfl), firstOff_same]
  simp only
  rw [if_pos]
  refine asc_same (by rw [h]; exact rowsOf_asc M) (asc_nums _) fun k => ?_
  rw [mem_nums]
  unfold ofR
  rw [takeR_mem]
  simp
theorem fOf_told {sec : List (Int × Sec)} (nd : (sec.map (·.1)).Nodup) : fOf (told sec) = W sec := funext fun n => W_told sec nd n
end K51

/-! KG1: whatever stands in the sectors, a log ends. -/
namespace K51
open Y
def Oct (x : List Int) : Prop := ∀ v ∈ x, 0 ≤ v ∧ v < 256
theorem Oct.getD {x : List Int} (h : Oct x) (i : Nat) : 0 ≤ x.getD i 0 ∧ x.getD i 0 < 256 := by
  rw [List.getD_eq_getElem?_getD]
  cases e : x[i]? with
  | none => exact ⟨Int.le_refl _, by decide⟩
  | some v => exact h v (List.mem_of_getElem? e)
theorem ofFour_oct {x : List Int} (h : Oct x) : 0 ≤ ofFour x ∧ ofFour x ≤ 4294967295 := by
  have h0 := h.getD 0
  have h1 := h.getD 1
  have h2 := h.getD 2
  have h3 := h.getD 3
  unfold ofFour
  omega
theorem Oct.sl {x : List Int} (h : Oct x) (a b : Nat) : Oct (sl x a b) := fun v hv => h v (List.mem_of_mem_take (List.mem_of_mem_drop hv))
theorem strm_oct {f : Rd} (h : ∀ n, Oct (f n)) (p : Int) : ∀ m, Oct (strm f p m)
  | 0 => fun v hv => by cases hv
  | m + 1 => fun v hv => by
    rw [strm_succ] at hv
    rcases List.mem_append.mp hv with z | z
    · exact strm_oct h p m v z
    · exact h _ v (List.mem_of_mem_drop z)
theorem strm_getD {f : Rd} (l16 : ∀ n, (f n).length = 16) (p : Int) (q : Nat) : ∀ m, q < 15 * m → (strm f p m).getD q 0 = (f (lg (p + ((q / 15 : Nat) : Int)))).getD (1 + q % 15) 0
  | 0, h => by omega
  | m + 1, h => by
    rw [strm_succ, List.getD_eq_getElem?_getD]
    have l := strm_len l16 p m
    by_cases hq : q < 15 * m
    · rw [List.getElem?_append_left (by omega), ← List.getD_eq_getElem?_getD]
      exact strm_getD l16 p q m hq
    · rw [List.getElem?_append_right (by omega), l, List.getElem?_drop, ← List.getD_eq_getElem?_getD, show q / 15 = m by omega]
      congr 1
      omega
theorem sl_getD (x : List Int) (a b i : Nat) (h : a + i < b) : (sl x a b).getD i 0 = x.getD (a + i) 0 := by
  unfold sl
  rw [List.getD_eq_getElem?_getD, List.getElem?_drop, List.getElem?_take, if_pos h, List.getD_eq_getElem?_getD]
theorem brow_zero {f : Rd} {K : Int} (l16 : ∀ n, (f n).length = 16) (hb : ∀ k, K ≤ k → f (lg k) = blank) {p : Int} {k : Nat} (h : K ≤ p + (((8 + 68 * k) / 15 : Nat) : Int)) : (brow f p k).1 = 0 := by
  have q : ∀ i : Nat, i < 4 → (sl (strm f p (secs (k + 1))) (8 + 68 * k) (12 + 68 * k)).getD i 0 = 0 := fun i hi => by
    rw [sl_getD _ _ _ _ (by omega), strm_getD l16 p _ _ (by unfold secs; omega), hb _ (by omega), List.getD_eq_getElem?_getD]
    have : ∀ j : Nat, (blank[j]?).getD 0 = 0 := fun j => by
      cases e : blank[j]? with
      | none => rfl
      | some v => exact List.eq_of_mem_replicate (List.mem_of_getElem? e)
    exact this _
  show ofFour (sl (strm f p (secs (k + 1))) (8 + 68 * k) (12 + 68 * k)) = 0
  unfold ofFour
  rw [q 0 (by decide), q 1 (by decide), q 2 (by decide), q 3 (by decide)]
  rfl
theorem brow_nn {f : Rd} (h : ∀ n, Oct (f n)) (p : Int) (k : Nat) : 0 ≤ (brow f p k).1 := (ofFour_oct ((strm_oct h p _).sl _ _)).1
theorem rising_few {f : Rd} {K : Int} (l16 : ∀ n, (f n).length = 16) (ho : ∀ n, Oct (f n)) (hb : ∀ k, K ≤ k → f (lg k) = blank) {p : Int} {i : Nat} (h : rising (browsN f p i)) : i ≤ 1 ∨ 4 * ((i : Int) - 1) < K - p := by
  by_cases h1 : i ≤ 1
  · exact .inl h1
  · refine .inr ?_
    obtain ⟨j, rfl⟩ : ∃ j, i = j + 1 + 1 := ⟨i - 2, by omega⟩
    rw [browsN_succ] at h
    have h3 := (rising_snoc.mp h).2 (brow f p j) (by rw [browsN_succ]; simp)
    have h4 := brow_nn ho p j
    by_cases hk : K ≤ p + (((8 + 68 * (j + 1)) / 15 : Nat) : Int)
    · have := brow_zero l16 hb hk
      omega
    · omega
theorem cntOk_any {f : Rd} {K : Int} (l16 : ∀ n, (f n).length = 16) (ho : ∀ n, Oct (f n)) (hb : ∀ k, K ≤ k → f (lg k) = blank) {p ep : Int} (hK : K - p ≤ 10000) : CntOk f p ep := fun _ => by
  have c := ofFour_oct ((ho (lg p)).sl 5 9)
  refine ⟨c.1, c.2, fun i _ hr => ?_⟩
  rcases rising_few l16 ho hb hr with z | z <;> omega
theorem log_ex {f : Rd} {K : Int} (l16 : ∀ n, (f n).length = 16) (ho : ∀ n, Oct (f n)) (hb : ∀ k, K ≤ k → f (lg k) = blank) (hK : K ≤ 10000) (ep : Int) : ∀ (m : Nat) (p : Int), 0 ≤ p → K - p ≤ m → ∃ bs e, LogIs f ep p bs e ∧ (rowsSum bs : Int) ≤ max (K - p) 0 ∧ ∀ g ∈ bs, ∀ r ∈ g, r.2.length = 64 := by
  intro m
  induction m with
  | zero =>
    intro p p0 hp
    have nh : ¬ headOk f p ep := fun z => by
      have := z.1
      rw [hb p (by omega)] at this
      exact absurd this (by decide)
    exact ⟨[], p, .nil (noHead nh).1 (noHead nh).2, by show ((0 : Nat) : Int) ≤ _; omega, fun g hg => by cases hg⟩
  | succ m ih =>
    intro p p0 hp
    have ck : CntOk f p ep := cntOk_any l16 ho hb (by omega)
    cases hbat : batchAt f p ep with
    | none => exact ⟨[], p, .nil hbat ck, by show ((0 : Nat) : Int) ≤ _; omega, fun g hg => by cases hg⟩
    | some x =>
      obtain ⟨b, s⟩ := x
      have hd : headOk f p ep := by
        unfold batchAt at hbat
        by_cases z : headOk f p ep
        · exact z
        · rw [if_neg z] at hbat; cases hbat
      have pK : p < K := by
        by_cases z : K ≤ p
        · have := hd.1
          rw [hb p z] at this
          exact absurd this (by decide)
        · omega
      have hbat' := hbat
      unfold batchAt at hbat
      rw [if_pos hd] at hbat
      by_cases hr : rising (browsN f p (cnt f p))
      · rw [if_pos hr] at hbat
        have hbat := Option.some.inj hbat
        have eb : browsN f p (cnt f p) = b := congrArg Prod.fst hbat
        have es : ((secs (cnt f p) : Nat) : Int) = s := congrArg Prod.snd hbat
        have lb : b.length = cnt f p := by rw [← eb]; unfold browsN; rw [List.length_map, List.length_range]
        have fw := rising_few l16 ho hb hr
        have ss : ((secs (cnt f p) : Nat) : Int) ≥ 4 * (cnt f p : Int) + 1 := by unfold secs; omega
        obtain ⟨bs, e, h1, h2, h3⟩ := ih (p + s) (by omega) (by omega)
        refine ⟨b :: bs, e, .cons hbat' ck h1, ?_, fun g hg => ?_⟩
        · have e1 : rowsSum (b :: bs) = b.length + rowsSum bs := by unfold rowsSum; rw [List.map_cons, List.sum_cons]
          rw [e1]
          omega
        · rcases List.mem_cons.mp hg with e1 | hg
          · rw [e1, ← eb]
            intro r hr'
            unfold browsN at hr'
            obtain ⟨k, _, rfl⟩ := List.mem_map.mp hr'
            show (sl (strm f p (secs (k + 1))) (12 + 68 * k) (76 + 68 * k)).length = 64
            have := strm_len l16 p (secs (k + 1))
            rw [sl_len (by rw [this]; unfold secs; omega)]
            omega
          · exact h3 g hg
      · rw [if_neg hr] at hbat; cases hbat
/-- sectors, whatever stands in them -/
structure SecFin (xs : List (Int × Sec)) : Prop where
  l16 : ∀ y ∈ xs, y.2.length = 16
  oct : ∀ y ∈ xs, Oct y.2
  key : ∀ y ∈ xs, 0 ≤ y.1 ∧ y.1 < 400
  few : xs.length ≤ 400
theorem synS_mem : ∀ (wai sec : List (Int × Sec)) (y : Int × Sec), y ∈ synS sec wai → y ∈ sec ∨ y ∈ wai
  | [], _, _, h => .inl h
  | x :: wai, sec, y, h => by
    have e : synS sec (x :: wai) = synS (put sec x.1 x.2) wai := rfl
    rw [e] at h
    rcases synS_mem wai _ y h with z | z
    · rcases put_mem z with q | q
      · exact .inr (by rw [q]; exact List.mem_cons_self)
      · exact .inl q
    · exact .inr (List.mem_cons_of_mem _ z)
theorem ofRows_mem {xs : List (Int × Sec)} {y : Int × Sec} (h : y ∈ ofRows xs) : y ∈ xs := (synS_mem xs [] y h).elim (fun z => by cases z) id
theorem W_or (sec : List (Int × Sec)) (n : Int) : W sec n = blank ∨ (n, W sec n) ∈ sec := by
  unfold W
  cases e : look sec n with
  | none => exact .inl rfl
  | some x => exact .inr (look_some_mem e)
theorem blank_oct : Oct blank := fun v hv => by rw [List.eq_of_mem_replicate hv]; exact ⟨by decide, by decide⟩
theorem SecFin.ok {xs : List (Int × Sec)} (h : SecFin xs) : ∃ bs e, SecOk xs bs e ∧ rowsSum bs ≤ 200 := by
  have w : ∀ n, fOf xs n = blank ∨ (n, fOf xs n) ∈ xs := fun n => (W_or (ofRows xs) n).imp id ofRows_mem
  have l16 : ∀ n, (fOf xs n).length = 16 := fun n => by
    rcases w n with e | e
    · rw [e]; rfl
    · exact h.l16 _ e
  have ho : ∀ n, Oct (fOf xs n) := fun n => by
    rcases w n with e | e
    · rw [e]; exact blank_oct
    · exact h.oct _ e
  have hb : ∀ k : Int, 200 ≤ k → fOf xs (lg k) = blank := fun k hk => by
    rcases w (lg k) with e | e
    · exact e
    · have := (h.key _ e).2
      unfold lg at this
      omega
  obtain ⟨bs, e, h1, h2, h3⟩ := log_ex l16 ho hb (by decide) (newest (fOf xs)).2.1 200 0 (Int.le_refl _) (by decide)
  have few := h.few
  exact ⟨bs, e, ⟨h.l16, by omega, h1, by omega, h3⟩, by omega⟩
/-- the paper is what the law reads -/
theorem paper_told {xs : List (Int × Sec)} {bs : List BRows} {e : Int} (ok : SecOk xs bs e) : paperOf (dOf xs) (bOf xs bs e) = toldOf (fOf xs) (ofRows xs) bs := by
  have nd : ((ofRows xs).map (·.1)).Nodup := synS_nd xs [] (by simp)
  have hW : ∀ n, W (told (ofRows xs)) n = fOf xs n := fun n => by
    have := W_told (ofRows xs) nd n
    rw [ofRows_told] at this
    exact this
  unfold paperOf toldOf
  rw [dOf_read]
  have ep : (bOf xs bs e).pages = bs.foldl takeR [] := rfl
  have em : (bOf xs bs e).many = (newest (fOf xs)).2.2 + bs.length := rfl
  rw [ep, em]
  congr 1
  unfold pageRows
  refine rows_same (asc_nums _) (asc_nums _) (fun n hn hz => ⟨?_, rfl⟩) fun n hn hz => ⟨?_, rfl⟩
  · rw [mem_nums, List.mem_append] at hn ⊢
    rcases hn with z | z
    · exact .inl z
    · rw [mem_nums] at z
      refine .inr ?_
      unfold homeNs at z ⊢
      obtain ⟨y, hy, rfl⟩ := List.mem_map.mp z
      obtain ⟨h1, h2⟩ := List.mem_filter.mp hy
      have hk : y.1 ∈ (ofRows xs).map (·.1) := by
        unfold told at h1
        obtain ⟨n', h3, h4⟩ := List.mem_map.mp (List.mem_filter.mp h1).1
        rw [← h4]
        exact (mem_nums _ _).mp h3
      obtain ⟨y', hy', e'⟩ := List.mem_map.mp hk
      exact List.mem_map.mpr ⟨y', List.mem_filter.mpr ⟨hy', by show isHome y'.1 = true; rw [e']; exact h2⟩, by show (y'.1 - 2) / 8 = _; rw [e']⟩
  · rw [mem_nums, List.mem_append] at hn ⊢
    rcases hn with z | z
    · exact .inl z
    · by_cases hm' : n ∈ homeNs (told (ofRows xs))
      · exact .inr ((mem_nums _ _).mpr hm')
      · by_cases hk : n ∈ (bs.foldl takeR []).map (·.1)
        · exact .inl hk
        · exfalso
          apply hz
          have n0 := homeNs_0 n z
          unfold pageOf
          cases el : look (bs.foldl takeR []) n with
          | some p => exact absurd (look_isSome.mp (by rw [el]; rfl)) hk
          | none =>
            have b : ∀ j : Nat, j < 4 → fOf xs (hm n j) = blank := fun j hj => by rw [← hW]; exact homeNs_not n0 hm' hj
            have b0 : fOf xs (hm n 0) = blank := b 0 (by decide)
            have b1 : fOf xs (hm n 1) = blank := b 1 (by decide)
            have b2 : fOf xs (hm n 2) = blank := b 2 (by decide)
            have b3 : fOf xs (hm n 3) = blank := b 3 (by decide)
            rw [b0, b1, b2, b3]
            rfl
theorem pageRows_asc (f : Rd) (pages : List (Int × Page)) (ns : List Int) : ((pageRows f pages (nums ns)).map (·.1)).Pairwise (· < ·) := by
  unfold pageRows
  rw [filter_map_fn (fun n => pageOf f pages n), List.map_map]
  have : ((fun r : Int × Page => r.1) ∘ fun n => (n, pageOf f pages n)) = id := rfl
  rw [this, List.map_id]
  exact (asc_nums _).filter _
theorem fault_self {p : Int × BRows} (h : (p.2.map (·.1)).Pairwise (· < ·)) : faultOf p p = .no := by
  unfold faultOf
  rw [if_neg (fun z => z rfl), firstOff_same]
  simp only
  rw [if_pos]
  refine asc_same h (asc_nums _) fun k => ?_
  rw [mem_nums]
  unfold ofR
  rw [takeR_mem]
  simp
end K51

/-! KG2: batches on a disk that no one cuts off, turn by turn. -/
namespace K51
open Y
def NC (d : DS) : Prop := d.left = none ∧ d.cut = false
theorem nc_counts {d : DS} (h : NC d) : d.counts = d := by
  unfold DS.counts
  rw [h.1]
theorem nc_write {d : DS} (h : NC d) (n : Int) (x : Sec) : d.write n x = { d with wai := d.wai ++ [(n, x)] } := by
  have e : d.write n x = { d.counts with wai := d.counts.wai ++ [(n, x)] } := if_neg (by rw [nc_counts h, h.2]; exact Bool.false_ne_true)
  rw [e, nc_counts h]
theorem nc_writes : ∀ (l : List (Int × Sec)) {d : DS}, NC d → d.writes l = { d with wai := d.wai ++ l }
  | [], d, _ => by
    show d = _
    rw [List.append_nil]
  | x :: l, d, h => by
    have e : d.writes (x :: l) = (d.write x.1 x.2).writes l := rfl
    rw [e, nc_write h, nc_writes l (d := { d with wai := d.wai ++ [(x.1, x.2)] }) h]
    show ({ d with wai := (d.wai ++ [(x.1, x.2)]) ++ l } : DS) = _
    rw [List.append_assoc]
    rfl
theorem nc_sync {d : DS} (h : NC d) : d.sync = { d with sec := synS d.sec d.wai, wai := [] } := by
  have e : d.sync = { d.counts with sec := synS d.counts.sec d.counts.wai, wai := [] } := if_neg (by rw [nc_counts h, h.2]; exact Bool.false_ne_true)
  rw [e, nc_counts h]
theorem nc_commit {d : DS} (h : NC d) (w0 : d.wai = []) (ep e : Int) (rows : BRows) : NC (d.commit ep e rows) ∧ ∀ y ∈ (d.commit ep e rows).sec, y ∈ d.sec ∨ y ∈ logW e (contOf ep rows) ∨ y = (lg e, mark (part (contOf ep rows) 0)) := by
  have e1 : d.commit ep e rows = (((d.writes (logW e (contOf ep rows))).sync).write (lg e) (mark (part (contOf ep rows) 0))).sync := rfl
  rw [nc_writes _ h, w0, List.nil_append] at e1
  rw [nc_sync (d := { d with wai := logW e (contOf ep rows) }) h, nc_write (d := { d with sec := synS d.sec (logW e (contOf ep rows)), wai := [] }) h,
    nc_sync (d := { d with sec := synS d.sec (logW e (contOf ep rows)), wai := [] ++ [(lg e, mark (part (contOf ep rows) 0))] }) h] at e1
  rw [e1]
  refine ⟨h, fun y hy => ?_⟩
  rcases synS_mem _ _ y hy with z | z
  · rcases synS_mem _ _ y z with q | q
    · exact .inl q
    · exact .inr (.inl q)
  · have z : y ∈ [(lg e, mark (part (contOf ep rows) 0))] := z
    rw [List.mem_singleton] at z
    exact .inr (.inr z)
theorem nc_keep {d : DS} (h : NC d) (w0 : d.wai = []) (x : BS) : NC (d.keep x) ∧ ∀ y ∈ (d.keep x).sec, y ∈ d.sec ∨ y ∈ homeW x.pages ∨ y = (1 - x.place, rootSec (x.epoch + 1) x.many) ∨ y = (1 - x.place, mark (rootSec (x.epoch + 1) x.many)) := by
  have e1 : d.keep x = ((((d.writes (homeW x.pages)).sync.write (1 - x.place) (rootSec (x.epoch + 1) x.many)).sync).write (1 - x.place) (mark (rootSec (x.epoch + 1) x.many))).sync := rfl
  rw [nc_writes _ h, w0, List.nil_append] at e1
  generalize hm1 : rootSec (x.epoch + 1) x.many = rs at *
  rw [nc_sync (d := { d with wai := homeW x.pages }) h, nc_write (d := { d with sec := synS d.sec (homeW x.pages), wai := [] }) h,
    nc_sync (d := { d with sec := synS d.sec (homeW x.pages), wai := [] ++ [(1 - x.place, rs)] }) h,
    nc_write (d := { d with sec := synS (synS d.sec (homeW x.pages)) ([] ++ [(1 - x.place, rs)]), wai := [] }) h,
    nc_sync (d := { d with sec := synS (synS d.sec (homeW x.pages)) ([] ++ [(1 - x.place, rs)]), wai := [] ++ [(1 - x.place, mark rs)] }) h] at e1
  rw [e1]
  refine ⟨h, fun y hy => ?_⟩
  rcases synS_mem _ _ y hy with z | z
  · rcases synS_mem _ _ y z with q | q
    · rcases synS_mem _ _ y q with r | r
      · exact .inl r
      · exact .inr (.inl r)
    · have q : y ∈ [(1 - x.place, rs)] := q
      rw [List.mem_singleton] at q
      exact .inr (.inr (.inl q))
  · have z : y ∈ [(1 - x.place, mark rs)] := z
    rw [List.mem_singleton] at z
    exact .inr (.inr (.inr z))
theorem four_oct (n : Int) : Oct (four n) := fun v hv => by
  unfold four at hv
  simp only [List.mem_cons, List.not_mem_nil, or_false] at hv
  omega
theorem cont_oct {ep : Int} {rows : BRows} (h : ∀ r ∈ rows, Oct r.2) : Oct (contOf ep rows) := fun v hv => by
  unfold contOf at hv
  rcases List.mem_append.mp hv with z | z
  · rcases List.mem_append.mp z with q | q
    · exact four_oct _ v q
    · exact four_oct _ v q
  · obtain ⟨r, hr, hv'⟩ := List.mem_flatMap.mp z
    rcases List.mem_append.mp hv' with q | q
    · exact four_oct _ v q
    · exact h r hr v q
theorem part_oct {c : List Int} (h : Oct c) (i : Nat) : Oct (part c i) := fun v hv => by
  unfold part at hv
  rcases List.mem_cons.mp hv with z | z
  · rw [z]; exact ⟨by decide, by decide⟩
  · rcases List.mem_append.mp z with q | q
    · exact h v (List.mem_of_mem_drop (List.mem_of_mem_take q))
    · rw [List.eq_of_mem_replicate q]; exact ⟨by decide, by decide⟩
theorem mark_oct {x : Sec} (h : Oct x) : Oct (mark x) := fun v hv => by
  unfold mark at hv
  rcases List.mem_cons.mp hv with z | z
  · rw [z]; exact ⟨by decide, by decide⟩
  · exact h v (List.mem_of_mem_drop z)
theorem root_oct (e m : Int) : Oct (rootSec e m) := fun v hv => by
  unfold rootSec at hv
  rcases List.mem_cons.mp hv with z | z
  · rw [z]; exact ⟨by decide, by decide⟩
  · rcases List.mem_append.mp z with q | q
    · rcases List.mem_append.mp q with r | r
      · exact four_oct _ v r
      · exact four_oct _ v r
    · rw [List.eq_of_mem_replicate q]; exact ⟨by decide, by decide⟩
theorem commit_fit4 {d : DS} (h : Fit d) (w0 : d.wai = []) (hs : d.sec.length ≤ 59000) (ep e : Int) {rows : BRows} (hl : rows.length ≤ 4) (h64 : ∀ r ∈ rows, r.2.length = 64) :
    Fit (d.commit ep e rows) ∧ (d.commit ep e rows).wai = [] ∧ (d.commit ep e rows).sec.length ≤ d.sec.length + 20 := by
  have lc := cont_len (e := ep) h64
  have lp : parts (contOf ep rows) ≤ 19 := by unfold parts; omega
  obtain ⟨f1, s1, w1⟩ := fit_writes (logW e (contOf ep rows)) h (logW_16 _ _) (by rw [logW_len, w0]; show _ + 0 + _ ≤ _; omega) (by rw [logW_len, w0]; show 0 + _ ≤ _; omega)
  rw [logW_len, w0] at s1 w1
  have s1 : (d.writes (logW e (contOf ep rows))).sec.length + (d.writes (logW e (contOf ep rows))).wai.length ≤ d.sec.length + 0 + parts (contOf ep rows) := s1
  have w1 : (d.writes (logW e (contOf ep rows))).wai.length ≤ 0 + parts (contOf ep rows) := w1
  obtain ⟨f2, s2, w2⟩ := fit_sync f1
  obtain ⟨f3, s3, w3⟩ := fit_write f2 (n := lg e) (x := mark (part (contOf ep rows) 0)) (by show (1 :: (part (contOf ep rows) 0).drop 1).length = 16; rw [List.length_cons, List.length_drop, part_len]) (by omega) (by omega)
  obtain ⟨f4, s4, w4⟩ := fit_sync f3
  have z1 : Wz (d.writes (logW e (contOf ep rows))) := writes_wz _ fun _ => w0
  have z2 : Wz (d.writes (logW e (contOf ep rows))).sync := fun _ => sync_wai z1
  have z3 : Wz ((d.writes (logW e (contOf ep rows))).sync.write (lg e) (mark (part (contOf ep rows) 0))) := write_wz z2 _ _
  exact ⟨f4, sync_wai z3, by show (DS.sync _).sec.length ≤ _; omega⟩
theorem keep_fit {d : DS} (h : Fit d) (w0 : d.wai = []) (hs : d.sec.length ≤ 59000) {x : BS} (hl : x.pages.length ≤ 5) (h64 : ∀ y ∈ x.pages, y.2.length = 64) : Fit (d.keep x) ∧ (d.keep x).wai = [] ∧ (d.keep x).sec.length ≤ d.sec.length + 22 := by
  have ll : (homeW x.pages).length ≤ 20 := by
    unfold homeW
    rw [homeOf_len]
    have := le_nums_len (x.pages.map (·.1))
    rw [List.length_map] at this
    omega
  have l16 : ∀ y ∈ homeW x.pages, y.2.length = 16 := homeOf_16 h64 fun n hn => (mem_nums _ _).mp hn
  obtain ⟨f1, s1, w1⟩ := fit_writes (homeW x.pages) h l16 (by rw [w0]; show _ + 0 + _ ≤ _; omega) (by rw [w0]; show 0 + _ ≤ _; omega)
  rw [w0] at s1 w1
  have s1 : (d.writes (homeW x.pages)).sec.length + (d.writes (homeW x.pages)).wai.length ≤ d.sec.length + 0 + (homeW x.pages).length := s1
  have w1 : (d.writes (homeW x.pages)).wai.length ≤ 0 + (homeW x.pages).length := w1
  obtain ⟨f2, s2, w2⟩ := fit_sync f1
  obtain ⟨f3, s3, w3⟩ := fit_write f2 (n := 1 - x.place) (x := rootSec (x.epoch + 1) x.many) rfl (by omega) (by omega)
  obtain ⟨f4, s4, w4⟩ := fit_sync f3
  obtain ⟨f5, s5, w5⟩ := fit_write f4 (n := 1 - x.place) (x := mark (rootSec (x.epoch + 1) x.many)) rfl (by omega) (by omega)
  obtain ⟨f6, s6, w6⟩ := fit_sync f5
  have z1 : Wz (d.writes (homeW x.pages)) := writes_wz _ fun _ => w0
  have z2 : Wz (d.writes (homeW x.pages)).sync := fun _ => sync_wai z1
  have z3 := write_wz z2 (1 - x.place) (rootSec (x.epoch + 1) x.many)
  have z4 : Wz (DS.sync _) := fun _ => sync_wai z3
  have z5 := write_wz z4 (1 - x.place) (mark (rootSec (x.epoch + 1) x.many))
  exact ⟨f6, sync_wai z5, by show (DS.sync _).sec.length ≤ _; omega⟩
theorem pages_nd {f : Rd} {x : BS} {bs : List BRows} {M : List (Int × Page)} (h : BatOk f x bs M) : (x.pages.map (·.1)).Nodup ∧ (∀ y ∈ x.pages, y.2.length = 64) ∧ x.pages.length ≤ 5 := by
  obtain ⟨a, b, _⟩ := logPages bs [] (by simp) (fun y hy => by cases hy) fun g hg => (h.fit g hg).h64
  rw [← h.pages] at a b
  have := few5 a (pages_0 h)
  rw [List.length_map] at this
  exact ⟨a, b, this⟩
theorem rowsSum_snoc (bs : List BRows) (r : BRows) : rowsSum (bs ++ [r]) = rowsSum bs + r.length := by
  unfold rowsSum
  rw [List.map_append, List.sum_append]
  simp
structure Gd (d : DS) (x : BS) (bs : List BRows) (M : List (Int × Page)) (t : Nat) : Prop where
  ok : BatOk (W d.sec) x bs M
  fit : Fit d
  w0 : d.wai = []
  few : d.sec.length ≤ 22 * t
  ep : x.epoch ≤ t
  many : x.many ≤ t
  sum : rowsSum bs ≤ 4 * t
  nd : (M.map (·.1)).Nodup
  k5 : ∀ n ∈ M.map (·.1), 0 ≤ n ∧ n < 5
  nc : NC d
  oct : ∀ y ∈ d.sec, Oct y.2
  key : ∀ y ∈ d.sec, 0 ≤ y.1 ∧ y.1 ≤ 45 + 40 * t
  fin : x.fin ≤ 19 * t
  po : ∀ y ∈ x.pages, Oct y.2
theorem takeR_oct : ∀ (rows : BRows) (d : List (Int × Page)), (∀ y ∈ d, Oct y.2) → (∀ r ∈ rows, Oct r.2) → ∀ y ∈ takeR d rows, Oct y.2
  | [], _, h, _ => h
  | r :: rows, d, h, hr => takeR_oct rows (put d r.1 r.2) (fun y hy => by
      rcases put_mem hy with e | e
      · rw [e]; exact hr r List.mem_cons_self
      · exact h y e) fun z hz => hr z (List.mem_cons_of_mem _ hz)
theorem Gd.commit {d : DS} {x : BS} {bs : List BRows} {M : List (Int × Page)} {t : Nat} (h : Gd d x bs M t) (ht : t ≤ 20) {rows : BRows} (hr : RFit rows) (ho : ∀ r ∈ rows, Oct r.2) :
    (d.commit x.epoch x.fin rows).cut = false ∧ Gd (d.commit x.epoch x.fin rows) (x.commit false rows) (bs ++ [rows]) (takeR M rows) (t + 1) := by
  have few := h.few
  obtain ⟨f1, w1, l1⟩ := commit_fit4 h.fit h.w0 (by omega) x.epoch x.fin hr.few hr.h64
  have ep := h.ep
  have many := h.many
  have sum := h.sum
  have fin := h.fin
  have hl := hr.few
  have f0 := h.ok.fin0
  obtain ⟨n1, mem⟩ := nc_commit h.nc h.w0 x.epoch x.fin rows
  have lc := cont_len' (e := x.epoch) hr.h64
  have lp : parts (contOf x.epoch rows) ≤ 19 := by unfold parts; omega
  refine ⟨n1.2, ?_⟩
  rcases h.ok.commit h.nc.2 h.w0 hr (by omega) (fun n => whole_len f1.ls n) with ⟨a, _⟩ | ⟨a, b⟩
  · rw [n1.2] at a; cases a
  · refine ⟨a, f1, w1, by omega, ?_, ?_, ?_, takeR_keys h.nd rows, take_0 rows M hr.num h.k5, n1, fun y hy => ?_, fun y hy => ?_, ?_, takeR_oct rows x.pages h.po ho⟩
    · show x.epoch ≤ _
      omega
    · show x.many + 1 ≤ _
      omega
    · rw [rowsSum_snoc]
      omega
    · rcases mem y hy with z | z | z
      · exact h.oct y z
      · obtain ⟨i, _, e⟩ := List.mem_map.mp z
        rw [← e]
        exact part_oct (cont_oct ho) i
      · rw [z]
        exact mark_oct (part_oct (cont_oct ho) 0)
    · rcases mem y hy with z | z | z
      · have := h.key y z
        omega
      · obtain ⟨i, hi, e⟩ := List.mem_map.mp z
        have hi := List.mem_range.mp hi
        rw [← e]
        show 0 ≤ lg (x.fin + i) ∧ lg (x.fin + i) ≤ _
        unfold lg
        omega
      · rw [z]
        show 0 ≤ lg x.fin ∧ lg x.fin ≤ _
        unfold lg
        omega
    · show x.fin + ((parts (contOf x.epoch rows) : Nat) : Int) ≤ _
      omega
theorem Gd.keep {d : DS} {x : BS} {bs : List BRows} {M : List (Int × Page)} {t : Nat} (h : Gd d x bs M t) (ht : t ≤ 20) : (d.keep x).cut = false ∧ Gd (d.keep x) (x.keep false) [] M (t + 1) := by
  have few := h.few
  have ep := h.ep
  have many := h.many
  have sum := h.sum
  have hpl := h.ok.pl
  obtain ⟨p1, p2, p3⟩ := pages_nd h.ok
  obtain ⟨f1, w1, l1⟩ := keep_fit h.fit h.w0 (by omega) p3 p2
  obtain ⟨n1, mem⟩ := nc_keep h.nc h.w0 x
  refine ⟨n1.2, ?_⟩
  rcases h.ok.keep h.nc.2 h.w0 (by omega) (by omega) (fun n hn => (pages_0 h.ok n hn).1) p2 (fun n => whole_len f1.ls n) with ⟨a, _⟩ | a
  · rw [n1.2] at a; cases a
  · refine ⟨a, f1, w1, by omega, ?_, ?_, Nat.zero_le _, h.nd, h.k5, n1, fun y hy => ?_, fun y hy => ?_, ?_, fun y hy => by cases hy⟩
    · show x.epoch + 1 ≤ _
      omega
    · show x.many ≤ _
      omega
    · rcases mem y hy with z | z | z | z
      · exact h.oct y z
      · unfold homeW homeOf at z
        obtain ⟨n, hn, h2⟩ := List.mem_flatMap.mp z
        unfold hmRow at h2
        obtain ⟨j, hj, rfl⟩ := List.mem_map.mp h2
        show Oct (sl ((look x.pages n).getD []) _ _)
        refine Oct.sl ?_ _ _
        cases el : look x.pages n with
        | none => intro v hv; cases hv
        | some p => exact h.po _ (look_some_mem el)
      · rw [z]; exact root_oct _ _
      · rw [z]; exact mark_oct (root_oct _ _)
    · rcases mem y hy with z | z | z | z
      · have := h.key y z
        omega
      · obtain ⟨n, j, h1, h2, h3⟩ := homeW_mem z
        have := pages_0 h.ok n h1
        rw [h3]
        unfold hm
        omega
      · rw [z]
        show 0 ≤ 1 - x.place ∧ 1 - x.place ≤ _
        omega
      · rw [z]
        show 0 ≤ 1 - x.place ∧ 1 - x.place ≤ _
        omega
    · show (0 : Int) ≤ _
      omega
theorem Gd.mono8 {d : DS} {x : BS} {bs : List BRows} {M : List (Int × Page)} {t : Nat} (h : Gd d x bs M t) (ht : t ≤ 8) : Gd d x bs M 8 :=
  ⟨h.ok, h.fit, h.w0, by have := h.few; omega, by have := h.ep; omega, by have := h.many; omega, by have := h.sum; omega, h.nd, h.k5, h.nc, h.oct, fun y hy => by have := h.key y hy; omega, by have := h.fin; omega, h.po⟩
theorem Gd.paper {d : DS} {x : BS} {bs : List BRows} {M : List (Int × Page)} {t : Nat} (h : Gd d x bs M t) : paperOf d x = (x.many, rowsOf M) := paper_is h.ok h.w0 h.fit.nd h.k5
theorem Gd.secs {d : DS} {x : BS} {bs : List BRows} {M : List (Int × Page)} {t : Nat} (h : Gd d x bs M t) (ht : t ≤ 8) : SecFin (told d.sec) ∧ SecOk (told d.sec) bs x.fin ∧ toldOf (fOf (told d.sec)) (ofRows (told d.sec)) bs = (x.many, rowsOf M) := by
  have few := h.few
  have sum := h.sum
  have lt := told_le d.sec
  have hb : BatOk (fOf (told d.sec)) x bs M := by rw [fOf_told h.fit.nd]; exact h.ok
  have mem : ∀ y ∈ told d.sec, y ∈ d.sec := fun y hy => by
    have nd := h.fit.nd
    unfold told at hy
    obtain ⟨h1, h2⟩ := List.mem_filter.mp hy
    obtain ⟨n, hn, e⟩ := List.mem_map.mp h1
    have hk := (mem_nums _ _).mp hn
    obtain ⟨p, hp⟩ := Option.isSome_iff_exists.mp (look_isSome.mpr hk)
    rw [← e, hp]
    exact look_some_mem hp
  refine ⟨⟨told_l16 h.fit.ls, fun y hy => h.oct y (mem y hy), fun y hy => ?_, by omega⟩, secOk_of hb (told_l16 h.fit.ls) (by omega) (by omega), toldOf_is hb h.k5⟩
  have := h.key y (mem y hy)
  omega
theorem Gd.start : Gd (dOf []) { place := 1, epoch := 0, many := 0, pages := [], fin := 0 } [] [] 0 ∧ SecOk [] [] 0 ∧ bOf [] [] 0 = { place := 1, epoch := 0, many := 0, pages := [], fin := 0 } := by
  have hb : BatOk (fOf []) { place := 1, epoch := 0, many := 0, pages := [], fin := 0 } [] [] := by
    have hbl : ∀ n, fOf [] n = blank := fun n => rfl
    have noh : ∀ k, ¬ headOk (fOf []) k 0 := fun k z => by
      have := z.1
      rw [hbl] at this
      exact absurd this (by decide)
    refine ⟨fun n => rfl, .inr rfl, ⟨0, Int.le_refl _, rfl, .inl ⟨rfl, rfl, rfl, rfl, rfl⟩⟩, .nil (noHead (noh 0)).1 (noHead (noh 0)).2, fun k _ z => ?_, fun k _ => noh k, rfl, (fun y hy => by cases hy), fun n _ => rfl⟩
    rw [hbl] at z
    exact absurd z (by decide)
  have e := bOf_is hb
  refine ⟨⟨hb, ?_, rfl, Nat.zero_le _, Int.le_refl _, Int.le_refl _, Nat.le_refl _, List.nodup_nil, (fun n hn => by cases hn), ⟨rfl, rfl⟩, (fun y hy => by cases hy), (fun y hy => by cases hy), Int.le_refl _, (fun y hy => by cases hy)⟩, secOk_of hb (fun y hy => by cases hy) (Nat.zero_le _) (Nat.zero_le _), e⟩
  exact ⟨by show ([] : List Int).Nodup; exact List.nodup_nil, by show 0 ≤ 60000; omega, Nat.zero_le _, (fun y hy => by cases hy), (fun y hy => by cases hy), Nat.zero_le _⟩
end K51

/-! KG3: the fault that is due, by the law. -/
namespace K51
open PySem PySem.Spec PyProof.Rows L2 Y
structure TxD (K : PySem.W.Frag) (mg : Str → Option Value) : Prop where
  b_dict : mg "dict" = none
  b_sorted : mg "sorted" = none
  b_set : mg "set" = none
  b_list : mg "list" = none
theorem told_len {xs : List (Int × Sec)} {bs : List BRows} {e : Int} (ok : SecOk xs bs e) : (toldOf (fOf xs) (ofRows xs) bs).2.length ≤ 1800 := by
  obtain ⟨_, _, l⟩ := ok.pages
  have few := ok.few
  have ep : (bOf xs bs e).pages = bs.foldl takeR [] := rfl
  rw [ep] at l
  have a := pageRows_len (fOf xs) (bs.foldl takeR []) (nums ((bs.foldl takeR []).map (·.1) ++ homeNs (ofRows xs)))
  have b := le_nums_len ((bs.foldl takeR []).map (·.1) ++ homeNs (ofRows xs))
  have d := homeNs_len (ofRows xs)
  have f := synS_len xs []
  have f : (ofRows xs).length ≤ 0 + xs.length := f
  rw [List.length_append, List.length_map] at b
  show (pageRows _ _ _).length ≤ 1800
  omega
theorem told_len4 {xs : List (Int × Sec)} {bs : List BRows} {e : Int} (ok : SecOk xs bs e) (few : xs.length ≤ 400) (sum : rowsSum bs ≤ 200) : (toldOf (fOf xs) (ofRows xs) bs).2.length ≤ 600 := by
  have l := takeR_all bs []
  have a := pageRows_len (fOf xs) (bs.foldl takeR []) (nums ((bs.foldl takeR []).map (·.1) ++ homeNs (ofRows xs)))
  have b := le_nums_len ((bs.foldl takeR []).map (·.1) ++ homeNs (ofRows xs))
  have d := homeNs_len (ofRows xs)
  have f := synS_len xs []
  have f : (ofRows xs).length ≤ 0 + xs.length := f
  rw [List.length_append, List.length_map] at b
  rw [List.length_nil] at l
  show (pageRows _ _ _).length ≤ 600
  omega
section
variable {P : Program} {w : World} {K : PySem.W.Frag} {mg : Str → Option Value} {base : Heap}
def spDue : Sp := fun vs H Q _ => ∃ (G : Hp) (a pt : Addr) (xs : List (Int × Sec)) (bs : List BRows) (e : Int) (told : Int × BRows), vs = [.ref a, .ref pt] ∧ Same G H ∧ rL rSec G (.ref a) xs ∧ SecOk xs bs e ∧ rP rI (rL rSec) G (.ref pt) told ∧ told.2.length ≤ 1000 ∧
  ∀ v G' H', Stp O0 G H G' H' → FltV G' v (faultOf (toldOf (fOf xs) (ofRows xs) bs) told) → Q v H'
abbrev s__law_due : Stmt := top 27
theorem sc__law_due : FnScope ["sectors", "paper", "many", "pages", "due", "told", "number", "page"] ["sectors", "paper"] (defScope s__law_due) := ⟨rfl, rfl, rfl, by decide +kernel, rfl, by decide +kernel, by decide +kernel⟩
theorem ok_due {f : Addr} {fd : FuncData} (F : Fun K "_law_due" "_law_due" s__law_due f fd) (T : TxD K mg) (L__law_told : FnC P w K mg base "_law_told" 2 ["sectors"] spTold) : FnOk P w K mg base CX0 3 f fd ["sectors", "paper"] spDue := by
  refine F.ok sc__law_due (fun vs H Q E h => ?_) (fun cdv A outer st H vs Q E hr h => ?_)
  · obtain ⟨G, a, pt, xs, bs, e, told, rfl, _⟩ := h
    rfl
  · obtain ⟨G, a, pt, xs, bs, e, told, rfl, gh, ra, ok, ⟨t0, u0, w0, e0, ht0, hu0, lw, ws, rfl, hlw, pw⟩, lt, k⟩ := h
    cases e0
    cases hu0
    have nd := sc__law_due.nd
    have hu := hu_of hr
    refine ⟨_, (pss_cons (ps_asg (pe_fnc L__law_told (hr.mono (by decide)) rfl (pa_cons (pv 0) pa_nil)) (pg_tupK (K := K) (n := 2) rfl rfl (pgs_cons (pg_name (i := 2) nd rfl (Or.inl rfl)) (pgs_cons (pg_name (i := 3) nd rfl (Or.inl rfl)) pgs_nil))))
    (pss_cons (ps_if (pt_cmpR op_ne (pe_ix (ix_tupK (K := K) rfl) (pv 1) pe_int (fun _ _ => rfl)) (pv 2) (nomark _))
    (pss_one (ps_ret (pe_tup (pa_cons pe_str pa_nil))))
    pss_nil)
    (pss_cons (ps_par (i := 4) (j := 5) rfl nd rfl rfl (by decide) rfl rfl (pa_cons (pe_callTy (call_dictP rfl) (by rfl) T.b_dict (by decide +kernel) (pa_cons (pv 3) pa_nil)) (pa_cons (pe_callTy (call_dictP rfl) (by rfl) T.b_dict (by decide +kernel) (pa_cons (pe_ix (ix_tupK (K := K) rfl) (pv 1) pe_int (fun _ _ => rfl)) pa_nil)) pa_nil)) rfl)
    (pss_cons (ps_for PassesOwn.never rfl (pi_listK (K := K) rfl (pe_callB (cr_sortedSetAK (w := w) rfl rfl) (by rfl) T.b_sorted (by decide +kernel) (pa_cons (pe_callTy (cr_setIK (K := K) (w := w) rfl rfl rfl) (by rfl) T.b_set (by decide +kernel) (pa_cons (pe_op op_cat (pe_callTy (call_listD rfl) (by rfl) T.b_list (by decide +kernel) (pa_cons (pv 4) pa_nil)) (pe_callTy (call_listD rfl) (by rfl) T.b_list (by decide +kernel) (pa_cons (pv 5) pa_nil))) pa_nil)) pa_nil))) (pg_name (i := 6) nd rfl (Or.inl rfl))
    (pss_one (ps_if (pt_cmpR (op_neDK (K := K) rfl hr.units) (pe_dget2 hu (pv 4) (pv 6) pe_non ⟨rfl, rfl, rfl, rfl⟩) (pe_dget2 hu (pv 5) (pv 6) pe_non ⟨rfl, rfl, rfl, rfl⟩) (nomark _))
    (pss_one (ps_ret (pe_tup (pa_cons pe_str (pa_cons (pv 6) pa_nil)))))
    pss_nil)))
    (pss_one (ps_ret (pe_ifExp (pt_cmpR (op_eqDK (K := K) rfl hr.units) (pe_lc (own := [("number", 6), ("page", 7)]) rfl nd (pi_listK (K := K) rfl (pe_ix (ix_tupK (K := K) rfl) (pv 1) pe_int (fun _ _ => rfl))) (blkOk_by (own := [("number", 6), ("page", 7)]) (N := ["sectors", "paper", "many", "pages", "due", "told", "number", "page"]) (sc := defScope s__law_due) (by decide +kernel)) (fun _ _ _ _ _ => (pg_tupK (K := K) (n := 2) rfl rfl (pgs_cons (pg_name (i := 6) nd rfl (Or.inl rfl)) (pgs_cons (pg_name (i := 7) nd rfl (Or.inl rfl)) pgs_nil)))) (fun _ _ _ _ _ => pts_nil) (fun _ _ _ _ _ => (pv 6))) (pe_callB (call_sortedDA rfl) (by rfl) T.b_sorted (by decide +kernel) (pa_cons (pv 5) pa_nil)) (nomark _)) pe_non (pe_tup (pa_cons pe_str pa_nil))))))))), ?_⟩
    have lpap := told_len ok
    refine ⟨_, rfl, G, a, xs, bs, e, rfl, gh, ra, ok, fun v5 G5 H5 s5 ⟨t5, u5, w5, e5, h5, hu5, l5, vs5, hw5, h5l, p5⟩ => ?_⟩
    subst e5
    subst hw5
    cases hu5
    generalize hpap : toldOf (fOf xs) (ofRows xs) bs = pap at *
    refine g_pair (s5.gh _ _ h5) ?_
    refine ⟨_, rfl, pt, _, _, _, rfl, rfl, SqT.of (s5.gh _ _ (s5.gg _ _ ht0)), at_of (j := 0) rfl rfl, _, rfl, rfl, _, rfl, if_nint (fun hne => ?_) (fun hme => ?_)⟩
    · refine ⟨(by show 1 ≤ sizeLine; decide), fun t nt => ?_⟩
      generalize eA : upd H5 t _ = HA
      obtain ⟨GA, sA, fA, ggA, kA, gkA⟩ := data_of s5 nt eA
      refine k _ GA HA sA ?_
      unfold faultOf
      rw [if_pos (by exact hne)]
      exact ⟨t, rfl, fA⟩
    obtain ⟨ps1, kv1, rfl, pq1, pr1⟩ := secs_pairs (K := K) s5.gh p5
    refine ⟨_, rfl, l5, ps1, kv1, rfl, SqL.of (s5.gh _ _ h5l), pq1, fun D1 nD1 => ?_⟩
    have r6 : DRel (rL rI) G5 (mergeK [] kv1) (ofR pap.2) := merge_rel pr1 .nil
    generalize mergeK [] kv1 = kv6 at *
    generalize e6 : upd H5 D1 _ = H6
    obtain ⟨s6, f6, k6, g6, z6⟩ := own_of s5 nD1 e6
    obtain ⟨ps2, kv2, rfl, pq2, pr2⟩ := secs_pairs (K := K) s6.gh (mRow.ps s5.gg pw)
    refine ⟨_, rfl, pt, _, _, _, rfl, rfl, SqT.of (s6.gh _ _ (s5.gg _ _ ht0)), at_of (j := 1) rfl rfl, lw, ps2, kv2, rfl, SqL.of (s6.gh _ _ (s5.gg _ _ hlw)), pq2, fun D2 nD2 => ?_⟩
    have r7 : DRel (rL rI) G5 (mergeK [] kv2) (ofR told.2) := merge_rel pr2 .nil
    generalize mergeK [] kv2 = kv7 at *
    generalize e7 : upd H6 D2 _ = H7
    obtain ⟨s7, f7, k7, g7, z7⟩ := own_of s6 nD2 e7
    have f67 := k7 _ _ f6
    have ld := takeR_len pap.2 []
    have lt' := takeR_len told.2 []
    rw [List.length_nil] at ld lt'
    have elr : ∀ x : BRows, (ofR x).length ≤ 0 + x.length := fun x => takeR_len x []
    have l6 := elr pap.2
    have l7 := elr told.2
    refine ⟨_, _, rfl, ?_⟩
    refine ⟨_, rfl, D1, kv6, rfl, .inl f67, fun q1 n1 => ?_⟩
    rw [keys_int r6]
    generalize e8 : upd H7 q1 _ = H8
    obtain ⟨s8, f8, k8, g8, z8⟩ := own_of s7 n1 e8
    refine ⟨_, rfl, D2, kv7, rfl, .inl (k8 _ _ f7), fun q2 n2 => ?_⟩
    rw [keys_int r7]
    generalize e9 : upd H8 q2 _ = H9
    obtain ⟨s9, f9, k9, g9, z9⟩ := own_of s8 n2 e9
    refine ⟨q1, q2, _, _, rfl, rfl, k9 _ _ f8, f9, by rw [List.length_map, List.length_map, List.length_map, List.length_map, sizeLine_eq]; omega, fun q3 n3 => ?_⟩
    rw [← List.map_append]
    generalize e10 : upd H9 q3 _ = HA
    obtain ⟨sA, fA, kA, gA, zA⟩ := own_of s9 n3 e10
    refine ⟨q3, _, rfl, SqL.of fA, by rw [List.length_append, List.length_map, List.length_map]; omega, fun S c nS hc => ?_⟩
    generalize e11 : upd HA S _ = HB
    obtain ⟨sB, fB, kB, gB, zB⟩ := own_of sA nS e11
    rw [List.length_append, List.length_map, List.length_map] at hc
    refine ⟨S, _, c, rfl, fB, by omega, fun ns N asc hmem hlen nN => ?_⟩
    generalize e12 : upd HB N _ = HC
    obtain ⟨sC, fC, kC, gC, zC⟩ := own_of sB nN e12
    have ens : ns = nums ((ofR pap.2).map (·.1) ++ (ofR told.2).map (·.1)) := asc_same asc (asc_nums _) fun q => by rw [hmem q, decide_eq_true_iff, mem_nums]
    have kk : ∀ b u, H7 b = some u → HC b = some u := fun b u hb => kC _ _ (kB _ _ (kA _ _ (k9 _ _ (k8 _ _ hb))))
    have fd1 := kk _ _ f67
    have fd2 := kk _ _ f7
    refine ⟨N, rfl, ⟨_, SqL.of fC⟩, for_list (K := K) (a := N) (xs := ns.map V.int)
      (fun i σ HX => HX = HC ∧ (∃ x6, σ = [some (.ref a), some (.ref pt), some (.int pap.1), some (.ref l5), some (.ref D1), some (.ref D2), x6, none]) ∧ ∀ m ∈ ns.take i, look (ofR pap.2) m = look (ofR told.2) m)
      ⟨rfl, ⟨_, rfl⟩, fun m hm => by simp at hm⟩ (fun i σ HX _ ⟨z, _⟩ => by rw [z]; exact SqL.of fC) ?_ ?_⟩
    · rintro i y σ HX hi ⟨rfl, ⟨x6, rfl⟩, hall⟩
      obtain ⟨n, hn, rfl⟩ := int_at hi
      obtain ⟨o1, d1, p1⟩ := dget_rel (K := K) fd1 r6 sC.gh n
      obtain ⟨o2, d2, p2⟩ := dget_rel (K := K) fd2 r7 sC.gh n
      refine ⟨_, rfl, D1, rfl, .inl ⟨kv6, .inl fd1⟩, _, rfl, o1, d1, _, rfl, D2, rfl, .inl ⟨kv7, .inl fd2⟩, _, rfl, o2, d2, _, _, p1, p2, shaped_O _, shaped_O _, _, rfl, ?_⟩
      rw [eqv_O]
      refine if_nbool (fun hne => ?_) (fun he => ⟨rfl, ⟨_, rfl⟩, fun m hm => ?_⟩)
      · refine ⟨_, rfl, (by show 2 ≤ sizeLine; decide), fun t nt => ?_⟩
        generalize eD : upd HX t _ = HD
        obtain ⟨GD, sD, fD, ggD, kD, gkD⟩ := data_of sC nt eD
        refine k _ GD HD sD ?_
        have hoff : firstOff (ofR pap.2) (ofR told.2) ns = some n := firstOff_at hall hn (of_decide_eq_false hne)
        unfold faultOf
        rw [if_neg (fun z => z hme), ← ens, hoff]
        exact ⟨t, rfl, fD⟩
      · rw [take_snoc hn] at hm
        rcases List.mem_append.mp hm with hm | hm
        · exact hall m hm
        · rw [List.mem_singleton] at hm
          rw [hm]
          exact of_decide_eq_true he
    · rintro σ HX ⟨rfl, ⟨x6, rfl⟩, hall⟩
      rw [List.length_map, List.take_of_length_le (Nat.le_refl _)] at hall
      have hno : firstOff (ofR pap.2) (ofR told.2) (nums ((ofR pap.2).map (·.1) ++ (ofR told.2).map (·.1))) = none := firstOff_none (by rw [← ens]; exact hall)
      refine ⟨_, rfl, pt, _, _, _, rfl, rfl, SqT.of (sC.gh _ _ (s5.gg _ _ ht0)), at_of (j := 1) rfl rfl, lw, rfl, ⟨_, SqL.of (sC.gh _ _ (s5.gg _ _ hlw))⟩, fun D3 nD3 => ?_⟩
      obtain ⟨sD, fD, kD, gD, zD⟩ := own_of (o := .lst []) sC nD3 rfl
      have lws := pd_len pw
      refine lc_list (K := K) (a := lw) (xs := ps2.map V.ref) (fun i H2 => Stp O0 G H G5 H2 ∧ H2 D2 = some (.dK kv7) ∧ H2 D3 = some (rowI ((told.2.take i).map (·.1)))) ⟨sD, kD _ _ fd2, fD⟩ (fun i H2 _ ⟨z, _⟩ => SqL.of (z.gh _ _ (s5.gg _ _ hlw))) ?_ ?_
      · rintro i y H2 hi ⟨s2, f2, f3⟩
        obtain ⟨r, hr', t, u, cc, rfl, ht, hu', hc'⟩ := pd_get pw hi
        cases hu'
        have hi2 := (List.getElem?_eq_some_iff.mp hi).1
        refine g_pair (s2.gh _ _ (s5.gg _ _ ht)) ⟨rfl, g_yes ⟨_, rfl, _, f3, by rw [List.length_map, List.length_map, List.length_take, sizeLine_eq]; omega, ?_⟩⟩
        generalize eE : upd H2 D3 _ = HE
        obtain ⟨sE, fE, kE⟩ := wr_of s2 f3 gD (.inr zD) eE
        refine ⟨sE, kE _ _ (ne_of_none fd2 nD3) f2, ?_⟩
        rw [fE, take_snoc hr', List.map_append, rowI, List.map_append]
        rfl
      · rintro H2 ⟨s2, f2, f3⟩
        rw [lws, List.take_of_length_le (Nat.le_refl _)] at f3
        refine ⟨_, rfl, D2, kv7, _, rfl, .inl f2, r7.keys, by rw [List.length_map]; omega, fun ys N2 pm as2 nN2 => ?_⟩
        generalize eE : upd H2 N2 _ = HE
        obtain ⟨sE, fE, kE, gE, zE⟩ := own_of s2 nN2 eE
        have nd7 : ((ofR told.2).map (·.1)).Nodup := takeR_keys (by simp) _
        have eys : ys = nums ((ofR told.2).map (·.1)) := asc_same (lt_of_le_nodup ys as2 (pm.nodup_iff.mpr nd7)) (asc_nums _) fun q => by rw [pm.mem_iff, mem_nums]
        refine ⟨_, _, dp_ints (kE _ _ f3), dp_ints fE, shaped_ints _, shaped_ints _, _, rfl, ?_⟩
        rw [eqv_ints]
        have ef : faultOf pap told = if told.2.map (·.1) = nums ((ofR told.2).map (·.1)) then .no else .order := by
          unfold faultOf
          rw [if_neg (fun z => z hme), hno]
        refine if_bool (fun he => ?_) (fun hne => ?_)
        · refine k _ G5 HE sE ?_
          rw [ef, if_pos (by rw [← eys]; exact of_decide_eq_true he)]
          rfl
        · refine ⟨(by show 1 ≤ sizeLine; decide), fun t nt => ?_⟩
          generalize eF : upd HE t _ = HF
          obtain ⟨GF, sF, fF, ggF, kF, gkF⟩ := data_of sE nt eF
          refine k _ GF HF sF ?_
          rw [ef, if_neg (by rw [← eys]; exact of_decide_eq_false hne)]
          exact ⟨t, rfl, fF⟩
end
end K51

/-! KG4: sectors spoilt. -/
namespace K51
open PySem PySem.Spec PyProof.Rows L2 Y
abbrev KA := List (Int × Addr)
def rA : Rp Addr := fun _ v a => v = .ref a
abbrev entA (e : Int × Addr) : Key × V := (Sum.inl e.1, .ref e.2)
theorem drel_ent {G : Hp} : ∀ {kvs : List (Key × V)} {ks : KA}, DRel rA G kvs ks → kvs = ks.map entA
  | _, _, .nil => rfl
  | _, _, .cons h t => by
    obtain ⟨h1, h2⟩ := h
    rw [List.map_cons, ← drel_ent t]
    congr 1
    exact Prod.ext h1 h2
theorem ent_drel {G : Hp} : ∀ (ks : KA), DRel rA G (ks.map entA) ks
  | [] => .nil
  | _ :: ks => .cons ⟨rfl, rfl⟩ (ent_drel ks)
theorem putK_ent (ks : KA) (n : Int) (c : Addr) : putK (ks.map entA) (Sum.inl n) (.ref c) = (put ks n c).map entA :=
  drel_ent (G := fun _ => none) ((ent_drel ks).put (r := rA) rfl)
theorem mergeK_ent : ∀ (es ks : KA), mergeK (ks.map entA) (es.map entA) = (es.foldl (fun s x => put s x.1 x.2) ks).map entA
  | [], _ => rfl
  | e :: es, ks => by
    have e1 : mergeK (ks.map entA) ((e :: es).map entA) = mergeK (putK (ks.map entA) (Sum.inl e.1) (.ref e.2)) (es.map entA) := rfl
    rw [e1, putK_ent, mergeK_ent es]
    rfl
theorem dropK_ent (ks : KA) (n : Int) : dropK (ks.map entA) (Sum.inl n) = (ks.filter fun e => !decide (e.1 = n)).map entA := by
  induction ks with
  | nil => rfl
  | cons e ks ih =>
    unfold dropK at ih ⊢
    rw [List.map_cons, List.filter_cons, List.filter_cons, ih]
    by_cases h : e.1 = n
    · have : (entA e).1 = (Sum.inl n : Key) := congrArg Sum.inl h
      rw [if_neg (by simp [this, h]), if_neg (by simp [h])]
    · have : ¬ (entA e).1 = (Sum.inl n : Key) := fun z => h (Sum.inl.inj z)
      rw [if_pos (by simp [this, h]), if_pos (by simp [h])]
      rfl
theorem foldl_put_mem : ∀ (es ks : KA) (y : Int × Addr), y ∈ es.foldl (fun s x => put s x.1 x.2) ks → y ∈ ks ∨ y ∈ es
  | [], _, _, h => .inl h
  | e :: es, ks, y, h => by
    rcases foldl_put_mem es _ y h with z | z
    · rcases put_mem z with q | q
      · exact .inr (by rw [q]; exact List.mem_cons_self)
      · exact .inl q
    · exact .inr (List.mem_cons_of_mem _ z)
theorem foldl_put_nd : ∀ (es ks : KA), (ks.map (·.1)).Nodup → ((es.foldl (fun s x => put s x.1 x.2) ks).map (·.1)).Nodup
  | [], _, h => h
  | e :: es, ks, h => foldl_put_nd es _ (put_nodup ks e.1 e.2 h)
theorem foldl_put_len : ∀ (es ks : KA), (es.foldl (fun s x => put s x.1 x.2) ks).length ≤ ks.length + es.length
  | [], _ => Nat.le_refl _
  | e :: es, ks => by
    have a := foldl_put_len es (put ks e.1 e.2)
    have b := put_len ks e.1 e.2
    show (es.foldl _ (put ks e.1 e.2)).length ≤ _
    rw [List.length_cons]
    omega
/-- a sector's list that someone may still write -/
def Own (H0 G H : Hp) (D : Addr) (e : Int × Addr) : Prop := 0 ≤ e.1 ∧ e.1 < 400 ∧ H0 e.2 = none ∧ G e.2 = none ∧ e.2 ≠ D ∧ ∃ x : Sec, H e.2 = some (rowI x) ∧ x.length = 16 ∧ Oct x
theorem Own.stp {O : Addr → Prop} {H0 G H G' H' : Hp} {D : Addr} {e : Int × Addr} (h : Own H0 G H D e) (t : Stp O G H G' H') (no : ∀ b, O b → H0 b ≠ none) : Own H0 G' H' D e := by
  obtain ⟨h1, h2, h3, h4, h5, x, h6, h7⟩ := h
  exact ⟨h1, h2, h3, t.nw _ (ne_none h6) h4, h5, x, t.kp _ _ h6 fun z => no _ z h3, h7⟩
theorem own_rows {H0 G H H' : Hp} {D : Addr} (kk : ∀ b o, H0 b = none → H b = some o → H' b = some o) : ∀ {zs : List (Addr × Int × Addr)}, (∀ z ∈ zs, Own H0 G H D z.2 ∧ H' z.1 = some (.tup [.int z.2.1, .ref z.2.2])) → ∃ ys : List (Int × Sec), Paired (rSec H') (zs.map fun z => V.ref z.1) ys ∧ ys.map (·.1) = zs.map (·.2.1) ∧ ∀ y ∈ ys, y.2.length = 16 ∧ Oct y.2 ∧ 0 ≤ y.1 ∧ y.1 < 400
  | [], _ => ⟨[], .nil, rfl, fun y hy => by cases hy⟩
  | z :: zs, h => by
    obtain ⟨ys, h1, h2, h3⟩ := own_rows kk fun y hy => h y (List.mem_cons_of_mem _ hy)
    obtain ⟨⟨b1, b2, b0, _, _, x, b3, b4, b5⟩, b6⟩ := h z List.mem_cons_self
    refine ⟨(z.2.1, x) :: ys, .cons ⟨z.1, _, _, rfl, b6, rfl, rLI_of (kk _ _ b0 b3)⟩ h1, by rw [List.map_cons, List.map_cons, h2], fun y hy => ?_⟩
    rcases List.mem_cons.mp hy with e | hy
    · rw [e]; exact ⟨b4, b5, b1, b2⟩
    · exact h3 y hy
theorem own_ps {K : PySem.W.Frag} {H : Hp} {D : Addr} : ∀ {acc : List V} {es : KA}, Paired (fun v (e : Int × Addr) => ∃ t, v = V.ref t ∧ t ≠ D ∧ H t = some (.tup [.int e.1, .ref e.2])) acc es → ∃ ps : List Addr, acc = ps.map V.ref ∧ Paired (fun p (kv : Key × V) => SqT K H p [kV kv.1, kv.2]) ps (es.map entA)
  | _, _, .nil => ⟨[], rfl, .nil⟩
  | _, _, .cons ⟨t, e, _, h⟩ r => by
    obtain ⟨ps, h1, h2⟩ := own_ps (K := K) r
    exact ⟨t :: ps, by rw [e, h1]; rfl, .cons (SqT.of h) h2⟩
theorem valV_ent {ks : KA} {n : Int} {v : V} (h : valV (ks.map entA) (Sum.inl n : Key) = some v) : ∃ cc, v = .ref cc ∧ (n, cc) ∈ ks := by
  have r := ent_drel (G := fun _ => none) ks
  cases el : look ks n with
  | none =>
    rw [r.look_none el] at h
    cases h
  | some cc =>
    obtain ⟨v', h1, h2⟩ := r.look_some el
    rw [h1] at h
    cases h
    exact ⟨cc, h2, look_some_mem el⟩
structure TxS (K : PySem.W.Frag) (mg : Str → Option Value) : Prop where
  b_dict : mg "dict" = none
  b_sorted : mg "sorted" = none
  b_list : mg "list" = none
  b_len : mg "len" = none
  b_range : mg "range" = none
section
variable {P : Program} {w : World} {K : PySem.W.Frag} {mg : Str → Option Value} {base : Heap}
def spSpoilt : Sp := fun vs H Q _ => ∃ (G : Hp) (s c a : Addr) (xs : List (Int × Sec)), vs = [.ref s, .ref a] ∧ Same G H ∧ StAt G H s c ∧ rL rSec G (.ref a) xs ∧ SecFin xs ∧ xs.length ≤ 300 ∧
  ∀ q ys G' H', Stp (fun b => b = s ∨ b = c) G H G' H' → StAt G' H' s c → rL rSec G' (.ref q) ys → SecFin ys → Q (.ref q) H'
abbrev s__law_spoilt : Stmt := top 28
theorem sc__law_spoilt : FnScope ["state", "sectors", "found", "number", "content", "turn", "numbers", "kind", "k"] ["state", "sectors"] (defScope s__law_spoilt) := ⟨rfl, rfl, rfl, by decide +kernel, rfl, by decide +kernel, by decide +kernel⟩
theorem ok_spoilt {f : Addr} {fd : FuncData} (F : Fun K "_law_spoilt" "_law_spoilt" s__law_spoilt f fd) (T : TxS K mg) (L__law_take : FnC P w K mg base "_law_take" 1 ["state", "most"] spTake) : FnOk P w K mg base CX0 2 f fd ["state", "sectors"] spSpoilt := by
  refine F.ok sc__law_spoilt (fun vs H Q E h => ?_) (fun cdv A outer st H vs Q E hr h => ?_)
  · obtain ⟨G, s, c, a, xs, rfl, _⟩ := h
    rfl
  · obtain ⟨G, s, c, a, xs, rfl, gh, S, ⟨a', us, e', ha, pu⟩, fin, lx, k⟩ := h
    cases e'
    have nd := sc__law_spoilt.nd
    have hu := hu_of hr
    refine ⟨_, (pss_cons (ps_set (i := 2) nd rfl (Or.inl rfl) (pe_callTy (call_dictP rfl) (by rfl) T.b_dict (by decide +kernel) (pa_cons (pe_lc (own := [("number", 3), ("content", 4)]) rfl nd (pi_listK (K := K) rfl (pv 1)) (blkOk_by (own := [("number", 3), ("content", 4)]) (N := ["state", "sectors", "found", "number", "content", "turn", "numbers", "kind", "k"]) (sc := defScope s__law_spoilt) (by decide +kernel)) (fun _ _ _ _ _ => (pg_tupK (K := K) (n := 2) rfl rfl (pgs_cons (pg_name (i := 3) nd rfl (Or.inl rfl)) (pgs_cons (pg_name (i := 4) nd rfl (Or.inl rfl)) pgs_nil)))) (fun _ _ _ _ _ => pts_nil) (fun _ _ _ _ _ => (pe_tup (pa_cons (pv 3) (pa_cons (pe_callTy (call_list_ofK (K := K) rfl) (by rfl) T.b_list (by decide +kernel) (pa_cons (pv 4) pa_nil)) pa_nil))))) pa_nil)))
    (pss_cons (ps_for PassesOwn.never rfl (pi_range1 rfl T.b_range (pa_cons (pe_fnc L__law_take (hr.mono (by decide)) rfl (pa_cons (pv 0) (pa_cons pe_int pa_nil))) pa_nil)) (pg_name (i := 5) nd rfl (Or.inl rfl))
    (pss_cons (ps_set (i := 6) nd rfl (Or.inl rfl) (pe_callB (call_sortedDA rfl) (by rfl) T.b_sorted (by decide +kernel) (pa_cons (pv 2) pa_nil)))
    (C8.pss_cut (ps_set (i := 3) nd rfl (Or.inl rfl) (pe_ifExp (pt_cmpR op_gt (pe_callB (call_len_seqK (K := K) rfl) (by rfl) T.b_len (by decide +kernel) (pa_cons (pv 6) pa_nil)) pe_int (nomark _)) (pe_ix (ix_listK (K := K) rfl) (pv 6) (pe_fnc L__law_take (hr.mono (by decide)) rfl (pa_cons (pv 0) (pa_cons (pe_callB (call_len_seqK (K := K) rfl) (by rfl) T.b_len (by decide +kernel) (pa_cons (pv 6) pa_nil)) pa_nil))) (fun _ _ => rfl)) pe_int))
    (pss_cons (ps_set (i := 7) nd rfl (Or.inl rfl) (pe_fnc L__law_take (hr.mono (by decide)) rfl (pa_cons (pv 0) (pa_cons pe_int pa_nil))))
    (pss_one (ps_if (PW.pt (pw_and (pt_cmpR op_eq (pv 7) pe_int (nomark _)) (pw_and1 (pt_cmp (pc_din hu (pv 3) (pv 2))))))
    (pss_one (ps_expr (pe_dpop1 (pv 2) (pv 3) ⟨rfl, rfl, rfl, rfl⟩)))
    (pss_one (ps_if (pt_cmpR op_eq (pv 7) pe_int (nomark _))
    (pss_one (ps_dput hu (pv 2) (pe_fnc L__law_take (hr.mono (by decide)) rfl (pa_cons (pv 0) (pa_cons pe_int pa_nil))) (pe_op op_cat (pe_lst (pa_cons (pe_fnc L__law_take (hr.mono (by decide)) rfl (pa_cons (pv 0) (pa_cons pe_int pa_nil))) pa_nil)) (pe_lc (own := [("k", 8)]) rfl nd (pi_range1 rfl T.b_range (pa_cons pe_int pa_nil)) (blkOk_by (own := [("k", 8)]) (N := ["state", "sectors", "found", "number", "content", "turn", "numbers", "kind", "k"]) (sc := defScope s__law_spoilt) (by decide +kernel)) (fun _ _ _ _ _ => (pg_name (i := 8) nd rfl (Or.inl rfl))) (fun _ _ _ _ _ => pts_nil) (fun _ _ _ _ _ => (pe_fnc L__law_take (hr.mono (by decide)) rfl (pa_cons (pv 0) (pa_cons pe_int pa_nil)))))) rfl))
    (pss_one (ps_if (pt_cmp (pc_din hu (pv 3) (pv 2)))
    (pss_one (ps_asg (pe_fnc L__law_take (hr.mono (by decide)) rfl (pa_cons (pv 0) (pa_cons (pe_ix (ix_listK (K := K) rfl) (pe_lst (pa_cons pe_int (pa_cons pe_int pa_nil))) (pe_fnc L__law_take (hr.mono (by decide)) rfl (pa_cons (pv 0) (pa_cons pe_int pa_nil))) (fun _ _ => rfl)) pa_nil))) (pg_sub (pe_dget hu (pv 2) (pv 3) (fun _ _ => rfl)) (pe_fnc L__law_take (hr.mono (by decide)) rfl (pa_cons (pv 0) (pa_cons (pe_ix (ix_listK (K := K) rfl) (pe_lst (pa_cons pe_int (pa_cons pe_int (pa_cons pe_int pa_nil)))) (pe_fnc L__law_take (hr.mono (by decide)) rfl (pa_cons (pv 0) (pa_cons pe_int pa_nil))) (fun _ _ => rfl)) pa_nil))) set_list)))
    pss_nil))))))))))
    (pss_one (ps_ret (pe_callB (cr_sortItK rfl) (by rfl) T.b_sorted (by decide +kernel) (pa_cons (pe_bm0K (K := K) rfl PySem.F.plainAttrs_dict PySem.F.slot_dict_items PySem.F.type_dict_items mt_itemsK (pv 2)) pa_nil)))))), ?_⟩
    have lus := pd_len pu
    have off : ∀ {b : Addr} {H' : Hp} {G' : Hp}, H' b = none → StAt G' H' s c → ¬ (b = s ∨ b = c) := fun n S' z => by
      obtain ⟨n0, cells, h1, h2, _⟩ := S'.ex
      rcases z with z | z <;> rw [z] at n
      · rw [h1] at n; cases n
      · rw [h2] at n; cases n
    have old : ∀ b, (b = s ∨ b = c) → H b ≠ none := fun b hb => by
      obtain ⟨n0, cells, h1, h2, _⟩ := S.ex
      rcases hb with z | z <;> rw [z]
      · exact ne_none h1
      · exact ne_none h2
    refine ⟨_, rfl, a, rfl, ⟨_, SqL.of (gh _ _ ha)⟩, fun D1 nD1 => ?_⟩
    obtain ⟨s1, f1, k1, g1, z1⟩ := own_of (o := .lst []) (Stp.refl (O := fun b => b = s ∨ b = c) gh) nD1 rfl
    refine lc_list (K := K) (a := a) (xs := us) (fun i H2 => ∃ (acc : List V) (es : KA), Stp (fun b => b = s ∨ b = c) G H G H2 ∧ StAt G H2 s c ∧ H2 D1 = some (.lst acc) ∧ es.length = i ∧ (∀ e ∈ es, Own H G H2 D1 e) ∧ Paired (fun v (e : Int × Addr) => ∃ t, v = V.ref t ∧ t ≠ D1 ∧ H2 t = some (.tup [.int e.1, .ref e.2])) acc es)
      ⟨[], [], s1, S.stp (own_of (o := .lst []) (Stp.refl (O := O0) gh) nD1 rfl).1 (fun z => z) fun z => z, f1, rfl, (fun e he => by cases he), .nil⟩ (fun i H2 _ ⟨_, _, z, _⟩ => SqL.of (z.gh _ _ ha)) ?_ ?_
    · rintro i y H2 hi ⟨acc, es, s2, S2, fD2, les, hes, p2⟩
      obtain ⟨r, hr', t, u, cc, rfl, ht, hu', hc'⟩ := pd_get pu hi
      cases hu'
      obtain ⟨ca, rfl, hca⟩ := rLI hc'
      have hi2 := (List.getElem?_eq_some_iff.mp hi).1
      have hm := List.mem_of_getElem? hr'
      refine g_pair (s2.gh _ _ ht) ⟨rfl, g_yes ⟨_, rfl, _, rfl, ca, _, rfl, .inl (SqL.of (s2.gh _ _ hca)), fun q nq => ?_⟩⟩
      generalize e3 : upd H2 q _ = H3
      obtain ⟨s3, f3, k3, g3, z3⟩ := own_of s2 nq e3
      have s23 := (own_of (Stp.refl (O := O0) s2.gh) nq e3).1
      refine ⟨(by show 2 ≤ sizeLine; decide), fun t2 nt2 => ?_⟩
      generalize e4 : upd H3 t2 _ = H4
      obtain ⟨s4, f4, k4, g4, z4⟩ := own_of s3 nt2 e4
      have s34 := (own_of (Stp.refl (O := O0) s3.gh) nt2 e4).1
      have lac := pd_len p2
      refine ⟨acc, k4 _ _ (k3 _ _ fD2), by rw [sizeLine_eq]; omega, ?_⟩
      generalize e5 : upd H4 D1 _ = H5
      have gD : G D1 = none := g1
      obtain ⟨s5, f5, k5⟩ := wr_of s4 (k4 _ _ (k3 _ _ fD2)) gD (.inr z1) e5
      have nqD : q ≠ D1 := (ne_of_none fD2 nq).symm
      have ntD : t2 ≠ D1 := (ne_of_none (k3 _ _ fD2) nt2).symm
      have up : ∀ b o, b ≠ D1 → H2 b = some o → H5 b = some o := fun b o hb e => k5 _ _ hb (k4 _ _ (k3 _ _ e))
      have offD : ¬ (D1 = s ∨ D1 = c) := fun z => old D1 z z1
      have S4 := (S2.stp s23 (fun z => z) fun z => z).stp s34 (fun z => z) fun z => z
      have S5 := S4.stp (wr_of (O := fun b => b = D1) (Stp.refl s4.gh) (k4 _ _ (k3 _ _ fD2)) gD (.inl rfl) e5).1 (fun z => offD (.inl z.symm)) fun z => offD (.inr z.symm)
      refine ⟨_, es ++ [(r.1, q)], s5, S5, f5, by rw [List.length_append, les]; rfl, fun e he => ?_, pd_snoc (pd_mono (fun v e z => ?_) p2) ⟨t2, rfl, ntD, k5 _ _ ntD f4⟩⟩
      · rcases List.mem_append.mp he with he | he
        · obtain ⟨h1, h2, h3, h4, h5, x, h6, h7⟩ := hes e he
          exact ⟨h1, h2, h3, h4, h5, x, up _ _ h5 h6, h7⟩
        · rw [List.mem_singleton] at he
          rw [he]
          exact ⟨(fin.key r hm).1, (fin.key r hm).2, z3, g3, nqD, r.2, k5 _ _ nqD (k4 _ _ f3), fin.l16 r hm, fin.oct r hm⟩
      · obtain ⟨t', e1, n1, h1⟩ := z
        exact ⟨t', e1, n1, up _ _ n1 h1⟩
    · rintro H2 ⟨acc, es, s2, S2, fD2, les, hes, p2⟩
      obtain ⟨ps, rfl, pps⟩ := own_ps (K := K) p2
      have lac : (ps.map V.ref).length = es.length := pd_len p2
      refine ⟨D1, ps, es.map entA, rfl, SqL.of fD2, pps, fun D nD => ?_⟩
      have em : mergeK [] (es.map entA) = (es.foldl (fun s x => put s x.1 x.2) []).map entA := mergeK_ent es []
      rw [em]
      generalize e3 : upd H2 D _ = H3
      obtain ⟨s3, f3, k3, g3, z3⟩ := own_of s2 nD e3
      have S3 := S2.stp (own_of (Stp.refl (O := O0) s2.gh) nD e3).1 (fun z => z) fun z => z
      have offD : ¬ (D = s ∨ D = c) := fun z => old D z z3
      have ndk := foldl_put_nd es [] (by simp)
      have lkk := foldl_put_len es []
      have hks : ∀ e ∈ es.foldl (fun s x => put s x.1 x.2) [], Own H G H3 D e := fun e he => by
        rcases foldl_put_mem es [] e he with z | z
        · cases z
        · obtain ⟨h1, h2, h3, h4, h5, x, h6, h7⟩ := hes e z
          exact ⟨h1, h2, h3, h4, ne_of_none h6 nD, x, k3 _ _ h6, h7⟩
      rw [List.length_nil] at lkk
      have les : es.length = us.length := les
      generalize es.foldl (fun s x => put s x.1 x.2) [] = ks at *
      clear p2 pps hes em e3 S2 s2 fD2 lac
      refine ⟨_, rfl, G, s, c, 4, rfl, s3.gh, S3, by decide, by decide, fun r4 H4 r40 r41 t4 S4 => ?_⟩
      have kpO : ∀ {H' : Hp} {H'' : Hp}, (∀ b o, H' b = some o → ¬ (b = s ∨ b = c) → H'' b = some o) → (∀ e ∈ ks, Own H G H' D e) → ∀ e ∈ ks, Own H G H'' D e := fun kk ho e he => by
        obtain ⟨h1, h2, h3, h4, h5, x, h6, h7⟩ := ho e he
        exact ⟨h1, h2, h3, h4, h5, x, kk _ _ h6 fun z => old _ z h3, h7⟩
      refine ⟨r4, rfl, by omega, by omega, for_range (n := r4.toNat) (fun i σ H5 => ∃ (x3 x4 x5 x6 x7 x8 : Option V) (ks : KA), σ = [some (.ref s), some (.ref a), some (.ref D), x3, x4, x5, x6, x7, x8] ∧ Stp (fun b => b = s ∨ b = c) G H G H5 ∧ StAt G H5 s c ∧ H5 D = some (.dK (ks.map entA)) ∧
          (ks.map (·.1)).Nodup ∧ ks.length ≤ us.length + i ∧ ∀ e ∈ ks, Own H G H5 D e)
        ⟨_, _, _, _, _, _, ks, rfl, s3.trans t4 (fun b hb => .inl hb), S4, t4.kp _ _ f3 offD, ndk, by omega, kpO (fun b o e n => t4.kp b o e n) hks⟩ ?_ ?_⟩
      · clear hks ndk kpO lkk f3 s3 S3 S4 t4
        rintro i σ H5 hi ⟨x3, x4, x5, x6, x7, x8, ks, rfl, s5, S5, fD5, ndk, lk, hks⟩
        have hi4 : i < 4 := by omega
        refine ⟨_, rfl, D, ks.map entA, ks.map (·.1), rfl, .inl fD5, by rw [List.map_map, List.map_map]; rfl, by rw [List.length_map]; omega, fun ys N pm as2 nN => ?_⟩
        generalize e6 : upd H5 N _ = H6
        obtain ⟨s6, f6, k6, g6, z6⟩ := own_of s5 nN e6
        have t6 := (own_of (Stp.refl (O := O0) s5.gh) nN e6).1
        have S6 := S5.stp t6 (fun z => z) fun z => z
        have hks6 : ∀ e ∈ ks, Own H G H6 D e := fun e he => (hks e he).stp t6 fun _ z => z.elim
        have fD6 := k6 _ _ fD5
        have lys : ys.length = ks.length := by rw [pm.length_eq, List.length_map]
        refine ⟨fun σ H7 => ∃ (number : Int) (x4 x5 x6 x7 x8 : Option V), σ = [some (.ref s), some (.ref a), some (.ref D), some (.int number), x4, x5, x6, x7, x8] ∧ Stp (fun b => b = s ∨ b = c) G H G H7 ∧ StAt G H7 s c ∧ H7 D = some (.dK (ks.map entA)) ∧ ∀ e ∈ ks, Own H G H7 D e, ?_, ?_⟩
        · refine ⟨_, rfl, N, _, rfl, .inl (SqL.of f6), _, _, rfl, rfl, _, rfl, if_dec (fun pos => ?_) (fun npos => ?_)⟩
          · rw [List.length_map] at pos
            refine ⟨_, rfl, _, rfl, _, rfl, N, _, rfl, .inl (SqL.of f6), G, s, c, _, rfl, s6.gh, S6, by rw [List.length_map]; omega, by rw [List.length_map]; omega, fun r7 H7 r70 r71 t7 S7 => ?_⟩
            have offN := off nN S5
            have hlt : r7.toNat < ys.length := by rw [List.length_map] at r71; omega
            refine ⟨N, _, _, _, rfl, rfl, SqL.of (t7.kp _ _ f6 offN), at_of (j := r7.toNat) (by omega) (by rw [List.getElem?_map, List.getElem?_eq_getElem hlt]; rfl), ?_⟩
            exact ⟨_, _, _, _, _, _, rfl, s6.trans t7 (fun b hb => .inl hb), S7, t7.kp _ _ fD6 offD, fun e he => (hks6 e he).stp t7 old⟩
          · exact ⟨_, _, _, _, _, _, rfl, s6, S6, fD6, hks6⟩
        · clear s6 f6 k6 g6 z6 t6 S6 hks6 fD6 S5 s5 fD5 hks
          rintro σ H7 ⟨number, x4, x5, x6, x7, x8, rfl, s7, S7, fD7, hks⟩
          refine ⟨_, rfl, G, s, c, 4, rfl, s7.gh, S7, by decide, by decide, fun kind H8 k0 k1 t8 S8 => ?_⟩
          have s8 := s7.trans t8 fun b hb => .inl hb
          have fD8 := t8.kp _ _ fD7 offD
          have hks8 : ∀ e ∈ ks, Own H G H8 D e := fun e he => (hks e he).stp t8 old
          have gD8 : G D = none := g3
          have hget : ∀ {H' : Hp}, H' D = some (.dK (ks.map entA)) → DGet H' D (.int number) (valV (ks.map entA) (Sum.inl number)) := fun e => DGet.k (k := Sum.inl number) e
          refine ⟨_, rfl, rfl, _, rfl, if_int (fun e0 => ?_) (fun e0 => ?_)⟩
          · refine ⟨_, rfl, _, rfl, D, _, rfl, hget fD8, ?_⟩
            cases ev : valV (ks.map entA) (Sum.inl number : Key) with
            | some v =>
              refine ⟨_, rfl, iteT ?_⟩
              refine ⟨_, rfl, D, rfl, .inl ⟨_, .inl fD8⟩, _, rfl, _, Sum.inl number, v, fD8, rfl, ev, ?_⟩
              rw [dropK_ent]
              generalize e9 : upd H8 D _ = H9
              obtain ⟨s9, f9, k9⟩ := wr_of s8 fD8 gD8 (.inr z3) e9
              have t9 := (wr_of (O := fun b => b = D) (Stp.refl s8.gh) fD8 gD8 (.inl rfl) e9).1
              have S9 := S8.stp t9 (fun z => offD (.inl z.symm)) fun z => offD (.inr z.symm)
              have lf := List.length_filter_le (fun e : Int × Addr => !decide (e.1 = number)) ks
              refine ⟨_, _, _, _, _, _, ks.filter fun e => !decide (e.1 = number), rfl, s9, S9, f9, ndk.sublist (List.filter_sublist.map _), by omega, fun e he => ?_⟩
              obtain ⟨h1, h2, h3, h4, h5, x, h6, h7⟩ := hks8 e (List.mem_filter.mp he).1
              exact ⟨h1, h2, h3, h4, h5, x, k9 _ _ h5 h6, h7⟩
            | none =>
              refine ⟨_, rfl, iteF ?_⟩
              refine ⟨_, rfl, rfl, _, rfl, if_int (fun e1 => absurd (e0.symm.trans e1) (by decide)) (fun _ => ?_)⟩
              refine ⟨_, rfl, _, rfl, D, _, rfl, hget fD8, ?_⟩
              rw [ev]
              refine ⟨_, rfl, iteF ?_⟩
              exact ⟨_, _, _, _, _, _, ks, rfl, s8, S8, fD8, ndk, by omega, hks8⟩
          · refine ⟨_, rfl, rfl, _, rfl, if_int (fun e1 => ?_) (fun e1 => ?_)⟩
            · -- a sector put in
              refine ⟨_, rfl, G, s, c, 3, rfl, s8.gh, S8, by decide, by decide, fun v0 H9 v00 v01 t9 S9 => ⟨(by show 1 ≤ sizeLine; decide), fun q1 n1 => ?_⟩⟩
              have s9 := s8.trans t9 fun b hb => .inl hb
              have fD9 := t9.kp _ _ fD8 offD
              have hks9 : ∀ e ∈ ks, Own H G H9 D e := fun e he => (hks8 e he).stp t9 old
              generalize eA : upd H9 q1 _ = HA
              obtain ⟨sA, fA, kA, gA, zA⟩ := own_of s9 n1 eA
              have tA := (own_of (Stp.refl (O := O0) s9.gh) n1 eA).1
              have SA := S9.stp tA (fun z => z) fun z => z
              have hksA : ∀ e ∈ ks, Own H G HA D e := fun e he => (hks9 e he).stp tA fun _ z => z.elim
              have off1 := off n1 S9
              refine ⟨15, rfl, by decide, by decide, fun D2 nD2 => ?_⟩
              obtain ⟨sB, fB, kB, gB, zB⟩ := own_of (o := .lst []) sA nD2 rfl
              have tB := (own_of (o := .lst []) (Stp.refl (O := O0) sA.gh) nD2 rfl).1
              have off2 := off nD2 SA
              have n12 : q1 ≠ D2 := ne_of_none fA nD2
              have nDD2 : D ≠ D2 := ne_of_none (kA _ _ fD9) nD2
              refine lc_range (lo := 0) (n := 15) (fun j H' => ∃ ns : List Int, Stp (fun b => b = s ∨ b = c) G H G H' ∧ StAt G H' s c ∧ H' D = some (.dK (ks.map entA)) ∧ H' q1 = some (.lst [.int v0]) ∧ H' D2 = some (rowI ns) ∧ ns.length = j ∧ Oct ns ∧ ∀ e ∈ ks, Own H G H' D e ∧ e.2 ≠ D2)
                ⟨[], sB, SA.stp tB (fun z => z) fun z => z, kB _ _ (kA _ _ fD9), kB _ _ fA, fB, rfl, (fun v hv => by cases hv), fun e he => ⟨(hksA e he).stp tB fun _ z => z.elim, by
                  obtain ⟨_, _, _, _, _, x, h6, _⟩ := hksA e he
                  exact ne_of_none h6 nD2⟩⟩ ?_ ?_
              · rintro j H' hj ⟨ns, s', S', fD', fq', f2', l', o', hk'⟩
                refine ⟨rfl, g_yes ⟨_, rfl, G, s, c, 256, rfl, s'.gh, S', by decide, by decide, fun v H1' v00' v01' t1' S1' => ?_⟩⟩
                have s1' := s'.trans t1' fun b hb => .inl hb
                have f2 := t1'.kp _ _ f2' off2
                refine ⟨_, f2, by rw [List.length_map, l', sizeLine_eq]; omega, ?_⟩
                generalize e2 : upd H1' D2 _ = H2'
                obtain ⟨s2', f2'', k2'⟩ := wr_of s1' f2 gB (.inr zB) e2
                have t2' := (wr_of (O := fun b => b = D2) (Stp.refl s1'.gh) f2 gB (.inl rfl) e2).1
                have S2' := S1'.stp t2' (fun z => off2 (.inl z.symm)) fun z => off2 (.inr z.symm)
                refine ⟨ns ++ [v], s2', S2', k2' _ _ nDD2 (t1'.kp _ _ fD' offD), k2' _ _ n12 (t1'.kp _ _ fq' off1), by rw [f2'', rowI, List.map_append]; rfl, by rw [List.length_append, l']; rfl, fun y hy => ?_, fun e he => ?_⟩
                · rcases List.mem_append.mp hy with hy | hy
                  · exact o' y hy
                  · rw [List.mem_singleton] at hy
                    rw [hy]
                    exact ⟨v00', v01'⟩
                · obtain ⟨hk1, hk2⟩ := hk' e he
                  obtain ⟨h1, h2, h3, h4, h5, x, h6, h7⟩ := hk1
                  exact ⟨⟨h1, h2, h3, h4, h5, x, k2' _ _ hk2 (t1'.kp _ _ h6 fun z => old _ z h3), h7⟩, hk2⟩
              · rintro H' ⟨ns, s', S', fD', fq', f2', l', o', hk'⟩
                refine ⟨q1, D2, _, _, rfl, rfl, fq', f2', by rw [List.length_map, l', sizeLine_eq]; show 1 + 15 ≤ 16777216; decide, fun q3 n3 => ?_⟩
                generalize e2 : upd H' q3 _ = H2'
                obtain ⟨s2', f2'', k2', g2', z2'⟩ := own_of s' n3 e2
                have t2' := (own_of (Stp.refl (O := O0) s'.gh) n3 e2).1
                have S2' := S'.stp t2' (fun z => z) fun z => z
                refine ⟨_, rfl, _, rfl, G, s, c, 40, rfl, s2'.gh, S2', by decide, by decide, fun key H3' k00 k01 t3' S3' => ?_⟩
                have s3' := s2'.trans t3' fun b hb => .inl hb
                have fD3 := t3'.kp _ _ (k2' _ _ fD') offD
                have off3 := off n3 S'
                refine ⟨D, _, rfl, DPut.k (k := Sum.inl key) fD3 (by rw [List.length_map, sizeLine_eq]; omega), ?_⟩
                rw [putK_ent]
                generalize e4 : upd H3' D _ = H4'
                obtain ⟨s4', f4', k4'⟩ := wr_of s3' fD3 gD8 (.inr z3) e4
                have t4' := (wr_of (O := fun b => b = D) (Stp.refl s3'.gh) fD3 gD8 (.inl rfl) e4).1
                have S4' := S3'.stp t4' (fun z => offD (.inl z.symm)) fun z => offD (.inr z.symm)
                have n3D : q3 ≠ D := (ne_of_none fD' n3).symm
                have lp := put_len ks key q3
                refine ⟨_, _, _, _, _, _, put ks key q3, rfl, s4', S4', f4', put_nodup ks key q3 ndk, by omega, fun e he => ?_⟩
                rcases put_mem he with z | z
                · rw [z]
                  refine ⟨k00, by show key < 400; omega, z2', g2', n3D, v0 :: ns, k4' _ _ n3D (t3'.kp _ _ f2'' off3), by rw [List.length_cons, l'], fun y hy => ?_⟩
                  rcases List.mem_cons.mp hy with hy | hy
                  · rw [hy]; omega
                  · exact o' y hy
                · obtain ⟨h1, h2, h3, h4, h5, x, h6, h7⟩ := (hk' e z).1
                  exact ⟨h1, h2, h3, h4, h5, x, k4' _ _ h5 (t3'.kp _ _ (k2' _ _ h6) fun z => old _ z h3), h7⟩
            · refine ⟨_, rfl, _, rfl, D, _, rfl, hget fD8, ?_⟩
              cases ev : valV (ks.map entA) (Sum.inl number : Key) with
              | none =>
                refine ⟨_, rfl, iteF ?_⟩
                exact ⟨_, _, _, _, _, _, ks, rfl, s8, S8, fD8, ndk, by omega, hks8⟩
              | some v =>
                refine ⟨_, rfl, iteT ?_⟩
                obtain ⟨cc, rfl, hcc⟩ := valV_ent ev
                refine ⟨_, rfl, (by show 2 ≤ sizeLine; decide), fun q1 n1 => ?_⟩
                generalize eA : upd H8 q1 _ = HA
                obtain ⟨sA, fA, kA, gA, zA⟩ := own_of s8 n1 eA
                have tA := (own_of (Stp.refl (O := O0) s8.gh) n1 eA).1
                have SA := S8.stp tA (fun z => z) fun z => z
                have off1 := off n1 S8
                refine ⟨_, rfl, G, s, c, 2, rfl, sA.gh, SA, by decide, by decide, fun p2 HB p20 p21 tB SB => ?_⟩
                have sB := sA.trans tB fun b hb => .inl hb
                obtain ⟨m2, hm2, hm20, hm21⟩ : ∃ m2 : Int, ([V.int 3, V.int 256])[p2.toNat]? = some (.int m2) ∧ 0 < m2 ∧ m2 ≤ 256 := by
                  have : p2 = 0 ∨ p2 = 1 := by omega
                  rcases this with rfl | rfl
                  · exact ⟨3, rfl, by decide, by decide⟩
                  · exact ⟨256, rfl, by decide, by decide⟩
                refine ⟨q1, _, _, _, rfl, rfl, SqL.of (tB.kp _ _ fA off1), at_of (j := p2.toNat) (by omega) hm2, G, s, c, m2, rfl, sB.gh, SB, hm20, by omega, fun val HC v0 v1 tC SC => ?_⟩
                have sC := sB.trans tC fun b hb => .inl hb
                have fDC := tC.kp _ _ (tB.kp _ _ (kA _ _ fD8) offD) offD
                have hksC : ∀ e ∈ ks, Own H G HC D e := fun e he => (((hks8 e he).stp tA fun _ z => z.elim).stp tB old).stp tC old
                have gg := hget fDC
                rw [ev] at gg
                refine ⟨_, rfl, _, rfl, D, _, rfl, gg, ?_⟩
                refine ⟨_, rfl, (by show 3 ≤ sizeLine; decide), fun q2 n2 => ?_⟩
                generalize eD : upd HC q2 _ = HD
                obtain ⟨sD, fD', kD, gD', zD⟩ := own_of sC n2 eD
                have tD := (own_of (Stp.refl (O := O0) sC.gh) n2 eD).1
                have SD := SC.stp tD (fun z => z) fun z => z
                have off2 := off n2 SC
                refine ⟨_, rfl, G, s, c, 3, rfl, sD.gh, SD, by decide, by decide, fun p3 HE p30 p31 tE SE => ?_⟩
                have sE := sD.trans tE fun b hb => .inl hb
                obtain ⟨m3, hm3, hm30, hm31⟩ : ∃ m3 : Int, ([V.int 2, V.int 9, V.int 16])[p3.toNat]? = some (.int m3) ∧ 0 < m3 ∧ m3 ≤ 16 := by
                  have : p3 = 0 ∨ p3 = 1 ∨ p3 = 2 := by omega
                  rcases this with rfl | rfl | rfl
                  · exact ⟨2, rfl, by decide, by decide⟩
                  · exact ⟨9, rfl, by decide, by decide⟩
                  · exact ⟨16, rfl, by decide, by decide⟩
                refine ⟨q2, _, _, _, rfl, rfl, SqL.of (tE.kp _ _ fD' off2), at_of (j := p3.toNat) (by omega) hm3, G, s, c, m3, rfl, sE.gh, SE, hm30, by omega, fun at' HF a0 a1 tF SF => ?_⟩
                have sF := sE.trans tF fun b hb => .inl hb
                have hksF : ∀ e ∈ ks, Own H G HF D e := fun e he => (((hksC e he).stp tD fun _ z => z.elim).stp tE old).stp tF old
                have fDF := tF.kp _ _ (tE.kp _ _ (kD _ _ fDC) offD) offD
                obtain ⟨h1, h2, h3, h4, h5, x, h6, h7, h8⟩ := hksF _ hcc
                have h5 : cc ≠ D := h5
                have h6 : HF cc = some (rowI x) := h6
                have h3 : H cc = none := h3
                have h4 : G cc = none := h4
                refine ⟨cc, _, at', at'.toNat, rfl, rfl, h6, ?_, ?_⟩
                · unfold ixN
                  rw [if_pos a0, if_pos (by rw [List.length_map, h7]; omega)]
                generalize eG : upd HF cc _ = HG
                obtain ⟨sG, fG, kG⟩ := wr_of sF h6 h4 (.inr h3) eG
                have offcc : ¬ (cc = s ∨ cc = c) := fun z => old _ z h3
                have tG := (wr_of (O := fun b => b = cc) (Stp.refl sF.gh) h6 h4 (.inl rfl) eG).1
                have SG := SF.stp tG (fun z => offcc (.inl z.symm)) fun z => offcc (.inr z.symm)
                refine ⟨_, _, _, _, _, _, ks, rfl, sG, SG, kG _ _ (fun z => h5 z.symm) fDF, ndk, by omega, fun e he => ?_⟩
                obtain ⟨i1, i2, i3, i4, i5, y, i6, i7, i8⟩ := hksF e he
                by_cases hec : e.2 = cc
                · refine ⟨i1, i2, i3, i4, i5, x.set at'.toNat val, ?_, by rw [List.length_set]; exact h7, fun z hz => ?_⟩
                  · rw [hec, fG, rowI, List.map_set]
                  · rcases List.mem_or_eq_of_mem_set hz with q | q
                    · exact h8 z q
                    · rw [q]; omega
                · exact ⟨i1, i2, i3, i4, i5, y, kG _ _ hec i6, i7, i8⟩
      · rintro σ H5 ⟨x3, x4, x5, x6, x7, x8, ks, rfl, s5, S5, fD5, ndk, lk, hks⟩
        have hir : r4.toNat ≤ 3 := by omega
        refine ⟨_, rfl, .inr (.inr (.inl ⟨rfl, .inl ⟨_, fD5⟩⟩)), D, _, rfl, rfl, fD5, fun p np => ?_⟩
        generalize e6 : upd H5 p _ = H6
        obtain ⟨s6, f6, k6, g6, z6⟩ := own_of s5 np e6
        have t6 := (own_of (Stp.refl (O := O0) s5.gh) np e6).1
        have S6 := S5.stp t6 (fun z => z) fun z => z
        refine ⟨p, D, ks, rfl, f6, k6 _ _ fD5, by omega, ndk, fun H' l ps kk perm asc nl fl hz => ?_⟩
        have t7 : Stp O0 G H6 G H' := ⟨Same.refl _, fun b u e => kk _ _ (s6.gh _ _ e), fun b o e _ => kk _ _ e, fun b _ g => g, fun b hb => by
          obtain ⟨u, hu'⟩ := Option.ne_none_iff_exists'.mp hb
          rw [kk _ _ hu']
          exact fun z => nomatch z⟩
        have S7 := S6.stp t7 (fun z => z) fun z => z
        have s7 := s6.trans t7 fun _ z => z.elim
        obtain ⟨G2, s8, gg8, all8⟩ := pub_all s7 gh
        have hks6 : ∀ e ∈ ks, Own H G H' D e := fun e he => ((hks e he).stp t6 fun _ z => z.elim).stp t7 fun _ z => z.elim
        obtain ⟨ys, y1, y2, y3⟩ := own_rows (H0 := H) (G := G) (H := H') (H' := G2) (D := D) (zs := ps) (fun b o h1 h2 => all8 b o h1 h2) fun z hz' => ⟨hks6 _ (perm.mem_iff.mp (List.mem_map_of_mem hz')), all8 _ _ (s6.fr (hz z hz').1) (hz z hz').2.2⟩
        have S8 : StAt G2 H' s c := by
          obtain ⟨n0, cells, h1, h2, r⟩ := S7.ex
          exact ⟨⟨n0, cells, h1, h2, r⟩, s8.nw _ (old s (.inl rfl)) S.gs, s8.nw _ (old c (.inr rfl)) S.gc, S7.ne⟩
        have lps : ps.length = ks.length := by
          have := perm.length_eq
          rw [List.length_map] at this
          exact this
        have lys : ys.length = ks.length := by
          have := congrArg List.length y2
          rw [List.length_map, List.length_map] at this
          omega
        refine k l ys G2 H' s8 S8 ⟨l, _, rfl, all8 _ _ (s6.fr nl) fl, y1⟩ ⟨fun y hy => (y3 y hy).1, fun y hy => (y3 y hy).2.1, fun y hy => (y3 y hy).2.2, by omega⟩
end
end K51

/-! KG5: what stands between two statements of the law; faults and sectors as data. -/
namespace K51
open PySem PySem.Spec PyProof.Rows L2 Y
structure LB (B C : Addr) (G H : Hp) (s c b p pg ds wl : Addr) (x : BS) (d : DS) : Prop where
  gh : Same G H
  st : StAt G H s c
  ba : BatAt B G H b p pg x
  dk : DiskAt C G H p ds wl d
  sep : ∀ a, DOwn p ds wl a → ¬ BOwn b pg a
  ss : ∀ a, (a = s ∨ a = c) → ¬ DBOwn p ds wl b pg a
def AQ (s c b p pg ds wl : Addr) : Addr → Prop := fun a => (a = s ∨ a = c) ∨ DBOwn p ds wl b pg a
section
variable {B C : Addr} {G H G' H' : Hp} {s c b p pg ds wl : Addr} {x x' : BS} {d d' : DS}
theorem staOff (h : StAt G H s c) {q : Addr} (n : H q = none) : ¬ (q = s ∨ q = c) := fun z => by
  obtain ⟨k, cells, h1, h2, _⟩ := h.ex
  rcases z with z | z <;> rw [z] at n
  · rw [h1] at n; cases n
  · rw [h2] at n; cases n
theorem dskOff (h : DiskAt C G H p ds wl d) {q : Addr} (n : H q = none) : ¬ DOwn p ds wl q := fun z => by
  obtain ⟨_, _, h1, _⟩ := h.ob
  obtain ⟨_, h2, _⟩ := h.sec
  obtain ⟨_, h3, _⟩ := h.wai
  rcases z with z | z | z <;> rw [z] at n
  · rw [h1] at n; cases n
  · rw [h2] at n; cases n
  · rw [h3] at n; cases n
theorem batOff (h : BatAt B G H b p pg x) {q : Addr} (n : H q = none) : ¬ BOwn b pg q := fun z => by
  obtain ⟨_, h1⟩ := h.ob
  obtain ⟨_, h2, _⟩ := h.pa
  rcases z with z | z <;> rw [z] at n
  · rw [h1] at n; cases n
  · rw [h2] at n; cases n
theorem LB.off (h : LB B C G H s c b p pg ds wl x d) {q : Addr} (n : H q = none) : ¬ AQ s c b p pg ds wl q := fun z => by
  rcases z with z | z | z
  · exact staOff h.st n z
  · exact dskOff h.dk n z
  · exact batOff h.ba n z
theorem LB.dat (h : LB B C G H s c b p pg ds wl x d) {q : Addr} {u : HO} (n : G q = some u) : ¬ AQ s c b p pg ds wl q := fun z => by
  rcases z with (z | z) | (z | z | z) | (z | z) <;> rw [z] at n
  · rw [h.st.gs] at n; cases n
  · rw [h.st.gc] at n; cases n
  · rw [h.dk.gp] at n; cases n
  · rw [h.dk.gs] at n; cases n
  · rw [h.dk.gw] at n; cases n
  · rw [h.ba.gb] at n; cases n
  · rw [h.ba.gp] at n; cases n
theorem LB.al {O : Addr → Prop} (h : LB B C G H s c b p pg ds wl x d) (t : Stp O G H G' H') (no : ∀ a, AQ s c b p pg ds wl a → ¬ O a) : LB B C G' H' s c b p pg ds wl x d :=
  ⟨t.gh, h.st.stp t (no _ (.inl (.inl rfl))) (no _ (.inl (.inr rfl))), h.ba.stp t fun a ha => no a (.inr (.inr ha)), h.dk.stp t fun a ha => no a (.inr (.inl ha)), h.sep, h.ss⟩
theorem LB.al0 (h : LB B C G H s c b p pg ds wl x d) (t : Stp O0 G H G' H') : LB B C G' H' s c b p pg ds wl x d := h.al t fun _ _ z => z
theorem LB.tk (h : LB B C G H s c b p pg ds wl x d) (t : Stp (fun a => a = s ∨ a = c) G H G' H') (st : StAt G' H' s c) : LB B C G' H' s c b p pg ds wl x d :=
  ⟨t.gh, st, h.ba.stp t fun a ha z => h.ss a z (.inr ha), h.dk.stp t fun a ha z => h.ss a z (.inl ha), h.sep, h.ss⟩
theorem LB.db (h : LB B C G H s c b p pg ds wl x d) {w' g' : Addr} (t : Stp (DBOwn p ds wl b pg) G H G' H') (dk : DiskAt C G' H' p ds w' d') (ba : BatAt B G' H' b p g' x') (n1 : w' = wl ∨ H w' = none) (n2 : g' = pg ∨ (H g' = none ∧ g' ≠ w')) : LB B C G' H' s c b p g' ds w' x' d' := by
  have k1 : ∀ a, DOwn p ds w' a → (DOwn p ds wl a ∨ (a = w' ∧ H a = none)) := fun a ha => by
    rcases ha with z | z | z
    · exact .inl (.inl z)
    · exact .inl (.inr (.inl z))
    · rcases n1 with e | e
      · exact .inl (.inr (.inr (z.trans e)))
      · exact .inr ⟨z, by rw [z]; exact e⟩
  have k2 : ∀ a, BOwn b g' a → (BOwn b pg a ∨ (a = g' ∧ H a = none ∧ a ≠ w')) := fun a ha => by
    rcases ha with z | z
    · exact .inl (.inl z)
    · rcases n2 with e | ⟨e1, e2⟩
      · exact .inl (.inr (z.trans e))
      · exact .inr ⟨z, by rw [z]; exact e1, by rw [z]; exact e2⟩
  refine ⟨t.gh, h.st.stp t (h.ss _ (.inl rfl)) (h.ss _ (.inr rfl)), ba, dk, fun a h1 h2 => ?_, fun a ha hz => ?_⟩
  · rcases k1 a h1 with z | ⟨z, zn⟩
    · rcases k2 a h2 with y | ⟨_, yn, _⟩
      · exact h.sep a z y
      · exact dskOff h.dk yn z
    · rcases k2 a h2 with y | ⟨_, _, yn⟩
      · exact batOff h.ba zn y
      · exact yn z
  · rcases hz with hz | hz
    · rcases k1 a hz with z | ⟨_, zn⟩
      · exact h.ss a ha (.inl z)
      · exact staOff h.st zn ha
    · rcases k2 a hz with z | ⟨_, zn, _⟩
      · exact h.ss a ha (.inr z)
      · exact staOff h.st zn ha
end
theorem if_vNne {v : V} {A B : Prop} (h : B) : if (!decide (v = v)) = true then A else B := by
  rw [decide_eq_true rfl]
  exact h
theorem if_vNe {u v : V} {A B : Prop} (n : u ≠ v) (h : B) : if decide (u = v) = true then A else B := by
  rw [if_neg (by rw [decide_eq_false n]; exact Bool.false_ne_true)]
  exact h
theorem bl_not (b : Bool) : V.bl (!b) ≠ V.bl b := by cases b <;> exact fun h => nomatch h

theorem LB.tk2 {B C : Addr} {G H G' H' G2 : Hp} {s c b p pg ds wl : Addr} {x : BS} {d : DS} (h : LB B C G H s c b p pg ds wl x d) (t : Stp (fun a => a = s ∨ a = c) G H G' H') (st : StAt G2 H' s c) : LB B C G' H' s c b p pg ds wl x d := by
  refine h.tk t ?_
  obtain ⟨n, cells, h1, h2, r⟩ := st.ex
  obtain ⟨n0, cells0, k1, k2, _⟩ := h.st.ex
  exact ⟨⟨n, cells, h1, h2, r⟩, t.nw _ (ne_none k1) h.st.gs, t.nw _ (ne_none k2) h.st.gc, st.ne⟩
abbrev rPap : Rp (Int × BRows) := rP rI (rL rSec)
theorem mPap : Mn rPap := mI.p mRow.l
theorem ePap : En rPap (fun x : Int × BRows => PySem.W.Datum.toD (α := Int × List (Int × List Int)) x) (fun _ => True) 4 :=
  ⟨fun s h => (eI.p ((eI.p eI.l).l)).dp s h, fun x _ => (eI.p ((eI.p eI.l).l)).lay x ⟨trivial, fun _ _ => ⟨trivial, fun _ _ => trivial⟩⟩, fun x => (eI.p ((eI.p eI.l).l)).dep x⟩
theorem eqv_pap (x y : Int × BRows) : PyData.eqv (PySem.W.Datum.toD (α := Int × List (Int × List Int)) x) (PySem.W.Datum.toD (α := Int × List (Int × List Int)) y) = decide (x = y) := PySem.W.Datum.eqv (α := Int × List (Int × List Int)) x y
theorem shaped_pap (x : Int × BRows) : SeqAt.shaped (PySem.W.Datum.toD (α := Int × List (Int × List Int)) x) = true := ePap.shaped (by decide) trivial
def fltD : Flt → PyData
  | .no => .none
  | .many => .tuple [.str "many"]
  | .page n => .tuple [.str "page", .int n]
  | .order => .tuple [.str "order"]
theorem flt_dp {K : PySem.W.Frag} {G H : Hp} (gh : Same G H) {v : V} : ∀ {f : Flt}, FltV G v f → Dp K H v (fltD f)
  | .no, h => by
    have h : v = .non := h
    rw [h]
    exact .non
  | .many, ⟨t, e, h⟩ => by rw [e]; exact .tup (SqT.of (gh _ _ h)) (.cons (.str _) .nil)
  | .page n, ⟨t, e, h⟩ => by rw [e]; exact .tup (SqT.of (gh _ _ h)) (.cons (.str _) (.cons (.int _) .nil))
  | .order, ⟨t, e, h⟩ => by rw [e]; exact .tup (SqT.of (gh _ _ h)) (.cons (.str _) .nil)
theorem pd_erase {α β : Type} {F : α → β → Prop} : ∀ {xs : List α} {ys : List β} (k : Nat), Paired F xs ys → Paired F (xs.eraseIdx k) (ys.eraseIdx k)
  | _, _, _, .nil => .nil
  | _, _, 0, .cons _ t => t
  | _, _, k + 1, .cons h t => .cons h (pd_erase k t)
theorem pd_rev' {α β : Type} {F : α → β → Prop} : ∀ {xs : List α} {ys : List β}, Paired F xs ys → Paired F xs.reverse ys.reverse
  | _, _, .nil => .nil
  | _, _, .cons h t => by
    rw [List.reverse_cons, List.reverse_cons]
    exact pd_snoc (pd_rev' t) h
theorem pd_take' {α β : Type} {F : α → β → Prop} : ∀ {xs : List α} {ys : List β} (k : Nat), Paired F xs ys → Paired F (xs.take k) (ys.take k)
  | _, _, 0, _ => by rw [List.take_zero, List.take_zero]; exact .nil
  | _, _, _ + 1, .nil => .nil
  | _, _, k + 1, .cons h t => .cons h (pd_take' k t)
theorem pd_app' {α β : Type} {F : α → β → Prop} : ∀ {xs zs : List α} {ys ws : List β}, Paired F xs ys → Paired F zs ws → Paired F (xs ++ zs) (ys ++ ws)
  | _, _, _, _, .nil, h => h
  | _, _, _, _, .cons a t, h => .cons a (pd_app' t h)
theorem paper0 : paperOf (dOf []) (bOf [] [] 0) = (0, []) := by
  obtain ⟨g, _, e⟩ := Gd.start
  rw [e]
  exact g.paper
theorem fault0 : faultOf (paperOf (dOf []) (bOf [] [] 0)) (0, []) = .no := by
  rw [paper0]
  exact fault_self List.Pairwise.nil
theorem fault3 : faultOf (paperOf (dOf []) (bOf [] [] 0)) (0, [(3, z64)]) = .page 3 := by
  rw [paper0]
  rfl
theorem tCall1 {sp : Sp} {E : XK} {t : TE} {σ : L2.St} {H : Hp} {Q : VK} (h : t σ H fun v H1 => sp [v] H1 Q E) : tCall sp [] E (tCons t tNil) σ H Q := h
theorem if_or_cmp {r : R2} {t1 t2 : TE} {pb : _} {u v : TS} {D : Ends} {σ : L2.St} {H : Hp} (h : t1 σ H fun x H1 => t2 σ H1 fun y H2 => r x y H2 fun z H' => ∃ k, z = .bl k ∧ (if k = true then (if true = true then u D σ H' else v D σ H') else pb σ H' fun b H1 => if b = true then u D σ H1 else v D σ H1)) :
    tIfS (tOr (tTest (tOp r t1 t2)) pb) u v D σ H := h
theorem flt_mono {G G' : Hp} (e : Same G G') {v : V} : ∀ {f : Flt}, FltV G v f → FltV G' v f
  | .no, h => h
  | .many, ⟨t, e1, h⟩ => ⟨t, e1, e _ _ h⟩
  | .page _, ⟨t, e1, h⟩ => ⟨t, e1, e _ _ h⟩
  | .order, ⟨t, e1, h⟩ => ⟨t, e1, e _ _ h⟩
theorem page_ok : (PyData.strOk (Str.ofString "page") && (true && true) && decide (max 0 (max 0 0) + 1 ≤ 64)) = true := by decide +kernel
theorem fltD_shaped : ∀ f : Flt, SeqAt.shaped (fltD f) = true
  | .no => rfl
  | .many => by decide +kernel
  | .page n => by
    show (PyData.canLay0 (.tuple [.str "page", .int n]) && decide (PyData.depth (.tuple [.str "page", .int n]) ≤ 64)) = true
    simp only [PyData.canLay0, PyData.canLayAll0, PyData.depth, PyData.depthAll]
    exact page_ok
  | .order => by decide +kernel
theorem fltD_lay : ∀ f : Flt, (fltD f).canLay0 = true := fun f => by
  have := fltD_shaped f
  unfold SeqAt.shaped at this
  rw [Bool.and_eq_true] at this
  exact this.1
theorem fltD_eqv (f : Flt) : PyData.eqv (fltD f) (fltD f) = true := SeqAt.eqv_refl _ (fltD_lay f)
/-! ### sectors may be shown -/
theorem small_log {i : Int} (h : i.natAbs < 500) : i.natAbs.log2 ≤ 9 := by
  by_cases h0 : i.natAbs = 0
  · rw [h0]; decide
  · have := (Nat.log2_lt h0 (k := 10)).mpr (by omega)
    omega
theorem int_weight {i : Int} (h : i.natAbs < 500) : PyData.weight (.int i) ≤ 10 := by
  have := small_log h
  rw [PyData.weight]
  split
  · exact Nat.zero_le _
  · omega
theorem ints_weight : ∀ (xs : List Int), (∀ x ∈ xs, x.natAbs < 500) → PyData.weightAll (xs.map PyData.int) ≤ 11 * xs.length
  | [], _ => by rw [List.map_nil, PyData.weightAll]; exact Nat.zero_le _
  | x :: xs, h => by
    have a := int_weight (h x List.mem_cons_self)
    have b := ints_weight xs fun y hy => h y (List.mem_cons_of_mem _ hy)
    rw [List.map_cons, PyData.weightAll, List.length_cons]
    omega
theorem ints_show : ∀ (xs : List Int), (∀ x ∈ xs, x.natAbs < 500) → PyData.showableAll (xs.map PyData.int) = true
  | [], _ => by rw [List.map_nil, PyData.showableAll]
  | x :: xs, h => by
    have a := small_log (h x List.mem_cons_self)
    rw [List.map_cons, PyData.showableAll, ints_show xs fun y hy => h y (List.mem_cons_of_mem _ hy), PyData.showable, Bool.and_true, decide_eq_true_iff]
    omega
theorem ints_lay : ∀ (xs : List Int), PyData.canLayAll0 (xs.map PyData.int) = true
  | [] => by rw [List.map_nil, PyData.canLayAll0]
  | x :: xs => by
    rw [List.map_cons, PyData.canLayAll0, ints_lay xs, PyData.canLay0]
    rfl
theorem ints_depth : ∀ (xs : List Int), PyData.depthAll (xs.map PyData.int) = 0
  | [] => by rw [List.map_nil, PyData.depthAll]
  | x :: xs => by
    rw [List.map_cons, PyData.depthAll, ints_depth xs, PyData.depth]
    rfl
theorem ints_short (xs : List Int) (h : ∀ x ∈ xs, x.natAbs < 500) : PyData.intsShortAll 13 (xs.map PyData.int) = true := PyData.intsShortAll_ints xs fun n hn => by have := h n hn; omega
theorem int_short {i : Int} (h : i.natAbs < 500) : PyData.intsShort 13 (.int i) = true := by
  have := ints_short [i] (fun x hx => by rw [List.mem_singleton] at hx; rw [hx]; exact h)
  rw [List.map_cons, PyData.intsShortAll, Bool.and_eq_true] at this
  exact this.1
abbrev rowD (r : Int × Page) : PyData := .tuple [.int r.1, .list (r.2.map PyData.int)]
abbrev rowsD (rows : BRows) : PyData := .list (rows.map rowD)
theorem rows_facts : ∀ (rows : BRows), (∀ r ∈ rows, r.1.natAbs < 500 ∧ r.2.length ≤ 64 ∧ ∀ x ∈ r.2, x.natAbs < 500) →
    PyData.showableAll (rows.map rowD) = true ∧ PyData.canLayAll0 (rows.map rowD) = true ∧ PyData.depthAll (rows.map rowD) ≤ 2 ∧ PyData.weightAll (rows.map rowD) ≤ 1000 * rows.length ∧ PyData.intsShortAll 13 (rows.map rowD) = true
  | [], _ => by
    rw [List.map_nil, PyData.showableAll, PyData.canLayAll0, PyData.depthAll, PyData.weightAll, PyData.intsShortAll]
    exact ⟨rfl, rfl, Nat.zero_le _, Nat.zero_le _, rfl⟩
  | r :: rows, h => by
    obtain ⟨a1, a2, a3, a4, a5⟩ := rows_facts rows fun y hy => h y (List.mem_cons_of_mem _ hy)
    obtain ⟨b1, b2, b3⟩ := h r List.mem_cons_self
    have c1 := small_log b1
    have c2 := int_weight b1
    have c3 := ints_weight r.2 b3
    refine ⟨?_, ?_, ?_, ?_, ?_⟩
    · rw [List.map_cons, PyData.showableAll, a1, Bool.and_true, PyData.showable, PyData.showableAll, PyData.showable, PyData.showableAll, PyData.showable, ints_show r.2 b3, PyData.showableAll, decide_eq_true (by omega)]
      rfl
    · rw [List.map_cons, PyData.canLayAll0, a2, Bool.and_true, PyData.canLay0, PyData.canLayAll0, PyData.canLay0, PyData.canLayAll0, PyData.canLay0, ints_lay, PyData.canLayAll0]
      rfl
    · rw [List.map_cons, PyData.depthAll, PyData.depth, PyData.depthAll, PyData.depth, PyData.depthAll, PyData.depth, ints_depth, PyData.depthAll]
      omega
    · rw [List.map_cons, PyData.weightAll, PyData.weight, PyData.weightAll, PyData.weightAll, PyData.weight.eq_2, PyData.weightAll, List.length_cons]
      omega
    · rw [List.map_cons, PyData.intsShortAll, a5, Bool.and_true, PyData.intsShort, PyData.intsShortAll, int_short b1, PyData.intsShortAll, PyData.intsShort, ints_short r.2 b3, PyData.intsShortAll]
      rfl
theorem secs_show {ys : List (Int × Sec)} (h : SecFin ys) : (rowsD ys).showable = true ∧ (rowsD ys).hasDict = false ∧ (rowsD ys).depth ≤ 60 ∧ (rowsD ys).shown.length ≤ sizeLine := by
  obtain ⟨a1, a2, a3, a4, a5⟩ := rows_facts ys fun r hr => ⟨by have := h.key r hr; omega, by have := h.l16 r hr; omega, fun x hx => by have := h.oct r hr x hx; omega⟩
  have few := h.few
  have cl : (rowsD ys).canLay0 = true := by rw [PyData.canLay0]; exact a2
  have dp : (rowsD ys).depth ≤ 3 := by rw [PyData.depth]; omega
  have hw : (rowsD ys).weight ≤ 2 ^ 20 := by rw [PyData.weight]; omega
  refine ⟨by rw [PyData.showable]; exact a1, PyData.hasDict_of_canLay _ cl, by omega, PyData.shown_fits_of_layable0 (B := 13) (by decide) (by decide) ?_ (by rw [PyData.intsShort]; exact a5)⟩
  show ((rowsD ys).canLay0 && decide ((rowsD ys).depth ≤ 64) && decide ((rowsD ys).weight ≤ 2 ^ 20)) = true
  rw [cl, decide_eq_true (by omega : (rowsD ys).depth ≤ 64), decide_eq_true hw]
  rfl
theorem told_64 {xs : List (Int × Sec)} {bs : List BRows} {e : Int} (ok : SecOk xs bs e) : ∀ r ∈ (toldOf (fOf xs) (ofRows xs) bs).2, r.2.length = 64 := fun r hr => by
  rw [← paper_told ok] at hr
  have hr : r ∈ pageRows (dOf xs).read (bOf xs bs e).pages _ := hr
  unfold pageRows at hr
  obtain ⟨n, _, e'⟩ := List.mem_map.mp (List.mem_filter.mp hr).1
  rw [← e']
  exact pageOf_64 ok.fit ok.pages.2.1 n
section
variable {P : Program} {w : World} {K : PySem.W.Frag} {mg : Str → Option Value} {base : Heap} {C B : Addr} {tS : Tok}
/-- disk.synced(), as data -/
theorem synced_rd {G H : Hp} {σ : L2.St} {p ds wl : Addr} {d : DS} {Q : VK} (hv : σ[2]? = some (some (.ref p))) (gh : Same G H) (dk : DiskAt C G H p ds wl d) (fit : Fit d)
    (k : ∀ q G1 H1, Stp O0 G H G1 H1 → rL rSec G1 (.ref q) (told d.sec) → H q = none → Q (.ref q) H1) : tMeth C "synced" (spSynced C) [] E0 (tVar 2) tNil σ H Q := by
  obtain ⟨dxp, rlp, hp, _⟩ := id dk.ob
  refine ⟨_, hv, p, dxp, _, rfl, hp, df_no (by decide +kernel) (by decide +kernel) (by decide +kernel) (by decide +kernel) (by decide +kernel), G, p, ds, wl, d, rfl, gh, dk, fit, fun q us H1 t1 nq fq pq => ?_⟩
  obtain ⟨G2, s2, gg2, all2⟩ := pub_all t1 gh
  refine k q G2 H1 s2 ⟨q, us, rfl, all2 _ _ nq fq, pd_mono (fun v x z => ?_) pq⟩ nq
  exact z.row.dat all2
/-- Batches(disk) -/
theorem batches_rd {G H : Hp} {σ : L2.St} {p ds wl : Addr} {xs : List (Int × Sec)} {bs : List BRows} {e : Int} {Q : VK} (hv : σ[2]? = some (some (.ref p))) (gh : Same G H) (dk : DiskAt C G H p ds wl (dOf xs)) (ok : SecOk xs bs e)
    (k : ∀ b pg G4 H4, Stp O0 G H G4 H4 → BatAt B G4 H4 b p pg (bOf xs bs e) → DiskAt C G4 H4 p ds wl (dOf xs) → H b = none → H pg = none → Q (.ref b) H4) :
    tMake B (spInitB B C RAny) [.non] E0 (tCons (tVar 2) tNil) σ H Q := by
  refine ⟨_, hv, ?_⟩
  intro b db nb ndb nbd
  generalize e1 : upd H db _ = H4
  obtain ⟨t4, f4, k4, g4, z4⟩ := own_of (Stp.refl (O := O0) gh) ndb e1
  have nb4 : H4 b = none := by rw [← e1, upd_ne nbd.symm]; exact nb
  generalize e2 : upd H4 b _ = H5
  obtain ⟨t5, f5, k5, g5, z5⟩ := own_of t4 nb4 e2
  have D5 := dk.stp t5 fun _ _ z => z
  have sum := ok.sum
  refine ⟨G, b, db, p, ds, wl, dOf xs, bs, e, rfl, t5.gh, f5, g5, D5, ok.fit.rd, trivial, by rw [dOf_read]; exact ok.log, by omega, fun pg G6 H6 s6 B6 npg => ⟨rfl, ?_⟩⟩
  rw [dOf_read] at B6
  have D6 := D5.stp s6 fun c' hc' z => by rw [z] at hc'; exact dskOff dk nb hc'
  refine k b pg G6 H6 (t5.trans s6 fun c' hc' => .inr (by rw [hc']; exact z5)) B6 D6 z5 ?_
  cases e : H pg with
  | none => rfl
  | some u => rw [k5 _ _ (k4 _ _ e)] at npg; cases npg
end
end K51

/-! KG6: the law. -/
namespace K51
open PySem PySem.Spec PyProof.Rows L2 Y
structure TxW (K : PySem.W.Frag) (mg : Str → Option Value) : Prop where
  b_range : mg "range" = none
  b_repr : mg "repr" = none
  b_list : mg "list" = none
  b_len : mg "len" = none
/-- the frame's values -/
def sig3 (sc s p b : Addr) (ys : List (Option V)) : L2.St := some (.ref sc) :: some (.ref s) :: some (.ref p) :: some (.ref b) :: ys
def Hd1 (B C sc s c : Addr) (n : Nat) (σ : L2.St) (H : Hp) : Prop := ∃ (G : Hp) (b p pg ds wl : Addr) (x : BS) (d : DS) (bs : List BRows) (M : List (Int × Page)) (y4 y5 y6 y7 y8 y9 y10 y11 y12 y13 y14 : Option V),
  σ = sig3 sc s p b [y4, y5, y6, y7, y8, y9, y10, y11, y12, y13, y14] ∧ LB B C G H s c b p pg ds wl x d ∧ Gd d x bs M n
/-- what stands at a turn's head in the second loop -/
def Hd2 (B C sc s c b p pg ds wl : Addr) (x : BS) (d : DS) (pp : Addr) (pap : Int × BRows) (σ : L2.St) (H : Hp) : Prop := ∃ (G : Hp) (y4 y5 y7 y8 y9 y10 y11 y12 y13 y14 : Option V),
  σ = sig3 sc s p b [y4, y5, some (.ref pp), y7, y8, y9, y10, y11, y12, y13, y14] ∧ LB B C G H s c b p pg ds wl x d ∧ rPap G (.ref pp) pap
/-- behind the bending of a paper -/
def Hd3 (B C sc s c b p pg ds wl : Addr) (x : BS) (d : DS) (pp : Addr) (pap : Int × BRows) (q2 : Addr) (ys : List (Int × Sec)) (σ : L2.St) (H : Hp) : Prop := ∃ (Gb Hb G : Hp) (bl : Addr) (us : List V) (rows : BRows) (many : Int) (y4 y5 y8 y9 y11 y13 y14 : Option V),
  σ = sig3 sc s p b [y4, y5, some (.ref pp), some (.ref q2), y8, y9, some (.int many), y11, some (.ref bl), y13, y14] ∧ LB B C Gb Hb s c b p pg ds wl x d ∧ rPap Gb (.ref pp) pap ∧ rL rSec Gb (.ref q2) ys ∧
  Stp (fun a => a = s ∨ a = c) Gb Hb G H ∧ StAt G H s c ∧ Hb bl = none ∧ G bl = none ∧ H bl = some (.lst us) ∧ Paired (rSec G) us rows ∧ rows.length ≤ 1000
section
variable {P : Program} {w : World} {K : PySem.W.Frag} {mg : Str → Option Value} {base : Heap} {C B : Addr} {tS : Tok}
def spLaw (K : PySem.W.Frag) : Sp := fun vs H Q _ => ∃ (a : Addr) (ns : List Int), vs = [.ref a] ∧ SqL K H a (ns.map V.int) ∧ ∀ H', Q (.bl true) H'
abbrev s_law : Stmt := top 29
theorem sc_law : FnScope ["script", "state", "disk", "here", "turn", "number", "paper", "sectors", "kept", "right", "many", "pages", "bent", "kind", "page"] ["script"] (defScope s_law) := ⟨rfl, rfl, rfl, by decide +kernel, rfl, by decide +kernel, by decide +kernel⟩
theorem ok_law {f : Addr} {fd : FuncData} (F : Fun K "law" "law" s_law f fd) (T : TxW K mg)
    (L__law_state : FnC P w K mg base "_law_state" 1 ["script"] (spState K)) (L__law_take : FnC P w K mg base "_law_take" 1 ["state", "most"] spTake)
    (L__law_told : FnC P w K mg base "_law_told" 2 ["sectors"] spTold) (L__law_due : FnC P w K mg base "_law_due" 3 ["sectors", "paper"] spDue) (L__law_spoilt : FnC P w K mg base "_law_spoilt" 2 ["state", "sectors"] spSpoilt)
    (L_pages_paper : FnC P w K mg base "pages_paper" 4 ["batches"] (spPaper B C)) (L_pages_fault : FnC P w K mg base "pages_fault" 7 ["sectors", "paper"] (spFault B C))
    (L_c_Disk : CsC P w K mg base "Disk" C 1 ["self", "sectors"] (spInit C)) (L_Disk_synced : MtC P w K mg base C "synced" 1 ["self"] (spSynced C))
    (L_c_Batches : CsD P w K mg base "Batches" B 5 ["self", "disk", "bend"] [.non] (spInitB B C RAny)) (L_Batches_commit : MtC P w K mg base B "commit" 5 ["self", "rows"] (spCommit B C)) (L_Batches_keep : MtC P w K mg base B "keep" 6 ["self"] (spKeep B C)) :
    FnG P w K mg base CX0 8 f fd ["script"] (spLaw K) := by
  refine FunG.ok F sc_law (fun vs H Q E h => ?_) (fun cdv A0 outer st H vs Q E hr hg h => ?_)
  · obtain ⟨a, ns, rfl, _⟩ := h
    rfl
  · obtain ⟨sc, ns, rfl, ha, k⟩ := h
    have nd := sc_law.nd
    have hu := hu_of hr
    refine ⟨_, (pss_cons (ps_set (i := 1) nd rfl (Or.inr rfl) (pe_fnc L__law_state (hr.mono (by decide)) rfl (pa_cons (pv 0) pa_nil)))
    (pss_cons (ps_set (i := 2) nd rfl (Or.inl rfl) (pe_mkc L_c_Disk (hr.mono (by decide)) rfl (pa_cons (pe_lst pa_nil) pa_nil)))
    (pss_cons (ps_set (i := 3) nd rfl (Or.inl rfl) (pe_mkd L_c_Batches (hr.mono (by decide)) rfl (pa_cons (pv 2) pa_nil)))
    (pss_cons (ps_for PassesOwn.never rfl (pi_range1 rfl T.b_range (pa_cons (pe_op op_add pe_int (pe_fnc L__law_take (hr.mono (by decide)) rfl (pa_cons (pv 1) (pa_cons pe_int pa_nil)))) pa_nil)) (pg_name (i := 4) nd rfl (Or.inl rfl))
    (pss_one (ps_if (pt_cmpR op_eq (pe_fnc L__law_take (hr.mono (by decide)) rfl (pa_cons (pv 1) (pa_cons pe_int pa_nil))) pe_int (nomark _))
    (pss_one (ps_expr (pe_mtc0 (pv 3) L_Batches_keep (hr.mono (by decide)))))
    (pss_one (ps_expr (pe_mtc (pv 3) L_Batches_commit (hr.mono (by decide)) (pa_cons (pe_lc (own := [("number", 5)]) rfl nd (pi_range2 rfl T.b_range (pa_cons (pe_fnc L__law_take (hr.mono (by decide)) rfl (pa_cons (pv 1) (pa_cons pe_int pa_nil))) (pa_cons (pe_op op_add pe_int (pe_fnc L__law_take (hr.mono (by decide)) rfl (pa_cons (pv 1) (pa_cons pe_int pa_nil)))) pa_nil))) (blkOk_by (own := [("number", 5)]) (N := ["script", "state", "disk", "here", "turn", "number", "paper", "sectors", "kept", "right", "many", "pages", "bent", "kind", "page"]) (sc := defScope s_law) (by decide +kernel)) (fun _ _ _ _ _ => (pg_name (i := 5) nd rfl (Or.inl rfl))) (fun _ _ _ _ _ => pts_nil) (fun _ _ _ _ _ => (pe_tup (pa_cons (pv 5) (pa_cons (pe_op op_cat (pe_op op_rep (pe_lst (pa_cons (pe_fnc L__law_take (hr.mono (by decide)) rfl (pa_cons (pv 1) (pa_cons pe_int pa_nil))) pa_nil)) pe_int) (pe_op op_rep (pe_lst (pa_cons (pe_fnc L__law_take (hr.mono (by decide)) rfl (pa_cons (pv 1) (pa_cons pe_int pa_nil))) pa_nil)) pe_int)) pa_nil))))) pa_nil)))))))
    (pss_cons (ps_set (i := 6) nd rfl (Or.inl rfl) (pe_fnc L_pages_paper (hr.mono (by decide)) rfl (pa_cons (pv 3) pa_nil)))
    (pss_cons (ps_if (PW.pt (pw_or (pt_cmp (pc_notN (pe_fnc L_pages_fault (hr.mono (by decide)) rfl (pa_cons (pe_mtc0 (pv 2) L_Disk_synced (hr.mono (by decide))) (pa_cons (pv 6) pa_nil))))) (pw_or1 (pt_cmpR (op_neDK (K := K) rfl hr.units) (pv 6) (pe_fnc L__law_told (hr.mono (by decide)) rfl (pa_cons (pe_mtc0 (pv 2) L_Disk_synced (hr.mono (by decide))) pa_nil)) (nomark _)))))
    (pss_one (ps_ret pe_bl))
    pss_nil)
    (pss_cons (ps_for PassesOwn.never rfl (pi_range1 rfl T.b_range (pa_cons pe_int pa_nil)) (pg_name (i := 4) nd rfl (Or.inl rfl))
    (pss_cons (ps_set (i := 7) nd rfl (Or.inl rfl) (pe_fnc L__law_spoilt (hr.mono (by decide)) rfl (pa_cons (pv 1) (pa_cons (pe_mtc0 (pv 2) L_Disk_synced (hr.mono (by decide))) pa_nil))))
    (pss_cons (ps_set (i := 8) nd rfl (Or.inl rfl) (pe_callB (cr_reprK (K := K) rfl hg hr.units) (by rfl) T.b_repr (by decide +kernel) (pa_cons (pv 7) pa_nil)))
    (pss_cons (ps_set (i := 9) nd rfl (Or.inl rfl) (pe_fnc L__law_told (hr.mono (by decide)) rfl (pa_cons (pv 7) pa_nil)))
    (pss_cons (ps_if (PW.pt (pw_or (pt_cmp (pc_notN (pe_fnc L_pages_fault (hr.mono (by decide)) rfl (pa_cons (pv 7) (pa_cons (pv 9) pa_nil))))) (pw_or1 (pt_cmpR (op_neDK (K := K) rfl hr.units) (pe_fnc L_pages_fault (hr.mono (by decide)) rfl (pa_cons (pv 7) (pa_cons (pv 6) pa_nil))) (pe_fnc L__law_due (hr.mono (by decide)) rfl (pa_cons (pv 7) (pa_cons (pv 6) pa_nil))) (nomark _)))))
    (pss_one (ps_ret pe_bl))
    pss_nil)
    (pss_cons (ps_if (PW.pt (pw_or (pt_cmpR (op_neDK (K := K) rfl hr.units) (pe_fnc L_pages_paper (hr.mono (by decide)) rfl (pa_cons (pe_mkd L_c_Batches (hr.mono (by decide)) rfl (pa_cons (pe_mkc L_c_Disk (hr.mono (by decide)) rfl (pa_cons (pv 7) pa_nil)) pa_nil)) pa_nil)) (pv 9) (nomark _)) (pw_or1 (pt_cmpR op_ne (pe_callB (cr_reprK (K := K) rfl hg hr.units) (by rfl) T.b_repr (by decide +kernel) (pa_cons (pv 7) pa_nil)) (pv 8) (nomark _)))))
    (pss_one (ps_ret pe_bl))
    pss_nil)
    (pss_cons (ps_asg (pv 9) (pg_tupK (K := K) (n := 2) rfl rfl (pgs_cons (pg_name (i := 10) nd rfl (Or.inl rfl)) (pgs_cons (pg_name (i := 11) nd rfl (Or.inl rfl)) pgs_nil))))
    (pss_cons (ps_par (i := 12) (j := 13) rfl nd rfl rfl (by decide) rfl rfl (pa_cons (pe_callTy (call_list_ofK (K := K) rfl) (by rfl) T.b_list (by decide +kernel) (pa_cons (pv 11) pa_nil)) (pa_cons (pe_fnc L__law_take (hr.mono (by decide)) rfl (pa_cons (pv 1) (pa_cons pe_int pa_nil))) pa_nil)) rfl)
    (C8.pss_cut (ps_if (pt_cmpR op_eq (pv 13) pe_int (nomark _))
    (pss_one (ps_set (i := 10) nd rfl (Or.inl rfl) (pe_op op_add (pv 10) pe_int)))
    (pss_one (ps_if (PW.pt (pw_and (pt_cmpR op_eq (pv 13) pe_int (nomark _)) (pw_and1 (pt_cmpR op_gt (pe_callB (call_len_seqK (K := K) rfl) (by rfl) T.b_len (by decide +kernel) (pa_cons (pv 12) pa_nil)) pe_int (nomark _)))))
    (pss_one (ps_expr (pe_bmK (K := K) rfl PySem.F.plainAttrs_list PySem.F.slot_list_pop PySem.F.type_list_pop mt_popAt (pv 12) (pa_cons (pe_fnc L__law_take (hr.mono (by decide)) rfl (pa_cons (pv 1) (pa_cons (pe_callB (call_len_seqK (K := K) rfl) (by rfl) T.b_len (by decide +kernel) (pa_cons (pv 12) pa_nil)) pa_nil))) pa_nil))))
    (pss_one (ps_if (pt_cmpR op_eq (pv 13) pe_int (nomark _))
    (pss_one (ps_expr (pe_bmK (K := K) rfl PySem.F.plainAttrs_list PySem.F.slot_list_append PySem.F.type_list_append mt_append (pv 12) (pa_cons (pe_tup (pa_cons (pe_fnc L__law_take (hr.mono (by decide)) rfl (pa_cons (pv 1) (pa_cons pe_int pa_nil))) (pa_cons (pe_op op_rep (pe_lst (pa_cons pe_int pa_nil)) pe_int) pa_nil))) pa_nil))))
    (pss_one (ps_if (pt_cmpR op_eq (pv 13) pe_int (nomark _))
    (pss_one (ps_set (i := 12) nd rfl (Or.inl rfl) (pe_revL (pv 12))))
    (pss_one (ps_if (PW.pt (pw_and (pt_cmpR op_eq (pv 13) pe_int (nomark _)) (pw_and1 (pt_cmpR op_gt (pe_callB (call_len_seqK (K := K) rfl) (by rfl) T.b_len (by decide +kernel) (pa_cons (pv 12) pa_nil)) pe_int (nomark _)))))
    (pss_cons (ps_asg (pe_ix (ix_listK (K := K) rfl) (pv 12) pe_int (fun _ _ => rfl)) (pg_tupK (K := K) (n := 2) rfl rfl (pgs_cons (pg_name (i := 5) nd rfl (Or.inl rfl)) (pgs_cons (pg_name (i := 14) nd rfl (Or.inl rfl)) pgs_nil))))
    (pss_one (ps_asg (pe_tup (pa_cons (pv 5) (pa_cons (pe_op op_cat (pe_op op_cat (pe_slice (sl_listK (K := K) rfl) (pv 14) po_none (po_some pe_int)) (pe_lst (pa_cons (pe_op op_add (pe_ix (ix_listK (K := K) rfl) (pv 14) pe_int (fun _ _ => rfl)) pe_int) pa_nil))) (pe_slice (sl_listK (K := K) rfl) (pv 14) (po_some pe_int) po_none)) pa_nil))) (pg_sub (pv 12) pe_int set_list))))
    (pss_one (ps_if (pt_cmpR op_eq (pv 13) pe_int (nomark _))
    (pss_one (ps_set (i := 12) nd rfl (Or.inl rfl) (pe_op op_cat (pv 12) (pe_slice (sl_listK (K := K) rfl) (pv 12) po_none (po_some pe_int)))))
    pss_nil)))))))))))
    (pss_one (ps_if (pt_cmpR (op_neDK (K := K) rfl hr.units) (pe_fnc L_pages_fault (hr.mono (by decide)) rfl (pa_cons (pv 7) (pa_cons (pe_tup (pa_cons (pv 10) (pa_cons (pv 12) pa_nil))) pa_nil))) (pe_fnc L__law_due (hr.mono (by decide)) rfl (pa_cons (pv 7) (pa_cons (pe_tup (pa_cons (pv 10) (pa_cons (pv 12) pa_nil))) pa_nil))) (nomark _))
    (pss_one (ps_ret pe_bl))
    pss_nil)))))))))))
    (pss_one (ps_ret (pe_and (pe_cmp (pc_isN (pe_fnc L_pages_fault (hr.mono (by decide)) rfl (pa_cons (pe_lst pa_nil) (pa_cons (pe_tup (pa_cons pe_int (pa_cons (pe_lst pa_nil) pa_nil))) pa_nil))))) (pe_one (pe_cmpR (op_eqDK (K := K) rfl hr.units) (pe_fnc L_pages_fault (hr.mono (by decide)) rfl (pa_cons (pe_lst pa_nil) (pa_cons (pe_tup (pa_cons pe_int (pa_cons (pe_lst (pa_cons (pe_tup (pa_cons pe_int (pa_cons (pe_op op_rep (pe_lst (pa_cons pe_int pa_nil)) pe_int) pa_nil))) pa_nil)) pa_nil))) pa_nil))) (pe_tup (pa_cons pe_str (pa_cons pe_int pa_nil))) (nomark _))))))))))))), ?_⟩
    have gh : Same (fun _ => none) H := fun b o e => by cases e
    refine ⟨_, rfl, _, sc, ns, rfl, gh, ha, fun s c H1 s1 S1 z1 z2 => ?_⟩
    refine ⟨(by show 0 ≤ sizeLine; decide), fun q0 n0 => ?_⟩
    generalize e2 : upd H1 q0 _ = H2
    obtain ⟨s2, f2, k2, g2, z2'⟩ := own_of (Stp.refl (O := O0) s1.gh) n0 e2
    have S2 := S1.stp s2 (fun z => z) fun z => z
    refine fun p dx np ndx nex => ?_
    have kx : ∀ b o, H2 b = some o → (upd (upd H2 dx (.own p)) p (.ins C dx [])) b = some o := fun b o e => by rw [upd_ne (ne_of_none e np), upd_ne (ne_of_none e ndx)]; exact e
    refine ⟨_, p, dx, q0, [], [], rfl, fun b o e => kx b o (s2.gh b o e), upd_same, gn_of s2.gh np, kx _ _ f2, .nil, Nat.zero_le _, fun ds wl G3 H3 t3 D3 z3 z4 => ⟨rfl, ?_⟩⟩
    have k3 : Same H2 H3 := fun b o e => t3.kp b o (kx b o e) (ne_of_none e np)
    have S3 : StAt G3 H3 s c := by
      obtain ⟨n, cells, h1, h2, r⟩ := S2.ex
      exact ⟨⟨n, cells, k3 _ _ h1, k3 _ _ h2, r⟩, t3.nw _ (ne_none (kx _ _ h1)) S2.gs, t3.nw _ (ne_none (kx _ _ h2)) S2.gc, S2.ne⟩
    obtain ⟨good0, ok0, eb0⟩ := Gd.start
    have offD : ∀ b, (b = s ∨ b = c) → ¬ DOwn p ds wl b := fun b hz hb => by
      have h0 : H2 b ≠ none := by
        obtain ⟨n, cells, h1, h2, _⟩ := S2.ex
        rcases hz with z | z
        · rw [z]; exact ne_none h1
        · rw [z]; exact ne_none h2
      rcases hb with z | z | z
      · rw [z] at h0; exact h0 np
      · rw [z] at h0
        cases e : H2 ds with
        | none => exact h0 e
        | some u => rw [kx _ _ e] at z3; cases z3
      · rw [z] at h0
        cases e : H2 wl with
        | none => exact h0 e
        | some u => rw [kx _ _ e] at z4; cases z4
    refine tSeq_of (tAsg_of (batches_rd (C := C) (by rfl) t3.gh D3 ok0 fun b pg G4 H4 t4 B4 D4 nb npg => ?_))
    have L4 : LB B C G4 H4 s c b p pg ds wl { place := 1, epoch := 0, many := 0, pages := [], fin := 0 } (dOf []) := by
      rw [eb0] at B4
      refine ⟨t4.gh, S3.stp t4 (fun z => z) fun z => z, B4, D4, fun a h1 h2 => ?_, fun a h1 h2 => ?_⟩
      · rcases h2 with z | z
        · rw [z] at h1; exact dskOff D3 nb h1
        · rw [z] at h1; exact dskOff D3 npg h1
      · rcases h2 with z | z | z
        · exact offD a h1 z
        · rw [z] at h1; exact staOff S3 nb h1
        · rw [z] at h1; exact staOff S3 npg h1
    clear s1 S1 s2 S2 t3 D3 z3 z4 k3 S3 offD t4 B4 D4 nb npg kx
    refine ⟨_, rfl, G4, s, c, 6, rfl, L4.gh, L4.st, by decide, by decide, fun r5 H5 r50 r51 t5 S5 => ?_⟩
    have L5 := L4.tk t5 S5
    refine ⟨_, _, rfl, rfl, 1 + r5, rfl, by omega, by omega, for_range (n := (1 + r5).toNat) (fun i σ H => Hd1 B C sc s c i σ H) ⟨G4, b, p, pg, ds, wl, _, _, [], [], _, _, _, _, _, _, _, _, _, _, _, rfl, L5, good0⟩ ?_ ?_⟩
    · rintro n σ H hn ⟨G, b, p, pg, ds, wl, x, d, bs, M, y4, y5, y6, y7, y8, y9, y10, y11, y12, y13, y14, rfl, L, good⟩
      have hn5 : n ≤ 5 := by omega
      clear L4 L5 S5 t5 good0
      refine ⟨_, rfl, G, s, c, 5, rfl, L.gh, L.st, by decide, by decide, fun r H1 r0 r1 t1 S1 => ?_⟩
      have L1 := L.tk t1 S1
      have few := good.few
      obtain ⟨g1, g2, g3⟩ := pages_nd good.ok
      refine ⟨rfl, _, rfl, if_int (fun e3 => ?_) (fun e3 => ?_)⟩
      · obtain ⟨dxb, hb⟩ := id L1.ba.ob
        refine ⟨_, rfl, b, dxb, _, rfl, hb, bf_no (by decide +kernel) (by decide +kernel) (by decide +kernel) (by decide +kernel) (by decide +kernel) (by decide +kernel) (by decide +kernel), G, b, p, pg, ds, wl, x, d, rfl, L1.gh, L1.ba, L1.dk, L1.sep, good.fit, good.w0, by omega, by omega, g2, g1, fun w' g' G5 H5 t5 D5 B5 hw hpg => ?_⟩
        obtain ⟨hc, gd⟩ := good.keep (by omega)
        rw [hc] at B5
        exact ⟨G5, b, p, g', ds, w', _, _, _, _, _, _, _, _, _, _, _, _, _, _, _, rfl, L1.db t5 D5 B5 hw hpg, gd⟩
      · obtain ⟨dxb, hb⟩ := id L1.ba.ob
        refine ⟨_, rfl, b, dxb, _, rfl, hb, bf_no (by decide +kernel) (by decide +kernel) (by decide +kernel) (by decide +kernel) (by decide +kernel) (by decide +kernel) (by decide +kernel), _, rfl, G, s, c, 3, rfl, L1.gh, L1.st, by decide, by decide, fun lo H3 l0 l1 t3 S3 => ?_⟩
        have L3 := L1.tk t3 S3
        refine ⟨_, rfl, G, s, c, 2, rfl, L3.gh, L3.st, by decide, by decide, fun r2 H4 r20 r21 t4 S4 => ⟨_, _, rfl, rfl, ?_⟩⟩
        have L4 := L3.tk t4 S4
        refine ⟨_, _, rfl, ⟨by omega, by omega, by omega, by omega⟩, fun Dm nDm => ?_⟩
        have off := L4.off nDm
        obtain ⟨t5, f5, _, g5, _⟩ := own_of (o := .lst []) (Stp.refl (O := O0) L4.gh) nDm rfl
        refine lc_range (lo := lo) (n := (3 + r2 - lo).toNat) (fun j H' => ∃ (G' : Hp) (acc : List V) (rows : BRows), LB B C G' H' s c b p pg ds wl x d ∧ H' Dm = some (.lst acc) ∧ G' Dm = none ∧ Paired (rSec G') acc rows ∧ rows.map (·.1) = (List.range j).map (fun k : Nat => lo + k) ∧ ∀ r ∈ rows, r.2.length = 64 ∧ Oct r.2)
          ⟨G, [], [], L4.al0 t5, f5, g5, .nil, rfl, fun r hr => by cases hr⟩ ?_ ?_
        · rintro j H5 hj ⟨G5, acc, rows, W5, f5, g5, p5, m5, h5⟩
          refine ⟨rfl, g_yes ⟨_, rfl, _, rfl, G5, s, c, 4, rfl, W5.gh, W5.st, by decide, by decide, fun v H6 v0 v1 t6 S6 => ⟨(by show 1 ≤ sizeLine; decide), fun q1 n1 => ?_⟩⟩⟩
          have W6 := W5.tk t6 S6
          have f6 := t6.kp _ _ f5 fun z => off (.inl z)
          generalize e7 : upd H6 q1 _ = H7
          obtain ⟨t7, f7, k7, g7, z7⟩ := own_of (Stp.refl (O := O0) W6.gh) n1 e7
          have W7 := W6.al0 t7
          refine ⟨q1, 60, _, rfl, rfl, f7, by decide, by decide, (by show 1 * 60 ≤ sizeLine; decide), fun q2 n2 => ?_⟩
          generalize e8 : upd H7 q2 _ = H8
          obtain ⟨t8, f8, k8, g8, z8⟩ := own_of (Stp.refl (O := O0) W7.gh) n2 e8
          have f8 : H8 q2 = some (rowI (List.replicate 60 v)) := f8
          have W8 := W7.al0 t8
          have off2 := W7.off n2
          refine ⟨_, rfl, G5, s, c, 2, rfl, W8.gh, W8.st, by decide, by decide, fun w H9 w0 w1 t9 S9 => ⟨(by show 1 ≤ sizeLine; decide), fun q3 n3 => ?_⟩⟩
          have W9 := W8.tk t9 S9
          have f89 := t9.kp _ _ f8 fun z => off2 (.inl z)
          have fD9 := t9.kp _ _ (k8 _ _ (k7 _ _ f6)) fun z => off (.inl z)
          generalize eA : upd H9 q3 _ = HA
          obtain ⟨tA, fA, kA, gA, zA⟩ := own_of (Stp.refl (O := O0) W9.gh) n3 eA
          have WA := W9.al0 tA
          refine ⟨q3, 4, _, rfl, rfl, fA, by decide, by decide, (by show 1 * 4 ≤ sizeLine; decide), fun q4 n4 => ?_⟩
          generalize eB : upd HA q4 _ = HB
          obtain ⟨tB, fB, kB, gB, zB⟩ := own_of (Stp.refl (O := O0) WA.gh) n4 eB
          have fB : HB q4 = some (rowI (List.replicate 4 w)) := fB
          have WB := WA.al0 tB
          refine ⟨q2, q4, _, _, rfl, rfl, kB _ _ (kA _ _ f89), fB, by rw [List.length_map, List.length_map, List.length_replicate, List.length_replicate]; decide, fun q5 n5 => ?_⟩
          rw [← List.map_append]
          generalize eC : upd HB q5 _ = HC
          obtain ⟨GC, tC, fC, ggC, kC, gkC⟩ := data_of (Stp.refl (O := O0) WB.gh) n5 eC
          have WC := WB.al0 tC
          refine ⟨(by show 2 ≤ sizeLine; decide), fun t nt => ?_⟩
          generalize eE : upd HC t _ = HE
          obtain ⟨GE, tE, fE, ggE, kE, gkE⟩ := data_of (Stp.refl (O := O0) WC.gh) nt eE
          have WE := WC.al0 tE
          have fDB := kB _ _ (kA _ _ fD9)
          have fDC := kC _ _ fDB
          have gDE : GE Dm = none := by rw [gkE Dm (ne_of_none fDC nt), gkC Dm (ne_of_none fDB n5)]; exact g5
          have lac := pd_len p5
          have lrw : rows.length = j := by
            have := congrArg List.length m5
            rw [List.length_map, List.length_map, List.length_range] at this
            exact this
          refine ⟨acc, kE _ _ fDC, by rw [sizeLine_eq]; omega, ?_⟩
          generalize eF : upd HE Dm _ = HF
          obtain ⟨tF, fF, kF⟩ := wr_of (Stp.refl (O := fun a => a = Dm) WE.gh) (kE _ _ fDC) gDE (.inl rfl) eF
          refine ⟨GE, _, rows ++ [(lo + (j : Int), List.replicate 60 v ++ List.replicate 4 w)], WE.al tF fun a ha z => off (z ▸ ha), fF, gDE, pd_snoc (mRow.ps (ggC.trans ggE) p5) ⟨t, _, _, rfl, fE, rfl, rLI_of (ggE _ _ fC)⟩, by rw [List.map_append, m5, List.range_succ, List.map_append]; rfl, fun r hr => ?_⟩
          rcases List.mem_append.mp hr with hr | hr
          · exact h5 r hr
          · rw [List.mem_singleton] at hr
            rw [hr]
            refine ⟨by show (List.replicate 60 v ++ List.replicate 4 w).length = 64; rw [List.length_append, List.length_replicate, List.length_replicate], fun y hy => ?_⟩
            rcases List.mem_append.mp hy with hy | hy
            · rw [List.eq_of_mem_replicate hy]; omega
            · rw [List.eq_of_mem_replicate hy]; omega
        · rintro H5 ⟨G5, acc, rows, W5, f5, g5, p5, m5, h5⟩
          have lrw : rows.length = (3 + r2 - lo).toNat := by
            have := congrArg List.length m5
            rw [List.length_map, List.length_map, List.length_range] at this
            exact this
          have fit : RFit rows := by
            refine ⟨fun r hr => (h5 r hr).1, by omega, fun r hr => ?_, ?_⟩
            · have : r.1 ∈ rows.map (·.1) := List.mem_map_of_mem hr
              rw [m5] at this
              obtain ⟨k', hk', e'⟩ := List.mem_map.mp this
              have := List.mem_range.mp hk'
              omega
            · unfold rising
              rw [m5, List.pairwise_map]
              exact List.pairwise_lt_range.imp fun h => by omega
          obtain ⟨dxb, hb5⟩ := id W5.ba.ob
          obtain ⟨hc, gd⟩ := good.commit (by omega) fit fun r hr => (h5 r hr).2
          refine ⟨G5, b, p, pg, ds, wl, x, d, Dm, rows, rfl, W5.gh, W5.ba, W5.dk, W5.sep, good.fit, good.w0, by omega, ⟨fun e => off (.inr (.inl (.inr (.inr e)))), acc, f5, pd_mono (fun v r z => ?_) p5⟩, by omega, fit.h64, by omega, fun w' G6 H6 t6 D6 B6 hw => ?_⟩
          · obtain ⟨t', u', c', e1, a1, a2, a3⟩ := z
            cases a2
            obtain ⟨ca, rfl, hca⟩ := rLI a3
            exact ⟨t', ca, e1, W5.gh _ _ a1, W5.gh _ _ hca, fun e => by rw [e, W5.dk.gw] at hca; cases hca⟩
          · rw [hc] at B6
            exact ⟨G6, b, p, pg, ds, w', _, _, _, _, _, _, _, _, _, _, _, _, _, _, _, rfl, W5.db t6 D6 B6 hw (.inl rfl), gd⟩
    · rintro σ H ⟨G, b, p, pg, ds, wl, x, d, bs, M, y4, y5, y6, y7, y8, y9, y10, y11, y12, y13, y14, rfl, L, good⟩
      clear L4 L5 S5 t5 good0
      have good := good.mono8 (by omega)
      have few := good.few
      obtain ⟨g1, g2, g3⟩ := pages_nd good.ok
      obtain ⟨sfin, sok, eto⟩ := good.secs (Nat.le_refl _)
      have hpp := good.paper
      have lt := told_le d.sec
      have lro : (rowsOf M).length ≤ 1000 := by
        have m5 := few5 good.nd good.k5
        have a1 := List.length_filter_le (fun r : Int × Page => !decide (r.2 = z64)) ((nums (M.map (·.1))).map fun n => (n, (look M n).getD []))
        have a2 := le_nums_len (M.map (·.1))
        rw [List.length_map] at a1
        unfold rowsOf
        omega
      refine ⟨_, rfl, G, b, p, pg, ds, wl, x, d, rfl, L.gh, L.ba, L.dk, good.fit, by omega, by omega, g2, g1, fun v1 G1 H1 s1 r1 => ?_⟩
      rw [hpp] at r1
      generalize hpap : ((x.many, rowsOf M) : Int × BRows) = pap at *
      have lpap : pap.2.length ≤ 1000 := by rw [← hpap]; exact lro
      have asc : (pap.2.map (·.1)).Pairwise (· < ·) := by rw [← hpap]; exact rowsOf_asc M
      obtain ⟨pp, ppu, ppw, rfl, hpt, epu, hpw⟩ := id r1
      have L1 := L.al0 s1
      refine synced_rd rfl L1.gh L1.dk good.fit fun q2 G2 H2 s2 rq2 nq2 => ?_
      have L2 := L1.al0 s2
      obtain ⟨q2', us2, e2', fq2, pq2⟩ := id rq2
      cases e2'
      refine ⟨_, rfl, G2, q2, pp, us2, told d.sec, bs, x.fin, pap, rfl, L2.gh, L2.gh _ _ fq2, pd_mono (fun v x z => mRow _ _ _ _ L2.gh z) pq2, sok, mPap _ _ _ _ s2.gg r1, lpap, fun v3 G3 H3 s3 fl3 => ?_⟩
      rw [paper_told sok, eto, fault_self asc] at fl3
      have e3 : v3 = .non := fl3
      rw [e3]
      refine ⟨_, rfl, if_vNne ?_⟩
      have L3 := L2.al0 s3
      refine ⟨_, rfl, synced_rd rfl L3.gh L3.dk good.fit fun q4 G4 H4 s4 rq4 nq4 => ?_⟩
      have L4 := L3.al0 s4
      refine ⟨G4, q4, told d.sec, bs, x.fin, rfl, L4.gh, rq4, sok, fun v5 G5 H5 s5 r5 => ?_⟩
      have L5 := L4.al0 s5
      have gg5 := s2.gg.trans (s3.gg.trans (s4.gg.trans s5.gg))
      refine ⟨_, _, ePap.dp L5.gh (mPap _ _ _ _ gg5 r1), ePap.dp L5.gh r5, shaped_pap _, shaped_pap _, _, rfl, ?_⟩
      rw [eqv_pap]
      refine if_nbool (fun e => absurd eto.symm (of_decide_eq_false e)) (fun _ => ?_)
      have r6 := mPap _ _ _ _ gg5 r1
      clear r5 rq4 L4 L3 L2 L1 s1 s2 s3 s4 s5 fl3 pq2 rq2 fq2 hpt hpw
      have fit := good.fit
      refine ⟨5, rfl, by decide, by decide, for_range (n := 5) (fun i σ H => Hd2 B C sc s c b p pg ds wl x d pp pap σ H) ⟨G5, _, _, _, _, _, _, _, _, _, _, rfl, L5, r6⟩ ?_ ?_⟩
      · rintro i σ H hi ⟨G, y4, y5, y7, y8, y9, y10, y11, y12, y13, y14, rfl, L, rp⟩
        clear L5 r6 r1
        refine ⟨_, rfl, synced_rd rfl L.gh L.dk fit fun q1 G1 H1 t1 rq1 nq1 => ?_⟩
        have L1 := L.al0 t1
        refine ⟨G1, s, c, q1, told d.sec, rfl, L1.gh, L1.st, rq1, sfin, by omega, fun q2 ys G2 H2 t2 S2 ry fin => ?_⟩
        have L2 := L1.tk t2 S2
        obtain ⟨w1, w2, w3, w4⟩ := secs_show fin
        obtain ⟨bs2, e2, sok2, sum2⟩ := fin.ok
        have few2 := fin.few
        refine ⟨_, rfl, q2, rowsD ys, rfl, ((eI.p eI.l).l).dp L2.gh ry, w1, w2, w3, w4, ?_⟩
        refine ⟨_, rfl, G2, q2, ys, bs2, e2, rfl, L2.gh, ry, sok2, fun v3 G3 H3 t3 r3 => ?_⟩
        have L3 := L2.al0 t3
        have lR := told_len4 sok2 few2 sum2
        have hR64 := told_64 sok2
        have hpt2 := paper_told sok2
        have ascR : ((toldOf (fOf ys) (ofRows ys) bs2).2.map (·.1)).Pairwise (· < ·) := pageRows_asc _ _ _
        have rp3 := mPap _ _ _ _ (t1.gg.trans (t2.gg.trans t3.gg)) rp
        have ry3 := mRow.l _ _ _ _ t3.gg ry
        generalize hR : toldOf (fOf ys) (ofRows ys) bs2 = R at *
        obtain ⟨rt, rtu, rtw, rfl, hrt, ertu, hrw⟩ := id r3
        obtain ⟨q2', us2, e2', fq2, pq2⟩ := id ry3
        cases e2'
        refine ⟨_, rfl, _, rfl, G3, q2, rt, us2, ys, bs2, e2, R, rfl, L3.gh, L3.gh _ _ fq2, pd_mono (fun v x z => mRow _ _ _ _ L3.gh z) pq2, sok2, r3, by omega, fun v4 G4 H4 t4 fl4 => ?_⟩
        rw [hpt2, fault_self ascR] at fl4
        have e4 : v4 = .non := fl4
        rw [e4]
        refine ⟨_, rfl, if_vNne ?_⟩
        have L4 := L3.al0 t4
        have rp4 := mPap _ _ _ _ t4.gg rp3
        refine ⟨_, rfl, _, rfl, G4, q2, pp, us2, ys, bs2, e2, pap, rfl, L4.gh, L4.gh _ _ (t4.gg _ _ fq2), pd_mono (fun v x z => mRow _ _ _ _ L4.gh (mRow _ _ _ _ t4.gg z)) pq2, sok2, rp4, lpap, fun v5 G5 H5 t5 fl5 => ?_⟩
        rw [hpt2] at fl5
        have L5 := L4.al0 t5
        have ry5 := mRow.l _ _ _ _ (t4.gg.trans t5.gg) ry3
        refine ⟨_, rfl, _, rfl, G5, q2, pp, ys, bs2, e2, pap, rfl, L5.gh, ry5, sok2, mPap _ _ _ _ t5.gg rp4, lpap, fun v6 G6 H6 t6 fl6 => ?_⟩
        rw [hR] at fl6
        have L6 := L5.al0 t6
        refine ⟨_, _, flt_dp L6.gh (flt_mono t6.gg fl5), flt_dp L6.gh fl6, fltD_shaped _, fltD_shaped _, _, rfl, ?_⟩
        rw [fltD_eqv]
        refine iteF ?_
        have gg6 := t4.gg.trans (t5.gg.trans t6.gg)
        refine tSeq_of (if_or_cmp (tCall1 (batches_var (by rfl) ⟨G6, q2, us2, ys, bs2, e2, rfl, L6.gh, L6.gh _ _ (gg6 _ _ fq2), pd_mono (fun v x z => mRow _ _ _ _ L6.gh (mRow _ _ _ _ gg6 z)) pq2, sok2, fun b2 p2 ds2 wl2 pg2 G7 H7 t7 B7 D7 => ?_⟩)))
        have L7 := L6.al0 t7
        obtain ⟨pn2, p642, plen2⟩ := sok2.pages
        have lsec : (dOf ys).sec.length ≤ 900 := by
          have f := synS_len ys []
          have f : (dOf ys).sec.length ≤ 0 + ys.length := f
          omega
        refine ⟨G7, b2, p2, pg2, ds2, wl2, _, _, rfl, L7.gh, B7, D7, sok2.fit, by omega, by omega, p642, pn2, fun v8 G8 H8 t8 r8 => ?_⟩
        rw [hpt2] at r8
        have L8 := L7.al0 t8
        have gg8 := gg6.trans (t7.gg.trans t8.gg)
        refine ⟨_, rfl, _, _, ePap.dp L8.gh r8, ePap.dp L8.gh (mPap _ _ _ _ gg8 r3), shaped_pap _, shaped_pap _, _, rfl, ?_⟩
        rw [eqv_pap]
        refine if_nbool (fun e => absurd rfl (of_decide_eq_false e)) (fun _ => ?_)
        refine ⟨_, rfl, q2, rowsD ys, rfl, ((eI.p eI.l).l).dp L8.gh (mRow.l _ _ _ _ gg8 ry3), w1, w2, w3, w4, _, rfl, rfl, _, rfl, if_vNne ?_⟩
        refine ⟨_, rfl, g_pair (L8.gh _ _ (gg8 _ _ hrt)) ?_⟩
        cases ertu
        obtain ⟨lb, lus, rfl, hlb, plb⟩ := id hrw
        have rp8 := mPap _ _ _ _ gg8 rp3
        have ry8 := mRow.l _ _ _ _ gg8 ry3
        have hlb8 := L8.gh _ _ (gg8 _ _ hlb)
        have plb8 := mRow.ps gg8 plb
        clear r8 t8 t7 t6 t5 t4 t3 t2 t1 B7 D7 fl4 fl5 fl6 L1 L2 L3 L4 L5 L6 L7 rp rp3 rp4 ry ry3 ry5 r3 pq2 fq2 hrt hrw plb hlb rq1 S2 L
        refine ⟨_, rfl, lb, _, rfl, .inl (SqL.of hlb8), fun bl nbl => ?_⟩
        generalize eA : upd H8 bl _ = HA
        obtain ⟨tA, fA, kA, gA, zA⟩ := own_of (Stp.refl (O := fun a => a = s ∨ a = c) L8.gh) nbl eA
        have SA := L8.st.stp (own_of (Stp.refl (O := O0) L8.gh) nbl eA).1 (fun z => z) fun z => z
        refine ⟨_, rfl, G8, s, c, 6, rfl, tA.gh, SA, by decide, by decide, fun kind HB k0 k1 tB SB => ⟨_, _, rfl, ?_⟩⟩
        have tAB := tA.trans tB fun b hb => .inl hb
        have offbl : ¬ (bl = s ∨ bl = c) := staOff L8.st nbl
        have fB := tB.kp _ _ fA offbl
        refine ⟨fun σ H => Hd3 B C sc s c b p pg ds wl x d pp pap q2 ys σ H, ?_, ?_⟩
        · have lus' : (lus : List V).length = R.2.length := pd_len plb8
          refine ⟨_, rfl, rfl, _, rfl, if_int (fun e0 => ?_) (fun e0 => ?_)⟩
          · refine ⟨_, rfl, _, _, rfl, rfl, ?_⟩
            exact ⟨G8, H8, G8, bl, _, R.2, R.1 + 1, _, _, _, _, _, _, _, rfl, L8, rp8, ry8, tAB, SB, nbl, gA, fB, plb8, by omega⟩
          refine ⟨_, rfl, rfl, _, rfl, if_int (fun e1 => ?_) (fun e1 => ?_)⟩
          · refine ⟨_, rfl, bl, _, rfl, .inl (SqL.of fB), _, _, rfl, rfl, _, rfl, if_dec (fun pos => ?_) (fun npos => ?_)⟩
            · refine ⟨_, rfl, .inl ⟨rfl, _, SqL.of fB⟩, _, rfl, _, rfl, bl, _, rfl, .inl (SqL.of fB), G8, s, c, _, rfl, tAB.gh, SB, by omega, by omega, fun r HC r0 r1 tC SC => ?_⟩
              have fC := tC.kp _ _ fB offbl
              have hr2 : r.toNat < lus.length := by omega
              refine ⟨bl, _, r, r.toNat, _, rfl, rfl, fC, by omega, by omega, (ixN_seq (by unfold ixN; rw [if_pos r0, if_pos r1])).1, List.getElem?_eq_getElem hr2, ?_⟩
              generalize eD : upd HC bl _ = HD
              have tABC := tAB.trans tC fun b hb => .inl hb
              obtain ⟨tD, fD, kD⟩ := wr_of tABC fC gA (.inr nbl) eD
              have SD := SC.stp (wr_of (O := fun b => b = bl) (Stp.refl tABC.gh) fC gA (.inl rfl) eD).1 (fun z => offbl (.inl z.symm)) fun z => offbl (.inr z.symm)
              have le := List.length_eraseIdx_le R.2 r.toNat
              exact ⟨G8, H8, G8, bl, _, R.2.eraseIdx r.toNat, R.1, _, _, _, _, _, _, _, rfl, L8, rp8, ry8, tD, SD, nbl, gA, fD, pd_erase _ plb8, by omega⟩
            · refine ⟨_, rfl, rfl, _, rfl, if_int (fun z => absurd (e1.symm.trans z) (by decide)) (fun _ => ?_)⟩
              refine ⟨_, rfl, rfl, _, rfl, if_int (fun z => absurd (e1.symm.trans z) (by decide)) (fun _ => ?_)⟩
              refine ⟨_, rfl, rfl, _, rfl, if_int (fun z => absurd (e1.symm.trans z) (by decide)) (fun _ => ?_)⟩
              refine ⟨_, rfl, rfl, _, rfl, if_int (fun z => absurd (e1.symm.trans z) (by decide)) (fun _ => ?_)⟩
              exact ⟨G8, H8, G8, bl, _, R.2, R.1, _, _, _, _, _, _, _, rfl, L8, rp8, ry8, tAB, SB, nbl, gA, fB, plb8, by omega⟩
          refine ⟨_, rfl, rfl, _, rfl, if_int (fun e2 => ?_) (fun e2 => ?_)⟩
          · refine ⟨_, rfl, .inl ⟨rfl, _, SqL.of fB⟩, _, rfl, G8, s, c, 9, rfl, tAB.gh, SB, by decide, by decide, fun v HC v0 v1 tC SC => ⟨(by show 1 ≤ sizeLine; decide), fun q3 n3 => ?_⟩⟩
            have fC := tC.kp _ _ fB offbl
            have tABC := tAB.trans tC fun b hb => .inl hb
            generalize eD : upd HC q3 _ = HD
            obtain ⟨tD, fD, kD, gD, zD⟩ := own_of tABC n3 eD
            have SD := SC.stp (own_of (Stp.refl (O := O0) tABC.gh) n3 eD).1 (fun z => z) fun z => z
            refine ⟨q3, 64, _, rfl, rfl, fD, by decide, by decide, (by show 1 * 64 ≤ sizeLine; decide), fun q4 n4 => ?_⟩
            generalize eE : upd HD q4 _ = HE
            obtain ⟨GE, tE, fE, ggE, kE, gkE⟩ := data_of tD n4 eE
            have fE : GE q4 = some (rowI (List.replicate 64 1)) := fE
            have tDE := data_of (Stp.refl (O := O0) tD.gh) n4 eE
            have SE : StAt GE HE s c := by
              obtain ⟨n', cells, h1, h2, r'⟩ := SD.ex
              exact ⟨⟨n', cells, kE _ _ h1, kE _ _ h2, r'⟩, by rw [gkE s (ne_of_none h1 n4)]; exact SD.gs, by rw [gkE c (ne_of_none h2 n4)]; exact SD.gc, SD.ne⟩
            refine ⟨(by show 2 ≤ sizeLine; decide), fun t nt => ?_⟩
            generalize eF : upd HE t _ = HF
            obtain ⟨GF, tF, fF, ggF, kF, gkF⟩ := data_of tE nt eF
            have SF : StAt GF HF s c := by
              obtain ⟨n', cells, h1, h2, r'⟩ := SE.ex
              exact ⟨⟨n', cells, kF _ _ h1, kF _ _ h2, r'⟩, by rw [gkF s (ne_of_none h1 nt)]; exact SE.gs, by rw [gkF c (ne_of_none h2 nt)]; exact SE.gc, SE.ne⟩
            have fbD := kD _ _ fC
            have fbE := kE _ _ fbD
            have gbF : GF bl = none := by rw [gkF bl (ne_of_none fbE nt), gkE bl (ne_of_none fbD n4)]; exact gA
            refine ⟨bl, _, _, rfl, rfl, kF _ _ fbE, by rw [lus', sizeLine_eq]; omega, ?_⟩
            generalize eG : upd HF bl _ = HG
            obtain ⟨tG, fG, kG⟩ := wr_of tF (kF _ _ fbE) gbF (.inr nbl) eG
            have SG := SF.stp (wr_of (O := fun b => b = bl) (Stp.refl tF.gh) (kF _ _ fbE) gbF (.inl rfl) eG).1 (fun z => offbl (.inl z.symm)) fun z => offbl (.inr z.symm)
            exact ⟨G8, H8, GF, bl, _, R.2 ++ [(v, List.replicate 64 1)], R.1, _, _, _, _, _, _, _, rfl, L8, rp8, ry8, tG, SG, nbl, gbF, fG, pd_snoc (mRow.ps tF.gg plb8) ⟨t, _, _, rfl, fF, rfl, rLI_of (ggF _ _ fE)⟩, by rw [List.length_append]; show _ + 1 ≤ _; omega⟩
          refine ⟨_, rfl, rfl, _, rfl, if_int (fun e3 => ?_) (fun e3 => ?_)⟩
          · refine ⟨_, rfl, bl, _, rfl, SqL.of fB, fun q3 n3 => ?_⟩
            generalize eD : upd HB q3 _ = HD
            obtain ⟨tD, fD, kD, gD, zD⟩ := own_of tAB n3 eD
            have SD := SB.stp (own_of (Stp.refl (O := O0) tAB.gh) n3 eD).1 (fun z => z) fun z => z
            exact ⟨G8, H8, G8, q3, _, R.2.reverse, R.1, _, _, _, _, _, _, _, rfl, L8, rp8, ry8, tD, SD, zD, gD, fD, pd_rev' plb8, by rw [List.length_reverse]; omega⟩
          refine ⟨_, rfl, rfl, _, rfl, if_int (fun e4 => ?_) (fun e4 => ?_)⟩
          · refine ⟨_, rfl, bl, _, rfl, .inl (SqL.of fB), _, _, rfl, rfl, _, rfl, if_dec (fun pos => ?_) (fun npos => ?_)⟩
            · obtain ⟨u0, ur, r0, rr, t0, c0, hu0, hr0, a1, a2, a3, a6⟩ : ∃ u0 ur r0 rr t0 c0, lus = u0 :: ur ∧ R.2 = r0 :: rr ∧ u0 = V.ref t0 ∧ G8 t0 = some (.tup [.int r0.1, .ref c0]) ∧ G8 c0 = some (rowI r0.2) ∧ r0.2.length = 64 := by
                have pos' : 0 < R.2.length := by omega
                cases hrw : R.2 with
                | nil => rw [hrw] at pos'; exact absurd pos' (by decide)
                | cons r0 rr =>
                  rw [hrw] at plb8
                  cases plb8 with
                  | cons h t =>
                    obtain ⟨t0, u1, w1', e, b1, b2, b3⟩ := h
                    cases b2
                    obtain ⟨c0, rfl, b4⟩ := rLI b3
                    exact ⟨_, _, _, _, t0, c0, rfl, rfl, e, b1, b4, hR64 r0 (by rw [hrw]; exact List.mem_cons_self)⟩
              have h0 : lus[0]? = some (V.ref t0) := by rw [hu0, a1]; rfl
              refine ⟨_, rfl, bl, _, _, _, rfl, rfl, SqL.of fB, at_of (j := 0) rfl h0, g_pair (tAB.gh _ _ a2) ?_⟩
              have x5 : (r0.2.map V.int)[5]? = some (.int (r0.2.getD 5 0)) := by
                rw [List.getElem?_map, List.getD_eq_getElem?_getD, List.getElem?_eq_getElem (by omega)]
                rfl
              refine ⟨_, rfl, _, rfl, _, rfl, c0, _, rfl, SqL.of (tAB.gh _ _ a3), fun q3 n3 => ?_⟩
              have ec : cutV (r0.2.map V.int) none (some 5) = (r0.2.take 5).map V.int := by rw [List.map_take]; exact cut_to _ 5
              rw [ec]
              generalize eD : upd HB q3 _ = HD
              obtain ⟨tD, fD, kD, gD, zD⟩ := own_of tAB n3 eD
              have SD := SB.stp (own_of (Stp.refl (O := O0) tAB.gh) n3 eD).1 (fun z => z) fun z => z
              refine ⟨_, rfl, c0, _, _, _, rfl, rfl, SqL.of (tD.gh _ _ a3), at_of (j := 5) rfl x5, _, _, rfl, rfl, (by show 1 ≤ sizeLine; decide), fun q4 n4 => ?_⟩
              generalize eE : upd HD q4 _ = HE
              obtain ⟨tE, fE, kE, gE, zE⟩ := own_of tD n4 eE
              have SE := SD.stp (own_of (Stp.refl (O := O0) tD.gh) n4 eE).1 (fun z => z) fun z => z
              have l5 : (r0.2.take 5).length = 5 := by rw [List.length_take]; omega
              refine ⟨q3, q4, _, _, rfl, rfl, kE _ _ fD, fE, by rw [List.length_map, l5]; show 5 + 1 ≤ sizeLine; decide, fun q5 n5 => ?_⟩
              generalize eF : upd HE q5 _ = HF
              obtain ⟨tF, fF, kF, gF, zF⟩ := own_of tE n5 eF
              have SF := SE.stp (own_of (Stp.refl (O := O0) tE.gh) n5 eF).1 (fun z => z) fun z => z
              refine ⟨_, rfl, _, rfl, c0, _, rfl, SqL.of (tF.gh _ _ a3), fun q6 n6 => ?_⟩
              have ec6 : cutV (r0.2.map V.int) (some 6) none = (r0.2.drop 6).map V.int := by rw [List.map_drop]; exact cut_from _ 6
              rw [ec6]
              generalize eG : upd HF q6 _ = HG
              obtain ⟨tG, fG, kG, gG, zG⟩ := own_of tF n6 eG
              have SG := SF.stp (own_of (Stp.refl (O := O0) tF.gh) n6 eG).1 (fun z => z) fun z => z
              refine ⟨q5, q6, _, _, rfl, rfl, kG _ _ fF, fG, by rw [List.length_append, List.length_map, List.length_map, l5, List.length_drop, sizeLine_eq]; show 5 + 1 + _ ≤ _; omega, fun q7 n7 => ?_⟩
              have en : ((r0.2.take 5).map V.int ++ [V.int (r0.2.getD 5 0 + 1)]) ++ (r0.2.drop 6).map V.int = (r0.2.take 5 ++ [r0.2.getD 5 0 + 1] ++ r0.2.drop 6).map V.int := by rw [List.map_append, List.map_append]; rfl
              rw [en]
              generalize eI : upd HG q7 _ = HI
              obtain ⟨GI, tI, fI, ggI, kI, gkI⟩ := data_of tG n7 eI
              have SI : StAt GI HI s c := by
                obtain ⟨n', cells, h1, h2, r'⟩ := SG.ex
                exact ⟨⟨n', cells, kI _ _ h1, kI _ _ h2, r'⟩, by rw [gkI s (ne_of_none h1 n7)]; exact SG.gs, by rw [gkI c (ne_of_none h2 n7)]; exact SG.gc, SG.ne⟩
              refine ⟨(by show 2 ≤ sizeLine; decide), fun t nt => ?_⟩
              generalize eJ : upd HI t _ = HJ
              obtain ⟨GJ, tJ, fJ, ggJ, kJ, gkJ⟩ := data_of tI nt eJ
              have SJ : StAt GJ HJ s c := by
                obtain ⟨n', cells, h1, h2, r'⟩ := SI.ex
                exact ⟨⟨n', cells, kJ _ _ h1, kJ _ _ h2, r'⟩, by rw [gkJ s (ne_of_none h1 nt)]; exact SI.gs, by rw [gkJ c (ne_of_none h2 nt)]; exact SI.gc, SI.ne⟩
              have fbG := kG _ _ (kF _ _ (kE _ _ (kD _ _ fB)))
              have fbI := kI _ _ fbG
              have gbJ : GJ bl = none := by rw [gkJ bl (ne_of_none fbI nt), gkI bl (ne_of_none fbG n7)]; exact gA
              have fbJ := kJ _ _ fbI
              refine ⟨_, rfl, bl, _, 0, 0, rfl, rfl, fbJ, ?_, ?_⟩
              · unfold ixN
                rw [if_pos (by decide), if_pos (by exact pos)]
                rfl
              generalize eK : upd HJ bl _ = HK
              obtain ⟨tK, fK, kK⟩ := wr_of tJ fbJ gbJ (.inr nbl) eK
              have SK := SJ.stp (wr_of (O := fun b => b = bl) (Stp.refl tJ.gh) fbJ gbJ (.inl rfl) eK).1 (fun z => offbl (.inl z.symm)) fun z => offbl (.inr z.symm)
              have pK : Paired (rSec GJ) (lus.set 0 (.ref t)) ((r0.1, r0.2.take 5 ++ [r0.2.getD 5 0 + 1] ++ r0.2.drop 6) :: rr) := by
                rw [hu0]
                rw [hu0, hr0] at plb8
                cases plb8 with
                | cons h tt => exact .cons ⟨t, _, _, rfl, fJ, rfl, rLI_of (ggJ _ _ fI)⟩ (mRow.ps tJ.gg tt)
              have lrr : rr.length + 1 = R.2.length := by rw [hr0]; rfl
              exact ⟨G8, H8, GJ, bl, _, _, R.1, _, _, _, _, _, _, _, rfl, L8, rp8, ry8, tK, SK, nbl, gbJ, fK, pK, by show rr.length + 1 ≤ _; omega⟩
            · refine ⟨_, rfl, rfl, _, rfl, if_int (fun z => absurd (e4.symm.trans z) (by decide)) (fun _ => ?_)⟩
              exact ⟨G8, H8, G8, bl, _, R.2, R.1, _, _, _, _, _, _, _, rfl, L8, rp8, ry8, tAB, SB, nbl, gA, fB, plb8, by omega⟩
          refine ⟨_, rfl, rfl, _, rfl, if_int (fun e5 => ?_) (fun e5 => ?_)⟩
          · refine ⟨_, rfl, _, rfl, _, rfl, bl, _, rfl, SqL.of fB, fun q3 n3 => ?_⟩
            have ec : cutV lus none (some 1) = lus.take 1 := cut_to lus 1
            rw [ec]
            generalize eD : upd HB q3 _ = HD
            obtain ⟨tD, fD, kD, gD, zD⟩ := own_of tAB n3 eD
            have SD := SB.stp (own_of (Stp.refl (O := O0) tAB.gh) n3 eD).1 (fun z => z) fun z => z
            have lt1 : (lus.take 1).length ≤ 1 := by rw [List.length_take]; omega
            have lt2 : (R.2.take 1).length ≤ 1 := by rw [List.length_take]; omega
            refine ⟨bl, q3, _, _, rfl, rfl, kD _ _ fB, fD, by rw [sizeLine_eq]; omega, fun q4 n4 => ?_⟩
            generalize eE : upd HD q4 _ = HE
            obtain ⟨tE, fE, kE, gE, zE⟩ := own_of tD n4 eE
            have SE := SD.stp (own_of (Stp.refl (O := O0) tD.gh) n4 eE).1 (fun z => z) fun z => z
            exact ⟨G8, H8, G8, q4, _, R.2 ++ R.2.take 1, R.1, _, _, _, _, _, _, _, rfl, L8, rp8, ry8, tE, SE, zE, gE, fE, pd_app' plb8 (pd_take' 1 plb8), by rw [List.length_append]; omega⟩
          · exact ⟨G8, H8, G8, bl, _, R.2, R.1, _, _, _, _, _, _, _, rfl, L8, rp8, ry8, tAB, SB, nbl, gA, fB, plb8, by omega⟩
        · clear fB tAB tB SB SA tA fA offbl nbl gA kA plb8 hlb8 L8 rp8 ry8
          rintro σ H ⟨Gb, Hb, G, bl, us, rows, many, y4, y5, y8, y9, y11, y13, y14, rfl, L, rp, ry, t, S, nb, gb, fb, pb, lb⟩
          obtain ⟨G1, t1, f1, gg1, gk1⟩ := pub_of t fb gb nb
          have hs : s ≠ bl := by
            obtain ⟨n', cells, h1, h2, r'⟩ := L.st.ex
            exact ne_of_none h1 nb
          have hc : c ≠ bl := by
            obtain ⟨n', cells, h1, h2, r'⟩ := L.st.ex
            exact ne_of_none h2 nb
          have S1 : StAt G1 H s c := ⟨S.ex, by rw [gk1 s hs]; exact S.gs, by rw [gk1 c hc]; exact S.gc, S.ne⟩
          have ry1 := mRow.l _ _ _ _ t1.gg ry
          have pb1 := mRow.ps gg1 pb
          refine ⟨_, rfl, _, rfl, _, rfl, (by show 2 ≤ sizeLine; decide), fun pt npt => ?_⟩
          generalize e2 : upd H pt _ = H2
          obtain ⟨G2, t2, f2, gg2, k2, gk2⟩ := data_of t1 npt e2
          have S2 : StAt G2 H2 s c := by
            obtain ⟨n', cells, h1, h2, r'⟩ := S1.ex
            exact ⟨⟨n', cells, k2 _ _ h1, k2 _ _ h2, r'⟩, by rw [gk2 s (ne_of_none h1 npt)]; exact S1.gs, by rw [gk2 c (ne_of_none h2 npt)]; exact S1.gc, S1.ne⟩
          have r2 : rPap G2 (.ref pt) (many, rows) := ⟨pt, _, _, rfl, f2, rfl, bl, us, rfl, gg2 _ _ f1, mRow.ps gg2 pb1⟩
          have ry2 := mRow.l _ _ _ _ gg2 ry1
          obtain ⟨q2', us2, e2', fq2, pq2⟩ := id ry2
          cases e2'
          refine ⟨G2, q2, pt, us2, ys, bs2, _, (many, rows), rfl, t2.gh, t2.gh _ _ fq2, pd_mono (fun v x z => mRow _ _ _ _ t2.gh z) pq2, sok2, r2, lb, fun v3 G3 H3 t3 fl3 => ?_⟩
          rw [hpt2] at fl3
          have S3 := S2.stp t3 (fun z => z) fun z => z
          have t23 := t2.trans t3 fun _ z => z.elim
          refine ⟨_, rfl, _, rfl, _, rfl, (by show 2 ≤ sizeLine; decide), fun pt2 npt2 => ?_⟩
          generalize e4 : upd H3 pt2 _ = H4
          obtain ⟨G4, t4, f4, gg4, k4, gk4⟩ := data_of t23 npt2 e4
          have S4 : StAt G4 H4 s c := by
            obtain ⟨n', cells, h1, h2, r'⟩ := S3.ex
            exact ⟨⟨n', cells, k4 _ _ h1, k4 _ _ h2, r'⟩, by rw [gk4 s (ne_of_none h1 npt2)]; exact S3.gs, by rw [gk4 c (ne_of_none h2 npt2)]; exact S3.gc, S3.ne⟩
          have gg34 := t3.gg.trans gg4
          have r4 : rPap G4 (.ref pt2) (many, rows) := ⟨pt2, _, _, rfl, f4, rfl, bl, us, rfl, gg34 _ _ (gg2 _ _ f1), mRow.ps (gg2.trans gg34) pb1⟩
          refine ⟨G4, q2, pt2, ys, bs2, _, (many, rows), rfl, t4.gh, mRow.l _ _ _ _ gg34 ry2, sok2, r4, lb, fun v5 G5 H5 t5 fl5 => ?_⟩
          rw [hR] at fl5
          have t45 := t4.trans t5 fun _ z => z.elim
          have S5 := S4.stp t5 (fun z => z) fun z => z
          refine ⟨_, _, flt_dp t45.gh (flt_mono (gg4.trans t5.gg) fl3), flt_dp t45.gh fl5, fltD_shaped _, fltD_shaped _, _, rfl, ?_⟩
          rw [fltD_eqv]
          refine iteF ?_
          exact ⟨G5, _, _, _, _, _, _, _, _, _, _, rfl, L.tk2 t45 S5, mPap _ _ _ _ t45.gg rp⟩
      · rintro σ H ⟨G, y4, y5, y7, y8, y9, y10, y11, y12, y13, y14, rfl, L, rp⟩
        obtain ⟨_, ok00, _⟩ := Gd.start
        refine ⟨(by show 0 ≤ sizeLine; decide), fun q1 n1 => ?_⟩
        generalize e1 : upd H q1 _ = H1
        obtain ⟨G1, t1, f1, gg1, k1, gk1⟩ := data_of (Stp.refl (O := O0) L.gh) n1 e1
        refine ⟨(by show 0 ≤ sizeLine; decide), fun q2 n2 => ?_⟩
        generalize e2 : upd H1 q2 _ = H2
        obtain ⟨G2, t2, f2, gg2, k2, gk2⟩ := data_of t1 n2 e2
        refine ⟨(by show 2 ≤ sizeLine; decide), fun pt npt => ?_⟩
        generalize e3 : upd H2 pt _ = H3
        obtain ⟨G3, t3, f3, gg3, k3, gk3⟩ := data_of t2 npt e3
        refine ⟨G3, q1, pt, [], [], [], 0, (0, []), rfl, t3.gh, t3.gh _ _ (gg3 _ _ (gg2 _ _ f1)), .nil, ok00, ⟨pt, _, _, rfl, f3, rfl, q2, [], rfl, gg3 _ _ f2, .nil⟩, Nat.zero_le _, fun v4 G4 H4 t4 fl4 => ?_⟩
        rw [fault0] at fl4
        have e4 : v4 = .non := fl4
        rw [e4]
        have t34 := t3.trans t4 fun _ z => z.elim
        refine ⟨_, rfl, ?_⟩
        rw [if_pos (decide_eq_true rfl)]
        refine ⟨(by show 0 ≤ sizeLine; decide), fun q5 n5 => ?_⟩
        generalize e5 : upd H4 q5 _ = H5
        obtain ⟨G5, t5, f5, gg5, k5, gk5⟩ := data_of t34 n5 e5
        refine ⟨(by show 1 ≤ sizeLine; decide), fun q6 n6 => ?_⟩
        generalize e6 : upd H5 q6 _ = H6
        obtain ⟨t6, f6, k6, g6, z6⟩ := own_of t5 n6 e6
        refine ⟨q6, 64, _, rfl, rfl, f6, by decide, by decide, (by show 1 * 64 ≤ sizeLine; decide), fun q7 n7 => ?_⟩
        generalize e7 : upd H6 q7 _ = H7
        obtain ⟨G7, t7, f7, gg7, k7, gk7⟩ := data_of t6 n7 e7
        have f7 : G7 q7 = some (rowI z64) := f7
        refine ⟨(by show 2 ≤ sizeLine; decide), fun q8 n8 => ?_⟩
        generalize e8 : upd H7 q8 _ = H8
        obtain ⟨G8, t8, f8, gg8, k8, gk8⟩ := data_of t7 n8 e8
        refine ⟨(by show 1 ≤ sizeLine; decide), fun q9 n9 => ?_⟩
        generalize e9 : upd H8 q9 _ = H9
        obtain ⟨G9, t9, f9, gg9, k9, gk9⟩ := data_of t8 n9 e9
        refine ⟨(by show 2 ≤ sizeLine; decide), fun p2 np2 => ?_⟩
        generalize eA : upd H9 p2 _ = HA
        obtain ⟨GA, tA, fA, ggA, kA, gkA⟩ := data_of t9 np2 eA
        have gg79 := gg8.trans (gg9.trans ggA)
        refine ⟨GA, q5, p2, [], [], [], 0, (0, [(3, z64)]), rfl, tA.gh, tA.gh _ _ (gg7.trans gg79 _ _ f5), .nil, ok00, ⟨p2, _, _, rfl, fA, rfl, q9, _, rfl, ggA _ _ f9, .cons ⟨q8, _, _, rfl, gg9.trans ggA _ _ f8, rfl, rLI_of (gg79 _ _ f7)⟩ .nil⟩, by decide, fun vB GB HB tB flB => ?_⟩
        rw [fault3] at flB
        have tAB := tA.trans tB fun _ z => z.elim
        refine ⟨(by show 2 ≤ sizeLine; decide), fun p3 np3 => ?_⟩
        generalize eC : upd HB p3 _ = HC
        obtain ⟨GC, tC, fC, ggC, kC, gkC⟩ := data_of tAB np3 eC
        have flC : FltV GC (.ref p3) (.page 3) := ⟨p3, rfl, fC⟩
        refine ⟨_, _, flt_dp tC.gh (flt_mono ggC flB), flt_dp tC.gh flC, fltD_shaped _, fltD_shaped _, ?_⟩
        rw [fltD_eqv]
        exact k HC
end
end K51

/-! the end: what the top has written; the law. -/
namespace K51
open PySem PySem.Spec PyProof.Rows L2 Y
theorem all_mk {l : PySem.W.OpenLaw} {w : World} {K : PySem.W.Frag} {h : Heap} {mg : Str → Option Value} {fa C B f1 f2 f3 f4 f5 f6 f7 f8 f9 f10 f11 f12 f13 f14 f15 f16 f17 f18 f19 f20 f21 f22 f23 f24 f25 f26 f27 f28 f29 f30 f31 f32 f33 f34 : Addr} {tS tP tR tW tH : Tok} {T22 : Addr} {ocT22 : Value} {odT22 : Option Addr} {nT22 : Nat} {slT22 : Array (Option Value)} (X : K.In h) (G : h.Ns mainGlobals mg) (hfa : mg "law" = some (.ref fa))
    {od1 an1 od2 an2 od3 an3 od4 an4 od5 an5 od6 an6 od7 an7 od8 an8 od9 an9 od10 an10 od11 an11 od12 an12 od13 an13 od14 an14 od15 an15 od16 an16 od17 an17 od18 an18 od19 an19 od20 an20 od21 an21 od22 an22 od23 an23 od24 an24 od25 an25 od26 an26 od27 an27 od28 an28 od29 an29 od30 an30 od31 an31 od32 an32 od33 an33 od34 an34 : Option Addr} {sl1 sl2 sl3 sl4 sl5 sl6 sl7 sl8 sl9 sl10 sl11 sl12 sl13 sl14 sl15 sl16 sl17 sl18 sl19 sl20 sl21 sl22 sl23 sl24 sl25 sl26 sl27 sl28 sl29 sl30 sl31 sl32 sl33 sl34 : Array (Option Value)} {oc1 kV1 dc1 pm1 cd1 ct1 oc2 kV2 dc2 pm2 cd2 ct2 oc3 kV3 dc3 pm3 cd3 ct3 oc4 kV4 dc4 pm4 cd4 ct4 oc5 kV5 dc5 pm5 cd5 ct5 oc6 kV6 dc6 pm6 cd6 ct6 oc7 kV7 dc7 pm7 cd7 ct7 oc8 kV8 dc8 pm8 cd8 ct8 oc9 kV9 dc9 pm9 cd9 ct9 oc10 kV10 dc10 pm10 cd10 ct10 oc11 kV11 dc11 pm11 cd11 ct11 oc12 kV12 dc12 pm12 cd12 ct12 oc13 kV13 dc13 pm13 cd13 ct13 oc14 kV14 dc14 pm14 cd14 ct14 oc15 kV15 dc15 pm15 cd15 ct15 oc16 kV16 dc16 pm16 cd16 ct16 oc17 kV17 dc17 pm17 cd17 ct17 oc18 kV18 dc18 pm18 cd18 ct18 oc19 kV19 dc19 pm19 cd19 ct19 oc20 kV20 dc20 pm20 cd20 ct20 oc21 kV21 dc21 pm21 cd21 ct21 oc22 kV22 dc22 pm22 cd22 ct22 oc23 kV23 dc23 pm23 cd23 ct23 oc24 kV24 dc24 pm24 cd24 ct24 oc25 kV25 dc25 pm25 cd25 ct25 oc26 kV26 dc26 pm26 cd26 ct26 oc27 kV27 dc27 pm27 cd27 ct27 oc28 kV28 dc28 pm28 cd28 ct28 oc29 kV29 dc29 pm29 cd29 ct29 oc30 kV30 dc30 pm30 cd30 ct30 oc31 kV31 dc31 pm31 cd31 ct31 oc32 kV32 dc32 pm32 cd32 ct32 oc33 kV33 dc33 pm33 cd33 ct33 oc34 kV34 dc34 pm34 cd34 ct34 : Value}
    (aCC : PySem.W.nsIn K mainGlobals "Disk" = some (some (.ref C)))
    (aCB : PySem.W.nsIn K mainGlobals "Batches" = some (some (.ref B)))
    (a1 : PySem.W.nsIn K mainGlobals "_law_state" = some (some (.ref f1)))
    (l1 : K.lookup f1 = some ⟨oc1, od1, .func (PySem.W.fnOf "_law_state" "_law_state" (defArgs s__law_state) (defBody s__law_state) (defScope s__law_state) .none kV1 dc1 pm1 an1 cd1 ct1), sl1⟩)
    (c1 : PySem.W.codeIn K cd1 "_law_state" = true)
    (k1 : PySem.W.keepIn K (.ref f1) = true)
    (a2 : PySem.W.nsIn K mainGlobals "_law_take" = some (some (.ref f2)))
    (l2 : K.lookup f2 = some ⟨oc2, od2, .func (PySem.W.fnOf "_law_take" "_law_take" (defArgs s__law_take) (defBody s__law_take) (defScope s__law_take) .none kV2 dc2 pm2 an2 cd2 ct2), sl2⟩)
    (c2 : PySem.W.codeIn K cd2 "_law_take" = true)
    (k2 : PySem.W.keepIn K (.ref f2) = true)
    (a3 : PySem.W.nsIn K mainGlobals "_law_of_four" = some (some (.ref f3)))
    (l3 : K.lookup f3 = some ⟨oc3, od3, .func (PySem.W.fnOf "_law_of_four" "_law_of_four" (defArgs s__law_of_four) (defBody s__law_of_four) (defScope s__law_of_four) .none kV3 dc3 pm3 an3 cd3 ct3), sl3⟩)
    (c3 : PySem.W.codeIn K cd3 "_law_of_four" = true)
    (k3 : PySem.W.keepIn K (.ref f3) = true)
    (a4 : PySem.W.nsIn K mainGlobals "_law_told" = some (some (.ref f4)))
    (l4 : K.lookup f4 = some ⟨oc4, od4, .func (PySem.W.fnOf "_law_told" "_law_told" (defArgs s__law_told) (defBody s__law_told) (defScope s__law_told) .none kV4 dc4 pm4 an4 cd4 ct4), sl4⟩)
    (c4 : PySem.W.codeIn K cd4 "_law_told" = true)
    (k4 : PySem.W.keepIn K (.ref f4) = true)
    (a5 : PySem.W.nsIn K mainGlobals "_law_due" = some (some (.ref f5)))
    (l5 : K.lookup f5 = some ⟨oc5, od5, .func (PySem.W.fnOf "_law_due" "_law_due" (defArgs s__law_due) (defBody s__law_due) (defScope s__law_due) .none kV5 dc5 pm5 an5 cd5 ct5), sl5⟩)
    (c5 : PySem.W.codeIn K cd5 "_law_due" = true)
    (k5 : PySem.W.keepIn K (.ref f5) = true)
    (a6 : PySem.W.nsIn K mainGlobals "_law_spoilt" = some (some (.ref f6)))
    (l6 : K.lookup f6 = some ⟨oc6, od6, .func (PySem.W.fnOf "_law_spoilt" "_law_spoilt" (defArgs s__law_spoilt) (defBody s__law_spoilt) (defScope s__law_spoilt) .none kV6 dc6 pm6 an6 cd6 ct6), sl6⟩)
    (c6 : PySem.W.codeIn K cd6 "_law_spoilt" = true)
    (k6 : PySem.W.keepIn K (.ref f6) = true)
    (a7 : PySem.W.nsIn K mainGlobals "home_pages" = some (some (.ref f7)))
    (l7 : K.lookup f7 = some ⟨oc7, od7, .func (PySem.W.fnOf "home_pages" "home_pages" (defArgs s_home_pages) (defBody s_home_pages) (defScope s_home_pages) .none kV7 dc7 pm7 an7 cd7 ct7), sl7⟩)
    (c7 : PySem.W.codeIn K cd7 "home_pages" = true)
    (k7 : PySem.W.keepIn K (.ref f7) = true)
    (a8 : PySem.W.findIn K (.ref C) "synced" = some (some (.ref f8)))
    (i8 : PySem.W.isFn K (.ref f8) = true)
    (l8 : K.lookup f8 = some ⟨oc8, od8, .func (PySem.W.fnOf "synced" "Disk.synced" (defArgs s_Disk_synced) (defBody s_Disk_synced) (defScope s_Disk_synced) .none kV8 dc8 pm8 an8 cd8 ct8), sl8⟩)
    (c8 : PySem.W.codeIn K cd8 "Disk.synced" = true)
    (k8 : PySem.W.keepIn K (.ref f8) = true)
    (a9 : PySem.W.nsIn K mainGlobals "home_sector" = some (some (.ref f9)))
    (l9 : K.lookup f9 = some ⟨oc9, od9, .func (PySem.W.fnOf "home_sector" "home_sector" (defArgs s_home_sector) (defBody s_home_sector) (defScope s_home_sector) .none kV9 dc9 pm9 an9 cd9 ct9), sl9⟩)
    (c9 : PySem.W.codeIn K cd9 "home_sector" = true)
    (k9 : PySem.W.keepIn K (.ref f9) = true)
    (a10 : PySem.W.findIn K (.ref C) "whole" = some (some (.ref f10)))
    (i10 : PySem.W.isFn K (.ref f10) = true)
    (l10 : K.lookup f10 = some ⟨oc10, od10, .func (PySem.W.fnOf "whole" "Disk.whole" (defArgs s_Disk_whole) (defBody s_Disk_whole) (defScope s_Disk_whole) .none kV10 dc10 pm10 an10 cd10 ct10), sl10⟩)
    (c10 : PySem.W.codeIn K cd10 "Disk.whole" = true)
    (k10 : PySem.W.keepIn K (.ref f10) = true)
    (a11 : PySem.W.findIn K (.ref C) "read" = some (some (.ref f11)))
    (i11 : PySem.W.isFn K (.ref f11) = true)
    (l11 : K.lookup f11 = some ⟨oc11, od11, .func (PySem.W.fnOf "read" "Disk.read" (defArgs s_Disk_read) (defBody s_Disk_read) (defScope s_Disk_read) .none kV11 dc11 pm11 an11 cd11 ct11), sl11⟩)
    (c11 : PySem.W.codeIn K cd11 "Disk.read" = true)
    (k11 : PySem.W.keepIn K (.ref f11) = true)
    (a12 : PySem.W.findIn K (.ref B) "page" = some (some (.ref f12)))
    (i12 : PySem.W.isFn K (.ref f12) = true)
    (l12 : K.lookup f12 = some ⟨oc12, od12, .func (PySem.W.fnOf "page" "Batches.page" (defArgs s_Batches_page) (defBody s_Batches_page) (defScope s_Batches_page) .none kV12 dc12 pm12 an12 cd12 ct12), sl12⟩)
    (c12 : PySem.W.codeIn K cd12 "Batches.page" = true)
    (k12 : PySem.W.keepIn K (.ref f12) = true)
    (a13 : PySem.W.nsIn K mainGlobals "pages_paper" = some (some (.ref f13)))
    (l13 : K.lookup f13 = some ⟨oc13, od13, .func (PySem.W.fnOf "pages_paper" "pages_paper" (defArgs s_pages_paper) (defBody s_pages_paper) (defScope s_pages_paper) .none kV13 dc13 pm13 an13 cd13 ct13), sl13⟩)
    (c13 : PySem.W.codeIn K cd13 "pages_paper" = true)
    (k13 : PySem.W.keepIn K (.ref f13) = true)
    (a14 : PySem.W.findIn K (.ref C) "__init__" = some (some (.ref f14)))
    (i14 : PySem.W.isFn K (.ref f14) = true)
    (l14 : K.lookup f14 = some ⟨oc14, od14, .func (PySem.W.fnOf "__init__" "Disk.__init__" (defArgs s_Disk_init) (defBody s_Disk_init) (defScope s_Disk_init) .none kV14 dc14 pm14 an14 cd14 ct14), sl14⟩)
    (c14 : PySem.W.codeIn K cd14 "Disk.__init__" = true)
    (k14 : PySem.W.keepIn K (.ref f14) = true)
    (a15 : PySem.W.nsIn K mainGlobals "of_four" = some (some (.ref f15)))
    (l15 : K.lookup f15 = some ⟨oc15, od15, .func (PySem.W.fnOf "of_four" "of_four" (defArgs s_of_four) (defBody s_of_four) (defScope s_of_four) .none kV15 dc15 pm15 an15 cd15 ct15), sl15⟩)
    (c15 : PySem.W.codeIn K cd15 "of_four" = true)
    (k15 : PySem.W.keepIn K (.ref f15) = true)
    (a16 : PySem.W.nsIn K mainGlobals "root_at" = some (some (.ref f16)))
    (l16 : K.lookup f16 = some ⟨oc16, od16, .func (PySem.W.fnOf "root_at" "root_at" (defArgs s_root_at) (defBody s_root_at) (defScope s_root_at) .none kV16 dc16 pm16 an16 cd16 ct16), sl16⟩)
    (c16 : PySem.W.codeIn K cd16 "root_at" = true)
    (k16 : PySem.W.keepIn K (.ref f16) = true)
    (a17 : PySem.W.nsIn K mainGlobals "newest_root" = some (some (.ref f17)))
    (l17 : K.lookup f17 = some ⟨oc17, od17, .func (PySem.W.fnOf "newest_root" "newest_root" (defArgs s_newest_root) (defBody s_newest_root) (defScope s_newest_root) .none kV17 dc17 pm17 an17 cd17 ct17), sl17⟩)
    (c17 : PySem.W.codeIn K cd17 "newest_root" = true)
    (k17 : PySem.W.keepIn K (.ref f17) = true)
    (a18 : PySem.W.nsIn K mainGlobals "log_sector" = some (some (.ref f18)))
    (l18 : K.lookup f18 = some ⟨oc18, od18, .func (PySem.W.fnOf "log_sector" "log_sector" (defArgs s_log_sector) (defBody s_log_sector) (defScope s_log_sector) .none kV18 dc18 pm18 an18 cd18 ct18), sl18⟩)
    (c18 : PySem.W.codeIn K cd18 "log_sector" = true)
    (k18 : PySem.W.keepIn K (.ref f18) = true)
    (a19 : PySem.W.nsIn K mainGlobals "batch_at" = some (some (.ref f19)))
    (l19 : K.lookup f19 = some ⟨oc19, od19, .func (PySem.W.fnOf "batch_at" "batch_at" (defArgs s_batch_at) (defBody s_batch_at) (defScope s_batch_at) .none kV19 dc19 pm19 an19 cd19 ct19), sl19⟩)
    (c19 : PySem.W.codeIn K cd19 "batch_at" = true)
    (k19 : PySem.W.keepIn K (.ref f19) = true)
    (a20 : PySem.W.findIn K (.ref B) "take" = some (some (.ref f20)))
    (i20 : PySem.W.isFn K (.ref f20) = true)
    (l20 : K.lookup f20 = some ⟨oc20, od20, .func (PySem.W.fnOf "take" "Batches.take" (defArgs s_Batches_take) (defBody s_Batches_take) (defScope s_Batches_take) .none kV20 dc20 pm20 an20 cd20 ct20), sl20⟩)
    (c20 : PySem.W.codeIn K cd20 "Batches.take" = true)
    (k20 : PySem.W.keepIn K (.ref f20) = true)
    (a21 : PySem.W.findIn K (.ref B) "open_log" = some (some (.ref f21)))
    (i21 : PySem.W.isFn K (.ref f21) = true)
    (l21 : K.lookup f21 = some ⟨oc21, od21, .func (PySem.W.fnOf "open_log" "Batches.open_log" (defArgs s_Batches_open_log) (defBody s_Batches_open_log) (defScope s_Batches_open_log) .none kV21 dc21 pm21 an21 cd21 ct21), sl21⟩)
    (c21 : PySem.W.codeIn K cd21 "Batches.open_log" = true)
    (k21 : PySem.W.keepIn K (.ref f21) = true)
    (a22 : PySem.W.findIn K (.ref B) "__init__" = some (some (.ref f22)))
    (i22 : PySem.W.isFn K (.ref f22) = true)
    (l22 : K.lookup f22 = some ⟨oc22, od22, .func (PySem.W.fnOf "__init__" "Batches.__init__" (defArgs s_Batches_init) (defBody s_Batches_init) (defScope s_Batches_init) (.ref T22) kV22 dc22 pm22 an22 cd22 ct22), sl22⟩)
    (c22 : PySem.W.codeIn K cd22 "Batches.__init__" = true)
    (k22 : PySem.W.keepIn K (.ref f22) = true)
    (d22 : K.lookup T22 = some ⟨ocT22, odT22, .seq #[Value.none] nT22, slT22⟩)
    (a23 : PySem.W.nsIn K mainGlobals "pages_fault" = some (some (.ref f23)))
    (l23 : K.lookup f23 = some ⟨oc23, od23, .func (PySem.W.fnOf "pages_fault" "pages_fault" (defArgs s_pages_fault) (defBody s_pages_fault) (defScope s_pages_fault) .none kV23 dc23 pm23 an23 cd23 ct23), sl23⟩)
    (c23 : PySem.W.codeIn K cd23 "pages_fault" = true)
    (k23 : PySem.W.keepIn K (.ref f23) = true)
    (a24 : PySem.W.nsIn K mainGlobals "four" = some (some (.ref f24)))
    (l24 : K.lookup f24 = some ⟨oc24, od24, .func (PySem.W.fnOf "four" "four" (defArgs s_four) (defBody s_four) (defScope s_four) .none kV24 dc24 pm24 an24 cd24 ct24), sl24⟩)
    (c24 : PySem.W.codeIn K cd24 "four" = true)
    (k24 : PySem.W.keepIn K (.ref f24) = true)
    (a25 : PySem.W.nsIn K mainGlobals "content_of" = some (some (.ref f25)))
    (l25 : K.lookup f25 = some ⟨oc25, od25, .func (PySem.W.fnOf "content_of" "content_of" (defArgs s_content_of) (defBody s_content_of) (defScope s_content_of) .none kV25 dc25 pm25 an25 cd25 ct25), sl25⟩)
    (c25 : PySem.W.codeIn K cd25 "content_of" = true)
    (k25 : PySem.W.keepIn K (.ref f25) = true)
    (a26 : PySem.W.nsIn K mainGlobals "log_sectors" = some (some (.ref f26)))
    (l26 : K.lookup f26 = some ⟨oc26, od26, .func (PySem.W.fnOf "log_sectors" "log_sectors" (defArgs s_log_sectors) (defBody s_log_sectors) (defScope s_log_sectors) .none kV26 dc26 pm26 an26 cd26 ct26), sl26⟩)
    (c26 : PySem.W.codeIn K cd26 "log_sectors" = true)
    (k26 : PySem.W.keepIn K (.ref f26) = true)
    (a27 : PySem.W.findIn K (.ref C) "crash" = some (some (.ref f27)))
    (i27 : PySem.W.isFn K (.ref f27) = true)
    (l27 : K.lookup f27 = some ⟨oc27, od27, .func (PySem.W.fnOf "crash" "Disk.crash" (defArgs s_Disk_crash) (defBody s_Disk_crash) (defScope s_Disk_crash) .none kV27 dc27 pm27 an27 cd27 ct27), sl27⟩)
    (c27 : PySem.W.codeIn K cd27 "Disk.crash" = true)
    (k27 : PySem.W.keepIn K (.ref f27) = true)
    (a28 : PySem.W.findIn K (.ref C) "counts" = some (some (.ref f28)))
    (i28 : PySem.W.isFn K (.ref f28) = true)
    (l28 : K.lookup f28 = some ⟨oc28, od28, .func (PySem.W.fnOf "counts" "Disk.counts" (defArgs s_Disk_counts) (defBody s_Disk_counts) (defScope s_Disk_counts) .none kV28 dc28 pm28 an28 cd28 ct28), sl28⟩)
    (c28 : PySem.W.codeIn K cd28 "Disk.counts" = true)
    (k28 : PySem.W.keepIn K (.ref f28) = true)
    (a29 : PySem.W.findIn K (.ref C) "write" = some (some (.ref f29)))
    (i29 : PySem.W.isFn K (.ref f29) = true)
    (l29 : K.lookup f29 = some ⟨oc29, od29, .func (PySem.W.fnOf "write" "Disk.write" (defArgs s_Disk_write) (defBody s_Disk_write) (defScope s_Disk_write) .none kV29 dc29 pm29 an29 cd29 ct29), sl29⟩)
    (c29 : PySem.W.codeIn K cd29 "Disk.write" = true)
    (k29 : PySem.W.keepIn K (.ref f29) = true)
    (a30 : PySem.W.findIn K (.ref C) "sync" = some (some (.ref f30)))
    (i30 : PySem.W.isFn K (.ref f30) = true)
    (l30 : K.lookup f30 = some ⟨oc30, od30, .func (PySem.W.fnOf "sync" "Disk.sync" (defArgs s_Disk_sync) (defBody s_Disk_sync) (defScope s_Disk_sync) .none kV30 dc30 pm30 an30 cd30 ct30), sl30⟩)
    (c30 : PySem.W.codeIn K cd30 "Disk.sync" = true)
    (k30 : PySem.W.keepIn K (.ref f30) = true)
    (a31 : PySem.W.findIn K (.ref B) "commit" = some (some (.ref f31)))
    (i31 : PySem.W.isFn K (.ref f31) = true)
    (l31 : K.lookup f31 = some ⟨oc31, od31, .func (PySem.W.fnOf "commit" "Batches.commit" (defArgs s_Batches_commit) (defBody s_Batches_commit) (defScope s_Batches_commit) .none kV31 dc31 pm31 an31 cd31 ct31), sl31⟩)
    (c31 : PySem.W.codeIn K cd31 "Batches.commit" = true)
    (k31 : PySem.W.keepIn K (.ref f31) = true)
    (a32 : PySem.W.findIn K (.ref B) "bring_home" = some (some (.ref f32)))
    (i32 : PySem.W.isFn K (.ref f32) = true)
    (l32 : K.lookup f32 = some ⟨oc32, od32, .func (PySem.W.fnOf "bring_home" "Batches.bring_home" (defArgs s_Batches_bring_home) (defBody s_Batches_bring_home) (defScope s_Batches_bring_home) .none kV32 dc32 pm32 an32 cd32 ct32), sl32⟩)
    (c32 : PySem.W.codeIn K cd32 "Batches.bring_home" = true)
    (k32 : PySem.W.keepIn K (.ref f32) = true)
    (a33 : PySem.W.findIn K (.ref B) "keep" = some (some (.ref f33)))
    (i33 : PySem.W.isFn K (.ref f33) = true)
    (l33 : K.lookup f33 = some ⟨oc33, od33, .func (PySem.W.fnOf "keep" "Batches.keep" (defArgs s_Batches_keep) (defBody s_Batches_keep) (defScope s_Batches_keep) .none kV33 dc33 pm33 an33 cd33 ct33), sl33⟩)
    (c33 : PySem.W.codeIn K cd33 "Batches.keep" = true)
    (k33 : PySem.W.keepIn K (.ref f33) = true)
    (a34 : PySem.W.nsIn K mainGlobals "law" = some (some (.ref f34)))
    (l34 : K.lookup f34 = some ⟨oc34, od34, .func (PySem.W.fnOf "law" "law" (defArgs s_law) (defBody s_law) (defScope s_law) .none kV34 dc34 pm34 an34 cd34 ct34), sl34⟩)
    (c34 : PySem.W.codeIn K cd34 "law" = true)
    (k34 : PySem.W.keepIn K (.ref f34) = true)
    (pgC : PySem.W.plainGet K C Str.empty = true)
    (hdC : PySem.W.hasDictIn K C = true)
    (poC : PySem.W.plainOver K C = true)
    (saC : PySem.W.findIn K (.ref C) "__setattr__" = some (some (.builtin "object.__setattr__")))
    (mkC : PySem.W.makesIn K C = true)
    (kcC : PySem.W.keepIn K (.ref C) = true)
    (nC_is_cut : PySem.W.findIn K (.ref C) "is_cut" = some none)
    (nC_sectors : PySem.W.findIn K (.ref C) "sectors" = some none)
    (nC_waiting : PySem.W.findIn K (.ref C) "waiting" = some none)
    (nC_left : PySem.W.findIn K (.ref C) "left" = some none)
    (nC_rows : PySem.W.findIn K (.ref C) "rows" = some none)
    (pgB : PySem.W.plainGet K B Str.empty = true)
    (hdB : PySem.W.hasDictIn K B = true)
    (poB : PySem.W.plainOver K B = true)
    (saB : PySem.W.findIn K (.ref B) "__setattr__" = some (some (.builtin "object.__setattr__")))
    (mkB : PySem.W.makesIn K B = true)
    (kcB : PySem.W.keepIn K (.ref B) = true)
    (nB_disk : PySem.W.findIn K (.ref B) "disk" = some none)
    (nB_bend : PySem.W.findIn K (.ref B) "bend" = some none)
    (nB_place : PySem.W.findIn K (.ref B) "place" = some none)
    (nB_epoch : PySem.W.findIn K (.ref B) "epoch" = some none)
    (nB_many : PySem.W.findIn K (.ref B) "many" = some none)
    (nB_pages : PySem.W.findIn K (.ref B) "pages" = some none)
    (nB_end : PySem.W.findIn K (.ref B) "end" = some none)
    (z_SECTOR : PySem.W.nsIn K mainGlobals "SECTOR" = some (some (.int 16 tS)))
    (z_PAGE : PySem.W.nsIn K mainGlobals "PAGE" = some (some (.int 64 tP)))
    (z_ROOM : PySem.W.nsIn K mainGlobals "ROOM" = some (some (.int 15 tR)))
    (z_ROW : PySem.W.nsIn K mainGlobals "ROW" = some (some (.int 68 tW)))
    (z_HEAD : PySem.W.nsIn K mainGlobals "HEAD" = some (some (.int 8 tH)))
    (b_list : PySem.W.nsIn K mainGlobals "list" = some none)
    (b_len : PySem.W.nsIn K mainGlobals "len" = some none)
    (b_min : PySem.W.nsIn K mainGlobals "min" = some none)
    (b_max : PySem.W.nsIn K mainGlobals "max" = some none)
    (b_sorted : PySem.W.nsIn K mainGlobals "sorted" = some none)
    (b_set : PySem.W.nsIn K mainGlobals "set" = some none)
    (b_zip : PySem.W.nsIn K mainGlobals "zip" = some none)
    (b_range : PySem.W.nsIn K mainGlobals "range" = some none)
    (b_abs : PySem.W.nsIn K mainGlobals "abs" = some none)
    (b_int : PySem.W.nsIn K mainGlobals "int" = some none)
    (b_dict : PySem.W.nsIn K mainGlobals "dict" = some none)
    (b_enumerate : PySem.W.nsIn K mainGlobals "enumerate" = some none)
    (b_repr : PySem.W.nsIn K mainGlobals "repr" = some none)
    : ∃ fd : FuncData, (∀ (s : Shared) (v : Value), BindsTo s fd ⟨[v], []⟩ [("script", v)]) ∧ ∀ base : Heap, K.In base → base.Ns mainGlobals mg → FnG l.prog w K mg base CX0 8 fa fd ["script"] (spLaw K) := by
  have e := hfa.symm.trans (PySem.W.mg_of X G a34)
  cases e
  have T_Txt : Txt K mg C tS := ⟨⟨pgC, hdC, poC, saC⟩, nC_sectors, nC_waiting, nC_left, nC_rows, nC_is_cut, PySem.W.mg_of X G z_SECTOR, PySem.W.mg_none_of X G b_list, PySem.W.mg_none_of X G b_len, PySem.W.mg_none_of X G b_min, PySem.W.mg_none_of X G b_max, PySem.W.mg_none_of X G b_sorted, PySem.W.mg_none_of X G b_set, PySem.W.mg_none_of X G b_zip, PySem.W.mg_none_of X G b_range, PySem.W.mg_none_of X G b_abs, PySem.W.mg_none_of X G b_int, PySem.W.mg_none_of X G b_dict⟩
  have T_TxB : TxB K mg B tP tR tW tH := ⟨⟨pgB, hdB, poB, saB⟩, nB_disk, nB_bend, nB_place, nB_epoch, nB_many, nB_pages, nB_end, PySem.W.mg_of X G z_PAGE, PySem.W.mg_of X G z_ROOM, PySem.W.mg_of X G z_ROW, PySem.W.mg_of X G z_HEAD, PySem.W.mg_none_of X G b_list, PySem.W.mg_none_of X G b_len, PySem.W.mg_none_of X G b_max, PySem.W.mg_none_of X G b_range, PySem.W.mg_none_of X G b_enumerate⟩
  have T_TxH : TxH K mg B tS tH := ⟨⟨pgB, hdB, poB, saB⟩, nB_disk, nB_bend, nB_place, nB_epoch, nB_many, nB_pages, nB_end, PySem.W.mg_of X G z_SECTOR, PySem.W.mg_of X G z_HEAD, PySem.W.mg_none_of X G b_sorted, PySem.W.mg_none_of X G b_range, PySem.W.mg_none_of X G b_int⟩
  have T_TxP : TxP K mg B tP := ⟨⟨pgB, hdB, poB, saB⟩, nB_disk, nB_many, nB_pages, PySem.W.mg_of X G z_PAGE, PySem.W.mg_none_of X G b_sorted, PySem.W.mg_none_of X G b_set, PySem.W.mg_none_of X G b_list⟩
  have T_TxF : TxF K mg B := ⟨⟨pgB, hdB, poB, saB⟩, nB_many, PySem.W.mg_none_of X G b_sorted, PySem.W.mg_none_of X G b_set, PySem.W.mg_none_of X G b_list⟩
  have T_TxL : TxL K mg := ⟨PySem.W.mg_none_of X G b_dict, PySem.W.mg_none_of X G b_len, PySem.W.mg_none_of X G b_max, PySem.W.mg_none_of X G b_sorted, PySem.W.mg_none_of X G b_range⟩
  have T_TxD : TxD K mg := ⟨PySem.W.mg_none_of X G b_dict, PySem.W.mg_none_of X G b_sorted, PySem.W.mg_none_of X G b_set, PySem.W.mg_none_of X G b_list⟩
  have T_TxS : TxS K mg := ⟨PySem.W.mg_none_of X G b_dict, PySem.W.mg_none_of X G b_sorted, PySem.W.mg_none_of X G b_list, PySem.W.mg_none_of X G b_len, PySem.W.mg_none_of X G b_range⟩
  have T_TxW : TxW K mg := ⟨PySem.W.mg_none_of X G b_range, PySem.W.mg_none_of X G b_repr, PySem.W.mg_none_of X G b_list, PySem.W.mg_none_of X G b_len⟩
  have F1 := fun_mk (st := s__law_state) l1 c1 k1
  have B1 := F1.binds (ps := ["script"]) fun _ _ _ _ _ _ us hl => match us, hl with | [_], _ => rfl
  have F2 := fun_mk (st := s__law_take) l2 c2 k2
  have B2 := F2.binds (ps := ["state", "most"]) fun _ _ _ _ _ _ us hl => match us, hl with | [_, _], _ => rfl
  have F3 := fun_mk (st := s__law_of_four) l3 c3 k3
  have B3 := F3.binds (ps := ["octets"]) fun _ _ _ _ _ _ us hl => match us, hl with | [_], _ => rfl
  have F4 := fun_mk (st := s__law_told) l4 c4 k4
  have B4 := F4.binds (ps := ["sectors"]) fun _ _ _ _ _ _ us hl => match us, hl with | [_], _ => rfl
  have F5 := fun_mk (st := s__law_due) l5 c5 k5
  have B5 := F5.binds (ps := ["sectors", "paper"]) fun _ _ _ _ _ _ us hl => match us, hl with | [_, _], _ => rfl
  have F6 := fun_mk (st := s__law_spoilt) l6 c6 k6
  have B6 := F6.binds (ps := ["state", "sectors"]) fun _ _ _ _ _ _ us hl => match us, hl with | [_, _], _ => rfl
  have F7 := fun_mk (st := s_home_pages) l7 c7 k7
  have B7 := F7.binds (ps := ["sectors"]) fun _ _ _ _ _ _ us hl => match us, hl with | [_], _ => rfl
  have F8 := fun_mk (st := s_Disk_synced) l8 c8 k8
  have B8 := F8.binds (ps := ["self"]) fun _ _ _ _ _ _ us hl => match us, hl with | [_], _ => rfl
  have F9 := fun_mk (st := s_home_sector) l9 c9 k9
  have B9 := F9.binds (ps := ["page", "part"]) fun _ _ _ _ _ _ us hl => match us, hl with | [_, _], _ => rfl
  have F10 := fun_mk (st := s_Disk_whole) l10 c10 k10
  have B10 := F10.binds (ps := ["self", "number"]) fun _ _ _ _ _ _ us hl => match us, hl with | [_, _], _ => rfl
  have F11 := fun_mk (st := s_Disk_read) l11 c11 k11
  have B11 := F11.binds (ps := ["self", "number"]) fun _ _ _ _ _ _ us hl => match us, hl with | [_, _], _ => rfl
  have F12 := fun_mk (st := s_Batches_page) l12 c12 k12
  have B12 := F12.binds (ps := ["self", "number"]) fun _ _ _ _ _ _ us hl => match us, hl with | [_, _], _ => rfl
  have F13 := fun_mk (st := s_pages_paper) l13 c13 k13
  have B13 := F13.binds (ps := ["batches"]) fun _ _ _ _ _ _ us hl => match us, hl with | [_], _ => rfl
  have F14 := fun_mk (st := s_Disk_init) l14 c14 k14
  have B14 := F14.binds (ps := ["self", "sectors"]) fun _ _ _ _ _ _ us hl => match us, hl with | [_, _], _ => rfl
  have F15 := fun_mk (st := s_of_four) l15 c15 k15
  have B15 := F15.binds (ps := ["octets"]) fun _ _ _ _ _ _ us hl => match us, hl with | [_], _ => rfl
  have F16 := fun_mk (st := s_root_at) l16 c16 k16
  have B16 := F16.binds (ps := ["disk", "place"]) fun _ _ _ _ _ _ us hl => match us, hl with | [_, _], _ => rfl
  have F17 := fun_mk (st := s_newest_root) l17 c17 k17
  have B17 := F17.binds (ps := ["disk"]) fun _ _ _ _ _ _ us hl => match us, hl with | [_], _ => rfl
  have F18 := fun_mk (st := s_log_sector) l18 c18 k18
  have B18 := F18.binds (ps := ["place"]) fun _ _ _ _ _ _ us hl => match us, hl with | [_], _ => rfl
  have F19 := fun_mk (st := s_batch_at) l19 c19 k19
  have B19 := F19.binds (ps := ["disk", "place", "epoch"]) fun _ _ _ _ _ _ us hl => match us, hl with | [_, _, _], _ => rfl
  have F20 := fun_mk (st := s_Batches_take) l20 c20 k20
  have B20 := F20.binds (ps := ["self", "rows"]) fun _ _ _ _ _ _ us hl => match us, hl with | [_, _], _ => rfl
  have F21 := fun_mk (st := s_Batches_open_log) l21 c21 k21
  have B21 := F21.binds (ps := ["self"]) fun _ _ _ _ _ _ us hl => match us, hl with | [_], _ => rfl
  have F22 : FunD K "__init__" "Batches.__init__" (defArgs s_Batches_init) (defBody s_Batches_init) (defScope s_Batches_init) [.non] [] f22 _ := ⟨⟨oc22, od22, _, kV22, dc22, pm22, an22, cd22, ct22, sl22, rfl, l22, c22, .inr ⟨by simp, T22, _, [Value.none], nT22, rfl, d22, rfl, .cons rfl (.nil)⟩, .inl rfl⟩, k22⟩
  obtain ⟨ds22, vd22, B22⟩ := F22.binds1 (ps := ["self", "disk", "bend"]) 2 0 (by simp) rfl fun _ _ _ _ _ _ _ us its hu hi => match us, its, hu, hi with | [_, _], [_], _, _ => ⟨_, rfl, rfl⟩
  have F23 := fun_mk (st := s_pages_fault) l23 c23 k23
  have B23 := F23.binds (ps := ["sectors", "paper"]) fun _ _ _ _ _ _ us hl => match us, hl with | [_, _], _ => rfl
  have F24 := fun_mk (st := s_four) l24 c24 k24
  have B24 := F24.binds (ps := ["number"]) fun _ _ _ _ _ _ us hl => match us, hl with | [_], _ => rfl
  have F25 := fun_mk (st := s_content_of) l25 c25 k25
  have B25 := F25.binds (ps := ["epoch", "rows"]) fun _ _ _ _ _ _ us hl => match us, hl with | [_, _], _ => rfl
  have F26 := fun_mk (st := s_log_sectors) l26 c26 k26
  have B26 := F26.binds (ps := ["content"]) fun _ _ _ _ _ _ us hl => match us, hl with | [_], _ => rfl
  have F27 := fun_mk (st := s_Disk_crash) l27 c27 k27
  have B27 := F27.binds (ps := ["self", "rows"]) fun _ _ _ _ _ _ us hl => match us, hl with | [_, _], _ => rfl
  have F28 := fun_mk (st := s_Disk_counts) l28 c28 k28
  have B28 := F28.binds (ps := ["self"]) fun _ _ _ _ _ _ us hl => match us, hl with | [_], _ => rfl
  have F29 := fun_mk (st := s_Disk_write) l29 c29 k29
  have B29 := F29.binds (ps := ["self", "number", "content"]) fun _ _ _ _ _ _ us hl => match us, hl with | [_, _, _], _ => rfl
  have F30 := fun_mk (st := s_Disk_sync) l30 c30 k30
  have B30 := F30.binds (ps := ["self"]) fun _ _ _ _ _ _ us hl => match us, hl with | [_], _ => rfl
  have F31 := fun_mk (st := s_Batches_commit) l31 c31 k31
  have B31 := F31.binds (ps := ["self", "rows"]) fun _ _ _ _ _ _ us hl => match us, hl with | [_, _], _ => rfl
  have F32 := fun_mk (st := s_Batches_bring_home) l32 c32 k32
  have B32 := F32.binds (ps := ["self"]) fun _ _ _ _ _ _ us hl => match us, hl with | [_], _ => rfl
  have F33 := fun_mk (st := s_Batches_keep) l33 c33 k33
  have B33 := F33.binds (ps := ["self"]) fun _ _ _ _ _ _ us hl => match us, hl with | [_], _ => rfl
  have F34 := fun_mk (st := s_law) l34 c34 k34
  refine ⟨PySem.W.fnOf "law" "law" (defArgs s_law) (defBody s_law) (defScope s_law) .none kV34 dc34 pm34 an34 cd34 ct34, fun s v => .of_eq rfl, fun base _ _ => ?_⟩
  have L__law_state : FnC l.prog w K mg base "_law_state" 1 ["script"] (spState K) := ⟨⟨_, _, ok_state (P := l.prog) (w := w) (base := base) F1 T_Txt, PySem.W.mg_of X G a1, k1, B1⟩⟩
  have L__law_take : FnC l.prog w K mg base "_law_take" 1 ["state", "most"] (spTake) := ⟨⟨_, _, ok_take (P := l.prog) (w := w) (base := base) F2 T_Txt, PySem.W.mg_of X G a2, k2, B2⟩⟩
  have L__law_of_four : FnC l.prog w K mg base "_law_of_four" 1 ["octets"] (spOfFour) := ⟨⟨_, _, ok_lof (P := l.prog) (w := w) (base := base) F3 , PySem.W.mg_of X G a3, k3, B3⟩⟩
  have L__law_told : FnC l.prog w K mg base "_law_told" 2 ["sectors"] (spTold) := ⟨⟨_, _, ok_told (P := l.prog) (w := w) (base := base) F4 T_TxL L__law_of_four, PySem.W.mg_of X G a4, k4, B4⟩⟩
  have L__law_due : FnC l.prog w K mg base "_law_due" 3 ["sectors", "paper"] (spDue) := ⟨⟨_, _, ok_due (P := l.prog) (w := w) (base := base) F5 T_TxD L__law_told, PySem.W.mg_of X G a5, k5, B5⟩⟩
  have L__law_spoilt : FnC l.prog w K mg base "_law_spoilt" 2 ["state", "sectors"] (spSpoilt) := ⟨⟨_, _, ok_spoilt (P := l.prog) (w := w) (base := base) F6 T_TxS L__law_take, PySem.W.mg_of X G a6, k6, B6⟩⟩
  have L_home_pages : FnC l.prog w K mg base "home_pages" 1 ["sectors"] (spHomeP) := ⟨⟨_, _, ok_homeP (P := l.prog) (w := w) (base := base) F7 T_TxP, PySem.W.mg_of X G a7, k7, B7⟩⟩
  have L_Disk_synced : MtC l.prog w K mg base C "synced" 1 ["self"] (spSynced C) := ⟨⟨_, _, ok_synced (P := l.prog) (w := w) (base := base) F8 T_Txt, ⟨a8, i8, k8⟩, B8⟩, ⟨pgC, hdC, poC, saC⟩⟩
  have L_home_sector : FnC l.prog w K mg base "home_sector" 1 ["page", "part"] (spHome) := ⟨⟨_, _, ok_home (P := l.prog) (w := w) (base := base) F9 , PySem.W.mg_of X G a9, k9, B9⟩⟩
  have L_Disk_whole : MtC l.prog w K mg base C "whole" 1 ["self", "number"] (spWhole C) := ⟨⟨_, _, ok_whole (P := l.prog) (w := w) (base := base) F10 T_Txt, ⟨a10, i10, k10⟩, B10⟩, ⟨pgC, hdC, poC, saC⟩⟩
  have L_Disk_read : MtC l.prog w K mg base C "read" 2 ["self", "number"] (spRead C) := ⟨⟨_, _, ok_read (P := l.prog) (w := w) (base := base) F11 T_Txt L_Disk_whole, ⟨a11, i11, k11⟩, B11⟩, ⟨pgC, hdC, poC, saC⟩⟩
  have L_Batches_page : MtC l.prog w K mg base B "page" 3 ["self", "number"] (spPageB B C) := ⟨⟨_, _, ok_pageB (P := l.prog) (w := w) (base := base) F12 T_TxB L_home_sector L_Disk_read, ⟨a12, i12, k12⟩, B12⟩, ⟨pgB, hdB, poB, saB⟩⟩
  have L_pages_paper : FnC l.prog w K mg base "pages_paper" 4 ["batches"] (spPaper B C) := ⟨⟨_, _, ok_paper (P := l.prog) (w := w) (base := base) F13 T_TxP L_home_pages L_Disk_synced L_Batches_page, PySem.W.mg_of X G a13, k13, B13⟩⟩
  have L_c_Disk : CsC l.prog w K mg base "Disk" C 1 ["self", "sectors"] (spInit C) := ⟨⟨_, _, ok_init (P := l.prog) (w := w) (base := base) F14 T_Txt, ⟨mkC, a14, i14, kcC⟩, B14⟩, PySem.W.mg_of X G aCC⟩
  have L_of_four : FnC l.prog w K mg base "of_four" 1 ["octets"] (spOfFour) := ⟨⟨_, _, ok_of_four (P := l.prog) (w := w) (base := base) F15 , PySem.W.mg_of X G a15, k15, B15⟩⟩
  have L_root_at : FnC l.prog w K mg base "root_at" 3 ["disk", "place"] (spRootAt C) := ⟨⟨_, _, ok_root (P := l.prog) (w := w) (base := base) F16 L_of_four L_Disk_read, PySem.W.mg_of X G a16, k16, B16⟩⟩
  have L_newest_root : FnC l.prog w K mg base "newest_root" 4 ["disk"] (spNewest C fun _ => True) := ⟨⟨_, _, ok_newest (P := l.prog) (w := w) (base := base) F17 T_TxB L_root_at, PySem.W.mg_of X G a17, k17, B17⟩⟩
  have L_log_sector : FnC l.prog w K mg base "log_sector" 1 ["place"] (spLogS) := ⟨⟨_, _, ok_logS (P := l.prog) (w := w) (base := base) F18 , PySem.W.mg_of X G a18, k18, B18⟩⟩
  have L_batch_at : FnC l.prog w K mg base "batch_at" 3 ["disk", "place", "epoch"] (spBatchAt C) := ⟨⟨_, _, ok_batch (P := l.prog) (w := w) (base := base) F19 T_TxB L_of_four L_log_sector L_Disk_read, PySem.W.mg_of X G a19, k19, B19⟩⟩
  have L_Batches_take : MtC l.prog w K mg base B "take" 1 ["self", "rows"] (spTakeB B) := ⟨⟨_, _, ok_takeB (P := l.prog) (w := w) (base := base) F20 T_TxB, ⟨a20, i20, k20⟩, B20⟩, ⟨pgB, hdB, poB, saB⟩⟩
  have L_Batches_open_log : MtC l.prog w K mg base B "open_log" 4 ["self"] (spOpen B C) := ⟨⟨_, _, ok_open (P := l.prog) (w := w) (base := base) F21 T_TxB L_batch_at L_Batches_take, ⟨a21, i21, k21⟩, B21⟩, ⟨pgB, hdB, poB, saB⟩⟩
  have L_c_Batches : CsD l.prog w K mg base "Batches" B 5 ["self", "disk", "bend"] [.non] (spInitB B C RAny) := ⟨⟨_, _, _, ok_initB (P := l.prog) (w := w) (base := base) F22.x T_TxB L_newest_root L_Batches_open_log, ⟨mkB, a22, i22, kcB⟩, B22, vd22⟩, PySem.W.mg_of X G aCB⟩
  have L_pages_fault : FnC l.prog w K mg base "pages_fault" 7 ["sectors", "paper"] (spFault B C) := ⟨⟨_, _, ok_fault (P := l.prog) (w := w) (base := base) F23 T_TxF L_c_Disk L_c_Batches L_pages_paper, PySem.W.mg_of X G a23, k23, B23⟩⟩
  have L_four : FnC l.prog w K mg base "four" 1 ["number"] (spFour) := ⟨⟨_, _, ok_four (P := l.prog) (w := w) (base := base) F24 , PySem.W.mg_of X G a24, k24, B24⟩⟩
  have L_content_of : FnC l.prog w K mg base "content_of" 2 ["epoch", "rows"] (spContent) := ⟨⟨_, _, ok_content (P := l.prog) (w := w) (base := base) F25 T_TxB L_four, PySem.W.mg_of X G a25, k25, B25⟩⟩
  have L_log_sectors : FnC l.prog w K mg base "log_sectors" 1 ["content"] (spLogSecs) := ⟨⟨_, _, ok_logSecs (P := l.prog) (w := w) (base := base) F26 T_TxB, PySem.W.mg_of X G a26, k26, B26⟩⟩
  have L_Disk_crash : MtC l.prog w K mg base C "crash" 2 ["self", "rows"] (spCrash C) := ⟨⟨_, _, ok_crash (P := l.prog) (w := w) (base := base) F27 T_Txt L_Disk_whole, ⟨a27, i27, k27⟩, B27⟩, ⟨pgC, hdC, poC, saC⟩⟩
  have L_Disk_counts : MtC l.prog w K mg base C "counts" 3 ["self"] (spCounts C) := ⟨⟨_, _, ok_counts (P := l.prog) (w := w) (base := base) F28 T_Txt L_Disk_crash, ⟨a28, i28, k28⟩, B28⟩, ⟨pgC, hdC, poC, saC⟩⟩
  have L_Disk_write : MtC l.prog w K mg base C "write" 4 ["self", "number", "content"] (spWrite C) := ⟨⟨_, _, ok_write (P := l.prog) (w := w) (base := base) F29 T_Txt L_Disk_counts, ⟨a29, i29, k29⟩, B29⟩, ⟨pgC, hdC, poC, saC⟩⟩
  have L_Disk_sync : MtC l.prog w K mg base C "sync" 4 ["self"] (spSync C) := ⟨⟨_, _, ok_sync (P := l.prog) (w := w) (base := base) F30 T_Txt L_Disk_counts, ⟨a30, i30, k30⟩, B30⟩, ⟨pgC, hdC, poC, saC⟩⟩
  have L_Batches_commit : MtC l.prog w K mg base B "commit" 5 ["self", "rows"] (spCommit B C) := ⟨⟨_, _, ok_commit (P := l.prog) (w := w) (base := base) F31 T_TxB ⟨⟨pgC, hdC, poC, saC⟩, nC_is_cut⟩ L_content_of L_log_sectors L_log_sector L_Disk_write L_Disk_sync L_Batches_take, ⟨a31, i31, k31⟩, B31⟩, ⟨pgB, hdB, poB, saB⟩⟩
  have L_Batches_bring_home : MtC l.prog w K mg base B "bring_home" 5 ["self"] (spHomes B C) := ⟨⟨_, _, ok_homes (P := l.prog) (w := w) (base := base) F32 T_TxH L_home_sector L_Disk_write, ⟨a32, i32, k32⟩, B32⟩, ⟨pgB, hdB, poB, saB⟩⟩
  have L_Batches_keep : MtC l.prog w K mg base B "keep" 6 ["self"] (spKeep B C) := ⟨⟨_, _, ok_keep (P := l.prog) (w := w) (base := base) F33 T_TxH ⟨⟨pgC, hdC, poC, saC⟩, nC_is_cut⟩ L_four L_Batches_bring_home L_Disk_write L_Disk_sync, ⟨a33, i33, k33⟩, B33⟩, ⟨pgB, hdB, poB, saB⟩⟩
  exact ok_law F34 T_TxW L__law_state L__law_take L__law_told L__law_due L__law_spoilt L_pages_paper L_pages_fault L_c_Disk L_Disk_synced L_c_Batches L_Batches_commit L_Batches_keep
theorem walk {l : PySem.W.OpenLaw} {q : Program} {loose : List Str} {XP : (Str → Option Value) → Heap → Prop} {YP : World → Heap → Prop} {d : DefRec} {K : Params → PySem.W.Frag} (hn : l.most = some 63) (hdf : d.params.defaults = [])
    (hY : ∀ (w : World) (h : Heap), YP w h → (K w.params).In h)
    (F : ∀ (w : World) (mg : Str → Option Value) (fa : Addr) (h : Heap), (K w.params).In h → h.Ns mainGlobals mg → mg d.name = some (.ref fa) →
      ∃ fd : FuncData, (∀ (s : Shared) (u : Value), BindsTo s fd ⟨[u], []⟩ [("script", u)]) ∧ ∀ base : Heap, (K w.params).In base → base.Ns mainGlobals mg → FnG l.prog w (K w.params) mg base CX0 8 fa fd ["script"] (spLaw (K w.params))) :
    PySem.W.WalkO q loose XP YP l.row.toRowW d [] (fun f vs => PySem.call f vs) :=
  Y.walkG_of (n := 63) (k := 8) (x := "script") (CX := fun _ => CX0) (sp := fun w => spLaw (K w.params)) hn (by decide) hdf ⟨rfl, by decide, by decide⟩ hY F (fun _ _ a ns hl _ hS => ⟨a, ns, rfl, hS, fun _ => rfl⟩) fun _ _ _ _ _ z => z
end K51
open PySem PySem.W PyProof.Rows
set_option maxRecDepth 100000 in
set_option maxHeartbeats 0 in
theorem PySem.Challenge.cw_stonestairs_k53_faults_of_pages_holds : PySem.Challenge.rw_stonestairs_k53_faults_of_pages.Holds := by
  w_on; o_law; k_headL; (case hw => w_witness2)
  k_fill
  refine K51.walk (l := PySem.Challenge.rw_stonestairs_k53_faults_of_pages) rfl rfl (fun w h Y => PySem.W.kIn_of Y) ?F
  case F =>
    intro w mg fa h KX G hmg
    refine' K51.all_mk KX G hmg ?aCC ?aCB ?a1 ?l1 ?c1 ?k1 ?a2 ?l2 ?c2 ?k2 ?a3 ?l3 ?c3 ?k3 ?a4 ?l4 ?c4 ?k4 ?a5 ?l5 ?c5 ?k5 ?a6 ?l6 ?c6 ?k6 ?a7 ?l7 ?c7 ?k7 ?a8 ?i8 ?l8 ?c8 ?k8 ?a9 ?l9 ?c9 ?k9 ?a10 ?i10 ?l10 ?c10 ?k10 ?a11 ?i11 ?l11 ?c11 ?k11 ?a12 ?i12 ?l12 ?c12 ?k12 ?a13 ?l13 ?c13 ?k13 ?a14 ?i14 ?l14 ?c14 ?k14 ?a15 ?l15 ?c15 ?k15 ?a16 ?l16 ?c16 ?k16 ?a17 ?l17 ?c17 ?k17 ?a18 ?l18 ?c18 ?k18 ?a19 ?l19 ?c19 ?k19 ?a20 ?i20 ?l20 ?c20 ?k20 ?a21 ?i21 ?l21 ?c21 ?k21 ?a22 ?i22 ?l22 ?c22 ?k22 ?d22 ?a23 ?l23 ?c23 ?k23 ?a24 ?l24 ?c24 ?k24 ?a25 ?l25 ?c25 ?k25 ?a26 ?l26 ?c26 ?k26 ?a27 ?i27 ?l27 ?c27 ?k27 ?a28 ?i28 ?l28 ?c28 ?k28 ?a29 ?i29 ?l29 ?c29 ?k29 ?a30 ?i30 ?l30 ?c30 ?k30 ?a31 ?i31 ?l31 ?c31 ?k31 ?a32 ?i32 ?l32 ?c32 ?k32 ?a33 ?i33 ?l33 ?c33 ?k33 ?a34 ?l34 ?c34 ?k34 ?pgC ?hdC ?poC ?saC ?mkC ?kcC ?nC_is_cut ?nC_sectors ?nC_waiting ?nC_left ?nC_rows ?pgB ?hdB ?poB ?saB ?mkB ?kcB ?nB_disk ?nB_bend ?nB_place ?nB_epoch ?nB_many ?nB_pages ?nB_end ?z_SECTOR ?z_PAGE ?z_ROOM ?z_ROW ?z_HEAD ?b_list ?b_len ?b_min ?b_max ?b_sorted ?b_set ?b_zip ?b_range ?b_abs ?b_int ?b_dict ?b_enumerate ?b_repr
    (case aCC => k_is)
    (case aCB => k_is)
    (case a1 => k_is)
    (case l1 => k_is)
    (case c1 => k_is)
    (case k1 => k_is)
    (case a2 => k_is)
    (case l2 => k_is)
    (case c2 => k_is)
    (case k2 => k_is)
    (case a3 => k_is)
    (case l3 => k_is)
    (case c3 => k_is)
    (case k3 => k_is)
    (case a4 => k_is)
    (case l4 => k_is)
    (case c4 => k_is)
    (case k4 => k_is)
    (case a5 => k_is)
    (case l5 => k_is)
    (case c5 => k_is)
    (case k5 => k_is)
    (case a6 => k_is)
    (case l6 => k_is)
    (case c6 => k_is)
    (case k6 => k_is)
    (case a7 => k_is)
    (case l7 => k_is)
    (case c7 => k_is)
    (case k7 => k_is)
    (case a8 => k_is)
    (case i8 => k_is)
    (case l8 => k_is)
    (case c8 => k_is)
    (case k8 => k_is)
    (case a9 => k_is)
    (case l9 => k_is)
    (case c9 => k_is)
    (case k9 => k_is)
    (case a10 => k_is)
    (case i10 => k_is)
    (case l10 => k_is)
    (case c10 => k_is)
    (case k10 => k_is)
    (case a11 => k_is)
    (case i11 => k_is)
    (case l11 => k_is)
    (case c11 => k_is)
    (case k11 => k_is)
    (case a12 => k_is)
    (case i12 => k_is)
    (case l12 => k_is)
    (case c12 => k_is)
    (case k12 => k_is)
    (case a13 => k_is)
    (case l13 => k_is)
    (case c13 => k_is)
    (case k13 => k_is)
    (case a14 => k_is)
    (case i14 => k_is)
    (case l14 => k_is)
    (case c14 => k_is)
    (case k14 => k_is)
    (case a15 => k_is)
    (case l15 => k_is)
    (case c15 => k_is)
    (case k15 => k_is)
    (case a16 => k_is)
    (case l16 => k_is)
    (case c16 => k_is)
    (case k16 => k_is)
    (case a17 => k_is)
    (case l17 => k_is)
    (case c17 => k_is)
    (case k17 => k_is)
    (case a18 => k_is)
    (case l18 => k_is)
    (case c18 => k_is)
    (case k18 => k_is)
    (case a19 => k_is)
    (case l19 => k_is)
    (case c19 => k_is)
    (case k19 => k_is)
    (case a20 => k_is)
    (case i20 => k_is)
    (case l20 => k_is)
    (case c20 => k_is)
    (case k20 => k_is)
    (case a21 => k_is)
    (case i21 => k_is)
    (case l21 => k_is)
    (case c21 => k_is)
    (case k21 => k_is)
    (case a22 => k_is)
    (case i22 => k_is)
    (case l22 => k_is)
    (case c22 => k_is)
    (case k22 => k_is)
    (case d22 => k_is)
    (case a23 => k_is)
    (case l23 => k_is)
    (case c23 => k_is)
    (case k23 => k_is)
    (case a24 => k_is)
    (case l24 => k_is)
    (case c24 => k_is)
    (case k24 => k_is)
    (case a25 => k_is)
    (case l25 => k_is)
    (case c25 => k_is)
    (case k25 => k_is)
    (case a26 => k_is)
    (case l26 => k_is)
    (case c26 => k_is)
    (case k26 => k_is)
    (case a27 => k_is)
    (case i27 => k_is)
    (case l27 => k_is)
    (case c27 => k_is)
    (case k27 => k_is)
    (case a28 => k_is)
    (case i28 => k_is)
    (case l28 => k_is)
    (case c28 => k_is)
    (case k28 => k_is)
    (case a29 => k_is)
    (case i29 => k_is)
    (case l29 => k_is)
    (case c29 => k_is)
    (case k29 => k_is)
    (case a30 => k_is)
    (case i30 => k_is)
    (case l30 => k_is)
    (case c30 => k_is)
    (case k30 => k_is)
    (case a31 => k_is)
    (case i31 => k_is)
    (case l31 => k_is)
    (case c31 => k_is)
    (case k31 => k_is)
    (case a32 => k_is)
    (case i32 => k_is)
    (case l32 => k_is)
    (case c32 => k_is)
    (case k32 => k_is)
    (case a33 => k_is)
    (case i33 => k_is)
    (case l33 => k_is)
    (case c33 => k_is)
    (case k33 => k_is)
    (case a34 => k_is)
    (case l34 => k_is)
    (case c34 => k_is)
    (case k34 => k_is)
    (case pgC => k_is)
    (case hdC => k_is)
    (case poC => k_is)
    (case saC => k_is)
    (case mkC => k_is)
    (case kcC => k_is)
    (case nC_is_cut => k_is)
    (case nC_sectors => k_is)
    (case nC_waiting => k_is)
    (case nC_left => k_is)
    (case nC_rows => k_is)
    (case pgB => k_is)
    (case hdB => k_is)
    (case poB => k_is)
    (case saB => k_is)
    (case mkB => k_is)
    (case kcB => k_is)
    (case nB_disk => k_is)
    (case nB_bend => k_is)
    (case nB_place => k_is)
    (case nB_epoch => k_is)
    (case nB_many => k_is)
    (case nB_pages => k_is)
    (case nB_end => k_is)
    (case z_SECTOR => k_is)
    (case z_PAGE => k_is)
    (case z_ROOM => k_is)
    (case z_ROW => k_is)
    (case z_HEAD => k_is)
    (case b_list => k_is)
    (case b_len => k_is)
    (case b_min => k_is)
    (case b_max => k_is)
    (case b_sorted => k_is)
    (case b_set => k_is)
    (case b_zip => k_is)
    (case b_range => k_is)
    (case b_abs => k_is)
    (case b_int => k_is)
    (case b_dict => k_is)
    (case b_enumerate => k_is)
    (case b_repr => k_is)
#print axioms PySem.Challenge.cw_stonestairs_k53_faults_of_pages_holds

