import PyProof.Rows.All
import Wide.All
import OpenK.AllK
import Wide.FinOn
import HandS.ForMost
import HandS.SortInts
import HandS.Strs
import HandS.SetFor
import HandS.DictComp
import HandS.More
import HandS.Wide
import HandS.Flow
import HandS.Conv
import HandS.Codes
import HandS.Defaults
import KE.DataFind
import PyProof.AssignAttr
import PySem.Challenge.RW_stonestairs_k68_whole_pages_in_memory
import HandS.Style
import HandS.Small
import KE.OsRunLaw
set_option maxHeartbeats 4000000
set_option Elab.async false
set_option linter.all false
set_option maxRecDepth 100000
/-! YBase: data over a heap that only grows (G), owned objects beside it (H), callees in one word, readings in short. -/
namespace Y
open PySem PySem.Spec PyProof.Rows L2

/-! ### pairs of lists -/
section
variable {α β γ : Type} {F : α → β → Prop}
theorem pd_len {xs : List α} {ys : List β} (h : Paired F xs ys) : xs.length = ys.length := Paired.length h
theorem pd_get : ∀ {xs : List α} {ys : List β}, Paired F xs ys → ∀ {i : Nat} {x : α}, xs[i]? = some x → ∃ y, ys[i]? = some y ∧ F x y
  | _, _, .nil, i, x, e => by simp at e
  | _, _, .cons r _, 0, x, e => by simp at e; subst e; exact ⟨_, rfl, r⟩
  | _, _, .cons _ t, i + 1, x, e => by
    have ⟨y, h1, h2⟩ := pd_get t (i := i) (x := x) (by simpa using e)
    exact ⟨y, by simpa using h1, h2⟩
theorem pd_get' : ∀ {xs : List α} {ys : List β}, Paired F xs ys → ∀ {i : Nat} {y : β}, ys[i]? = some y → ∃ x, xs[i]? = some x ∧ F x y
  | _, _, .nil, i, x, e => by simp at e
  | _, _, .cons r _, 0, x, e => by simp at e; subst e; exact ⟨_, rfl, r⟩
  | _, _, .cons _ t, i + 1, x, e => by
    have ⟨y, h1, h2⟩ := pd_get' t (i := i) (y := x) (by simpa using e)
    exact ⟨y, by simpa using h1, h2⟩
theorem pd_mono {F' : α → β → Prop} (h : ∀ a b, F a b → F' a b) : ∀ {xs : List α} {ys : List β}, Paired F xs ys → Paired F' xs ys
  | _, _, .nil => .nil
  | _, _, .cons r t => .cons (h _ _ r) (pd_mono h t)
theorem pd_app : ∀ {xs : List α} {ys : List β} {us : List α} {ws : List β}, Paired F xs ys → Paired F us ws → Paired F (xs ++ us) (ys ++ ws)
  | _, _, _, _, .nil, s => s
  | _, _, _, _, .cons r t, s => .cons r (pd_app t s)
theorem pd_snoc {xs : List α} {ys : List β} {u : α} {w : β} (h : Paired F xs ys) (k : F u w) : Paired F (xs ++ [u]) (ys ++ [w]) := pd_app h (.cons k .nil)
theorem pd_take (n : Nat) : ∀ {xs : List α} {ys : List β}, Paired F xs ys → Paired F (xs.take n) (ys.take n) := by
  induction n with
  | zero => intro xs ys _; exact .nil
  | succ n ih =>
    intro xs ys h
    cases h with
    | nil => exact .nil
    | cons r t => exact .cons r (ih t)
theorem pd_drop (n : Nat) : ∀ {xs : List α} {ys : List β}, Paired F xs ys → Paired F (xs.drop n) (ys.drop n) := by
  induction n with
  | zero => intro xs ys h; exact h
  | succ n ih =>
    intro xs ys h
    cases h with
    | nil => exact .nil
    | cons r t => exact ih t
theorem pd_map (f : γ → α) (g : γ → β) (h : ∀ c, F (f c) (g c)) : ∀ l : List γ, Paired F (l.map f) (l.map g)
  | [] => .nil
  | c :: l => .cons (h c) (pd_map f g h l)
end

/-! ### data: what a value stands for, over a heap that only grows -/
abbrev Rp (α : Type) := Hp → V → α → Prop
/-- what is so stays so -/
def Mn {α : Type} (r : Rp α) : Prop := ∀ (G G' : Hp) (v : V) (x : α), Same G G' → r G v x → r G' v x
def rI : Rp Int := fun _ v x => v = .int x
def rT : Rp Str := fun _ v x => v = .str x
def rB : Rp Bool := fun _ v x => v = .bl x
def rP {α β : Type} (r : Rp α) (s : Rp β) : Rp (α × β) := fun G v x => ∃ a u w, v = .ref a ∧ G a = some (.tup [u, w]) ∧ r G u x.1 ∧ s G w x.2
def rL {α : Type} (r : Rp α) : Rp (List α) := fun G v xs => ∃ a vs, v = .ref a ∧ G a = some (.lst vs) ∧ Paired (r G) vs xs
def rO {α : Type} (r : Rp α) : Rp (Option α) := fun G v x => match x with
  | none => v = .non
  | some y => r G v y
theorem mI : Mn rI := fun _ _ _ _ _ h => h
theorem mT : Mn rT := fun _ _ _ _ _ h => h
theorem mB : Mn rB := fun _ _ _ _ _ h => h
theorem Mn.p {α β : Type} {r : Rp α} {s : Rp β} (hr : Mn r) (hs : Mn s) : Mn (rP r s) := fun _ _ _ _ e ⟨a, u, w, e1, e2, h1, h2⟩ => ⟨a, u, w, e1, e _ _ e2, hr _ _ _ _ e h1, hs _ _ _ _ e h2⟩
theorem Mn.l {α : Type} {r : Rp α} (hr : Mn r) : Mn (rL r) := fun _ _ _ _ e ⟨a, vs, e1, e2, h⟩ => ⟨a, vs, e1, e _ _ e2, pd_mono (fun _ _ q => hr _ _ _ _ e q) h⟩
theorem Mn.o {α : Type} {r : Rp α} (hr : Mn r) : Mn (rO r) := fun _ _ _ x e h => match x, h with
  | none, h => h
  | some _, h => hr _ _ _ _ e h
theorem Mn.ps {α : Type} {r : Rp α} (hr : Mn r) {G G' : Hp} {vs : List V} {xs : List α} (e : Same G G') (h : Paired (r G) vs xs) : Paired (r G') vs xs := pd_mono (fun _ _ q => hr _ _ _ _ e q) h
theorem rI_map {vs : List V} {xs : List Int} {G : Hp} : Paired (rI G) vs xs → vs = xs.map V.int
  | .nil => rfl
  | .cons r t => by rw [List.map_cons, ← rI_map t]; exact congrArg (· :: _) r
theorem rI_of (G : Hp) : ∀ xs : List Int, Paired (rI G) (xs.map V.int) xs
  | [] => .nil
  | x :: xs => .cons rfl (rI_of G xs)
theorem rLI {G : Hp} {v : V} {xs : List Int} (h : rL rI G v xs) : ∃ a, v = .ref a ∧ G a = some (.lst (xs.map V.int)) := by
  obtain ⟨a, vs, e, h, p⟩ := h
  rw [rI_map p] at h
  exact ⟨a, e, h⟩
theorem rLI_of {G : Hp} {a : Addr} {xs : List Int} (h : G a = some (.lst (xs.map V.int))) : rL rI G (.ref a) xs := ⟨a, _, rfl, h, rI_of G xs⟩

/-! ### data as the library's trees, for == -/
structure En {α : Type} (r : Rp α) (enc : α → PyData) (ok : α → Prop) (n : Nat) : Prop where
  dp : ∀ {K : PySem.W.Frag} {G H : Hp} {v : V} {x : α}, Same G H → r G v x → Dp K H v (enc x)
  lay : ∀ x, ok x → (enc x).canLay0 = true
  dep : ∀ x, (enc x).depth ≤ n
theorem En.shaped {α : Type} {r : Rp α} {enc : α → PyData} {ok : α → Prop} {n : Nat} (e : En r enc ok n) (hn : n ≤ 64) {x : α} (h : ok x) : SeqAt.shaped (enc x) = true := by
  unfold SeqAt.shaped
  rw [e.lay x h, decide_eq_true (Nat.le_trans (e.dep x) hn)]
  rfl
theorem En.refl {α : Type} {r : Rp α} {enc : α → PyData} {ok : α → Prop} {n : Nat} (e : En r enc ok n) {x : α} (h : ok x) : PyData.eqv (enc x) (enc x) = true := SeqAt.eqv_refl _ (e.lay x h)
theorem eI : En rI PyData.int (fun _ => True) 0 := ⟨fun _ h => by cases h; exact .int _, fun _ _ => rfl, fun _ => Nat.le_refl _⟩
theorem eT : En rT PyData.str (fun x => PyData.strOk x = true) 0 := ⟨fun _ h => by cases h; exact .str _, fun _ h => h, fun _ => Nat.le_refl _⟩
theorem dpAll_of {α : Type} {r : Rp α} {enc : α → PyData} {ok : α → Prop} {n : Nat} (e : En r enc ok n) {K : PySem.W.Frag} {G H : Hp} (s : Same G H) : ∀ {vs : List V} {xs : List α}, Paired (r G) vs xs → DpAll K H vs (xs.map enc)
  | _, _, .nil => .nil
  | _, _, .cons h t => .cons (e.dp s h) (dpAll_of e s t)
theorem layAll_of {α : Type} {enc : α → PyData} {ok : α → Prop} (h : ∀ x, ok x → (enc x).canLay0 = true) : ∀ xs : List α, (∀ x ∈ xs, ok x) → PyData.canLayAll0 (xs.map enc) = true
  | [], _ => rfl
  | x :: xs, q => by
    rw [List.map_cons, PyData.canLayAll0, h x (q x List.mem_cons_self), layAll_of h xs fun y hy => q y (List.mem_cons_of_mem _ hy)]
    rfl
theorem depAll_of {α : Type} {enc : α → PyData} {n : Nat} (h : ∀ x, (enc x).depth ≤ n) : ∀ xs : List α, PyData.depthAll (xs.map enc) ≤ n
  | [] => Nat.zero_le _
  | x :: xs => by
    rw [List.map_cons, PyData.depthAll]
    exact Nat.max_le.mpr ⟨h x, depAll_of h xs⟩
theorem En.l {α : Type} {r : Rp α} {enc : α → PyData} {ok : α → Prop} {n : Nat} (e : En r enc ok n) : En (rL r) (fun xs => .list (xs.map enc)) (fun xs => ∀ x ∈ xs, ok x) (n + 1) :=
  ⟨fun s ⟨a, vs, e1, h, p⟩ => by subst e1; exact .lst (SqL.of (s _ _ h)) (dpAll_of e s p), fun xs h => by rw [PyData.canLay0]; exact layAll_of e.lay xs h, fun xs => by
    rw [PyData.depth]
    exact Nat.succ_le_succ (depAll_of e.dep xs)⟩
theorem En.p {α β : Type} {r : Rp α} {s : Rp β} {f : α → PyData} {g : β → PyData} {ok : α → Prop} {ok' : β → Prop} {n m : Nat} (e : En r f ok n) (e' : En s g ok' m) :
    En (rP r s) (fun x => .tuple [f x.1, g x.2]) (fun x => ok x.1 ∧ ok' x.2) (max n m + 1) :=
  ⟨fun q ⟨a, u, w, e1, h, h1, h2⟩ => by subst e1; exact .tup (SqT.of (q _ _ h)) (.cons (e.dp q h1) (.cons (e'.dp q h2) .nil)), fun x h => by
    simp only [PyData.canLay0, PyData.canLayAll0, e.lay _ h.1, e'.lay _ h.2, Bool.and_true], fun x => by
    have h1 := e.dep x.1
    have h2 := e'.dep x.2
    simp only [PyData.depth, PyData.depthAll]
    omega⟩

theorem eqvAll_ints : ∀ (xs ys : List Int), PyData.eqvAll (xs.map PyData.int) (ys.map PyData.int) = decide (xs = ys)
  | [], [] => rfl
  | [], _ :: _ => rfl
  | _ :: _, [] => rfl
  | x :: xs, y :: ys => by
    rw [List.map_cons, List.map_cons, PyData.eqvAll, eqvAll_ints xs ys, PyData.eqv]
    by_cases h : x = y
    · subst h
      by_cases h2 : xs = ys <;> simp [h2]
    · simp [h]
theorem eqv_ints (xs ys : List Int) : PyData.eqv (.list (xs.map PyData.int)) (.list (ys.map PyData.int)) = decide (xs = ys) := by
  rw [PyData.eqv]
  exact eqvAll_ints xs ys
theorem dp_ints {K : PySem.W.Frag} {H : Hp} {a : Addr} {xs : List Int} (h : H a = some (.lst (xs.map V.int))) : Dp K H (.ref a) (.list (xs.map PyData.int)) := eI.l.dp (Same.refl H) (rLI_of h)
theorem shaped_ints (xs : List Int) : SeqAt.shaped (.list (xs.map PyData.int)) = true := eI.l.shaped (by decide) fun _ _ => trivial

/-! ### a step of the world: G the data (it only grows), H all that is tracked; O what may be written -/
structure Stp (O : Addr → Prop) (G H G' H' : Hp) : Prop where
  gg : Same G G'
  gh : Same G' H'
  kp : ∀ b o, H b = some o → ¬ O b → H' b = some o
  nw : ∀ b, H b ≠ none → G b = none → G' b = none
  al : ∀ b, H b ≠ none → H' b ≠ none
section
variable {O : Addr → Prop} {G H G' H' G1 H1 : Hp} {p a : Addr} {o o' : HO}
theorem ne_none {H : Hp} {b : Addr} {o : HO} (h : H b = some o) : H b ≠ none := by rw [h]; exact fun e => nomatch e
theorem fresh_ne {H : Hp} {b c : Addr} (h : H b ≠ none) (n : H c = none) : b ≠ c := fun e => h (by rw [e]; exact n)
theorem Stp.refl (h : Same G H) : Stp O G H G H := ⟨Same.refl _, h, fun _ _ e _ => e, fun _ _ e => e, fun _ e => e⟩
theorem Stp.fr (s : Stp O G H G' H') {b : Addr} (n : H' b = none) : H b = none := by
  cases e : H b with
  | none => rfl
  | some o => exact absurd n (s.al b (ne_none e))
theorem Stp.own (s : Stp O G H G' H') (n : H' p = none) : Stp O G H G' (upd H' p o) :=
  ⟨s.gg, fun b u e => by rw [upd_ne (fresh_ne (ne_none (s.gh b u e)) n)]; exact s.gh b u e, fun b u e q => by rw [upd_ne (fresh_ne (s.al b (ne_none e)) n)]; exact s.kp b u e q, s.nw, fun b e => by rw [upd_ne (fresh_ne (s.al b e) n)]; exact s.al b e⟩
theorem Stp.data (s : Stp O G H G' H') (n : H' p = none) : Stp O G H (upd G' p o) (upd H' p o) := by
  have gn : G' p = none := by
    cases e : G' p with
    | none => rfl
    | some u => rw [s.gh p u e] at n; cases n
  refine ⟨fun b u e => ?_, fun b u e => ?_, (s.own n).kp, fun b e q => ?_, (s.own n).al⟩
  · have h := s.gg b u e
    rw [upd_ne (fresh_ne (ne_none h) gn)]
    exact h
  · by_cases hb : b = p
    · subst hb
      rw [upd_same] at e ⊢
      exact e
    · rw [upd_ne hb] at e ⊢
      exact s.gh b u e
  · rw [upd_ne (fresh_ne (s.al b e) n)]
    exact s.nw b e q
/-- an object of one's own is written -/
theorem Stp.wr (s : Stp O G H G' H') (hp : H' p = some o') (g : G' p = none) (m : O p ∨ H p = none) : Stp O G H G' (upd H' p o) := by
  refine ⟨s.gg, fun b u e => ?_, fun b u e q => ?_, s.nw, fun b e => ?_⟩
  · rw [upd_ne (fresh_ne (ne_none e) g)]
    exact s.gh b u e
  · have hb : b ≠ p := fun z => by
      subst z
      rcases m with m | m
      · exact q m
      · rw [m] at e; cases e
    rw [upd_ne hb]
    exact s.kp b u e q
  · by_cases hb : b = p
    · subst hb
      rw [upd_same]
      exact fun z => nomatch z
    · rw [upd_ne hb]
      exact s.al b e
/-- an object of one's own, new since the begin, becomes data -/
theorem Stp.pub (s : Stp O G H G' H') (hp : H' p = some o) (g : G' p = none) (n : H p = none) : Stp O G H (upd G' p o) H' := by
  refine ⟨fun b u e => ?_, fun b u e => ?_, s.kp, fun b e q => ?_, s.al⟩
  · have h := s.gg b u e
    rw [upd_ne (fresh_ne (ne_none h) g)]
    exact h
  · by_cases hb : b = p
    · subst hb
      rw [upd_same] at e
      rw [← e]
      exact hp
    · rw [upd_ne hb] at e
      exact s.gh b u e
  · rw [upd_ne (fresh_ne e n)]
    exact s.nw b e q
theorem Stp.trans {O' : Addr → Prop} (s : Stp O G H G' H') (t : Stp O' G' H' G1 H1) (m : ∀ b, O' b → O b ∨ H b = none) : Stp O G H G1 H1 :=
  ⟨s.gg.trans t.gg, t.gh, fun b u e q => t.kp b u (s.kp b u e q) fun z => (m b z).elim q fun y => (by rw [y] at e; cases e), fun b e q => t.nw b (s.al b e) (s.nw b e q), fun b e => t.al b (s.al b e)⟩
theorem Stp.mono {O' : Addr → Prop} (s : Stp O G H G' H') (m : ∀ b, O b → O' b) : Stp O' G H G' H' := ⟨s.gg, s.gh, fun b u e q => s.kp b u e fun z => q (m b z), s.nw, s.al⟩
/-- what is not data and new stays no data -/
theorem gn_of (h : Same G H) (n : H p = none) : G p = none := by
  cases e : G p with
  | none => rfl
  | some u => rw [h p u e] at n; cases n
end
/-! ### the same, a heap named by its equation -/
section
variable {O : Addr → Prop} {G H G0 H0 H1 : Hp} {p : Addr} {o o' : HO}
theorem own_of (s : Stp O G0 H0 G H) (n : H p = none) (e : upd H p o = H1) : Stp O G0 H0 G H1 ∧ H1 p = some o ∧ Same H H1 ∧ G p = none ∧ H0 p = none := by
  subst e
  exact ⟨s.own n, upd_same, fun b u q => by rw [upd_ne (fresh_ne (ne_none q) n)]; exact q, gn_of s.gh n, s.fr n⟩
theorem wr_of (s : Stp O G0 H0 G H) (hp : H p = some o') (g : G p = none) (m : O p ∨ H0 p = none) (e : upd H p o = H1) : Stp O G0 H0 G H1 ∧ H1 p = some o ∧ ∀ b u, b ≠ p → H b = some u → H1 b = some u := by
  subst e
  exact ⟨s.wr hp g m, upd_same, fun b u hb q => by rw [upd_ne hb]; exact q⟩
theorem data_of (s : Stp O G0 H0 G H) (n : H p = none) (e : upd H p o = H1) : ∃ G1, Stp O G0 H0 G1 H1 ∧ G1 p = some o ∧ Same G G1 ∧ Same H H1 ∧ (∀ b, b ≠ p → G1 b = G b) := by
  subst e
  refine ⟨_, s.data n, upd_same, fun b u q => ?_, fun b u q => by rw [upd_ne (fresh_ne (ne_none q) n)]; exact q, fun b hb => upd_ne hb⟩
  rw [upd_ne (fresh_ne (ne_none (s.gh b u q)) n)]
  exact q
theorem pub_of (s : Stp O G0 H0 G H) (hp : H p = some o) (g : G p = none) (n : H0 p = none) : ∃ G1, Stp O G0 H0 G1 H ∧ G1 p = some o ∧ Same G G1 ∧ (∀ b, b ≠ p → G1 b = G b) :=
  ⟨_, s.pub hp g n, upd_same, fun b u q => by rw [upd_ne (fresh_ne (ne_none q) g)]; exact q, fun b hb => upd_ne hb⟩
end
abbrev O0 : Addr → Prop := fun _ => False

/-! ### callees in one word -/
section
variable (P : Program) (w : World) (K : PySem.W.Frag) (mg : Str → Option Value) (base : Heap)
structure FnC (x : Str) (k : Nat) (ps : List Str) (sp : Sp) : Prop where
  ex : ∃ (f : Addr) (fd : FuncData), FnOk P w K mg base CX0 k f fd ps sp ∧ mg x = some (.ref f) ∧ PySem.W.keepIn K (.ref f) = true ∧ Binds K fd ps []
structure MtC (C : Addr) (m : Str) (k : Nat) (ps : List Str) (sp : Sp) : Prop where
  ex : ∃ (f : Addr) (fd : FuncData), FnOk P w K mg base CX0 k f fd ps sp ∧ Meth K C m f ∧ Binds K fd ps []
  cl : Cls K C
structure CsC (x : Str) (C : Addr) (k : Nat) (ps : List Str) (sp : Sp) : Prop where
  ex : ∃ (f : Addr) (fd : FuncData), FnOk P w K mg base CX0 k f fd ps sp ∧ Mk K C f ∧ Binds K fd ps []
  mg : mg x = some (.ref C)
end
section
variable {X : Cx} {k : Nat} {C : Addr} {ps : List Str} {sp : Sp} {x m : Str} {p pos apos : Pos} {e o : Expr} {es : List Expr} {ta : TE} {t : TA}
theorem pe_fnc (L : FnC X.prog X.w X.K X.mg X.base x k ps sp) (hr : Room k X.A) (hg : Gl X x) (ha : PA X (e :: es) t)
    (hdb : (x == ("__debug__" : Str)) = false := by decide) (he : starEach (e :: es) X.env = (false, eval e X.env) :: starEach es X.env := by rfl) (hpl : (backTo pos (starEach es X.env)).any (·.1) = false := by rfl) :
    PE X (.Call (.Name x p) (e :: es) [] pos) (tCall sp [] E0 t) := by
  obtain ⟨f, fd, F, h1, h2, h3⟩ := L.ex
  exact pe_call F hr hg h1 h2 h3 .nil pass0 ha hdb he hpl
theorem pe_fnc0 (L : FnC X.prog X.w X.K X.mg X.base x k ps sp) (hr : Room k X.A) (hg : Gl X x)
    (hdb : (x == ("__debug__" : Str)) = false := by decide) : PE X (.Call (.Name x p) [] [] pos) (tCall sp [] E0 tNil) := by
  obtain ⟨f, fd, F, h1, h2, h3⟩ := L.ex
  exact pe_call0 F hr hg h1 h2 h3 .nil pass0 hdb
theorem pe_mtc {pl : Sem Bool} (he : PE X o ta) (L : MtC X.prog X.w X.K X.mg X.base C m k ps sp) (hr : Room k X.A) (ha : PA X (e :: es) t)
    (hst : starEach (e :: es) X.env = (false, eval e X.env) :: starEach es X.env := by rfl) (hpl : (backTo pos (starEach es X.env)).any (·.1) = false := by rfl)
    (ht : eval (.Call (.Attribute o m apos) (e :: es) [] pos) X.env = (do
      let ov ← eval o X.env
      standAt apos.atName
      let (f, first) ← holding [ov] (getMethod ov m pl)
      callWith pos f first (backTo pos (starEach (e :: es) X.env)) (backToKw pos (keywordEach [] X.env))) := by rfl) :
    PE X (.Call (.Attribute o m apos) (e :: es) [] pos) (tMeth C m sp [] E0 ta t) := by
  obtain ⟨f, fd, F, h1, h3⟩ := L.ex
  exact pe_meth he L.cl h1 F hr h3 .nil pass0 ha hst hpl ht
theorem pe_mtc0 {pl : Sem Bool} (he : PE X o ta) (L : MtC X.prog X.w X.K X.mg X.base C m k ps sp) (hr : Room k X.A)
    (ht : eval (.Call (.Attribute o m apos) [] [] pos) X.env = (do
      let ov ← eval o X.env
      standAt apos.atName
      let (f, first) ← holding [ov] (getMethod ov m pl)
      callWith pos f first (backTo pos (starEach [] X.env)) (backToKw pos (keywordEach [] X.env))) := by rfl) :
    PE X (.Call (.Attribute o m apos) [] [] pos) (tMeth C m sp [] E0 ta tNil) := by
  obtain ⟨f, fd, F, h1, h3⟩ := L.ex
  exact pe_meth0 he L.cl h1 F hr h3 .nil pass0 ht
theorem pe_mkc (L : CsC X.prog X.w X.K X.mg X.base x C k ps sp) (hr : Room (k + 1) X.A) (hg : Gl X x) (ha : PA X (e :: es) t)
    (hdb : (x == ("__debug__" : Str)) = false := by decide) (he : starEach (e :: es) X.env = (false, eval e X.env) :: starEach es X.env := by rfl) (hpl : (backTo pos (starEach es X.env)).any (·.1) = false := by rfl) :
    PE X (.Call (.Name x p) (e :: es) [] pos) (tMake C sp [] E0 t) := by
  obtain ⟨f, fd, F, h1, h3⟩ := L.ex
  exact pe_make h1 F hr hg L.mg h3 .nil pass0 ha hdb he hpl
theorem pe_mkc0 (L : CsC X.prog X.w X.K X.mg X.base x C k ps sp) (hr : Room (k + 1) X.A) (hg : Gl X x)
    (hdb : (x == ("__debug__" : Str)) = false := by decide) : PE X (.Call (.Name x p) [] [] pos) (tMake C sp [] E0 tNil) := by
  obtain ⟨f, fd, F, h1, h3⟩ := L.ex
  exact pe_make0 h1 F hr hg L.mg h3 .nil pass0 hdb
end

/-! ### rules with the written part named (for the blocks of comprehensions) -/
section
variable {X : Cx} {K : PySem.W.Frag}
theorem ix_listK (h : X.K = K) : IxR X (rIxL K) := by subst h; exact ix_list
theorem ix_tupK (h : X.K = K) : IxR X (rIxT K) := by subst h; exact ix_tup
theorem sl_listK (h : X.K = K) : SlR X (rSlL K) := by subst h; exact sl_list
theorem sl_tupK (h : X.K = K) : SlR X (rSlT K) := by subst h; exact sl_tup
def rListOf (K : PySem.W.Frag) : List V → Hp → VK → Prop := fun xs H Q => ∃ p ys, xs = [.ref p] ∧ (SqL K H p ys ∨ SqT K H p ys) ∧ ∀ l, H l = none → Q (.ref l) (upd H l (.lst ys))
theorem call_list_ofK (h : X.K = K) : CallR X (.type "list") (rListOf K) := by subst h; exact call_list_of
def rTupleOf (K : PySem.W.Frag) : List V → Hp → VK → Prop := fun xs H Q => ∃ p ys, xs = [.ref p] ∧ ((SqL K H p ys ∧ ∀ l, H l = none → Q (.ref l) (upd H l (.tup ys))) ∨ (SqT K H p ys ∧ Q (.ref p) H))
theorem call_tuple_ofK (h : X.K = K) : CallR X (.type "tuple") (rTupleOf K) := by subst h; exact call_tuple_of
def rLenSeq (K : PySem.W.Frag) : List V → Hp → VK → Prop := fun xs H Q => ∃ p ys, xs = [.ref p] ∧ (SqL K H p ys ∨ SqT K H p ys) ∧ Q (.int ys.length) H
theorem call_len_seqK (h : X.K = K) : CallR X (.builtin "len") (rLenSeq K) := by subst h; exact call_len_seq
theorem op_eqDK (h : X.K = K) (hu : X.A.units + 64 < cLine) : OpR X (compareOp .Eq) (rEqD K) := by subst h; exact op_eqD hu
theorem op_neDK (h : X.K = K) (hu : X.A.units + 64 < cLine) : OpR X (compareOp .NotEq) (rNeD K) := by subst h; exact op_neD hu
theorem op_in_seqK (h : X.K = K) : OpR X (compareOp .In) (rIn K false) := by subst h; exact op_in_seq
theorem op_notIn_seqK (h : X.K = K) : OpR X (compareOp .NotIn) (rIn K true) := by subst h; exact op_notIn_seq
theorem op_catTK (h : X.K = K) : OpR X (binaryOp .Add) (rCatT K) := by subst h; exact op_catT
theorem cr_sumK (h : X.K = K) (hc : X.calm = true) : CallR X (.builtin "sum") (rSum K) := by subst h; exact cr_sum hc
theorem cr_maxK (h : X.K = K) (hc : X.calm = true) : CallR X (.builtin "max") (rMax K) := by subst h; exact cr_max hc
theorem cr_minK (h : X.K = K) (hc : X.calm = true) : CallR X (.builtin "min") (rMin K) := by subst h; exact cr_min hc
theorem cr_anyK (h : X.K = K) (hc : X.calm = true) : CallR X (.builtin "any") (rAny K) := by subst h; exact cr_any hc
theorem cr_allK (h : X.K = K) (hc : X.calm = true) : CallR X (.builtin "all") (rAll K) := by subst h; exact cr_all hc
theorem cr_sortedIK (h : X.K = K) : CallR X (.builtin "sorted") (rSortedI K) := by subst h; exact cr_sortedI
theorem cr_sortedSetK {w : World} (h : X.w = w) (hc : X.calm = true) : CallR X (.builtin "sorted") (rSortedSet w) := by subst h; exact cr_sortedSet hc
theorem mt_indexK (h : X.K = K) : MtR X "list.index" (rIndex K) := by subst h; exact mt_index
variable {o e : Expr} {es : List Expr} {to te : TE} {t : TA} {name f : Str} {apos cpos pos : Pos} {T id : String} {r : V → List V → Hp → VK → Prop} {tg : Expr}
theorem pe_fldK (h : X.K = K) (he : PE X e te) (hb : attributeBase e f X.env (eval e X.env) = eval e X.env) : PE X (.Attribute e f pos) (tFld K te f) := by subst h; exact pe_fld he hb
theorem pe_bm0K (h : X.K = K) (pa : PlainAttrs T) (slot : Slot T name id) (hty : typeOf (.builtin id) = pure (.type "method_descriptor")) (hm : MtR X id r) (ho : PE X o to)
    (hbase : attributeBase o name X.env (eval o X.env) = eval o X.env := by rfl) (hline : (apos.endLine == cpos.line) = true := by rfl) : PE X (.Call (.Attribute o name apos) [] [] cpos) (tBM0 K T r to) := by
  subst h
  exact pe_bm0 pa slot hty hm ho hbase hline
theorem pe_bmK (h : X.K = K) (pa : PlainAttrs T) (slot : Slot T name id) (hty : typeOf (.builtin id) = pure (.type "method_descriptor")) (hm : MtR X id r) (ho : PE X o to) (ha : PA X (e :: es) t)
    (hbase : attributeBase o name X.env (eval o X.env) = eval o X.env := by rfl)
    (hfew : ((backTo cpos (starEach (e :: es) X.env)).all (fun x => !x.1) && (backToKw cpos (keywordEach [] X.env)).all (fun x => x.1.isSome)
      && decide ((e :: es).length + ([] : List Keyword).length + (if ([] : List Keyword).isEmpty then 0 else 1) < 30)) = true := by rfl)
    (hline : (apos.endLine == cpos.line) = true := by rfl) (hs : starEach (e :: es) X.env = (false, eval e X.env) :: starEach es X.env := by rfl) (hplain : (backTo cpos (starEach es X.env)).any (·.1) = false := by rfl) :
    PE X (.Call (.Attribute o name apos) (e :: es) [] cpos) (tBM K T r to t) := by
  subst h
  exact pe_bm pa slot hty hm ho ha hbase hfew hline hs hplain
theorem pi_listK (h : X.K = K) (hl : PE X e te) : PI X tg e (iList K te) := by subst h; exact pi_list hl
theorem pi_tupK (h : X.K = K) (hl : PE X e te) : PI X tg e (iTup K te) := by subst h; exact pi_tup hl
theorem ps_fldK {value : Expr} {tv : TE} {pos' : Pos} (h : X.K = K) (ha : PE X o to) (hv : PE X value tv) (hs : swapsWith value (some (.Attribute o f pos')) pos.line X.env = pure false) : PS X (.Assign [.Attribute o f pos'] value pos) (sFld K to tv f) := by
  subst h
  exact ps_fld ha hv hs
theorem pt_truthK {a : Expr} {ta : TE} (h : X.K = K) (ha : PE X a ta) (he : ∀ whole, isTrue a X.env whole = (do let v ← whole; standAt a.pos; holding [v] (truthy v))) : PT X a (fun σ H Q => ta σ H fun x H1 => ∃ k, TruV K x H1 k ∧ Q k H1) := by
  subst h
  exact pt_truth ha he
end
section
variable {X : Cx} {pos : Pos}
/-- a tuple as a target, the written part named -/
theorem pg_tupK {K : PySem.W.Frag} {es : List Expr} {k : Nat} {t : TGs} {n : Nat} (hK : X.K = K) (hc : X.calm = true) (h : PGs X es t)
    (hn : (assignEach es X.env).length = n := by rfl) (hst : (assignEach es X.env).findIdx? (·.1) = none := by rfl) : PG X (.Tuple es k pos) (gTup K n t) := by
  subst hK
  exact pg_tup hc h hn hst
end
/-! ### an instance's attributes as a written list -/
theorem lk_hit {f : Str} {v : V} {r : List (Str × V)} : List.lookup f ((f, v) :: r) = some v := by simp [List.lookup]
theorem lk_miss {f g : Str} {v : V} {r : List (Str × V)} (h : (f == g) = false) : List.lookup f ((g, v) :: r) = List.lookup f r := by simp [List.lookup, h]
theorem pf_nil {f : Str} {v : V} : putF f v [] = [(f, v)] := rfl
theorem pf_hit {f : Str} {v u : V} {r : List (Str × V)} : putF f v ((f, u) :: r) = (f, v) :: r := by
  show (if f = f then _ else _) = _
  rw [if_pos rfl]
theorem pf_miss {f g : Str} {v u : V} {r : List (Str × V)} (h : (f == g) = false) : putF f v ((g, u) :: r) = (g, u) :: putF f v r := by
  show (if g = f then _ else _) = _
  rw [if_neg]
  intro e
  subst e
  simp at h

/-! ### readings in short -/
section
variable {K : PySem.W.Frag} {σ : L2.St} {H : Hp} {Q : VK} {v x : V} {i : Nat} {ta tb : TE} {t u : TS} {D : Ends}
theorem g_var (h : σ[i]? = some (some v)) (k : Q v H) : tVar i σ H Q := ⟨v, h, k⟩
theorem g_pair {a : Addr} {u w : V} {tu tw : TG} {Q : L2.St → Hp → Prop} (h : H a = some (.tup [u, w])) (k : tu u σ H fun σ' H' => tw w σ' H' Q) : gTup K 2 (gCons tu (gCons tw gNil)) (.ref a) σ H Q :=
  ⟨a, _, rfl, SqT.of h, rfl, u, _, rfl, by
    show tu u σ H fun σ' H' => ∃ v r, [w] = v :: r ∧ tw v σ' H' fun σ' H' => r = [] ∧ Q σ' H'
    have e : (fun σ' H' => tw w σ' H' Q) = (fun σ' H' => ∃ v r, [w] = v :: r ∧ tw v σ' H' fun σ' H' => r = [] ∧ Q σ' H') := by
      funext σ' H'
      apply propext
      constructor
      · intro q
        refine ⟨w, [], rfl, ?_⟩
        have e2 : (fun σ' H' => ([] : List V) = [] ∧ Q σ' H') = Q := by
          funext a b
          simp
        rw [e2]
        exact q
      · rintro ⟨v, r, e, q⟩
        injection e with e1 e2
        subst e1
        subst e2
        have e2 : (fun σ' H' => ([] : List V) = [] ∧ Q σ' H') = Q := by
          funext a b
          simp
        rw [e2] at q
        exact q
    rw [← e]
    exact k⟩
theorem g_yes {A B : Hp → Prop} (h : A H) : tYes σ H fun b H3 => if b = true then A H3 else B H3 := h
theorem if_int {i j : Int} {A B : Prop} (h1 : i = j → A) (h2 : i ≠ j → B) : if decide (V.int i = V.int j) = true then A else B := by
  by_cases e : i = j
  · rw [if_pos (decide_eq_true (by rw [e]))]
    exact h1 e
  · rw [if_neg (by rw [decide_eq_false (fun z => e (V.int.inj z))]; exact Bool.false_ne_true)]
    exact h2 e
theorem if_dec {c A B : Prop} [Decidable c] (h1 : c → A) (h2 : ¬ c → B) : if decide c = true then A else B := by
  by_cases e : c
  · rw [if_pos (decide_eq_true e)]
    exact h1 e
  · rw [if_neg (by rw [decide_eq_false e]; exact Bool.false_ne_true)]
    exact h2 e
theorem if_bool {b : Bool} {A B : Prop} (h1 : b = true → A) (h2 : b = false → B) : if b = true then A else B := by
  cases b
  · rw [if_neg Bool.false_ne_true]
    exact h2 rfl
  · rw [if_pos rfl]
    exact h1 rfl
theorem if_nbool {b : Bool} {A B : Prop} (h1 : b = false → A) (h2 : b = true → B) : if (!b) = true then A else B := by
  cases b
  · exact h1 rfl
  · exact h2 rfl
/-- a list at an address, its items data -/
def LstAt {α : Type} (r : Rp α) (G H : Hp) (a : Addr) (xs : List α) : Prop := ∃ vs, H a = some (.lst vs) ∧ Paired (r G) vs xs
/-- a loop over zip of two lists -/
theorem for_zipM {K : PySem.W.Frag} {a b : Addr} {xs ys : List V} {g : TG} {tb : TS} {D : Ends} {σ : L2.St} {H : Hp} (Pv : Nat → L2.St → Hp → Prop) (h0 : Pv 0 σ H) (hq : ∀ i σ H, Pv i σ H → SqL K H a xs ∧ SqL K H b ys)
    (hs : ∀ (i : Nat) (x y : V) (T : Addr) (σ : L2.St) (H : Hp), xs[i]? = some x → ys[i]? = some y → Pv i σ H → H T = none → g (.ref T) σ (upd H T (.tup [x, y])) fun σ2 H2 => tb { D with nx := Pv (i + 1), ct := Pv (i + 1), bk := D.nx } σ2 H2)
    (hd : ∀ σ H, Pv (min xs.length ys.length) σ H → D.nx σ H) :
    ∃ W : Nat → Nat → L2.St → Hp → Prop, (∃ m, W 0 m σ H) ∧ ∀ i m σ H, W i m σ H →
      ((Itz K a b).stop i H ∧ D.nx σ H) ∨ ((Itz K a b).go i H ∧ ∃ N : L2.St → Hp → Prop, (∀ σ' H', N σ' H' → ∃ m', m' < m ∧ W (i + 1) m' σ' H') ∧ ∀ v H', (Itz K a b).yld i H v H' → g v σ H' fun σ2 H2 => tb { D with nx := N, ct := N, bk := D.nx } σ2 H2) := by
  refine ⟨fun i m σ H => m = min xs.length ys.length - i ∧ i ≤ min xs.length ys.length ∧ Pv i σ H, ⟨_, rfl, Nat.zero_le _, h0⟩, ?_⟩
  rintro i m σ H ⟨rfl, hi, p⟩
  obtain ⟨qx, qy⟩ := hq i σ H p
  by_cases hlt : i < min xs.length ys.length
  · have l1 : i < xs.length := by omega
    have l2 : i < ys.length := by omega
    refine .inr ⟨⟨xs, ys, _, _, qx, qy, List.getElem?_eq_getElem l1, List.getElem?_eq_getElem l2⟩, Pv (i + 1), fun σ' H' p' => ⟨_, by omega, rfl, by omega, p'⟩, fun v H' y => ?_⟩
    obtain ⟨T, x', y', rfl, hT, rfl, f1, f2⟩ := y
    exact hs i x' y' T σ H (f1 xs qx) (f2 ys qy) p hT
  · have e : i = min xs.length ys.length := by omega
    subst e
    exact .inl ⟨⟨xs, ys, qx, qy, by omega⟩, hd σ H p⟩
/-- a dict comprehension over a list -/
theorem dc_list {K : PySem.W.Frag} {a : Addr} {xs : List V} {g : TG} {tt : TT} {tk tv : TE} {vs : List Nat} {σ : L2.St} {H1 : Hp} {D : Addr} {Qd : Hp → Prop} (Pv : Nat → Hp → Prop) (h0 : Pv 0 (upd H1 D (.dK []))) (hl : ∀ i H, i ≤ xs.length → Pv i H → SqL K H a xs)
    (hs : ∀ i x H, xs[i]? = some x → Pv i H → g x (wipe σ vs) H fun σ2 H2 => wipe σ2 vs = wipe σ vs ∧ tt σ2 H2 fun b H3 =>
      if b = true then tk σ2 H3 fun y H4 => tv σ2 H4 fun z H5 => ∃ kvs k, y = kV k ∧ H5 D = some (.dK kvs) ∧ kvs.length < sizeLine ∧ Pv (i + 1) (upd H5 D (.dK (putK kvs k z))) else Pv (i + 1) H3) (hd : ∀ H, Pv xs.length H → Qd H) :
    ∃ W : Nat → Nat → Hp → Prop, (∃ m, W 0 m (upd H1 D (.dK []))) ∧ ∀ i m H, W i m H →
      ((Itl K a).stop i H ∧ Qd H) ∨ ((Itl K a).go i H ∧ ∃ Nx : Hp → Prop, (∀ H', Nx H' → ∃ m', m' < m ∧ W (i + 1) m' H') ∧ ∀ x H', (Itl K a).yld i H x H' → g x (wipe σ vs) H' fun σ2 H2 => wipe σ2 vs = wipe σ vs ∧ tt σ2 H2 fun b H3 =>
        if b = true then tk σ2 H3 fun y H4 => tv σ2 H4 fun z H5 => ∃ kvs k, y = kV k ∧ H5 D = some (.dK kvs) ∧ kvs.length < sizeLine ∧ Nx (upd H5 D (.dK (putK kvs k z))) else Nx H3) := by
  refine ⟨fun i m H => m = xs.length - i ∧ i ≤ xs.length ∧ Pv i H, ⟨_, rfl, Nat.zero_le _, h0⟩, ?_⟩
  rintro i m H ⟨rfl, hi, p⟩
  have q := hl i H hi p
  by_cases hlt : i < xs.length
  · refine .inr ⟨⟨xs, _, q, List.getElem?_eq_getElem hlt⟩, Pv (i + 1), fun H' p' => ⟨_, by omega, rfl, hlt, p'⟩, fun x H' y => ?_⟩
    obtain ⟨e, y⟩ := y
    subst e
    exact hs i x _ (y xs q) p
  · have e : i = xs.length := by omega
    subst e
    exact .inl ⟨⟨xs, q, Nat.le_refl _⟩, hd H p⟩
end
end Y

/-! YSet: set(a list of ints), sorted of it. -/
namespace Y
open PySem PySem.Spec PyProof.Rows L2
section
variable {P : Program} {w : World} {A : Around} {E : Value → Shared → Prop} {s : Shared}
set_option maxHeartbeats 3200000 in
theorem set_of_list {l : Addr} {items : Array Value} (ns : List Int) {Q : Value → Shared → Prop} (hh : A.handled = none) (hl : s.heap.IsList l items) (hit : IntsAre items.toList ns) (hb : ns.length + 1 < scanBound)
    (h : ∀ (h' : Heap) (tk c : Nat), SetR w h' s.heap.objs.size (fun j => decide (j ∈ ns)) c → c ≤ ns.length → (∀ b o, s.heap.get? b = some o → h'.get? b = some o) → Q (.ref s.heap.objs.size) { s with heap := h', toks := tk }) :
    wpAny (model P w) A (call (.type "set") [.ref l]) Q E s := by
  have len : items.size = ns.length := by
    have q := IntsAre.length hit
    rwa [Array.length_toList] at q
  obtain ⟨c, tl, hmro⟩ := F.called_set.mro
  have hmade := F.called_set.made
  have hsub := F.called_set.sub
  refine wpAny_call (codeAny_of_tree ?_)
  show wpAny _ _ (callAny (.type "set") _) _ _ _
  refine wpAny_pure ⟨Code.quiet_builtin _ (by decide +kernel), codeAny_builtin F.entry_type_call ?_⟩
  rw [Around.under_plain (weight_type_call_type "set" [.ref l] []) rfl]
  have h1 := F.called_set.notType
  have h2 := F.called_set.canCreate
  have hct := F.typeCall_set_1 (.ref l)
  repeat (any_goals (first | assumption | wp_step))
  let o0 : Obj := { cls := .type "set", dict := none, data := .set #[] 0 (.fresh 0 0 (!w.params.followText "set-order")) }
  refine codeAny_mono (code_set_led1 (.ref l) (E := E) (Q₁ := fun obj t => obj = .ref s.heap.objs.size ∧ t = { s with heap := s.heap.push o0 }) ⟨rfl, rfl⟩) fun r t hr => ?_
  cases r with
  | error e => exact hr
  | ok fl =>
    cases fl with
    | ret obj =>
      obtain ⟨rfl, rfl⟩ := hr
      have hS : (s.heap.push o0).get? s.heap.objs.size = some o0 := Heap.get?_push_size _ rfl
      have hT : Shared.TypeIs { s with heap := s.heap.push o0 } (.ref s.heap.objs.size) "set" := ⟨_, hS, rfl⟩
      have hli := F.called_set.init.lookup
      have hbi := F.called_set.init.bind (.ref s.heap.objs.size)
      repeat (any_goals (first | assumption | wp_step))
      refine codeAny_mono (codeAny_call_builtin (R := wants (fun r t => r = .none ∧ ∃ h' tk c, t = { s with heap := h', toks := tk } ∧ SetR w h' s.heap.objs.size (fun j => decide (j ∈ ns)) c ∧ c ≤ ns.length ∧
          (∀ b o, s.heap.get? b = some o → h'.get? b = some o)) E) F.called_set.init.plain F.entry_set_init (check_set_init_1 hT ?_)) fun r₂ t₂ hr₂ => ?_
      · obtain ⟨ol, hol, hcl, nl, hdl⟩ := hl
        obtain ⟨ocls, odict, odata, oslots⟩ := ol
        simp only at hcl hdl
        subst hcl; subst hdl
        have hol' : (s.heap.push o0).get? l = some { cls := .type "list", dict := odict, data := .seq items nl, slots := oslots } := Heap.get?_push_of_some _ hol
        have hsls := F.sub_list_set
        have hslf := F.sub_list_frozenset
        have hne : (Value.type "list" == Value.type "dict") = false := by decide
        have hl1 : (s.heap.push o0).IsList l items := ⟨_, hol', rfl, nl, rfl⟩
        unfold Builtin.«set.__init__» noKeywords Builtin.Frozenset.updateFrom
        generalize hPI : pyIter = PI
        wp_walk
        subst hPI
        refine wpAny_pyIter_list hl1 ?_
        refine wpAny_bind (wpAny_runValue ?_)
        have hlS : l < s.heap.objs.size := Heap.lt_size hol
        have hh3 : A.in1.in1.in1.handled = none := by simp [hh]
        have hneI : l ≠ (s.heap.push o0).objs.size := by
          rw [Heap.size_push]; exact Nat.ne_of_lt (Nat.lt_succ_of_lt hlS)
        have hSf : s.heap.objs.size ∉ [(s.heap.push o0).objs.size, l] := by
          rw [Heap.size_push]; simp only [List.mem_cons, List.mem_singleton, List.not_mem_nil, or_false, not_or]
          exact ⟨Nat.ne_of_lt (Nat.lt_succ_self _), Nat.ne_of_gt hlS⟩
        have hval : ∀ (i : Nat) (v : Value), items[i]? = some v → ∃ k t, ns[i]? = some k ∧ v = .int k t := fun i v hv => by
          have hi : i < ns.length := by rw [← len]; exact (Array.getElem?_eq_some_iff.mp hv).1
          obtain ⟨t, e⟩ := PyProof.Rows.IntsAre.int_at hit i v (by rw [Array.getElem?_toList]; exact hv)
          refine ⟨ns[i], t, List.getElem?_eq_getElem hi, ?_⟩
          rw [e, List.getD_eq_getElem?_getD, List.getElem?_eq_getElem hi] <;> rfl
        refine set_update_ints ((Walks.list hh3 _ l hneI items).toS) s.heap.objs.size
          hSf ns len hb hval (items.size - 0) 0 _ (by omega) (Nat.zero_le _)
          ⟨⟨_, Heap.get?_push_size _ rfl, rfl, rfl⟩, (hl1.push _)⟩ ?hS0 ?hR
        case hS0 =>
          have hget : ((s.heap.push o0).push { cls := .type "list_iterator", data := .fields #[.ref l, .int 0 0] }).get? s.heap.objs.size = some o0 := Heap.get?_push_of_some _ hS
          exact ⟨0, Nat.le_refl 0, setR_new_at hget⟩
        case hR =>
          intro s' c' hm hc' hS'
          obtain ⟨h', g2, d', tk', os'⟩ := s'
          have eg : g2 = s.gens := hm.gens
          have ed : d' = s.drawn := hm.drawn
          have eo : os' = s.os := hm.os
          subst eg; subst ed; subst eo
          show wpAny _ _ _ _ _ _
          refine wpAny_pure ?_
          show wpAny _ _ (ret Value.none) _ _ _
          rw [len] at hc'
          refine wpAny_pure ⟨rfl, h', tk', c', rfl, hS', hc', fun b o e => ?_⟩
          have hb0 : b < s.heap.objs.size := Heap.lt_size e
          have hb1 : b ≠ s.heap.objs.size := Nat.ne_of_lt hb0
          have hb2 : b ≠ (s.heap.push o0).objs.size := by
            rw [Heap.size_push]; exact Nat.ne_of_lt (Nat.lt_succ_of_lt hb0)
          exact hm.heap b o (by simp only [List.mem_cons, List.mem_singleton, List.not_mem_nil, or_false, not_or]; exact ⟨hb1, hb2⟩) (Heap.get?_push_of_some _ (Heap.get?_push_of_some _ e))
      · cases r₂ with
        | error e => exact hr₂
        | ok fl₂ =>
          cases fl₂ with
          | ret r =>
            obtain ⟨rfl, h', tk, c', rfl, hS', hc', hk'⟩ := hr₂
            repeat (any_goals (first | assumption | wp_step))
            exact h _ _ _ hS' hc' hk'
          | _ => exact hr₂.elim
    | _ => exact hr.elim
end
section
variable {X : Cx}
/-- set(xs), xs a list of ints -/
def rSetI (K : PySem.W.Frag) (w : World) : List V → Hp → VK → Prop := fun vs H Q => ∃ (l : Addr) (ns : List Int), vs = [V.ref l] ∧ SqL K H l (ns.map V.int) ∧ ns.length ≤ 1000 ∧
  ∀ p c, H p = none → c ≤ ns.length → Q (.ref p) (upd H p (SetO w p (fun j => decide (j ∈ ns)) c))
theorem cr_setI (hc : X.calm = true) : CallR X (.type "set") (rSetI X.K X.w) := by
  intro pins s σ H vs us Q I r h
  obtain ⟨l, ns, rfl, hq, hn, q⟩ := h
  obtain ⟨u, rfl, ru⟩ := vals1 r
  cases ru
  obtain ⟨its, rv, p, hz⟩ := I.list hq
  refine set_of_list (items := its.toArray) ns (I.ok.hd hc) p.isList (by simpa using Vals.ints rv) (by unfold scanBound; omega) fun h' tk c R hc' hk => ?_
  have n := I.fresh
  exact ⟨.ref s.heap.objs.size, _, I.laid (o := SetO X.w s.heap.objs.size (fun j => decide (j ∈ ns)) c) hk (Nat.le_refl _) (setO_new R), rfl, q _ c n hc'⟩
theorem cr_setIK {K : PySem.W.Frag} {w : World} (h : X.K = K) (hw : X.w = w) (hc : X.calm = true) : CallR X (.type "set") (rSetI K w) := by
  subst h hw
  exact cr_setI hc
end
end Y


/-! YMath: ascending numbers, dicts as pairs: plain Lean. -/
namespace Y
/-! ### ascending numbers, each once -/
def insU (x : Int) : List Int → List Int
  | [] => [x]
  | y :: r => if x < y then x :: y :: r else if x = y then y :: r else y :: insU x r
def nums (xs : List Int) : List Int := xs.foldr insU []
theorem mem_insU (x k : Int) : ∀ l : List Int, k ∈ insU x l ↔ k = x ∨ k ∈ l
  | [] => by simp [insU]
  | y :: r => by
    unfold insU
    split
    · simp
    · split
      · rename_i h; subst h; simp
      · have ih := mem_insU x k r
        simp only [List.mem_cons, ih]
        constructor
        · rintro (h | h | h) <;> simp [h]
        · rintro (h | h | h) <;> simp [h]
theorem mem_nums (k : Int) : ∀ xs : List Int, k ∈ nums xs ↔ k ∈ xs
  | [] => by simp [nums]
  | x :: xs => by
    show k ∈ insU x (nums xs) ↔ _
    rw [mem_insU, mem_nums k xs, List.mem_cons]
theorem asc_insU (x : Int) : ∀ l : List Int, l.Pairwise (· < ·) → (insU x l).Pairwise (· < ·)
  | [], _ => by simp [insU]
  | y :: r, h => by
    have ⟨h1, h2⟩ := List.pairwise_cons.mp h
    unfold insU
    split
    · rename_i hx
      refine List.pairwise_cons.mpr ⟨fun z hz => ?_, h⟩
      rcases List.mem_cons.mp hz with e | e
      · omega
      · have := h1 z e; omega
    · split
      · exact h
      · refine List.pairwise_cons.mpr ⟨fun z hz => ?_, asc_insU x r h2⟩
        rcases (mem_insU x z r).mp hz with e | e
        · omega
        · exact h1 z e
theorem asc_nums : ∀ xs : List Int, (nums xs).Pairwise (· < ·)
  | [] => List.Pairwise.nil
  | x :: xs => asc_insU x _ (asc_nums xs)
/-- two ascending lists with the same members are one -/
theorem asc_same : ∀ {a b : List Int}, a.Pairwise (· < ·) → b.Pairwise (· < ·) → (∀ k, k ∈ a ↔ k ∈ b) → a = b
  | [], [], _, _, _ => rfl
  | [], y :: b, _, _, h => absurd ((h y).mpr (by simp)) (by simp)
  | x :: a, [], _, _, h => absurd ((h x).mp (by simp)) (by simp)
  | x :: a, y :: b, ha, hb, h => by
    have ⟨a1, a2⟩ := List.pairwise_cons.mp ha
    have ⟨b1, b2⟩ := List.pairwise_cons.mp hb
    have e : x = y := by
      rcases List.mem_cons.mp ((h x).mp (by simp)) with e | e
      · exact e
      · rcases List.mem_cons.mp ((h y).mpr (by simp)) with e' | e'
        · exact e'.symm
        · have := a1 y e'
          have := b1 x e
          omega
    subst e
    have t : a = b := asc_same a2 b2 fun k => by
      have q := h k
      constructor
      · intro hk
        rcases List.mem_cons.mp (q.mp (List.mem_cons_of_mem _ hk)) with e | e
        · have := a1 k hk; omega
        · exact e
      · intro hk
        rcases List.mem_cons.mp (q.mpr (List.mem_cons_of_mem _ hk)) with e | e
        · have := b1 k hk; omega
        · exact e
    rw [t]
theorem le_nums_len : ∀ xs : List Int, (nums xs).length ≤ xs.length
  | [] => Nat.le_refl _
  | x :: xs => by
    have h : ∀ l : List Int, (insU x l).length ≤ l.length + 1 := by
      intro l
      induction l with
      | nil => exact Nat.le_refl _
      | cons y r ih =>
        unfold insU
        split
        · simp
        · split
          · simp
          · simp only [List.length_cons]; omega
    have := h (nums xs)
    have := le_nums_len xs
    show (insU x (nums xs)).length ≤ _
    simp only [List.length_cons]
    omega

/-! ### dicts as pairs -/
section
variable {β : Type}
def look (ds : List (Int × β)) (k : Int) : Option β := (ds.find? fun p => decide (p.1 = k)).map (·.2)
def put (ds : List (Int × β)) (k : Int) (x : β) : List (Int × β) := if ds.any (fun p => decide (p.1 = k)) then ds.map (fun p => if p.1 = k then (p.1, x) else p) else ds ++ [(k, x)]
theorem put_len (ds : List (Int × β)) (k : Int) (x : β) : (put ds k x).length ≤ ds.length + 1 := by
  unfold put
  split <;> simp
theorem look_cons (p : Int × β) (ds : List (Int × β)) (k : Int) : look (p :: ds) k = if p.1 = k then some p.2 else look ds k := by
  unfold look
  rw [List.find?_cons]
  by_cases h : p.1 = k <;> simp [h]
theorem look_any (ds : List (Int × β)) (k : Int) : (ds.any fun p => decide (p.1 = k)) = (look ds k).isSome := by
  induction ds with
  | nil => rfl
  | cons p ds ih =>
    rw [look_cons, List.any_cons, ih]
    by_cases h : p.1 = k <;> simp [h]
theorem put_keys (ds : List (Int × β)) (k : Int) (x : β) : (put ds k x).map (·.1) = if ds.any (fun p => decide (p.1 = k)) then ds.map (·.1) else ds.map (·.1) ++ [k] := by
  unfold put
  split
  · rw [List.map_map]
    apply List.map_congr_left
    intro p _
    show (if p.1 = k then (p.1, x) else p).1 = p.1
    split <;> rfl
  · simp
theorem put_nodup (ds : List (Int × β)) (k : Int) (x : β) (h : (ds.map (·.1)).Nodup) : ((put ds k x).map (·.1)).Nodup := by
  rw [put_keys]
  split
  · exact h
  · rename_i hn
    refine List.nodup_append.mpr ⟨h, by simp, fun a ha b hb e => ?_⟩
    have hb := List.mem_singleton.mp hb
    subst hb
    subst e
    obtain ⟨p, hp, e⟩ := List.mem_map.mp ha
    exact hn (List.any_eq_true.mpr ⟨p, hp, decide_eq_true e⟩)
theorem look_of_mem {ds : List (Int × β)} (h : (ds.map (·.1)).Nodup) {p : Int × β} (hp : p ∈ ds) : look ds p.1 = some p.2 := by
  induction ds with
  | nil => cases hp
  | cons q ds ih =>
    rw [look_cons]
    have ⟨h1, h2⟩ := List.nodup_cons.mp (show (q.1 :: ds.map (·.1)).Nodup from h)
    rcases List.mem_cons.mp hp with e | e
    · subst e; rw [if_pos rfl]
    · have : ¬ q.1 = p.1 := fun e' => h1 (e' ▸ List.mem_map.mpr ⟨p, e, rfl⟩)
      rw [if_neg this]
      exact ih h2 e
theorem look_some_mem {ds : List (Int × β)} {k : Int} {x : β} (h : look ds k = some x) : (k, x) ∈ ds := by
  induction ds with
  | nil => cases h
  | cons q ds ih =>
    rw [look_cons] at h
    split at h
    · rename_i e
      have : x = q.2 := (Option.some.inj h).symm
      subst this
      subst e
      exact List.mem_cons_self
    · exact List.mem_cons_of_mem _ (ih h)
theorem look_isSome {ds : List (Int × β)} {k : Int} : (look ds k).isSome = true ↔ k ∈ ds.map (·.1) := by
  rw [← look_any, List.any_eq_true]
  constructor
  · rintro ⟨p, hp, e⟩
    exact List.mem_map.mpr ⟨p, hp, of_decide_eq_true e⟩
  · intro h
    obtain ⟨p, hp, e⟩ := List.mem_map.mp h
    exact ⟨p, hp, decide_eq_true e⟩
theorem put_mem {ds : List (Int × β)} {k : Int} {x : β} {p : Int × β} (h : p ∈ put ds k x) : p = (k, x) ∨ p ∈ ds := by
  unfold put at h
  split at h
  · obtain ⟨q, hq, e⟩ := List.mem_map.mp h
    split at e
    · rename_i e1
      left
      rw [← e, e1]
    · right
      rw [← e]
      exact hq
  · rcases List.mem_append.mp h with h | h
    · exact .inr h
    · exact .inl (List.mem_singleton.mp h)
end
end Y

/-! YDict: dicts with int keys as lists of pairs; slices. -/
namespace Y
open PySem PySem.Spec PyProof.Rows L2
section
variable {β : Type} {r : Rp β} {G G' : Hp}
/-- a dict's pairs, keys ints, values data -/
def DRel (r : Rp β) (G : Hp) : List (Key × V) → List (Int × β) → Prop := Paired fun p q => p.1 = Sum.inl q.1 ∧ r G p.2 q.2
theorem DRel.mono (m : Mn r) (e : Same G G') {kvs : List (Key × V)} {ds : List (Int × β)} (h : DRel r G kvs ds) : DRel r G' kvs ds := pd_mono (fun _ _ q => ⟨q.1, m _ _ _ _ e q.2⟩) h
theorem DRel.look_some : ∀ {kvs : List (Key × V)} {ds : List (Int × β)}, DRel r G kvs ds → ∀ {k : Int} {x : β}, look ds k = some x → ∃ v, valV kvs (Sum.inl k) = some v ∧ r G v x
  | _, _, .nil, k, x, h => by cases h
  | (p :: _), (q :: _), .cons ⟨h1, h2⟩ t, k, x, h => by
    rw [look_cons] at h
    by_cases e : q.1 = k
    · rw [if_pos e] at h
      cases h
      exact ⟨p.2, valV_pos (by rw [h1, e]), h2⟩
    · rw [if_neg e] at h
      obtain ⟨v, hv, hr⟩ := DRel.look_some t h
      exact ⟨v, by rw [valV_neg (by rw [h1]; exact fun z => e (Sum.inl.inj z))]; exact hv, hr⟩
theorem DRel.look_none : ∀ {kvs : List (Key × V)} {ds : List (Int × β)}, DRel r G kvs ds → ∀ {k : Int}, look ds k = none → valV kvs (Sum.inl k) = none
  | _, _, .nil, k, h => rfl
  | (p :: _), (q :: _), .cons ⟨h1, h2⟩ t, k, h => by
    rw [look_cons] at h
    by_cases e : q.1 = k
    · rw [if_pos e] at h
      cases h
    · rw [if_neg e] at h
      rw [valV_neg (by rw [h1]; exact fun z => e (Sum.inl.inj z))]
      exact DRel.look_none t h
theorem DRel.anyK : ∀ {kvs : List (Key × V)} {ds : List (Int × β)}, DRel r G kvs ds → ∀ (k : Int), (kvs.any fun kv => decide (kv.1 = (Sum.inl k : Key))) = ds.any fun p => decide (p.1 = k)
  | _, _, .nil, k => rfl
  | (p :: _), (q :: _), .cons ⟨h1, _⟩ t, k => by
    rw [List.any_cons, List.any_cons, DRel.anyK t k, h1]
    congr 1
    by_cases e : q.1 = k
    · simp [e]
    · have : ¬ (Sum.inl q.1 : Key) = Sum.inl k := fun z => e (Sum.inl.inj z)
      simp [e, this]
theorem DRel.put {kvs : List (Key × V)} {ds : List (Int × β)} (h : DRel r G kvs ds) {k : Int} {v : V} {x : β} (hr : r G v x) : DRel r G (putK kvs (Sum.inl k) v) (put ds k x) := by
  unfold putK Y.put
  rw [h.anyK k]
  cases ds.any fun p => decide (p.1 = k) with
  | true =>
    rw [if_pos rfl, if_pos rfl]
    revert hr
    intro hr
    induction h with
    | nil => exact .nil
    | cons q t ih =>
      rename_i p q' _ _
      refine .cons ?_ ih
      dsimp only
      by_cases e : q'.1 = k
      · rw [if_pos e, if_pos (by rw [q.1, e])]
        exact ⟨q.1, hr⟩
      · rw [if_neg e, if_neg (by rw [q.1]; exact fun z => e (Sum.inl.inj z))]
        exact q
  | false =>
    rw [if_neg Bool.false_ne_true, if_neg Bool.false_ne_true]
    exact pd_snoc h ⟨rfl, hr⟩
theorem DRel.keys : ∀ {kvs : List (Key × V)} {ds : List (Int × β)}, DRel r G kvs ds → kvs.map (·.1) = (ds.map (·.1)).map Sum.inl
  | _, _, .nil => rfl
  | _, _, .cons q t => by rw [List.map_cons, List.map_cons, List.map_cons, DRel.keys t, q.1]
end
/-- a row of ints at an address -/
abbrev rowI (xs : List Int) : HO := .lst (xs.map V.int)
theorem cut_to (xs : List V) (n : Nat) : cutV xs none (some (n : Int)) = xs.take n := by
  unfold cutV
  rw [HT.sIx_none, HT.sIx_nat, List.drop_zero, Nat.sub_zero]
  by_cases h : n ≤ xs.length
  · rw [Nat.min_eq_left h]
  · rw [Nat.min_eq_right (by omega), List.take_of_length_le (Nat.le_refl _), List.take_of_length_le (by omega)]
theorem cut_from (xs : List V) (n : Nat) : cutV xs (some (n : Int)) none = xs.drop n := by
  unfold cutV
  rw [HT.sIx_none, HT.sIx_nat]
  by_cases h : n ≤ xs.length
  · rw [Nat.min_eq_left h, List.take_of_length_le (by rw [List.length_drop]; omega)]
  · rw [Nat.min_eq_right (by omega), List.drop_eq_nil_of_le (Nat.le_refl _), List.drop_eq_nil_of_le (by omega)]
    simp
end Y


/-! YMore: rules that the bundles lack: a field as a target among several, dead statements, sorted(dict) at any length, remove over data, a class made with a default. -/
namespace Y
open PySem PySem.Spec PyProof.Rows L2
section
variable {X : Cx} {K : PySem.W.Frag}
/-- o.f = .. as a target -/
def gFld (K : PySem.W.Frag) (to : TE) (f : Str) : TG := fun v σ H Q => to σ H fun x H2 => ∃ a C dx fs, x = .ref a ∧ H2 a = some (.ins C dx fs) ∧ Cls K C ∧ NoAttr K C f ∧ fs.length < 1000 ∧ Q σ (upd H2 a (.ins C dx (putF f v fs)))
theorem pg_fld {o : Expr} {f : Str} {pos : Pos} {to : TE} (ho : PE X o to) : PG X (.Attribute o f pos) (gFld X.K to f) := by
  refine ⟨fun pins s σ H v u Q I r h => ?_⟩
  rw [assign_Attribute]
  refine wpAny_bind (wpAny_holding (thn (ho.run pins s σ H _ I h) fun ov s1 ⟨x, H1, I1, rx, a, C, dx, fs, ex, ea, c, n, l, q⟩ => ?_))
  subst ex
  obtain rfl : ov = Value.ref a := rx
  refine wpAny_bind (wpAny_standAt (wpAny_bind (wpAny_holding ?_)))
  exact setattr_ok I1 ea c n l r fun s3 I3 => wpAny_release ⟨σ, _, I3, q⟩
theorem pg_fldK {o : Expr} {f : Str} {pos : Pos} {to : TE} (h : X.K = K) (ho : PE X o to) : PG X (.Attribute o f pos) (gFld K to f) := by subst h; exact pg_fld ho
/-- a statement that is never reached -/
theorem ps_dead {st : Stmt} : PS X st (fun _ _ _ => False) := ⟨fun _ _ _ _ _ _ h => h.elim⟩
theorem pss_dead {st : List Stmt} : PSs X st (fun _ _ _ => False) := ⟨fun _ _ _ _ _ _ h => h.elim⟩
/-- sorted(d): its keys, ints, any number of them -/
theorem call_sortedDA (hcalm : X.calm = true) : CallR X (.builtin "sorted") (fun xs H Q => ∃ (a : Addr) (kvs : List (Key × V)) (ks : List Int), xs = [.ref a] ∧ Rd H a (.dK kvs) ∧ kvs.map (·.1) = ks.map Sum.inl ∧ ks.length ≤ 100000 ∧
    ∀ (ys : List Int) (p : Addr), ys.Perm ks → ys.Pairwise (· ≤ ·) → H p = none → Q (.ref p) (upd H p (.lst (ys.map V.int)))) := by
  intro pins s σ H xs us Q I r q
  obtain ⟨a, kvs, ks, ex, hd, hks, h64, q⟩ := q
  subst ex
  obtain ⟨u, eu, rx⟩ := vals1 r
  subst eu
  cases rx
  obtain ⟨z, lo, vs, rel, dd⟩ := dk_rd I.hok hd
  obtain ⟨ep, hat⟩ := dd.dictAt
  have hkeys : vs.map (·.1) = ks.map Sum.inl := rel.keys.symm.trans hks
  have hl : vs.length = ks.length := by
    have e := congrArg List.length hkeys
    rw [List.length_map, List.length_map] at e
    exact e
  have h16 : vs.length ≤ sizeLine := by rw [hl, sizeLine_eq]; omega
  refine Calls.call_function_entry PyProof.Rows.kind_sorted PyProof.Rows.plain_sorted PyProof.Rows.entry_sorted (PyProof.Rows.args_sorted1 _) ?_
  unfold Builtin.«sorted»
  refine wpAny_bind (m := checkCount "sorted" 1 1 _) (wpAny_pure ?_)
  refine wpAny_bind (PySem.W.kdu_collect (A := X.A.in1) (PySem.W.kdl_dict (knd := mixKind X.prog X.w) (kvs := vs) (ep := ep) lo) (I.ok.hd hcalm) hat h16 fun h' tk acc hk hacc => ?_)
  have hal : acc.toList.length = ks.length := by rw [Array.length_toList, hacc.1, hl]
  have hS : IntsAre acc.toList ks := ints_each hal fun j v e => by
    obtain ⟨k, x, e1, e2⟩ := hacc.2 j v (by rw [← Array.getElem?_toList]; exact e)
    have e3 : (vs.map (·.1))[j]? = some k := by rw [List.getElem?_map, e1]; rfl
    rw [hkeys, List.getElem?_map] at e3
    cases e4 : ks[j]? with
    | none => rw [e4] at e3; cases e3
    | some y =>
      rw [e4] at e3
      have e5 : Sum.inl y = k := Option.some.inj e3
      subst e5
      rcases keyIs_shape (show keyIs (Sum.inl y) v = true from e2) with ⟨i, t, ek, ev⟩ | ⟨z, t, ek, ev⟩
      · cases ek
        exact ⟨y, t, rfl, ev⟩
      · cases ek
  have I1 : Inv X pins σ H { s with heap := h', toks := tk } := I.kept hk
  refine wpAny_bind (wpAny_newList ?_ (by rw [hal, sizeLine_eq]; omega))
  have hoL : (h'.push (seqObj "list" acc.toList.toArray 0)).get? h'.objs.size = some (seqObj "list" acc.toList.toArray 0) := Heap.get?_push_size _ rfl
  show wpAny _ _ _ _ _ { s with heap := h'.push (seqObj "list" acc.toList.toArray 0), toks := tk }
  refine wpAny_bind (wpAny_holding (wpAny_call_entry PyProof.Rows.slot_list_sort ⟨_, hoL, rfl⟩ PyProof.Rows.entry_list_sort
    (SrtO.list_sort_ord (s := { s with heap := h'.push (seqObj "list" acc.toList.toArray 0), toks := tk }) SrtO.swo_int hoL (by rw [hal, sizeLine_eq]; omega) (fun h2 => SrtO.ints_sortable hS h2) fun out k1 k2 => ⟨_, rfl, ?_⟩) (PyProof.Rows.args_list_sort _)))
  obtain ⟨g1, g2, g3⟩ := SrtO.ints_out hS k1 k2
  obtain ⟨e', he'⟩ := PyProof.Rows.sortedHeap_at (vs := acc.toList) (out := out.toArray) hoL
  have hlen : ((out.map SrtO.iv).map V.int).length ≤ sizeLine := by
    rw [List.length_map, g2.length_eq, sizeLine_eq]
    omega
  refine wpAny_pure ⟨_, rfl, .ref h'.objs.size, upd H h'.objs.size (.lst ((out.map SrtO.iv).map V.int)), I1.laid (t' := tk) (fun b u e => ?_) (Nat.le_refl _)
    (show ObjOk X.prog X.w _ _ _ (.lst ((out.map SrtO.iv).map V.int)) from ⟨hlen, out, e', vals_of_ints g1, he'⟩), rfl, q _ _ g2 g3 (I1.hok.fresh (Nat.le_refl _))⟩
  have hb : b < h'.objs.size := Heap.lt_size e
  rw [PyProof.Rows.sortedHeap_old (Nat.ne_of_lt hb) (by rw [size_push']; exact Nat.lt_succ_of_lt hb)]
  exact Heap.get?_push_of_some _ e
/-- l.remove(x) over data: the first that is equal goes -/
def rRemD (K : PySem.W.Frag) : V → List V → Hp → VK → Prop := fun x xs H Q => ∃ (l : Addr) (vs : List V) (ds : List PyData) (y : V) (d : PyData) (j : Nat), x = .ref l ∧ xs = [y] ∧ H l = some (.lst vs) ∧ DpAll K H vs ds ∧ Dp K H y d ∧
  PyData.plainAll ds = true ∧ d.plain = true ∧ d.depth ≤ 60 ∧ SeqAt.dataPlace ds d = some j ∧ Q .non (upd H l (.lst (vs.eraseIdx j)))
theorem mt_removeD (hK : X.K = K) (hu : X.A.units + 64 < cLine) : MtR X "list.remove" (rRemD K) := by
  subst hK
  intro pins s σ H x xs v us Q I rx rxs h
  obtain ⟨l, vs, ds, y, d, j, rfl, rfl, hH, ha, hy, p1, p2, p3, hp, q⟩ := h
  cases rx
  obtain ⟨u, rfl, ru⟩ := rxs.one
  obtain ⟨z, its, n, r, hl, e⟩ := I.lstM hH
  obtain ⟨as, rs⟩ := Dp.readsAll I ds vs its ha r
  obtain ⟨bs, ry⟩ := Dp.reads I d y u hy ru
  refine SeqAt.remove_list_data (j := j) ⟨_, e, rfl, _, rfl⟩ (by simpa using rs) ry p1 p2 (by have := Nat.min_le_right (PyData.depthAll ds) d.depth; omega) hp (by rw [List.size_toArray]; omega) ?_
  refine ⟨.non, _, I.lset (its' := its.eraseIdx j) (t' := s.toks) hH e ?_ (r.eraseIdx j) ?_, rfl, q⟩
  · show its.toArray.eraseIdxIfInBounds j = (its.eraseIdx j).toArray
    rw [List.eraseIdxIfInBounds_toArray]
  · have := List.length_eraseIdx_le vs j
    omega
end
theorem pi_enumK {X : Cx} {K : PySem.W.Frag} {e : Expr} {ta : TA} {p pos tpos : Pos} {elts : List Expr} {kk : Nat} (h : X.K = K) (hg : Gl X "enumerate") (hm : X.mg "enumerate" = none) (ha : PA X [e] ta) (hs : starEach [e] X.env = [(false, eval e X.env)] := by rfl) :
    PI X (.Tuple elts kk tpos) (.Call (.Name "enumerate" p) [e] [] pos) (iEnum K ta) := by subst h; exact pi_enum hg hm ha hs
/-- a class, its __init__ with defaults behind what is written -/
structure CsD (P : Program) (w : World) (K : PySem.W.Frag) (mg : Str → Option Value) (base : Heap) (x : Str) (C : Addr) (k : Nat) (ps : List Str) (dvs : List V) (sp : Sp) : Prop where
  ex : ∃ (f : Addr) (fd : FuncData) (ds : List Value), FnOk P w K mg base CX0 k f fd ps sp ∧ Mk K C f ∧ Binds K fd ps ds ∧ Vals dvs ds
  mg : mg x = some (.ref C)
section
variable {X : Cx} {k : Nat} {C : Addr} {ps : List Str} {dvs : List V} {sp : Sp} {x : Str} {p pos : Pos} {e : Expr} {es : List Expr} {t : TA}
theorem pe_mkd (L : CsD X.prog X.w X.K X.mg X.base x C k ps dvs sp) (hr : Room (k + 1) X.A) (hg : Gl X x) (ha : PA X (e :: es) t)
    (hdb : (x == ("__debug__" : Str)) = false := by decide) (he : starEach (e :: es) X.env = (false, eval e X.env) :: starEach es X.env := by rfl) (hpl : (backTo pos (starEach es X.env)).any (·.1) = false := by rfl) :
    PE X (.Call (.Name x p) (e :: es) [] pos) (tMake C sp dvs E0 t) := by
  obtain ⟨f, fd, ds, F, h1, h3, h4⟩ := L.ex
  exact pe_make h1 F hr hg L.mg h3 h4 pass0 ha hdb he hpl
end
/-- a def as it stands behind the top, whatever its defaults -/
structure FunX (K : PySem.W.Frag) (x qual : Str) (st : Stmt) (f : Addr) (fd : FuncData) : Prop where
  ex : ∃ (oc : Value) (od : Option Addr) (dV kV doc pm : Value) (an : Option Addr) (cdv ct : Value) (osl : Array (Option Value)),
    fd = PySem.W.fnOf x qual (defArgs st) (defBody st) (defScope st) dV kV doc pm an cdv ct ∧ K.lookup f = some ⟨oc, od, .func fd, osl⟩ ∧ PySem.W.codeIn K cdv qual = true
section
variable {P : Program} {w : World} {K : PySem.W.Frag} {mg : Str → Option Value} {base : Heap} {x qual : Str} {st : Stmt} {f : Addr} {fd : FuncData}
theorem FunX.ok {N ps : List Str} {k : Nat} {sp : Sp} (F : FunX K x qual st f fd) (S : FnScope N ps (defScope st)) (len : ∀ vs H Q E, sp vs H Q E → vs.length = ps.length)
    (hbody : ∀ (cdv : Value) (A : Around) (outer : List Env) (s : Shared) (H : Hp) (vs : List V) (Q : VK) (E : XK), Room k (A.deeper (envOfC qual (defScope st) s.heap.objs.size f cdv)) → sp vs H Q E →
      ∃ t, PSs (cxOf CX0 P w K mg base N qual (defScope st) f cdv A outer s H E).nox (defBody st) t ∧ t { nx := fun _ H' => Q .non H', rt := Q } (start N vs) H) : FnOk P w K mg base CX0 (k + 1) f fd ps sp := by
  obtain ⟨oc, od, dV, kV, doc, pm, an, cdv, ct, osl, rfl, lk, hcd⟩ := F.ex
  refine fn_of lk hcd S len fun A outer s H vs Q E hr hsp => ?_
  obtain ⟨t, h, q⟩ := hbody cdv A outer s H vs Q E hr hsp
  exact ⟨t, h.nox, q⟩
end
theorem _root_.L2.FunD.x {K : PySem.W.Frag} {x qual : Str} {st : Stmt} {dvs : List V} {kws : List (Str × V)} {f : Addr} {fd : FuncData} (F : FunD K x qual (defArgs st) (defBody st) (defScope st) dvs kws f fd) : FunX K x qual st f fd := by
  obtain ⟨oc, od, dV, kV, doc, pm, an, cdv, ct, osl, e, lk, hcd, _, _⟩ := F.ex
  exact ⟨oc, od, dV, kV, doc, pm, an, cdv, ct, osl, e, lk, hcd⟩
end Y

/-! K51M: the disk as a plain record. -/
namespace K51
open Y
abbrev Sec := List Int
def blank : Sec := List.replicate 16 0
structure DS where
  sec : List (Int × Sec)
  wai : List (Int × Sec)
  left : Option Int
  rows : List (Int × Int)
  cut : Bool
def DS.whole (d : DS) (n : Int) : Sec := (look d.sec n).getD blank
def ofN (wai : List (Int × Sec)) (n : Int) : List Sec := (wai.filter fun p => decide (p.1 = n)).map (·.2)
def clip (z : Int) : Nat := (min 16 (max 0 z)).toNat
/-- one sector behind a crash -/
def torn (wai : List (Int × Sec)) (sec : List (Int × Sec)) (r : (Int × Int) × Int) : List (Int × Sec) :=
  if 0 ≤ r.1.1 ∧ r.1.1 < ((ofN wai r.2).length : Int) then put sec r.2 (((ofN wai r.2).getD r.1.1.toNat []).take (clip r.1.2) ++ ((look sec r.2).getD blank).drop (clip r.1.2)) else sec
def crashed (sec wai : List (Int × Sec)) (rows : List (Int × Int)) : List (Int × Sec) := (rows.zip (nums (wai.map (·.1)))).foldl (torn wai) sec
def DS.crash (d : DS) (rows : List (Int × Int)) : DS := { d with sec := crashed d.sec d.wai rows, wai := [] }
def DS.counts (d : DS) : DS := match d.left with
  | none => d
  | some l => if d.cut = true then d else if l - 1 ≤ 0 then { (({ d with left := some (l - 1) } : DS).crash d.rows) with cut := true } else { d with left := some (l - 1) }
def DS.write (d : DS) (n : Int) (x : Sec) : DS := let e := d.counts; if e.cut = true then e else { e with wai := e.wai ++ [(n, x)] }
def synS (sec wai : List (Int × Sec)) : List (Int × Sec) := wai.foldl (fun s p => put s p.1 p.2) sec
def DS.sync (d : DS) : DS := let e := d.counts; if e.cut = true then e else { e with sec := synS e.sec e.wai, wai := [] }
def lastOf (wai : List (Int × Sec)) (n : Int) (x : Sec) : Sec := wai.foldl (fun f p => if p.1 = n then p.2 else f) x
def DS.read (d : DS) (n : Int) : Sec := lastOf d.wai n (d.whole n)
/-- the sectors that are told, by ascending numbers -/
def told (sec : List (Int × Sec)) : List (Int × Sec) := ((nums (sec.map (·.1))).map fun n => (n, (look sec n).getD blank)).filter fun p => decide (p.2 ≠ blank)
def ofRows (xs : List (Int × Sec)) : List (Int × Sec) := xs.foldl (fun s p => put s p.1 p.2) []

/-! ### the told sectors make the same ones -/
theorem told_nodup (sec : List (Int × Sec)) : (told sec).Pairwise (fun a b => a.1 < b.1) := by
  unfold told
  refine List.Pairwise.filter _ ?_
  rw [List.pairwise_map]
  exact asc_nums _
theorem ofRows_asc : ∀ (xs : List (Int × Sec)) (acc : List (Int × Sec)), (acc ++ xs).Pairwise (fun a b => a.1 < b.1) → xs.foldl (fun s p => put s p.1 p.2) acc = acc ++ xs
  | [], acc, _ => by simp
  | x :: xs, acc, h => by
    rw [List.foldl_cons]
    have hn : (acc.any fun p => decide (p.1 = x.1)) = false := by
      rw [List.any_eq_false]
      intro p hp
      have ⟨_, _, h3⟩ := List.pairwise_append.mp h
      have := h3 p hp x List.mem_cons_self
      simp
      omega
    have e : put acc x.1 x.2 = acc ++ [x] := by
      unfold put
      rw [hn]
      rfl
    rw [e, ofRows_asc xs (acc ++ [x]) (by simpa using h)]
    simp
theorem nums_asc : ∀ {xs : List Int}, xs.Pairwise (· < ·) → nums xs = xs := fun {xs} h => asc_same (asc_nums xs) h fun k => mem_nums k xs
theorem told_told (sec : List (Int × Sec)) : told (ofRows (told sec)) = told sec := by
  have h := told_nodup sec
  have e : ofRows (told sec) = told sec := by
    have := ofRows_asc (told sec) [] (by simpa using h)
    simpa [ofRows] using this
  rw [e]
  have nd : ((told sec).map (·.1)).Nodup := by
    rw [List.nodup_iff_pairwise_ne, List.pairwise_map]
    exact h.imp fun q => by omega
  show ((nums ((told sec).map (·.1))).map fun n => (n, (look (told sec) n).getD blank)).filter _ = _
  rw [nums_asc (by rw [List.pairwise_map]; exact h), List.map_map]
  have e2 : (told sec).map ((fun n => (n, (look (told sec) n).getD blank)) ∘ (·.1)) = told sec := by
    have : ∀ p ∈ told sec, ((fun n => (n, (look (told sec) n).getD blank)) ∘ (·.1)) p = p := fun p hp => by
      show (p.1, (look (told sec) p.1).getD blank) = p
      rw [look_of_mem nd hp]
      rfl
    rw [List.map_congr_left this]
    simp
  rw [e2]
  refine List.filter_eq_self.mpr fun p hp => ?_
  exact (List.mem_filter.mp hp).2
end K51

/-! K51D: the text by places; the class Disk. -/

namespace K51
open PySem PySem.Spec PyProof.Rows L2 Y
def top (i : Nat) : Stmt := PySem.Challenge.pw_stonestairs_k68_whole_pages_in_memory.main.body.getD i (.Pass ⟨0, 0, 0, 0⟩)
abbrev rSec : Rp (Int × Sec) := rP rI (rL rI)
theorem mSec : Mn (rL rI) := mI.l
theorem mRow : Mn rSec := mI.p mI.l
def lv : Option Int → V
  | none => .non
  | some l => .int l
/-- the attributes -/
def df (s wl : Addr) (l : V) (rl : Addr) (c : Bool) : List (Str × V) := [("sectors", .ref s), ("waiting", .ref wl), ("left", l), ("rows", .ref rl), ("is_cut", .bl c)]
section
variable {s wl rl : Addr} {l : V} {c : Bool}
theorem df_sectors : (df s wl l rl c).lookup ("sectors" : Str) = some (.ref s) := lk_hit
theorem df_waiting : (df s wl l rl c).lookup ("waiting" : Str) = some (.ref wl) := (lk_miss (by decide +kernel)).trans lk_hit
theorem df_left : (df s wl l rl c).lookup ("left" : Str) = some l := (lk_miss (by decide +kernel)).trans ((lk_miss (by decide +kernel)).trans lk_hit)
theorem df_rows : (df s wl l rl c).lookup ("rows" : Str) = some (.ref rl) := (lk_miss (by decide +kernel)).trans ((lk_miss (by decide +kernel)).trans ((lk_miss (by decide +kernel)).trans lk_hit))
theorem df_cut : (df s wl l rl c).lookup ("is_cut" : Str) = some (.bl c) := (lk_miss (by decide +kernel)).trans ((lk_miss (by decide +kernel)).trans ((lk_miss (by decide +kernel)).trans ((lk_miss (by decide +kernel)).trans lk_hit)))
theorem df_no {m : Str} (h1 : (m == ("sectors" : Str)) = false) (h2 : (m == ("waiting" : Str)) = false) (h3 : (m == ("left" : Str)) = false) (h4 : (m == ("rows" : Str)) = false) (h5 : (m == ("is_cut" : Str)) = false) : (df s wl l rl c).lookup m = none :=
  (lk_miss h1).trans ((lk_miss h2).trans ((lk_miss h3).trans ((lk_miss h4).trans ((lk_miss h5).trans rfl))))
theorem df_pw (w' : Addr) : putF "waiting" (.ref w') (df s wl l rl c) = df s w' l rl c := (pf_miss (by decide +kernel)).trans (congrArg _ pf_hit)
theorem df_pl (l' : V) : putF "left" l' (df s wl l rl c) = df s wl l' rl c := (pf_miss (by decide +kernel)).trans (congrArg _ ((pf_miss (by decide +kernel)).trans (congrArg _ pf_hit)))
theorem df_pr (r' : Addr) : putF "rows" (.ref r') (df s wl l rl c) = df s wl l r' c := (pf_miss (by decide +kernel)).trans (congrArg _ ((pf_miss (by decide +kernel)).trans (congrArg _ ((pf_miss (by decide +kernel)).trans (congrArg _ pf_hit)))))
theorem df_pc (c' : Bool) : putF "is_cut" (.bl c') (df s wl l rl c) = df s wl l rl c' := (pf_miss (by decide +kernel)).trans (congrArg _ ((pf_miss (by decide +kernel)).trans (congrArg _ ((pf_miss (by decide +kernel)).trans (congrArg _ ((pf_miss (by decide +kernel)).trans (congrArg _ pf_hit)))))))
end
/-- a Disk stands at p: its dict at s, its list at wl are its own; all else is data -/
structure DiskAt (C : Addr) (G H : Hp) (p s wl : Addr) (d : DS) : Prop where
  ob : ∃ dx rl, H p = some (.ins C dx (df s wl (lv d.left) rl d.cut)) ∧ rL (rP rI rI) G (.ref rl) d.rows
  sec : ∃ kvs, H s = some (.dK kvs) ∧ DRel (rL rI) G kvs d.sec
  wai : ∃ ws, H wl = some (.lst ws) ∧ Paired (rSec G) ws d.wai
  gp : G p = none
  gs : G s = none
  gw : G wl = none
structure Fit (d : DS) : Prop where
  nd : (d.sec.map (·.1)).Nodup
  sz : d.sec.length + d.wai.length ≤ 60000
  rz : d.rows.length ≤ 60000
  ls : ∀ x ∈ d.sec, x.2.length = 16
  lw : ∀ x ∈ d.wai, x.2.length = 16
  wz : d.wai.length ≤ 60
def DOwn (p s wl : Addr) : Addr → Prop := fun b => b = p ∨ b = s ∨ b = wl
section
variable {C : Addr} {G H G' H' : Hp} {p s wl : Addr} {d : DS}
theorem DiskAt.ps (h : DiskAt C G H p s wl d) : p ≠ s := by
  obtain ⟨dx, rl, h1, _⟩ := h.ob
  obtain ⟨kvs, h2, _⟩ := h.sec
  exact ne_of h1 h2 (fun e => nomatch e)
theorem DiskAt.pw (h : DiskAt C G H p s wl d) : p ≠ wl := by
  obtain ⟨dx, rl, h1, _⟩ := h.ob
  obtain ⟨kvs, h2, _⟩ := h.wai
  exact ne_of h1 h2 (fun e => nomatch e)
theorem DiskAt.sw (h : DiskAt C G H p s wl d) : s ≠ wl := by
  obtain ⟨kvs, h1, _⟩ := h.sec
  obtain ⟨ws, h2, _⟩ := h.wai
  exact ne_of h1 h2 (fun e => nomatch e)
theorem DiskAt.stp {O : Addr → Prop} (h : DiskAt C G H p s wl d) (e : Stp O G H G' H') (n : ∀ b, DOwn p s wl b → ¬ O b) : DiskAt C G' H' p s wl d := by
  obtain ⟨dx, rl, h1, r1⟩ := h.ob
  obtain ⟨kvs, h2, r2⟩ := h.sec
  obtain ⟨ws, h3, r3⟩ := h.wai
  exact ⟨⟨dx, rl, e.kp _ _ h1 (n p (.inl rfl)), (mI.p mI).l _ _ _ _ e.gg r1⟩, ⟨kvs, e.kp _ _ h2 (n s (.inr (.inl rfl))), r2.mono mSec e.gg⟩, ⟨ws, e.kp _ _ h3 (n wl (.inr (.inr rfl))), mRow.ps e.gg r3⟩,
    e.nw p (ne_none h1) h.gp, e.nw s (ne_none h2) h.gs, e.nw wl (ne_none h3) h.gw⟩
end

/-- the text's facts -/
structure Txt (K : PySem.W.Frag) (mg : Str → Option Value) (C : Addr) (tS : Tok) : Prop where
  cl : Cls K C
  n1 : NoAttr K C "sectors"
  n2 : NoAttr K C "waiting"
  n3 : NoAttr K C "left"
  n4 : NoAttr K C "rows"
  n5 : NoAttr K C "is_cut"
  c_SECTOR : mg "SECTOR" = some (.int 16 tS)
  b_list : mg "list" = none
  b_len : mg "len" = none
  b_min : mg "min" = none
  b_max : mg "max" = none
  b_sorted : mg "sorted" = none
  b_set : mg "set" = none
  b_zip : mg "zip" = none
  b_range : mg "range" = none
  b_abs : mg "abs" = none
  b_int : mg "int" = none
  b_dict : mg "dict" = none

/-! ### promises -/
def spWhole (C : Addr) : Sp := fun vs H Q _ => ∃ (G : Hp) (p s wl : Addr) (d : DS) (n : Int), vs = [.ref p, .int n] ∧ Same G H ∧ DiskAt C G H p s wl d ∧
  ∀ q G' H', Stp O0 G H G' H' → H q = none → G' q = none → H' q = some (rowI (d.whole n)) → Q (.ref q) H'
def spRead (C : Addr) : Sp := fun vs H Q _ => ∃ (G : Hp) (p s wl : Addr) (d : DS) (n : Int), vs = [.ref p, .int n] ∧ Same G H ∧ DiskAt C G H p s wl d ∧
  ∀ q G' H', Stp O0 G H G' H' → H q = none → G' q = none → H' q = some (rowI (d.read n)) → Q (.ref q) H'
section
variable {P : Program} {w : World} {K : PySem.W.Frag} {mg : Str → Option Value} {base : Heap} {C : Addr} {tS : Tok}
abbrev s_Disk_whole : Stmt := inClass (top 3) 1
theorem sc_Disk_whole : FnScope ["self", "number"] ["self", "number"] (defScope s_Disk_whole) := ⟨rfl, rfl, rfl, by decide +kernel, rfl, by decide +kernel, by decide +kernel⟩
theorem ok_whole {f : Addr} {fd : FuncData} (F : Fun K "whole" "Disk.whole" s_Disk_whole f fd) (T : Txt K mg C tS) : FnOk P w K mg base CX0 1 f fd ["self", "number"] (spWhole C) := by
  refine F.ok sc_Disk_whole (fun vs H Q E h => ?_) (fun cdv A outer st H vs Q E hr h => ?_)
  · obtain ⟨G, p, s, wl, d, n, rfl, _⟩ := h
    rfl
  · obtain ⟨G, p, s, wl, d, n, rfl, gh, D, k⟩ := h
    have nd := sc_Disk_whole.nd
    have hu := hu_of hr
    refine ⟨_, (pss_one (ps_ret (pe_callTy call_list_of (by rfl) T.b_list (by decide +kernel) (pa_cons (pe_dget2 hu (pe_fld (pv 0) rfl) (pv 1) (pe_op op_rep (pe_lst (pa_cons pe_int pa_nil)) (pe_glob (v := .int 16) rfl T.c_SECTOR ⟨_, rfl⟩)) ⟨rfl, rfl, rfl, rfl⟩) pa_nil)))), ?_⟩
    obtain ⟨dx, rl, h1, r1⟩ := D.ob
    obtain ⟨kvs, h2, r2⟩ := D.sec
    refine ⟨_, rfl, p, C, dx, _, _, rfl, h1, T.cl, T.n1, df_sectors, s, rfl, .inl ⟨kvs, .inl h2⟩, _, rfl, (by show 1 ≤ sizeLine; decide), fun q0 n0 => ?_⟩
    refine ⟨q0, 16, _, rfl, rfl, upd_same, by decide, by decide, (by show 1 * 16 ≤ sizeLine; decide), fun q1 n1 => ?_⟩
    generalize e0 : upd H q0 _ = H1 at n1 ⊢
    obtain ⟨s1, _, _, _, _⟩ := own_of (Stp.refl (O := O0) gh) n0 e0
    generalize e1 : upd H1 q1 _ = H2
    obtain ⟨s2, f2, _, _, _⟩ := own_of s1 n1 e1
    have h2' := s2.kp s _ h2 (fun z => z)
    cases e : look d.sec n with
    | none =>
      refine ⟨none, ?_, q1, _, rfl, .inl (SqL.of f2), fun l nl => ?_⟩
      · have := DGet.k (k := Sum.inl n) h2'
        rw [r2.look_none e] at this
        exact this
      · refine k l G _ (s2.own nl) (s2.fr nl) (gn_of s2.gh nl) ?_
        unfold DS.whole
        rw [e]
        exact upd_same
    | some x =>
      obtain ⟨v, hv, hx⟩ := r2.look_some e
      obtain ⟨a, rfl, ha⟩ := rLI hx
      refine ⟨some (.ref a), ?_, a, _, rfl, .inl (SqL.of (s2.kp a _ (gh _ _ ha) fun z => z)), fun l nl => ?_⟩
      · have := DGet.k (k := Sum.inl n) h2'
        rw [hv] at this
        exact this
      · refine k l G _ (s2.own nl) (s2.fr nl) (gn_of s2.gh nl) ?_
        unfold DS.whole
        rw [e]
        exact upd_same
end
end K51

/-! K51E: read, cut_in, crash. -/
namespace K51
open PySem PySem.Spec PyProof.Rows L2 Y
theorem lastOf_more {wai : List (Int × Sec)} {i : Nat} {x : Int × Sec} (h : wai[i]? = some x) (n : Int) (z : Sec) : lastOf (wai.take (i + 1)) n z = if x.1 = n then x.2 else lastOf (wai.take i) n z := by
  unfold lastOf
  rw [List.take_add_one, h, List.foldl_append]
  rfl
section
variable {P : Program} {w : World} {K : PySem.W.Frag} {mg : Str → Option Value} {base : Heap} {C : Addr} {tS : Tok}
abbrev s_Disk_read : Stmt := inClass (top 3) 2
theorem sc_Disk_read : FnScope ["self", "number", "found", "at", "content"] ["self", "number"] (defScope s_Disk_read) := ⟨rfl, rfl, rfl, by decide +kernel, rfl, by decide +kernel, by decide +kernel⟩
theorem ok_read {f : Addr} {fd : FuncData} (F : Fun K "read" "Disk.read" s_Disk_read f fd) (T : Txt K mg C tS) (LW : MtC P w K mg base C "whole" 1 ["self", "number"] (spWhole C)) : FnOk P w K mg base CX0 2 f fd ["self", "number"] (spRead C) := by
  refine F.ok sc_Disk_read (fun vs H Q E h => ?_) (fun cdv A outer st H vs Q E hr h => ?_)
  · obtain ⟨G, p, s, wl, d, n, rfl, _⟩ := h
    rfl
  · obtain ⟨G, p, s, wl, d, n, rfl, gh, D, k⟩ := h
    have nd := sc_Disk_read.nd
    refine ⟨_, (pss_cons (ps_set (i := 2) nd rfl (Or.inl rfl) (pe_mtc (pv 0) LW (hr.mono (by decide)) (pa_cons (pv 1) pa_nil)))
    (pss_cons (ps_for PassesOwn.never rfl (pi_list (pe_fld (pv 0) rfl)) (pg_tup rfl (pgs_cons (pg_name (i := 3) nd rfl (Or.inl rfl)) (pgs_cons (pg_name (i := 4) nd rfl (Or.inl rfl)) pgs_nil)))
    (pss_one (ps_if (pt_cmpR op_eq (pv 3) (pv 1) (nomark _))
    (pss_one (ps_set (i := 2) nd rfl (Or.inl rfl) (pe_callTy call_list_of (by rfl) T.b_list (by decide +kernel) (pa_cons (pv 4) pa_nil))))
    pss_nil)))
    (pss_one (ps_ret (pv 2))))), ?_⟩
    obtain ⟨dx, rl, h1, _⟩ := id D.ob
    obtain ⟨ws, h3, r3⟩ := id D.wai
    refine ⟨_, rfl, p, dx, _, rfl, h1, df_no (by decide +kernel) (by decide +kernel) (by decide +kernel) (by decide +kernel) (by decide +kernel), _, rfl, G, p, s, wl, d, n, rfl, gh, D, fun a G1 H1 s1 na ga fa => ?_⟩
    have h1' := s1.kp p _ h1 fun z => z
    have h3' := s1.kp wl _ h3 fun z => z
    refine ⟨_, rfl, p, C, dx, _, _, rfl, h1', T.cl, T.n2, df_waiting, wl, rfl, ⟨_, SqL.of h3'⟩, for_list (K := K) (a := wl) (xs := ws)
      (fun i σ H2 => ∃ a v3 v4 G2, σ = [some (.ref p), some (.int n), some (.ref a), v3, v4] ∧ Stp O0 G H G2 H2 ∧ H a = none ∧ G2 a = none ∧ H2 a = some (rowI (lastOf (d.wai.take i) n (d.whole n))))
      ⟨a, _, _, G1, rfl, s1, na, ga, fa⟩ (fun i σ H2 _ ⟨_, _, _, _, _, s2, _⟩ => SqL.of (s2.kp wl _ h3 fun z => z)) ?_ ?_⟩
    · rintro i y σ H2 hi ⟨a, v3, v4, G2, rfl, s2, na, ga, fa⟩
      obtain ⟨x, hx, t, u, c0, rfl, ht, hu, hc⟩ := pd_get r3 hi
      cases hu
      obtain ⟨c, rfl, hcc⟩ := rLI hc
      have hh := fun b o (e : G b = some o) => s2.kp b o (gh b o e) fun z => z
      refine g_pair (hh _ _ ht) ⟨_, rfl, _, rfl, rfl, _, rfl, if_int (fun e => ?_) (fun e => ?_)⟩
      · refine ⟨_, rfl, c, _, rfl, .inl (SqL.of (hh _ _ hcc)), fun l nl => ?_⟩
        generalize e0 : upd H2 l _ = H3
        obtain ⟨s3, f3, _, g3, z3⟩ := own_of s2 nl e0
        refine ⟨l, _, _, G2, rfl, s3, z3, g3, ?_⟩
        rw [lastOf_more hx, if_pos e]
        exact f3
      · refine ⟨a, _, _, G2, rfl, s2, na, ga, ?_⟩
        rw [lastOf_more hx, if_neg e]
        exact fa
    · rintro σ H2 ⟨a, v3, v4, G2, rfl, s2, na, ga, fa⟩
      rw [pd_len r3, List.take_of_length_le (Nat.le_refl _)] at fa
      exact ⟨_, rfl, k a G2 H2 s2 na ga fa⟩
abbrev s_Disk_cut_in : Stmt := inClass (top 3) 3
theorem sc_Disk_cut_in : FnScope ["self", "many", "rows"] ["self", "many", "rows"] (defScope s_Disk_cut_in) := ⟨rfl, rfl, rfl, by decide +kernel, rfl, by decide +kernel, by decide +kernel⟩
def DS.cutIn (d : DS) (m : Int) (rows : List (Int × Int)) : DS := if d.cut = true then d else { d with left := some m, rows := rows }
def spCutIn (C : Addr) : Sp := fun vs H Q _ => ∃ (G : Hp) (p s wl : Addr) (d : DS) (m : Int) (a : Addr) (rows : List (Int × Int)), vs = [.ref p, .int m, .ref a] ∧ Same G H ∧ DiskAt C G H p s wl d ∧ LstAt (rP rI rI) G H a rows ∧
  ∀ G' H', Stp (DOwn p s wl) G H G' H' → DiskAt C G' H' p s wl (d.cutIn m rows) → Q .non H'
theorem ok_cut_in {f : Addr} {fd : FuncData} (F : Fun K "cut_in" "Disk.cut_in" s_Disk_cut_in f fd) (T : Txt K mg C tS) : FnOk P w K mg base CX0 1 f fd ["self", "many", "rows"] (spCutIn C) := by
  refine F.ok sc_Disk_cut_in (fun vs H Q E h => ?_) (fun cdv A outer st H vs Q E hr h => ?_)
  · obtain ⟨G, p, s, wl, d, m, a, rows, rfl, _⟩ := h
    rfl
  · obtain ⟨G, p, s, wl, d, m, a, rows, rfl, gh, D, hrows, k⟩ := h
    have nd := sc_Disk_cut_in.nd
    refine ⟨_, (pss_one (ps_if (pt_not (pt_val (pe_fld (pv 0) rfl)))
    (pss_cons (ps_fld (pv 0) (pv 1) rfl)
    (pss_one (ps_fld (pv 0) (pe_callTy call_list_of (by rfl) T.b_list (by decide +kernel) (pa_cons (pv 2) pa_nil)) rfl)))
    pss_nil)), ?_⟩
    obtain ⟨dx, rl, h1, r1⟩ := id D.ob
    obtain ⟨kvs, h2, r2⟩ := id D.sec
    obtain ⟨ws, h3, r3⟩ := id D.wai
    obtain ⟨rvs, h4, r4⟩ := hrows
    refine ⟨_, rfl, p, C, dx, _, _, rfl, h1, T.cl, T.n5, df_cut, _, rfl, if_nbool (fun e => ?_) (fun e => ?_)⟩
    · refine ⟨_, rfl, _, rfl, p, C, dx, _, rfl, h1, T.cl, T.n3, (by show 5 < 1000; decide), ?_⟩
      rw [df_pl]
      generalize e1 : upd H p _ = H1
      obtain ⟨s1, f1, k1⟩ := wr_of (Stp.refl (O := DOwn p s wl) gh) h1 D.gp (.inl (.inl rfl)) e1
      have hpa : a ≠ p := (ne_of h1 h4 fun z => nomatch z).symm
      refine ⟨_, rfl, a, _, rfl, .inl (SqL.of (k1 a _ hpa h4)), fun l nl => ?_⟩
      generalize e2 : upd H1 l _ = H2
      obtain ⟨G2, s2, g2, gg2, k2, gk2⟩ := data_of s1 nl e2
      refine ⟨_, rfl, p, C, dx, _, rfl, k2 _ _ f1, T.cl, T.n4, (by show 5 < 1000; decide), ?_⟩
      rw [df_pr]
      have npl : p ≠ l := ne_of_none f1 nl
      have nsl : s ≠ l := ne_of_none (k1 s _ D.ps.symm h2) nl
      have nwl : wl ≠ l := ne_of_none (k1 wl _ D.pw.symm h3) nl
      have gp2 : G2 p = none := by rw [gk2 p npl]; exact D.gp
      generalize e3 : upd H2 p _ = H3
      obtain ⟨s3, f3, k3⟩ := wr_of s2 (k2 _ _ f1) gp2 (.inl (.inl rfl)) e3
      have ed : d.cutIn m rows = { d with left := some m, rows := rows } := by
        unfold DS.cutIn
        rw [e]
        rfl
      refine k G2 H3 s3 ?_
      rw [ed]
      exact ⟨⟨dx, l, f3, l, _, rfl, g2, (mI.p mI).ps gg2 r4⟩, ⟨kvs, k3 _ _ D.ps.symm (k2 _ _ (k1 _ _ D.ps.symm h2)), r2.mono mSec gg2⟩, ⟨ws, k3 _ _ D.pw.symm (k2 _ _ (k1 _ _ D.pw.symm h3)), mRow.ps gg2 r3⟩,
        gp2, by rw [gk2 s nsl]; exact D.gs, by rw [gk2 wl nwl]; exact D.gw⟩
    · have ed : d.cutIn m rows = d := by
        unfold DS.cutIn
        rw [e]
        rfl
      refine k G H (Stp.refl gh) ?_
      rw [ed]
      exact D
end
end K51

/-! K51F: crash. -/
namespace K51
open PySem PySem.Spec PyProof.Rows L2 Y
theorem clip_eq (z : Int) : (if (if z > 0 then z else 0) < 16 then (if z > 0 then z else 0) else 16) = ((clip z : Nat) : Int) := by
  unfold clip
  simp only [Int.min_def, Int.max_def]
  by_cases h : z > 0
  · rw [if_pos h]
    by_cases h2 : z < 16
    · rw [if_pos h2, if_pos (by omega : (0 : Int) ≤ z), if_neg (by omega)]
      omega
    · rw [if_neg h2, if_pos (by omega : (0 : Int) ≤ z)]
      split <;> omega
  · rw [if_neg h, if_pos (by omega)]
    split <;> split <;> omega
theorem ofN_more {wai : List (Int × Sec)} {i : Nat} {x : Int × Sec} (h : wai[i]? = some x) (n : Int) : ofN (wai.take (i + 1)) n = if x.1 = n then ofN (wai.take i) n ++ [x.2] else ofN (wai.take i) n := by
  unfold ofN
  rw [List.take_add_one, h, List.filter_append, List.map_append]
  by_cases e : x.1 = n
  · rw [if_pos e]
    simp [e]
  · rw [if_neg e]
    simp [e]
theorem torn_nd {wai sec : List (Int × Sec)} {r : (Int × Int) × Int} (h : (sec.map (·.1)).Nodup) : ((torn wai sec r).map (·.1)).Nodup := by
  unfold torn
  split
  · exact put_nodup _ _ _ h
  · exact h
theorem torn_len (wai sec : List (Int × Sec)) (r : (Int × Int) × Int) : (torn wai sec r).length ≤ sec.length + 1 := by
  unfold torn
  split
  · exact put_len _ _ _
  · omega
theorem clip_le (z : Int) : clip z ≤ 16 := by
  unfold clip
  simp only [Int.min_def, Int.max_def]
  split <;> split <;> omega
theorem ofN_len {wai : List (Int × Sec)} (h : ∀ x ∈ wai, x.2.length = 16) {n : Int} : ∀ y ∈ ofN wai n, y.length = 16 := fun y hy => by
  obtain ⟨x, hx, e⟩ := List.mem_map.mp hy
  rw [← e]
  exact h x (List.mem_filter.mp hx).1
theorem whole_len {d : DS} (h : ∀ x ∈ d.sec, x.2.length = 16) (n : Int) : (d.whole n).length = 16 := by
  unfold DS.whole
  cases e : look d.sec n with
  | none => rfl
  | some x => exact h _ (look_some_mem e)
def spCrash (C : Addr) : Sp := fun vs H Q _ => ∃ (G : Hp) (p s wl : Addr) (d : DS) (a : Addr) (rows : List (Int × Int)), vs = [.ref p, .ref a] ∧ Same G H ∧ DiskAt C G H p s wl d ∧ Fit d ∧ LstAt (rP rI rI) G H a rows ∧ a ≠ wl ∧
  ∀ w' G' H', Stp (DOwn p s wl) G H G' H' → DiskAt C G' H' p s w' (d.crash rows) → H w' = none → Q .non H'
section
variable {P : Program} {w : World} {K : PySem.W.Frag} {mg : Str → Option Value} {base : Heap} {C : Addr} {tS : Tok}
abbrev s_Disk_crash : Stmt := inClass (top 3) 7
theorem sc_Disk_crash : FnScope ["self", "rows", "numbers", "number", "content", "writes", "which", "size", "at"] ["self", "rows"] (defScope s_Disk_crash) := ⟨rfl, rfl, rfl, by decide +kernel, rfl, by decide +kernel, by decide +kernel⟩
/-- what stands behind i rows of a crash -/
structure CInv (C : Addr) (G H : Hp) (p s wl : Addr) (d : DS) (a N1 dx rl : Addr) (ws rvs : List V) (rows : List (Int × Int)) (ns : List Int) (i : Nat) (H5 : Hp) : Prop where
  ex : ∃ G5 kvs5, Stp (DOwn p s wl) G H G5 H5 ∧ H5 s = some (.dK kvs5) ∧ DRel (rL rI) G5 kvs5 (((rows.zip ns).take i).foldl (torn d.wai) d.sec) ∧ G5 N1 = none
  ob : H5 p = some (.ins C dx (df s wl (lv d.left) rl d.cut))
  wa : H5 wl = some (.lst ws)
  ro : H5 a = some (.lst rvs)
  nu : H5 N1 = some (rowI ns)
  nd : ((((rows.zip ns).take i).foldl (torn d.wai) d.sec).map (·.1)).Nodup
  le : (((rows.zip ns).take i).foldl (torn d.wai) d.sec).length ≤ d.sec.length + i
  l6 : ∀ x ∈ ((rows.zip ns).take i).foldl (torn d.wai) d.sec, x.2.length = 16
theorem ok_crash {f : Addr} {fd : FuncData} (F : Fun K "crash" "Disk.crash" s_Disk_crash f fd) (T : Txt K mg C tS) (L_Disk_whole : MtC P w K mg base C "whole" 1 ["self", "number"] (spWhole C)) : FnOk P w K mg base CX0 2 f fd ["self", "rows"] (spCrash C) := by
  refine F.ok sc_Disk_crash (fun vs H Q E h => ?_) (fun cdv A outer st H vs Q E hr h => ?_)
  · obtain ⟨G, p, s, wl, d, a, rows, rfl, _⟩ := h
    rfl
  · obtain ⟨G, p, s, wl, d, a, rows, rfl, gh, D, fit, hrows, aw, k⟩ := h
    have nd := sc_Disk_crash.nd
    have hu := hu_of hr
    refine ⟨_, (pss_cons (ps_set (i := 2) nd rfl (Or.inl rfl) (pe_callB (cr_sortedSetK (w := w) rfl rfl) (by rfl) T.b_sorted (by decide +kernel) (pa_cons (pe_callTy (cr_setIK (K := K) (w := w) rfl rfl rfl) (by rfl) T.b_set (by decide +kernel) (pa_cons (pe_lc (own := [("number", 3), ("content", 4)]) rfl nd (pi_listK (K := K) rfl (pe_fldK (K := K) rfl (pv 0) rfl)) (blkOk_by (own := [("number", 3), ("content", 4)]) (N := ["self", "rows", "numbers", "number", "content", "writes", "which", "size", "at"]) (sc := defScope s_Disk_crash) (by decide +kernel)) (fun _ _ _ _ _ => (pg_tupK (K := K) (n := 2) rfl rfl (pgs_cons (pg_name (i := 3) nd rfl (Or.inl rfl)) (pgs_cons (pg_name (i := 4) nd rfl (Or.inl rfl)) pgs_nil)))) (fun _ _ _ _ _ => pts_nil) (fun _ _ _ _ _ => (pv 3))) pa_nil)) pa_nil)))
    (pss_cons (ps_for PassesOwn.never rfl (pi_zip rfl T.b_zip (pa_cons (pv 1) (pa_cons (pv 2) pa_nil))) (pg_tupK (K := K) (n := 2) rfl rfl (pgs_cons (pg_tupK (K := K) (n := 2) rfl rfl (pgs_cons (pg_name (i := 6) nd rfl (Or.inl rfl)) (pgs_cons (pg_name (i := 7) nd rfl (Or.inl rfl)) pgs_nil))) (pgs_cons (pg_name (i := 3) nd rfl (Or.inr rfl)) pgs_nil)))
    (pss_cons (ps_setLc (i := 5) (own := [("at", 8), ("content", 4)]) rfl nd rfl rfl (sw_true rfl rfl rfl (by decide +kernel)) (pi_listK (K := K) rfl (pe_fldK (K := K) rfl (pv 0) rfl)) (blkOk_by (own := [("at", 8), ("content", 4)]) (N := ["self", "rows", "numbers", "number", "content", "writes", "which", "size", "at"]) (sc := defScope s_Disk_crash) (by decide +kernel)) (fun _ _ _ _ _ => (pg_tupK (K := K) (n := 2) rfl rfl (pgs_cons (pg_name (i := 8) nd rfl (Or.inl rfl)) (pgs_cons (pg_name (i := 4) nd rfl (Or.inl rfl)) pgs_nil)))) (fun _ _ _ _ _ => (pts_one (pt_cmpR op_eq (pv 8) (pv 3) (nomark _)))) (fun _ _ _ _ _ => (pv 4)))
    (pss_one (ps_if (pt_chain op_le op_lt pe_int (pv 6) (pe_callB (call_len_seqK (K := K) rfl) (by rfl) T.b_len (by decide +kernel) (pa_cons (pv 5) pa_nil)))
    (pss_cons (ps_set (i := 7) nd rfl (Or.inl rfl) (pe_callB (call_min2 rfl) (by rfl) T.b_min (by decide +kernel) (pa_cons (pe_glob (v := .int 16) rfl T.c_SECTOR ⟨_, rfl⟩) (pa_cons (pe_callB (call_max2 rfl) (by rfl) T.b_max (by decide +kernel) (pa_cons pe_int (pa_cons (pv 7) pa_nil))) pa_nil))))
    (pss_one (ps_dput hu (pe_fldK (K := K) rfl (pv 0) rfl) (pv 3) (pe_op op_cat (pe_slice (sl_listK (K := K) rfl) (pe_ix (ix_listK (K := K) rfl) (pv 5) (pv 6) (fun _ _ => rfl)) po_none (po_some (pv 7))) (pe_slice (sl_listK (K := K) rfl) (pe_mtc (pv 0) L_Disk_whole (hr.mono (by decide)) (pa_cons (pv 3) pa_nil)) (po_some (pv 7)) po_none)) rfl)))
    pss_nil))))
    (pss_one (ps_fldK (K := K) rfl (pv 0) (pe_lst pa_nil) rfl)))), ?_⟩
    obtain ⟨dx, rl, h1, r1⟩ := id D.ob
    obtain ⟨kvs, h2, r2⟩ := id D.sec
    obtain ⟨ws, h3, r3⟩ := id D.wai
    obtain ⟨rvs, h4, r4⟩ := hrows
    have hap : a ≠ p := (ne_of h1 h4 fun z => nomatch z).symm
    have has : a ≠ s := (ne_of h2 h4 fun z => nomatch z).symm
    have s0 : Stp (DOwn p s wl) G H G H := Stp.refl gh
    -- the numbers of what waits
    refine ⟨_, rfl, p, C, dx, _, _, rfl, h1, T.cl, T.n2, df_waiting, wl, rfl, ⟨_, SqL.of h3⟩, fun L1 nL1 => ?_⟩
    obtain ⟨s1, f1, k1, g1, z1⟩ := own_of (o := .lst []) s0 nL1 rfl
    refine lc_list (K := K) (a := wl) (xs := ws) (fun i H2 => Stp (DOwn p s wl) G H G H2 ∧ Same H H2 ∧ H2 L1 = some (.lst (((d.wai.take i).map (·.1)).map V.int))) ?_ (fun i H2 _ ⟨_, q, _⟩ => SqL.of (q _ _ h3)) ?_ ?_
    · exact ⟨s1, k1, f1⟩
    · rintro i y H2 hi ⟨s2, k2, f2⟩
      obtain ⟨x, hx, t, u, c0, rfl, ht, hu', hc⟩ := pd_get r3 hi
      cases hu'
      refine g_pair (k2 _ _ (gh _ _ ht)) ⟨rfl, g_yes ⟨_, rfl, _, f2, ?_, ?_⟩⟩
      · have := fit.sz; have := fit.wz
        rw [List.length_map, List.length_map, List.length_take, sizeLine_eq]
        omega
      · generalize e2 : upd H2 L1 _ = H3
        obtain ⟨s3, f3, k3⟩ := wr_of s2 f2 g1 (.inr z1) e2
        refine ⟨s3, fun b o q => ?_, ?_⟩
        · exact k3 b o (fresh_ne (ne_none q) z1) (k2 b o q)
        · rw [f3, List.take_add_one, hx]
          simp
    · rintro H2 ⟨s2, k2, f2⟩
      rw [pd_len r3, List.take_of_length_le (Nat.le_refl _)] at f2
      refine ⟨L1, _, rfl, SqL.of f2, ?_, fun S1 c nS1 hc => ?_⟩
      · have := fit.sz; have := fit.wz
        rw [List.length_map]
        omega
      generalize e3 : upd H2 S1 _ = H3
      obtain ⟨s3, f3, k3, g3, z3⟩ := own_of s2 nS1 e3
      refine ⟨S1, _, c, rfl, f3, ?_, fun ns N1 asc hmem hlen nN1 => ?_⟩
      · have := fit.sz; have := fit.wz
        rw [List.length_map] at hc
        omega
      have ens : ns = nums (d.wai.map (·.1)) := asc_same asc (asc_nums _) fun q => by
        rw [hmem q, mem_nums]
        exact decide_eq_true_iff
      generalize e4 : upd H3 N1 _ = H4
      obtain ⟨s4, f4, k4, g4, z4⟩ := own_of s3 nN1 e4
      have k04 : Same H H4 := (k2.trans k3).trans k4
      have nsl : ns.length ≤ d.wai.length := by rw [ens]; exact Nat.le_trans (le_nums_len _) (by rw [List.length_map]; exact Nat.le_refl _)
      -- row by row
      refine ⟨_, rfl, _, rfl, a, N1, _, _, rfl, SqL.of (k04 _ _ h4), SqL.of f4, for_zipM (K := K) (a := a) (b := N1) (xs := rvs) (ys := ns.map V.int)
        (fun i σ H5 => (∃ x3 x4 x5 x6 x7 x8, σ = [some (.ref p), some (.ref a), some (.ref N1), x3, x4, x5, x6, x7, x8]) ∧ CInv C G H p s wl d a N1 dx rl ws rvs rows ns i H5)
        ⟨⟨_, _, _, _, _, _, rfl⟩, ⟨G, kvs, s4, k04 _ _ h2, r2, g4⟩, k04 _ _ h1, k04 _ _ h3, k04 _ _ h4, f4, fit.nd, Nat.le_refl _, fit.ls⟩ (fun i σ H5 ⟨_, q⟩ => ⟨SqL.of q.ro, SqL.of q.nu⟩) ?_ ?_⟩
      · rintro i xv yv T0 σ H5 hxi hyi ⟨⟨x3, x4, x5, x6, x7, x8, rfl⟩, I5⟩ nT
        obtain ⟨⟨G5, kvs5, s5, p2, p7, p6⟩, p1, p3, p4, p5, p8, p9, p10⟩ := I5
        obtain ⟨⟨wh, sz⟩, hrow, t0, u0, v0, rfl, ht0, hu0, hv0⟩ := pd_get r4 hxi
        cases hu0
        cases hv0
        obtain ⟨n, hn, rfl⟩ : ∃ n, ns[i]? = some n ∧ yv = V.int n := by
          rw [List.getElem?_map] at hyi
          cases e : ns[i]? with
          | none => rw [e] at hyi; cases hyi
          | some z => rw [e] at hyi; exact ⟨z, rfl, (Option.some.inj hyi).symm⟩
        have hz : (rows.zip ns)[i]? = some ((wh, sz), n) := by
          rw [List.getElem?_zip_eq_some]
          exact ⟨hrow, hn⟩
        have hfold : ((rows.zip ns).take (i + 1)).foldl (torn d.wai) d.sec = torn d.wai (((rows.zip ns).take i).foldl (torn d.wai) d.sec) ((wh, sz), n) := by
          rw [List.take_add_one, hz, List.foldl_append]
          rfl
        have hil : i < ns.length := (List.getElem?_eq_some_iff.mp hn).1
        generalize hsec : ((rows.zip ns).take i).foldl (torn d.wai) d.sec = sec at p7 p8 p9 p10 hfold
        generalize e6 : upd H5 T0 _ = H6
        obtain ⟨s6, f6, k6, g6, z6⟩ := own_of s5 nT e6
        refine g_pair f6 (g_pair (k6 _ _ (s5.gh _ _ (s5.gg _ _ ht0))) ?_)
        refine ⟨_, rfl, p, C, dx, _, _, rfl, k6 _ _ p1, T.cl, T.n2, df_waiting, wl, rfl, ⟨_, SqL.of (k6 _ _ p3)⟩, fun Lw nLw => ?_⟩
        obtain ⟨s7, f7, k7, g7, z7⟩ := own_of (o := .lst []) s6 nLw rfl
        have k57 := k6.trans k7
        refine lc_list (K := K) (a := wl) (xs := ws) (fun j H8 => Stp (DOwn p s wl) G H G5 H8 ∧ Same H5 H8 ∧ ∃ acc, H8 Lw = some (.lst acc) ∧ Paired (rL rI G5) acc (ofN (d.wai.take j) n) ∧ acc.length ≤ j) ?_ (fun j H8 _ ⟨_, q, _⟩ => SqL.of (q _ _ p3)) ?_ ?_
        · exact ⟨s7, k57, [], f7, .nil, Nat.le_refl _⟩
        · rintro j y H8 hj ⟨s8, k8, acc, f8, r8, l8⟩
          obtain ⟨x, hx, t, u, c0, rfl, ht, hu', hc⟩ := pd_get r3 hj
          cases hu'
          have hjl : j < d.wai.length := (List.getElem?_eq_some_iff.mp hx).1
          refine g_pair (s8.gh _ _ (s5.gg _ _ ht)) ⟨rfl, _, rfl, _, rfl, rfl, _, rfl, if_int (fun e => ?_) (fun e => ?_)⟩
          · refine ⟨_, rfl, acc, f8, ?_, ?_⟩
            · have := fit.sz; have := fit.wz
              rw [sizeLine_eq]
              omega
            · generalize e9 : upd H8 Lw _ = H9
              obtain ⟨s9, f9, k9⟩ := wr_of s8 f8 g7 (.inr z7) e9
              refine ⟨s9, fun b o q => k9 b o (fresh_ne (ne_none (k6 _ _ q)) nLw) (k8 b o q), _, f9, ?_, by rw [List.length_append]; exact Nat.succ_le_succ l8⟩
              rw [ofN_more hx, if_pos e]
              exact pd_snoc r8 (mSec _ _ _ _ s5.gg hc)
          · refine ⟨s8, k8, acc, f8, ?_, Nat.le_succ_of_le l8⟩
            rw [ofN_more hx, if_neg e]
            exact r8
        · rintro H8 ⟨s8, k8, acc, f8, r8, l8⟩
          rw [pd_len r3, List.take_of_length_le (Nat.le_refl _)] at r8
          have el := pd_len r8
          have no_put : ¬ (0 ≤ wh ∧ wh < ((ofN d.wai n).length : Int)) → CInv C G H p s wl d a N1 dx rl ws rvs rows ns (i + 1) H8 := fun hno => by
            have ht : torn d.wai sec ((wh, sz), n) = sec := if_neg hno
            have e9 : ((rows.zip ns).take (i + 1)).foldl (torn d.wai) d.sec = sec := hfold.trans ht
            exact ⟨⟨G5, kvs5, s8, k8 _ _ p2, by rw [e9]; exact p7, p6⟩, k8 _ _ p1, k8 _ _ p3, k8 _ _ p4, k8 _ _ p5, by rw [e9]; exact p8, by rw [e9]; exact Nat.le_succ_of_le p9, by rw [e9]; exact p10⟩
          refine ⟨_, rfl, _, _, rfl, rfl, _, rfl, if_dec (fun b1 => ?_) (fun b1 => ⟨_, rfl, ⟨_, _, _, _, _, _, rfl⟩, no_put fun z => b1 z.1⟩)⟩
          refine ⟨_, rfl, Lw, _, rfl, .inl (SqL.of f8), _, _, rfl, rfl, _, rfl, if_dec (fun b2 => ?_) (fun b2 => ⟨⟨_, _, _, _, _, _, rfl⟩, no_put fun z => b2 (by rw [el]; exact z.2)⟩)⟩
          rw [el] at b2
          -- the size, and the sector
          refine ⟨_, rfl, _, _, rfl, _, _, rfl, ?_⟩
          rw [clip_eq]
          obtain ⟨j, ej⟩ : ∃ j : Nat, wh = (j : Int) := ⟨wh.toNat, by omega⟩
          have hjl : j < (ofN d.wai n).length := by omega
          have hj16 : (ofN d.wai n)[j].length = 16 := ofN_len fit.lw _ (List.getElem_mem hjl)
          have hw16 : (({ d with sec := sec } : DS).whole n).length = 16 := whole_len (d := { d with sec := sec }) p10 n
          obtain ⟨vj, hvj, rvj⟩ := pd_get' r8 (List.getElem?_eq_getElem hjl)
          obtain ⟨cj, rfl, hcj⟩ := rLI rvj
          refine ⟨_, rfl, _, rfl, Lw, _, _, _, rfl, rfl, SqL.of f8, at_of (j := j) ej hvj, _, rfl, _, rfl, cj, _, rfl, SqL.of (s8.gh _ _ hcj), fun A1 nA1 => ?_⟩
          rw [cut_to]
          generalize e9 : upd H8 A1 _ = H9
          obtain ⟨s9, f9, k9, g9, z9⟩ := own_of s8 nA1 e9
          have D9 : DiskAt C G5 H9 p s wl { d with sec := sec } := ⟨⟨dx, rl, k9 _ _ (k8 _ _ p1), (mI.p mI).l _ _ _ _ s5.gg r1⟩, ⟨kvs5, k9 _ _ (k8 _ _ p2), p7⟩, ⟨ws, k9 _ _ (k8 _ _ p3), mRow.ps s5.gg r3⟩,
            s9.nw p (ne_none h1) D.gp, s9.nw s (ne_none h2) D.gs, s9.nw wl (ne_none h3) D.gw⟩
          refine ⟨_, rfl, p, dx, _, rfl, k9 _ _ (k8 _ _ p1), df_no (by decide +kernel) (by decide +kernel) (by decide +kernel) (by decide +kernel) (by decide +kernel), _, rfl, G5, p, s, wl, { d with sec := sec }, n, rfl, s9.gh, D9, fun B1 G10 H10 s10 nB1 gB1 fB1 => ?_⟩
          have s10' : Stp (DOwn p s wl) G H G10 H10 := s9.trans s10 fun _ z => z.elim
          refine ⟨_, rfl, _, rfl, B1, _, rfl, SqL.of fB1, fun A2 nA2 => ?_⟩
          rw [cut_from]
          generalize e11 : upd H10 A2 _ = H11
          obtain ⟨s11, f11, k11, g11, z11⟩ := own_of s10' nA2 e11
          have fA1 : H11 A1 = some _ := k11 _ _ (s10.kp _ _ f9 fun z => z)
          refine ⟨A1, A2, _, _, rfl, rfl, fA1, f11, ?_, fun A3 nA3 => ?_⟩
          · have q1 := hj16
            have q2 := hw16
            rw [List.length_take, List.length_drop, List.length_map, List.length_map, sizeLine_eq]
            omega
          generalize e12 : upd H11 A3 _ = H12
          obtain ⟨G12, s12, f12, gg12, k12, gk12⟩ := data_of s11 nA3 e12
          have keep' : Same H5 H11 := fun b o q => k11 _ _ (s10.kp _ _ (k9 _ _ (k8 _ _ q)) fun z => z)
          have keep : Same H5 H12 := fun b o q => k12 _ _ (k11 _ _ (s10.kp _ _ (k9 _ _ (k8 _ _ q)) fun z => z))
          refine ⟨_, rfl, p, C, dx, _, _, rfl, keep _ _ p1, T.cl, T.n1, df_sectors, _, rfl, s, _, rfl, DPut.k (k := Sum.inl n) (keep _ _ p2) ?_, ?_⟩
          · have := fit.sz; have := fit.wz
            have := pd_len p7
            rw [sizeLine_eq]
            omega
          · generalize e13 : upd H12 s _ = H13
            have A3s : A3 ≠ s := (ne_of_none (keep' _ _ p2) nA3).symm
            have N1A : N1 ≠ A3 := ne_of_none (keep' _ _ p5) nA3
            have gs12 : G12 s = none := by rw [gk12 s A3s.symm]; exact s11.nw s (ne_none h2) D.gs
            obtain ⟨s13, f13, k13⟩ := wr_of s12 (keep _ _ p2) gs12 (.inl (.inr (.inl rfl))) e13
            have ht : torn d.wai sec ((wh, sz), n) = put sec n ((ofN d.wai n)[j].take (clip sz) ++ (({ d with sec := sec } : DS).whole n).drop (clip sz)) := by
              unfold torn
              rw [if_pos ⟨b1, b2⟩]
              show put sec n (((ofN d.wai n).getD wh.toNat []).take (clip sz) ++ _) = _
              rw [ej, Int.toNat_natCast, List.getD_eq_getElem?_getD, List.getElem?_eq_getElem hjl]
              rfl
            have hl16 : ((ofN d.wai n)[j].take (clip sz) ++ (({ d with sec := sec } : DS).whole n).drop (clip sz)).length = 16 := by
              have q3 := clip_le sz
              rw [List.length_append, List.length_take, List.length_drop, hj16, hw16]
              omega
            have hval : rL rI G12 (.ref A3) ((ofN d.wai n)[j].take (clip sz) ++ (({ d with sec := sec } : DS).whole n).drop (clip sz)) := by
              refine rLI_of ?_
              rw [f12, List.map_append, List.map_take, List.map_drop]
            have hp := (p7.mono mSec (s10.gg.trans gg12)).put (k := n) hval
            refine ⟨⟨_, _, _, _, _, _, rfl⟩, ⟨G12, _, s13, f13, ?_, ?_⟩, k13 _ _ D.ps (keep _ _ p1), k13 _ _ D.sw.symm (keep _ _ p3), k13 _ _ has (keep _ _ p4), k13 _ _ (ne_of p5 p2 fun z => nomatch z) (keep _ _ p5), ?_, ?_, ?_⟩
            · rw [hfold, ht]
              exact hp
            · rw [gk12 N1 N1A]
              exact s10.nw N1 (ne_none (k9 _ _ (k8 _ _ p5))) p6
            · rw [hfold, ht]
              exact put_nodup _ _ _ p8
            · rw [hfold, ht]
              exact Nat.le_trans (put_len _ _ _) (Nat.succ_le_succ p9)
            · rw [hfold, ht]
              intro x hx
              rcases put_mem hx with e | e
              · rw [e]
                exact hl16
              · exact p10 x e
      · rintro σ H5 ⟨⟨x3, x4, x5, x6, x7, x8, rfl⟩, I5⟩
        obtain ⟨⟨G5, kvs5, s5, p2, p7, p6⟩, p1, p3, p4, p5, p8, p9, p10⟩ := I5
        have hn1 : rvs.length = rows.length := pd_len r4
        rw [hn1, List.length_map, List.take_of_length_le (by rw [List.length_zip]; exact Nat.le_refl _)] at p7
        refine ⟨(by show 0 ≤ sizeLine; decide), fun W1 nW1 => ?_⟩
        generalize e6 : upd H5 W1 _ = H6
        obtain ⟨s6, f6, k6, g6, z6⟩ := own_of s5 nW1 e6
        refine ⟨_, rfl, p, C, dx, _, rfl, k6 _ _ p1, T.cl, T.n2, (by show 5 < 1000; decide), ?_⟩
        rw [df_pw]
        generalize e7 : upd H6 p _ = H7
        have gp5 : G5 p = none := s6.nw p (ne_none h1) D.gp
        obtain ⟨s7, f7, k7⟩ := wr_of s6 (k6 _ _ p1) gp5 (.inl (.inl rfl)) e7
        refine k W1 G5 H7 s7 ⟨⟨dx, rl, f7, (mI.p mI).l _ _ _ _ s7.gg r1⟩, ⟨kvs5, k7 _ _ D.ps.symm (k6 _ _ p2), ?_⟩, ⟨[], k7 _ _ (ne_of_none p1 nW1).symm f6, .nil⟩, gp5, s7.nw s (ne_none h2) D.gs, g6⟩ z6
        show DRel (rL rI) G5 kvs5 (crashed d.sec d.wai rows)
        unfold crashed
        rw [← ens]
        exact p7
end
end K51

/-! K51G: counts, write, sync, synced, __init__. -/
namespace K51
open PySem PySem.Spec PyProof.Rows L2 Y
/-! ### what fits stays fitting -/
theorem synS_nd : ∀ (wai sec : List (Int × Sec)), (sec.map (·.1)).Nodup → ((synS sec wai).map (·.1)).Nodup
  | [], sec, h => h
  | x :: r, sec, h => synS_nd r _ (put_nodup _ _ _ h)
theorem synS_len : ∀ (wai sec : List (Int × Sec)), (synS sec wai).length ≤ sec.length + wai.length
  | [], sec => Nat.le_refl _
  | x :: r, sec => by
    have h := synS_len r (put sec x.1 x.2)
    have q := put_len sec x.1 x.2
    show (synS (put sec x.1 x.2) r).length ≤ _
    rw [List.length_cons]
    omega
theorem synS_16 : ∀ (wai sec : List (Int × Sec)), (∀ x ∈ sec, x.2.length = 16) → (∀ x ∈ wai, x.2.length = 16) → ∀ x ∈ synS sec wai, x.2.length = 16
  | [], sec, h, _ => h
  | y :: r, sec, h, k => synS_16 r _ (fun x hx => by
      rcases put_mem hx with e | e
      · rw [e]
        exact k y List.mem_cons_self
      · exact h x e) fun x hx => k x (List.mem_cons_of_mem _ hx)
theorem foldl_torn {wai : List (Int × Sec)} (hw : ∀ x ∈ wai, x.2.length = 16) : ∀ (rs : List ((Int × Int) × Int)) (sec : List (Int × Sec)), (sec.map (·.1)).Nodup → (∀ x ∈ sec, x.2.length = 16) →
    ((rs.foldl (torn wai) sec).map (·.1)).Nodup ∧ (rs.foldl (torn wai) sec).length ≤ sec.length + rs.length ∧ ∀ x ∈ rs.foldl (torn wai) sec, x.2.length = 16
  | [], sec, h, k => ⟨h, Nat.le_refl _, k⟩
  | r :: rs, sec, h, k => by
    have k' : ∀ x ∈ torn wai sec r, x.2.length = 16 := by
      unfold torn
      split
      · rename_i hb
        intro x hx
        rcases put_mem hx with e | e
        · rw [e]
          obtain ⟨b1, b2⟩ := hb
          have hj : r.1.1.toNat < (ofN wai r.2).length := by omega
          have h1 := ofN_len hw _ (List.getElem_mem hj)
          have h2 := whole_len (d := ⟨sec, [], none, [], false⟩) k r.2
          have h3 := clip_le r.1.2
          show (((ofN wai r.2).getD r.1.1.toNat []).take (clip r.1.2) ++ (DS.whole ⟨sec, [], none, [], false⟩ r.2).drop (clip r.1.2)).length = 16
          rw [List.getD_eq_getElem?_getD, List.getElem?_eq_getElem hj, Option.getD_some, List.length_append, List.length_take, List.length_drop, h1, h2]
          omega
        · exact k x e
      · exact k
    obtain ⟨a, b, c⟩ := foldl_torn hw rs (torn wai sec r) (torn_nd h) k'
    have := torn_len wai sec r
    exact ⟨a, by rw [List.foldl_cons, List.length_cons]; omega, c⟩
theorem Fit.crash {d : DS} (h : Fit d) (rows : List (Int × Int)) : Fit (d.crash rows) := by
  obtain ⟨a, b, c⟩ := foldl_torn h.lw (rows.zip (nums (d.wai.map (·.1)))) d.sec h.nd h.ls
  have q := le_nums_len (d.wai.map (·.1))
  have s := h.sz
  refine ⟨a, ?_, h.rz, c, (fun x hx => by cases hx), Nat.zero_le _⟩
  show (crashed d.sec d.wai rows).length + 0 ≤ 60000
  rw [List.length_zip] at b
  rw [List.length_map] at q
  unfold crashed
  omega
theorem Fit.counts {d : DS} (h : Fit d) : Fit d.counts := by
  unfold DS.counts
  split
  · exact h
  · split
    · exact h
    · split
      · rename_i l _ _ _
        have q : Fit (({ d with left := some (l - 1) } : DS).crash d.rows) := Fit.crash (d := { d with left := some (l - 1) }) ⟨h.nd, h.sz, h.rz, h.ls, h.lw, h.wz⟩ _
        exact ⟨q.nd, q.sz, q.rz, q.ls, q.lw, q.wz⟩
      · exact ⟨h.nd, h.sz, h.rz, h.ls, h.lw, h.wz⟩
section
variable {P : Program} {w : World} {K : PySem.W.Frag} {mg : Str → Option Value} {base : Heap} {C : Addr} {tS : Tok}
def spCounts (C : Addr) : Sp := fun vs H Q _ => ∃ (G : Hp) (p s wl : Addr) (d : DS), vs = [.ref p] ∧ Same G H ∧ DiskAt C G H p s wl d ∧ Fit d ∧
  ∀ w' G' H', Stp (DOwn p s wl) G H G' H' → DiskAt C G' H' p s w' d.counts → (w' = wl ∨ H w' = none) → Q (.bl (!d.counts.cut)) H'
abbrev s_Disk_counts : Stmt := inClass (top 3) 4
theorem sc_Disk_counts : FnScope ["self"] ["self"] (defScope s_Disk_counts) := ⟨rfl, rfl, rfl, by decide +kernel, rfl, by decide +kernel, by decide +kernel⟩
theorem ok_counts {f : Addr} {fd : FuncData} (F : Fun K "counts" "Disk.counts" s_Disk_counts f fd) (T : Txt K mg C tS) (L_Disk_crash : MtC P w K mg base C "crash" 2 ["self", "rows"] (spCrash C)) : FnOk P w K mg base CX0 3 f fd ["self"] (spCounts C) := by
  refine F.ok sc_Disk_counts (fun vs H Q E h => ?_) (fun cdv A outer st H vs Q E hr h => ?_)
  · obtain ⟨G, p, s, wl, d, rfl, _⟩ := h
    rfl
  · obtain ⟨G, p, s, wl, d, rfl, gh, D, fit, k⟩ := h
    have nd := sc_Disk_counts.nd
    refine ⟨_, (pss_cons (ps_if (PW.pt (pw_and (pt_cmp (pc_notN (pe_fldK (K := K) rfl (pv 0) rfl))) (pw_and1 (pt_not (pt_val (pe_fldK (K := K) rfl (pv 0) rfl))))))
    (pss_cons (ps_fldK (K := K) rfl (pv 0) (pe_op op_sub (pe_fldK (K := K) rfl (pv 0) rfl) pe_int) rfl)
    (pss_one (ps_if (pt_cmpR op_le (pe_fldK (K := K) rfl (pv 0) rfl) pe_int (nomark _))
    (pss_cons (ps_expr (pe_mtc (pv 0) L_Disk_crash (hr.mono (by decide)) (pa_cons (pe_fldK (K := K) rfl (pv 0) rfl) pa_nil)))
    (pss_one (ps_fldK (K := K) rfl (pv 0) pe_bl rfl)))
    pss_nil)))
    pss_nil)
    (pss_one (ps_ret (pe_not (pe_fldK (K := K) rfl (pv 0) rfl))))), ?_⟩
    obtain ⟨dx, rl, h1, r1⟩ := id D.ob
    obtain ⟨kvs, h2, r2⟩ := id D.sec
    obtain ⟨ws, h3, r3⟩ := id D.wai
    have same : d.counts = d → ∃ v, ([some (.ref p)] : L2.St)[0]? = some (some v) ∧ ∃ a C dx fs v', v = V.ref a ∧ H a = some (.ins C dx fs) ∧ Cls K C ∧ NoAttr K C "is_cut" ∧ fs.lookup ("is_cut" : Str) = some v' ∧ ∃ c, v' = .bl c ∧ Q (.bl (!c)) H := fun e =>
      ⟨_, rfl, p, C, dx, _, _, rfl, h1, T.cl, T.n5, df_cut, _, rfl, by
        have q := k wl G H (Stp.refl gh) (by rw [e]; exact D) (.inl rfl)
        rw [e] at q
        exact q⟩
    refine ⟨_, rfl, p, C, dx, _, _, rfl, h1, T.cl, T.n3, df_left, _, rfl, ?_⟩
    cases el : d.left with
    | none =>
      refine iteF (iteF (same ?_))
      unfold DS.counts
      rw [el]
    | some l =>
      refine iteT ⟨_, rfl, p, C, dx, _, _, rfl, h1, T.cl, T.n5, df_cut, _, rfl, ?_⟩
      cases ec : d.cut with
      | true =>
        refine iteF (same ?_)
        unfold DS.counts
        rw [el]
        simp [ec]
      | false =>
        have h1' := h1
        rw [el, ec] at h1'
        refine iteT ⟨_, rfl, p, C, dx, _, _, rfl, h1', T.cl, T.n3, df_left, _, _, rfl, rfl, _, rfl, p, C, dx, _, rfl, h1', T.cl, T.n3, (by show 5 < 1000; decide), ?_⟩
        rw [df_pl]
        generalize e1 : upd H p _ = H1
        obtain ⟨s1, f1, k1⟩ := wr_of (Stp.refl (O := DOwn p s wl) gh) h1' D.gp (.inl (.inl rfl)) e1
        have D1 : DiskAt C G H1 p s wl { d with left := some (l - 1) } := ⟨⟨dx, rl, by rw [f1, ec]; rfl, r1⟩, ⟨kvs, k1 _ _ D.ps.symm h2, r2⟩, ⟨ws, k1 _ _ D.pw.symm h3, r3⟩, D.gp, D.gs, D.gw⟩
        refine ⟨_, rfl, p, C, dx, _, _, rfl, f1, T.cl, T.n3, df_left, _, _, rfl, rfl, _, rfl, if_dec (fun c1 => ?_) (fun c1 => ?_)⟩
        · have fit1 : Fit { d with left := some (l - 1) } := ⟨fit.nd, fit.sz, fit.rz, fit.ls, fit.lw, fit.wz⟩
          have ecnt : d.counts = { (({ d with left := some (l - 1) } : DS).crash d.rows) with cut := true } := by
            unfold DS.counts
            rw [el]
            show (if d.cut = true then d else if l - 1 ≤ 0 then _ else _) = _
            rw [ec, if_neg Bool.false_ne_true, if_pos c1]
          obtain ⟨ra, rvs, erl, hrl, prl⟩ := id r1
          cases erl
          have hrl1 : H1 rl = some (.lst rvs) := k1 _ _ (ne_of h1 (gh _ _ hrl) fun z => nomatch z).symm (gh _ _ hrl)
          refine ⟨_, rfl, p, dx, _, rfl, f1, df_no (by decide +kernel) (by decide +kernel) (by decide +kernel) (by decide +kernel) (by decide +kernel), _, rfl, p, C, dx, _, _, rfl, f1, T.cl, T.n4, df_rows,
            G, p, s, wl, { d with left := some (l - 1) }, rl, d.rows, rfl, s1.gh, D1, fit1, ⟨rvs, hrl1, prl⟩, fresh_ne (ne_none hrl) D.gw, fun w2 G2 H2 s2 D2 n2 => ?_⟩
          obtain ⟨dx2, rl2, g1, q1⟩ := id D2.ob
          obtain ⟨kvs2, g2, q2⟩ := id D2.sec
          obtain ⟨ws2, g3, q3⟩ := id D2.wai
          refine ⟨_, rfl, p, C, dx2, _, rfl, g1, T.cl, T.n5, (by show 5 < 1000; decide), ?_⟩
          rw [df_pc]
          generalize e3 : upd H2 p _ = H3
          obtain ⟨s3, f3, k3⟩ := wr_of (s1.trans s2 fun _ z => .inl z) g1 D2.gp (.inl (.inl rfl)) e3
          have D3 : DiskAt C G2 H3 p s w2 d.counts := by
            rw [ecnt]
            exact ⟨⟨dx2, rl2, f3, q1⟩, ⟨kvs2, k3 _ _ D2.ps.symm g2, q2⟩, ⟨ws2, k3 _ _ D2.pw.symm g3, q3⟩, D2.gp, D2.gs, D2.gw⟩
          refine ⟨_, rfl, p, C, dx2, _, _, rfl, f3, T.cl, T.n5, df_cut, _, rfl, ?_⟩
          have q := k w2 G2 H3 s3 D3 (.inr (s1.fr n2))
          rw [ecnt] at q
          exact q
        · have ecnt : d.counts = { d with left := some (l - 1) } := by
            unfold DS.counts
            rw [el]
            show (if d.cut = true then d else if l - 1 ≤ 0 then _ else _) = _
            rw [ec, if_neg Bool.false_ne_true, if_neg c1]
          refine ⟨_, rfl, p, C, dx, _, _, rfl, f1, T.cl, T.n5, df_cut, _, rfl, ?_⟩
          have q := k wl G H1 s1 (by rw [ecnt]; exact D1) (.inl rfl)
          rw [ecnt] at q
          show Q (.bl (!false)) H1
          rw [← ec]
          exact q
def spWrite (C : Addr) : Sp := fun vs H Q _ => ∃ (G : Hp) (p s wl : Addr) (d : DS) (n : Int) (a : Addr) (x : Sec), vs = [.ref p, .int n, .ref a] ∧ Same G H ∧ DiskAt C G H p s wl d ∧ Fit d ∧ H a = some (rowI x) ∧ a ≠ wl ∧
  ∀ w' G' H', Stp (DOwn p s wl) G H G' H' → DiskAt C G' H' p s w' (d.write n x) → (w' = wl ∨ H w' = none) → Q .non H'
abbrev s_Disk_write : Stmt := inClass (top 3) 5
theorem sc_Disk_write : FnScope ["self", "number", "content"] ["self", "number", "content"] (defScope s_Disk_write) := ⟨rfl, rfl, rfl, by decide +kernel, rfl, by decide +kernel, by decide +kernel⟩
theorem ok_write {f : Addr} {fd : FuncData} (F : Fun K "write" "Disk.write" s_Disk_write f fd) (T : Txt K mg C tS) (L_Disk_counts : MtC P w K mg base C "counts" 3 ["self"] (spCounts C)) : FnOk P w K mg base CX0 4 f fd ["self", "number", "content"] (spWrite C) := by
  refine F.ok sc_Disk_write (fun vs H Q E h => ?_) (fun cdv A outer st H vs Q E hr h => ?_)
  · obtain ⟨G, p, s, wl, d, n, a, x, rfl, _⟩ := h
    rfl
  · obtain ⟨G, p, s, wl, d, n, a, x, rfl, gh, D, fit, ha, aw, k⟩ := h
    have nd := sc_Disk_write.nd
    refine ⟨_, (pss_one (ps_if (pt_val (pe_mtc0 (pv 0) L_Disk_counts (hr.mono (by decide))))
    (pss_one (ps_expr (pe_bmK (K := K) rfl PySem.F.plainAttrs_list PySem.F.slot_list_append PySem.F.type_list_append mt_append (pe_fldK (K := K) rfl (pv 0) rfl) (pa_cons (pe_tup (pa_cons (pv 1) (pa_cons (pe_callTy (call_list_ofK (K := K) rfl) (by rfl) T.b_list (by decide +kernel) (pa_cons (pv 2) pa_nil)) pa_nil))) pa_nil))))
    pss_nil)), ?_⟩
    obtain ⟨dx, rl, h1, r1⟩ := id D.ob
    obtain ⟨kvs, h2, r2⟩ := id D.sec
    have hap : a ≠ p := (ne_of h1 ha fun z => nomatch z).symm
    have has : a ≠ s := (ne_of h2 ha fun z => nomatch z).symm
    refine ⟨_, rfl, p, dx, _, rfl, h1, df_no (by decide +kernel) (by decide +kernel) (by decide +kernel) (by decide +kernel) (by decide +kernel), G, p, s, wl, d, rfl, gh, D, fit, fun w1 G1 H1 s1 D1 n1 => ?_⟩
    obtain ⟨dx1, rl1, g1, q1⟩ := id D1.ob
    obtain ⟨kvs1, g2, q2⟩ := id D1.sec
    obtain ⟨ws1, g3, q3⟩ := id D1.wai
    have ha1 : H1 a = some (rowI x) := s1.kp _ _ ha fun z => by
      rcases z with z | z | z
      · exact hap z
      · exact has z
      · exact aw z
    refine ⟨_, rfl, if_nbool (fun c1 => ?_) (fun c1 => ?_)⟩
    · have ew : d.write n x = { d.counts with wai := d.counts.wai ++ [(n, x)] } := if_neg (by rw [c1]; exact Bool.false_ne_true)
      refine ⟨_, rfl, p, C, dx1, _, _, rfl, g1, T.cl, T.n2, df_waiting, .inl ⟨rfl, _, SqL.of g3⟩, _, rfl, _, rfl, a, _, rfl, .inl (SqL.of ha1), fun l nl => ?_⟩
      generalize e2 : upd H1 l _ = H2
      obtain ⟨G2, s2, f2, gg2, k2, gk2⟩ := data_of s1 nl e2
      refine ⟨(by show 2 ≤ sizeLine; decide), fun t nt => ?_⟩
      generalize e3 : upd H2 t _ = H3
      obtain ⟨G3, s3, f3, gg3, k3, gk3⟩ := data_of s2 nt e3
      have g3' := k3 _ _ (k2 _ _ g3)
      have npl : p ≠ l := ne_of_none g1 nl
      have npt : p ≠ t := ne_of_none (k2 _ _ g1) nt
      have nsl : s ≠ l := ne_of_none g2 nl
      have nst : s ≠ t := ne_of_none (k2 _ _ g2) nt
      have nwl : w1 ≠ l := ne_of_none g3 nl
      have nwt : w1 ≠ t := ne_of_none (k2 _ _ g3) nt
      have gw3 : G3 w1 = none := by rw [gk3 w1 nwt, gk2 w1 nwl]; exact D1.gw
      have fitc := fit.counts
      refine ⟨w1, ws1, _, rfl, rfl, g3', ?_, ?_⟩
      · have := fitc.sz
        rw [pd_len q3, sizeLine_eq]
        omega
      generalize e4 : upd H3 w1 _ = H4
      obtain ⟨s4, f4, k4⟩ := wr_of s3 g3' gw3 (n1.imp (fun z => .inr (.inr z)) id) e4
      refine k w1 G3 H4 s4 ?_ n1
      rw [ew]
      refine ⟨⟨dx1, rl1, k4 _ _ D1.pw (k3 _ _ (k2 _ _ g1)), (mI.p mI).l _ _ _ _ (gg2.trans gg3) q1⟩, ⟨kvs1, k4 _ _ D1.sw (k3 _ _ (k2 _ _ g2)), q2.mono mSec (gg2.trans gg3)⟩, ⟨_, f4, ?_⟩,
        by rw [gk3 p npt, gk2 p npl]; exact D1.gp, by rw [gk3 s nst, gk2 s nsl]; exact D1.gs, gw3⟩
      exact pd_snoc (mRow.ps (gg2.trans gg3) q3) ⟨t, _, _, rfl, f3, rfl, rLI_of (gg3 _ _ f2)⟩
    · have ew : d.write n x = d.counts := if_pos c1
      refine k w1 G1 H1 s1 ?_ n1
      rw [ew]
      exact D1
def spSync (C : Addr) : Sp := fun vs H Q _ => ∃ (G : Hp) (p s wl : Addr) (d : DS), vs = [.ref p] ∧ Same G H ∧ DiskAt C G H p s wl d ∧ Fit d ∧
  ∀ w' G' H', Stp (DOwn p s wl) G H G' H' → DiskAt C G' H' p s w' d.sync → (w' = wl ∨ H w' = none) → Q .non H'
abbrev s_Disk_sync : Stmt := inClass (top 3) 6
theorem sc_Disk_sync : FnScope ["self", "number", "content"] ["self"] (defScope s_Disk_sync) := ⟨rfl, rfl, rfl, by decide +kernel, rfl, by decide +kernel, by decide +kernel⟩
theorem ok_sync {f : Addr} {fd : FuncData} (F : Fun K "sync" "Disk.sync" s_Disk_sync f fd) (T : Txt K mg C tS) (L_Disk_counts : MtC P w K mg base C "counts" 3 ["self"] (spCounts C)) : FnOk P w K mg base CX0 4 f fd ["self"] (spSync C) := by
  refine F.ok sc_Disk_sync (fun vs H Q E h => ?_) (fun cdv A outer st H vs Q E hr h => ?_)
  · obtain ⟨G, p, s, wl, d, rfl, _⟩ := h
    rfl
  · obtain ⟨G, p, s, wl, d, rfl, gh, D, fit, k⟩ := h
    have nd := sc_Disk_sync.nd
    have hu := hu_of hr
    refine ⟨_, (pss_one (ps_if (pt_val (pe_mtc0 (pv 0) L_Disk_counts (hr.mono (by decide))))
    (pss_cons (ps_for PassesOwn.never rfl (pi_listK (K := K) rfl (pe_fldK (K := K) rfl (pv 0) rfl)) (pg_tupK (K := K) (n := 2) rfl rfl (pgs_cons (pg_name (i := 1) nd rfl (Or.inl rfl)) (pgs_cons (pg_name (i := 2) nd rfl (Or.inl rfl)) pgs_nil)))
    (pss_one (ps_dput hu (pe_fldK (K := K) rfl (pv 0) rfl) (pv 1) (pv 2) rfl)))
    (pss_one (ps_fldK (K := K) rfl (pv 0) (pe_lst pa_nil) rfl)))
    pss_nil)), ?_⟩
    obtain ⟨dx, rl, h1, r1⟩ := id D.ob
    refine ⟨_, rfl, p, dx, _, rfl, h1, df_no (by decide +kernel) (by decide +kernel) (by decide +kernel) (by decide +kernel) (by decide +kernel), G, p, s, wl, d, rfl, gh, D, fit, fun w1 G1 H1 s1 D1 n1 => ?_⟩
    obtain ⟨dx1, rl1, g1, q1⟩ := id D1.ob
    obtain ⟨kvs1, g2, q2⟩ := id D1.sec
    obtain ⟨ws1, g3, q3⟩ := id D1.wai
    refine ⟨_, rfl, if_nbool (fun c1 => ?_) (fun c1 => ?_)⟩
    · have ew : d.sync = { d.counts with sec := synS d.counts.sec d.counts.wai, wai := [] } := if_neg (by rw [c1]; exact Bool.false_ne_true)
      have fitc := fit.counts
      refine ⟨_, rfl, p, C, dx1, _, _, rfl, g1, T.cl, T.n2, df_waiting, w1, rfl, ⟨_, SqL.of g3⟩, for_list (K := K) (a := w1) (xs := ws1)
        (fun i σ H2 => (∃ x1 x2, σ = [some (.ref p), x1, x2]) ∧ Stp (DOwn p s wl) G H G1 H2 ∧ (∀ b o, b ≠ s → H1 b = some o → H2 b = some o) ∧ ∃ kvs2, H2 s = some (.dK kvs2) ∧ DRel (rL rI) G1 kvs2 (synS d.counts.sec (d.counts.wai.take i)))
        ⟨⟨_, _, rfl⟩, s1, fun _ _ _ z => z, kvs1, g2, q2⟩ (fun i σ H2 _ ⟨_, _, q, _⟩ => SqL.of (q _ _ D1.sw.symm g3)) ?_ ?_⟩
      · rintro i y σ H2 hi ⟨⟨x1, x2, rfl⟩, s2, k2, kvs2, g4, q4⟩
        obtain ⟨x, hx, t, u, c0, rfl, ht, hu', hc⟩ := pd_get q3 hi
        cases hu'
        refine g_pair (s2.gh _ _ ht) ⟨_, rfl, _, rfl, p, C, dx1, _, _, rfl, k2 _ _ D1.ps g1, T.cl, T.n1, df_sectors, _, rfl, s, _, rfl, DPut.k (k := Sum.inl x.1) g4 ?_, ?_⟩
        · have h5 := synS_len (d.counts.wai.take i) d.counts.sec
          have h6 := fitc.sz
          have h7 := pd_len q4
          rw [List.length_take] at h5
          rw [sizeLine_eq]
          omega
        · generalize e3 : upd H2 s _ = H3
          obtain ⟨s3, f3, k3⟩ := wr_of s2 g4 D1.gs (.inl (.inr (.inl rfl))) e3
          refine ⟨⟨_, _, rfl⟩, s3, fun b o hb e => k3 b o hb (k2 b o hb e), _, f3, ?_⟩
          have e5 : synS d.counts.sec (d.counts.wai.take (i + 1)) = put (synS d.counts.sec (d.counts.wai.take i)) x.1 x.2 := by
            unfold synS
            rw [List.take_add_one, hx, List.foldl_append]
            rfl
          rw [e5]
          exact q4.put hc
      · rintro σ H2 ⟨⟨x1, x2, rfl⟩, s2, k2, kvs2, g4, q4⟩
        rw [pd_len q3, List.take_of_length_le (Nat.le_refl _)] at q4
        refine ⟨(by show 0 ≤ sizeLine; decide), fun W1 nW1 => ?_⟩
        generalize e6 : upd H2 W1 _ = H6
        obtain ⟨s6, f6, k6, g6, z6⟩ := own_of s2 nW1 e6
        have p1 := k6 _ _ (k2 _ _ D1.ps g1)
        refine ⟨_, rfl, p, C, dx1, _, rfl, p1, T.cl, T.n2, (by show 5 < 1000; decide), ?_⟩
        rw [df_pw]
        generalize e7 : upd H6 p _ = H7
        obtain ⟨s7, f7, k7⟩ := wr_of s6 p1 D1.gp (.inl (.inl rfl)) e7
        refine k W1 G1 H7 s7 ?_ (.inr z6)
        rw [ew]
        exact ⟨⟨dx1, rl1, f7, q1⟩, ⟨kvs2, k7 _ _ D1.ps.symm (k6 _ _ g4), q4⟩, ⟨[], k7 _ _ (ne_of_none (k2 _ _ D1.ps g1) nW1).symm f6, .nil⟩, D1.gp, D1.gs, g6⟩
    · have ew : d.sync = d.counts := if_pos c1
      refine k w1 G1 H1 s1 ?_ n1
      rw [ew]
      exact D1
end
end K51

/-! K51H: synced, __init__. -/
namespace K51
open PySem PySem.Spec PyProof.Rows L2 Y
/-- a row of the told sectors, all of it new -/
def NewRow (H G' H' : Hp) (v : V) (x : Int × Sec) : Prop := ∃ t c, v = V.ref t ∧ H' t = some (.tup [.int x.1, .ref c]) ∧ H' c = some (rowI x.2) ∧ H t = none ∧ H c = none ∧ G' t = none ∧ G' c = none
theorem NewRow.keep {H G' H' H2 : Hp} (e : ∀ b o, H b = none → H' b = some o → H2 b = some o) {v : V} {x : Int × Sec} : NewRow H G' H' v x → NewRow H G' H2 v x := fun ⟨t, c, e1, h1, h2, n1, n2, g1, g2⟩ => ⟨t, c, e1, e _ _ n1 h1, e _ _ n2 h2, n1, n2, g1, g2⟩
/-- .. and apart from a list that is being made -/
def NewRowD (H G' H' : Hp) (D : Addr) (v : V) (x : Int × Sec) : Prop := ∃ t c, v = V.ref t ∧ H' t = some (.tup [.int x.1, .ref c]) ∧ H' c = some (rowI x.2) ∧ H t = none ∧ H c = none ∧ G' t = none ∧ G' c = none ∧ t ≠ D ∧ c ≠ D
theorem NewRowD.keep {H G' H' H2 : Hp} {D : Addr} (e : ∀ b o, b ≠ D → H' b = some o → H2 b = some o) {v : V} {x : Int × Sec} : NewRowD H G' H' D v x → NewRowD H G' H2 D v x := fun ⟨t, c, e1, h1, h2, n1, n2, g1, g2, d1, d2⟩ => ⟨t, c, e1, e _ _ d1 h1, e _ _ d2 h2, n1, n2, g1, g2, d1, d2⟩
theorem NewRowD.row {H G' H' : Hp} {D : Addr} {v : V} {x : Int × Sec} : NewRowD H G' H' D v x → NewRow H G' H' v x := fun ⟨t, c, e1, h1, h2, n1, n2, g1, g2, _, _⟩ => ⟨t, c, e1, h1, h2, n1, n2, g1, g2⟩
def spSynced (C : Addr) : Sp := fun vs H Q _ => ∃ (G : Hp) (p s wl : Addr) (d : DS), vs = [.ref p] ∧ Same G H ∧ DiskAt C G H p s wl d ∧ Fit d ∧
  ∀ q us H', Stp O0 G H G H' → H q = none → H' q = some (.lst us) → Paired (NewRowD H G H' q) us (told d.sec) → Q (.ref q) H'
section
variable {P : Program} {w : World} {K : PySem.W.Frag} {mg : Str → Option Value} {base : Heap} {C : Addr} {tS : Tok}
abbrev s_Disk_synced : Stmt := inClass (top 3) 8
theorem sc_Disk_synced : FnScope ["self", "rows", "number", "row"] ["self"] (defScope s_Disk_synced) := ⟨rfl, rfl, rfl, by decide +kernel, rfl, by decide +kernel, by decide +kernel⟩
theorem ok_synced {f : Addr} {fd : FuncData} (F : Fun K "synced" "Disk.synced" s_Disk_synced f fd) (T : Txt K mg C tS) : FnOk P w K mg base CX0 1 f fd ["self"] (spSynced C) := by
  refine F.ok sc_Disk_synced (fun vs H Q E h => ?_) (fun cdv A outer st H vs Q E hr h => ?_)
  · obtain ⟨G, p, s, wl, d, rfl, _⟩ := h
    rfl
  · obtain ⟨G, p, s, wl, d, rfl, gh, D, fit, k⟩ := h
    have nd := sc_Disk_synced.nd
    have hu := hu_of hr
    refine ⟨_, (pss_cons (ps_setLc (i := 1) (own := [("number", 2)]) rfl nd rfl rfl (sw_true rfl rfl rfl (by decide +kernel)) (pi_listK (K := K) rfl (pe_callB (call_sortedDA rfl) (by rfl) T.b_sorted (by decide +kernel) (pa_cons (pe_fldK (K := K) rfl (pv 0) rfl) pa_nil))) (blkOk_by (own := [("number", 2)]) (N := ["self", "rows", "number", "row"]) (sc := defScope s_Disk_synced) (by decide +kernel)) (fun _ _ _ _ _ => (pg_name (i := 2) nd rfl (Or.inl rfl))) (fun _ _ _ _ _ => pts_nil) (fun _ _ _ _ _ => (pe_tup (pa_cons (pv 2) (pa_cons (pe_callTy (call_list_ofK (K := K) rfl) (by rfl) T.b_list (by decide +kernel) (pa_cons (pe_dget hu (pe_fldK (K := K) rfl (pv 0) rfl) (pv 2) (fun _ _ => rfl)) pa_nil)) pa_nil)))))
    (pss_one (ps_ret (pe_lc (own := [("row", 3)]) rfl nd (pi_listK (K := K) rfl (pv 1)) (blkOk_by (own := [("row", 3)]) (N := ["self", "rows", "number", "row"]) (sc := defScope s_Disk_synced) (by decide +kernel)) (fun _ _ _ _ _ => (pg_name (i := 3) nd rfl (Or.inl rfl))) (fun _ _ _ _ _ => (pts_one (pt_cmpR (op_neDK (K := K) rfl hr.units) (pe_ix (ix_tupK (K := K) rfl) (pv 3) pe_int (fun _ _ => rfl)) (pe_op op_rep (pe_lst (pa_cons pe_int pa_nil)) (pe_glob (v := .int 16) rfl T.c_SECTOR ⟨_, rfl⟩)) (nomark _)))) (fun _ _ _ _ _ => (pv 3)))))), ?_⟩
    obtain ⟨dx, rl, h1, r1⟩ := id D.ob
    obtain ⟨kvs, h2, r2⟩ := id D.sec
    have s0 : Stp O0 G H G H := Stp.refl gh
    have hsz := fit.sz
    refine ⟨_, rfl, p, C, dx, _, _, rfl, h1, T.cl, T.n1, df_sectors, s, kvs, _, rfl, .inl h2, r2.keys, ?_, fun ys N1 pm asc nN1 => ?_⟩
    · rw [List.length_map]
      omega
    have eys : ys = nums (d.sec.map (·.1)) := asc_same (lt_of_le_nodup ys asc (pm.nodup_iff.mpr fit.nd)) (asc_nums _) fun q => by rw [pm.mem_iff, mem_nums]
    have ysl : ys.length ≤ 60000 := by rw [pm.length_eq, List.length_map]; omega
    generalize e1 : upd H N1 _ = H1
    obtain ⟨s1, f1, k1, g1, z1⟩ := own_of s0 nN1 e1
    refine ⟨N1, rfl, ⟨_, SqL.of f1⟩, fun D1 nD1 => ?_⟩
    obtain ⟨s2, f2, k2, g2, z2⟩ := own_of (o := .lst []) s1 nD1 rfl
    refine lc_list (K := K) (a := N1) (xs := ys.map V.int) (fun i H3 => Stp O0 G H G H3 ∧ H3 N1 = some (rowI ys) ∧ ∃ acc, H3 D1 = some (.lst acc) ∧ Paired (NewRowD H G H3 D1) acc ((ys.take i).map fun n => (n, d.whole n)))
      ⟨s2, k2 _ _ f1, [], f2, .nil⟩ (fun i H3 _ ⟨_, q, _⟩ => SqL.of q) ?_ ?_
    · rintro i y H3 hi ⟨s3, q3, acc, f3, r3⟩
      obtain ⟨n, hn, rfl⟩ : ∃ n, ys[i]? = some n ∧ y = V.int n := by
        rw [List.getElem?_map] at hi
        cases e : ys[i]? with
        | none => rw [e] at hi; cases hi
        | some z => rw [e] at hi; exact ⟨z, rfl, (Option.some.inj hi).symm⟩
      have hmem : n ∈ d.sec.map (·.1) := by
        have := List.mem_of_getElem? hn
        rw [eys, mem_nums] at this
        exact this
      obtain ⟨x, hx⟩ := Option.isSome_iff_exists.mp (look_isSome.mpr hmem)
      obtain ⟨v, hv, rv⟩ := r2.look_some hx
      obtain ⟨c, rfl, hc⟩ := rLI rv
      have h2' := s3.kp _ _ h2 fun z => z
      refine ⟨rfl, g_yes ⟨_, rfl, _, rfl, p, C, dx, _, _, rfl, s3.kp _ _ h1 (fun z => z), T.cl, T.n1, df_sectors, _, rfl, s, _, rfl, ?_, c, _, rfl, .inl (SqL.of (s3.gh _ _ hc)), fun l nl => ?_⟩⟩
      · have q := DGet.k (k := Sum.inl n) h2'
        rw [hv] at q
        exact q
      generalize e4 : upd H3 l _ = H4
      obtain ⟨s4, f4, k4, g4, z4⟩ := own_of s3 nl e4
      refine ⟨(by show 2 ≤ sizeLine; decide), fun t nt => ?_⟩
      generalize e5 : upd H4 t _ = H5
      obtain ⟨s5, f5, k5, g5, z5⟩ := own_of s4 nt e5
      refine ⟨acc, k5 _ _ (k4 _ _ f3), ?_, ?_⟩
      · have := pd_len r3
        rw [List.length_map, List.length_take] at this
        rw [sizeLine_eq]
        omega
      generalize e6 : upd H5 D1 _ = H6
      obtain ⟨s6, f6, k6⟩ := wr_of s5 (k5 _ _ (k4 _ _ f3)) g2 (.inr z2) e6
      have ND : N1 ≠ D1 := ne_of_none f1 nD1
      have tD : t ≠ D1 := (ne_of_none (k4 _ _ f3) nt).symm
      have lD : l ≠ D1 := (ne_of_none f3 nl).symm
      refine ⟨s6, k6 _ _ ND (k5 _ _ (k4 _ _ q3)), _, f6, ?_⟩
      rw [List.take_add_one, hn, List.map_append]
      refine pd_snoc (pd_mono (fun _ _ q => q.keep fun b o hb e => k6 _ _ hb (k5 _ _ (k4 _ _ e))) r3) ⟨t, l, rfl, k6 _ _ tD f5, ?_, z5, z4, g5, g4, tD, lD⟩
      show H6 l = some (rowI (d.whole n))
      unfold DS.whole
      rw [hx]
      exact k6 _ _ lD (k5 _ _ f4)
    · rintro H3 ⟨s3, q3, acc, f3, r3⟩
      rw [List.length_map, List.take_of_length_le (Nat.le_refl _)] at r3
      refine ⟨_, rfl, D1, rfl, ⟨_, SqL.of f3⟩, fun D2 nD2 => ?_⟩
      obtain ⟨s4, f4, k4, g4, z4⟩ := own_of (o := .lst []) s3 nD2 rfl
      have nDD : D1 ≠ D2 := ne_of_none f3 nD2
      refine lc_list (K := K) (a := D1) (xs := acc) (fun i H5 => Stp O0 G H G H5 ∧ (∀ b o, b ≠ D2 → H3 b = some o → H5 b = some o) ∧ ∃ acc2, H5 D2 = some (.lst acc2) ∧ acc2.length ≤ i ∧ Paired (NewRowD H G H3 D1) acc2 (((ys.map fun n => (n, d.whole n)).take i).filter fun x => decide (x.2 ≠ blank)))
        ⟨s4, fun b o _ e => k4 b o e, [], f4, Nat.le_refl _, .nil⟩ (fun i H5 _ ⟨_, q, _⟩ => SqL.of (q _ _ nDD f3)) ?_ ?_
      · rintro i y H5 hi ⟨s5, k5, acc2, f5, l5, r5⟩
        obtain ⟨x, hx, t, c, rfl, ht, hc, a1, a2, a3, a4, a5, a6⟩ := pd_get r3 hi
        have tD : t ≠ D2 := ne_of_none ht nD2
        have cD : c ≠ D2 := ne_of_none hc nD2
        refine ⟨rfl, ⟨_, rfl, t, _, _, _, rfl, rfl, SqT.of (k5 _ _ tD ht), at_of (j := 1) rfl rfl, (by show 1 ≤ sizeLine; decide), fun A1 nA1 => ?_⟩⟩
        generalize e6 : upd H5 A1 _ = H6
        obtain ⟨s6, f6, k6, g6, z6⟩ := own_of s5 nA1 e6
        refine ⟨A1, 16, _, rfl, rfl, f6, by decide, by decide, (by show 1 * 16 ≤ sizeLine; decide), fun A2 nA2 => ?_⟩
        generalize e7 : upd H6 A2 _ = H7
        obtain ⟨s7, f7, k7, g7, z7⟩ := own_of s6 nA2 e7
        refine ⟨_, _, dp_ints (k7 _ _ (k6 _ _ (k5 _ _ cD hc))), dp_ints (xs := blank) f7, shaped_ints _, shaped_ints _, _, rfl, ?_⟩
        rw [eqv_ints]
        have hfilter : ((ys.map fun n => (n, d.whole n)).take (i + 1)).filter (fun x => decide (x.2 ≠ blank)) = ((ys.map fun n => (n, d.whole n)).take i).filter (fun x => decide (x.2 ≠ blank)) ++ (if x.2 = blank then [] else [x]) := by
          rw [List.take_add_one, hx, List.filter_append]
          congr 1
          by_cases e : x.2 = blank <;> simp [e]
        refine if_nbool (fun e => ?_) (fun e => ?_)
        · have e' : ¬ x.2 = blank := of_decide_eq_false e
          refine ⟨_, rfl, acc2, k7 _ _ (k6 _ _ f5), ?_, ?_⟩
          · have := pd_len r3
            rw [List.length_map] at this
            have := (List.getElem?_eq_some_iff.mp hi).1
            rw [sizeLine_eq]
            omega
          generalize e8 : upd H7 D2 _ = H8
          obtain ⟨s8, f8, k8⟩ := wr_of s7 (k7 _ _ (k6 _ _ f5)) g4 (.inr z4) e8
          refine ⟨s8, fun b o hb e => k8 b o hb (k7 _ _ (k6 _ _ (k5 b o hb e))), _, f8, by rw [List.length_append]; exact Nat.succ_le_succ l5, ?_⟩
          rw [hfilter, if_neg e']
          exact pd_snoc r5 ⟨t, c, rfl, ht, hc, a1, a2, a3, a4, a5, a6⟩
        · have e' : x.2 = blank := of_decide_eq_true e
          refine ⟨s7, fun b o hb e => k7 _ _ (k6 _ _ (k5 b o hb e)), acc2, k7 _ _ (k6 _ _ f5), Nat.le_succ_of_le l5, ?_⟩
          rw [hfilter, if_pos e', List.append_nil]
          exact r5
      · rintro H5 ⟨s5, k5, acc2, f5, l5, r5⟩
        refine k D2 acc2 H5 s5 z4 f5 ?_
        have el := pd_len r3
        rw [el, List.take_of_length_le (Nat.le_refl _), eys] at r5
        have aux : ∀ {us : List V} {xs : List (Int × Sec)}, Paired (NewRowD H G H3 D1) us xs → Paired (NewRowD H G H5 D2) us xs := fun h => pd_mono (fun v x q => by
          obtain ⟨t, c, e1, a1, a2, a3, a4, a5, a6, a7, a8⟩ := q
          exact ⟨t, c, e1, k5 _ _ (ne_of_none a1 nD2) a1, k5 _ _ (ne_of_none a2 nD2) a2, a3, a4, a5, a6, ne_of_none a1 nD2, ne_of_none a2 nD2⟩) h
        exact aux r5
end
end K51

/-! K51I: __init__; the law's draws. -/
namespace K51
open PySem PySem.Spec PyProof.Rows L2 Y
theorem df_i0 {s : Addr} : putF "sectors" (.ref s) ([] : List (Str × V)) = ([("sectors", .ref s)] : List (Str × V)) := pf_nil
theorem df_i1 {s : Addr} {wl : Addr} : putF "waiting" (.ref wl) ([("sectors", .ref s)] : List (Str × V)) = ([("sectors", .ref s), ("waiting", .ref wl)] : List (Str × V)) := (pf_miss (by decide +kernel)).trans (congrArg _ (pf_nil))
theorem df_i2 {s : Addr} {wl : Addr} {l : V} : putF "left" (l) ([("sectors", .ref s), ("waiting", .ref wl)] : List (Str × V)) = ([("sectors", .ref s), ("waiting", .ref wl), ("left", l)] : List (Str × V)) := (pf_miss (by decide +kernel)).trans (congrArg _ ((pf_miss (by decide +kernel)).trans (congrArg _ (pf_nil))))
theorem df_i3 {s : Addr} {wl : Addr} {l : V} {rl : Addr} : putF "rows" (.ref rl) ([("sectors", .ref s), ("waiting", .ref wl), ("left", l)] : List (Str × V)) = ([("sectors", .ref s), ("waiting", .ref wl), ("left", l), ("rows", .ref rl)] : List (Str × V)) := (pf_miss (by decide +kernel)).trans (congrArg _ ((pf_miss (by decide +kernel)).trans (congrArg _ ((pf_miss (by decide +kernel)).trans (congrArg _ (pf_nil))))))
theorem df_i4 {s : Addr} {wl : Addr} {l : V} {rl : Addr} {c : Bool} : putF "is_cut" (.bl c) ([("sectors", .ref s), ("waiting", .ref wl), ("left", l), ("rows", .ref rl)] : List (Str × V)) = ([("sectors", .ref s), ("waiting", .ref wl), ("left", l), ("rows", .ref rl), ("is_cut", .bl c)] : List (Str × V)) := (pf_miss (by decide +kernel)).trans (congrArg _ ((pf_miss (by decide +kernel)).trans (congrArg _ ((pf_miss (by decide +kernel)).trans (congrArg _ ((pf_miss (by decide +kernel)).trans (congrArg _ (pf_nil))))))))
def spInit (C : Addr) : Sp := fun vs H Q _ => ∃ (G : Hp) (p dx a : Addr) (us : List V) (xs : List (Int × Sec)), vs = [.ref p, .ref a] ∧ Same G H ∧ H p = some (.ins C dx []) ∧ G p = none ∧ H a = some (.lst us) ∧ Paired (rSec H) us xs ∧ xs.length ≤ 60000 ∧
  ∀ s wl G' H', Stp (fun b => b = p) G H G' H' → DiskAt C G' H' p s wl ⟨ofRows xs, [], none, [], false⟩ → H s = none → H wl = none → Q .non H'
section
variable {P : Program} {w : World} {K : PySem.W.Frag} {mg : Str → Option Value} {base : Heap} {C : Addr} {tS : Tok}
abbrev s_Disk_init : Stmt := inClass (top 3) 0
theorem sc_Disk_init : FnScope ["self", "sectors", "number", "content"] ["self", "sectors"] (defScope s_Disk_init) := ⟨rfl, rfl, rfl, by decide +kernel, rfl, by decide +kernel, by decide +kernel⟩
theorem ok_init {f : Addr} {fd : FuncData} (F : Fun K "__init__" "Disk.__init__" s_Disk_init f fd) (T : Txt K mg C tS) : FnOk P w K mg base CX0 1 f fd ["self", "sectors"] (spInit C) := by
  refine F.ok sc_Disk_init (fun vs H Q E h => ?_) (fun cdv A outer st H vs Q E hr h => ?_)
  · obtain ⟨G, p, dx, a, us, xs, rfl, _⟩ := h
    rfl
  · obtain ⟨G, p, dx, a, us, xs, rfl, gh, hp, gp, ha, hus, hlen, k⟩ := h
    have nd := sc_Disk_init.nd
    refine ⟨_, (pss_cons (ps_fldK (K := K) rfl (pv 0) (pe_dc (own := [("number", 2), ("content", 3)]) rfl nd (pi_listK (K := K) rfl (pv 1)) (blkOk_by (own := [("number", 2), ("content", 3)]) (N := ["self", "sectors", "number", "content"]) (sc := defScope s_Disk_init) (by decide +kernel)) (fun _ _ _ _ _ => (pg_tupK (K := K) (n := 2) rfl rfl (pgs_cons (pg_name (i := 2) nd rfl (Or.inl rfl)) (pgs_cons (pg_name (i := 3) nd rfl (Or.inl rfl)) pgs_nil)))) (fun _ _ _ _ _ => pts_nil) (fun _ _ _ _ _ => (pv 2)) (fun _ _ _ _ _ => (pe_callTy (call_list_ofK (K := K) rfl) (by rfl) T.b_list (by decide +kernel) (pa_cons (pv 3) pa_nil)))) rfl)
    (pss_cons (ps_fldK (K := K) rfl (pv 0) (pe_lst pa_nil) rfl)
    (pss_cons (ps_fldK (K := K) rfl (pv 0) pe_non rfl)
    (pss_cons (ps_fldK (K := K) rfl (pv 0) (pe_lst pa_nil) rfl)
    (pss_one (ps_fldK (K := K) rfl (pv 0) pe_bl rfl)))))), ?_⟩
    have s0 : Stp (fun b => b = p) G H G H := Stp.refl gh
    refine ⟨_, rfl, a, rfl, ⟨_, SqL.of ha⟩, fun D1 nD1 => ?_⟩
    obtain ⟨s1, f1, k1, g1, z1⟩ := own_of (o := .dK []) s0 nD1 rfl
    refine dc_list (K := K) (a := a) (xs := us) (fun i H3 => ∃ G3 kvs, Stp (fun b => b = p) G H G3 H3 ∧ Same H H3 ∧ H3 D1 = some (.dK kvs) ∧ G3 D1 = none ∧ G3 p = none ∧ DRel (rL rI) G3 kvs (ofRows (xs.take i)) ∧ kvs.length ≤ i)
      ⟨G, [], s1, k1, f1, g1, gp, .nil, Nat.le_refl _⟩ (fun i H3 _ ⟨_, _, _, q, _⟩ => SqL.of (q _ _ ha)) ?_ ?_
    · rintro i y H3 hi ⟨G3, kvs, s3, k3, f3, g3, gp3, r3, l3⟩
      obtain ⟨x, hx, t, u, c0, rfl, ht, hu', hc⟩ := pd_get hus hi
      cases hu'
      obtain ⟨c, rfl, hcc⟩ := rLI hc
      have hi60 := (List.getElem?_eq_some_iff.mp hx).1
      refine g_pair (k3 _ _ ht) ⟨rfl, g_yes ⟨_, rfl, _, rfl, c, _, rfl, .inl (SqL.of (k3 _ _ hcc)), fun l nl => ?_⟩⟩
      generalize e4 : upd H3 l _ = H4
      obtain ⟨G4, s4, f4, gg4, k4, gk4⟩ := data_of s3 nl e4
      have Dl : D1 ≠ l := ne_of_none f3 nl
      refine ⟨kvs, Sum.inl x.1, rfl, k4 _ _ f3, by rw [sizeLine_eq]; omega, ?_⟩
      generalize e5 : upd H4 D1 _ = H5
      have gD4 : G4 D1 = none := by rw [gk4 D1 Dl]; exact g3
      obtain ⟨s5, f5, k5⟩ := wr_of s4 (k4 _ _ f3) gD4 (.inr z1) e5
      have npl : p ≠ l := ne_of_none (k3 _ _ hp) nl
      refine ⟨G4, _, s5, fun b o e => k5 b o (fresh_ne (ne_none e) z1) (k4 _ _ (k3 _ _ e)), f5, gD4, by rw [gk4 p npl]; exact gp3, ?_, ?_⟩
      · have e6 : ofRows (xs.take (i + 1)) = put (ofRows (xs.take i)) x.1 x.2 := by
          unfold ofRows
          rw [List.take_add_one, hx, List.foldl_append]
          rfl
        rw [e6]
        exact (r3.mono mSec gg4).put (rLI_of f4)
      · exact Nat.le_trans (length_putK _ _ _) (Nat.succ_le_succ l3)
    · rintro H3 ⟨G3, kvs, s3, k3, f3, g3, gp3, r3, l3⟩
      rw [pd_len hus, List.take_of_length_le (Nat.le_refl _)] at r3
      refine ⟨_, rfl, p, C, dx, _, rfl, k3 _ _ hp, T.cl, T.n1, (by show 0 < 1000; decide), ?_⟩
      rw [df_i0]
      generalize e4 : upd H3 p _ = H4
      obtain ⟨s4, f4, k4⟩ := wr_of s3 (k3 _ _ hp) gp3 (.inl rfl) e4
      have Dp : D1 ≠ p := (ne_of_none hp z1).symm
      refine ⟨(by show 0 ≤ sizeLine; decide), fun W1 nW1 => ?_⟩
      generalize e5 : upd H4 W1 _ = H5
      obtain ⟨s5, f5, k5, g5, z5⟩ := own_of s4 nW1 e5
      refine ⟨_, rfl, p, C, dx, _, rfl, k5 _ _ f4, T.cl, T.n2, (by show 1 < 1000; decide), ?_⟩
      rw [df_i1]
      generalize e6 : upd H5 p _ = H6
      obtain ⟨s6, f6, k6⟩ := wr_of s5 (k5 _ _ f4) gp3 (.inl rfl) e6
      refine ⟨_, rfl, p, C, dx, _, rfl, f6, T.cl, T.n3, (by show 2 < 1000; decide), ?_⟩
      rw [df_i2]
      generalize e7 : upd H6 p _ = H7
      obtain ⟨s7, f7, k7⟩ := wr_of s6 f6 gp3 (.inl rfl) e7
      refine ⟨(by show 0 ≤ sizeLine; decide), fun R1 nR1 => ?_⟩
      generalize e8 : upd H7 R1 _ = H8
      obtain ⟨G8, s8, f8, gg8, k8, gk8⟩ := data_of s7 nR1 e8
      refine ⟨_, rfl, p, C, dx, _, rfl, k8 _ _ f7, T.cl, T.n4, (by show 3 < 1000; decide), ?_⟩
      rw [df_i3]
      have npR : p ≠ R1 := ne_of_none f7 nR1
      have gp8 : G8 p = none := by rw [gk8 p npR]; exact gp3
      generalize e9 : upd H8 p _ = H9
      obtain ⟨s9, f9, k9⟩ := wr_of s8 (k8 _ _ f7) gp8 (.inl rfl) e9
      refine ⟨_, rfl, p, C, dx, _, rfl, f9, T.cl, T.n5, (by show 4 < 1000; decide), ?_⟩
      rw [df_i4]
      generalize e10 : upd H9 p _ = H10
      obtain ⟨s10, f10, k10⟩ := wr_of s9 f9 gp8 (.inl rfl) e10
      have Wp : W1 ≠ p := (ne_of_none f4 nW1).symm
      have WR : W1 ≠ R1 := ne_of_none (k7 _ _ Wp (k6 _ _ Wp f5)) nR1
      have fD6 := k6 _ _ Dp (k5 _ _ (k4 _ _ Dp f3))
      have DR : D1 ≠ R1 := ne_of_none (k7 _ _ Dp fD6) nR1
      refine k D1 W1 G8 H10 s10 ⟨⟨dx, R1, f10, R1, [], rfl, f8, .nil⟩, ⟨kvs, k10 _ _ Dp (k9 _ _ Dp (k8 _ _ (k7 _ _ Dp fD6))), r3.mono mSec gg8⟩, ⟨[], k10 _ _ Wp (k9 _ _ Wp (k8 _ _ (k7 _ _ Wp (k6 _ _ Wp f5)))), .nil⟩,
        gp8, by rw [gk8 D1 DR]; exact g3, by rw [gk8 W1 WR]; exact g5⟩ z1 z5
/-! ### the draws -/
structure StAt (G H : Hp) (s c : Addr) : Prop where
  ex : ∃ (n : Int) (cells : List Int), H s = some (.lst [.int n, .ref c]) ∧ H c = some (rowI cells) ∧ 0 ≤ n ∧ 0 < cells.length ∧ ∀ x ∈ cells, 0 ≤ x
  gs : G s = none
  gc : G c = none
  ne : s ≠ c
theorem StAt.stp {O : Addr → Prop} {G H G' H' : Hp} {s c : Addr} (h : StAt G H s c) (e : Stp O G H G' H') (n1 : ¬ O s) (n2 : ¬ O c) : StAt G' H' s c := by
  obtain ⟨n, cells, h1, h2, r⟩ := h.ex
  exact ⟨⟨n, cells, e.kp _ _ h1 n1, e.kp _ _ h2 n2, r⟩, e.nw _ (ne_none h1) h.gs, e.nw _ (ne_none h2) h.gc, h.ne⟩
def spState (K : PySem.W.Frag) : Sp := fun vs H Q _ => ∃ (G : Hp) (a : Addr) (ns : List Int), vs = [.ref a] ∧ Same G H ∧ SqL K H a (ns.map V.int) ∧
  ∀ s c H', Stp O0 G H G H' → StAt G H' s c → H s = none → H c = none → Q (.ref s) H'
abbrev s__law_state : Stmt := top 22
theorem sc__law_state : FnScope ["script", "cells", "cell"] ["script"] (defScope s__law_state) := ⟨rfl, rfl, rfl, by decide +kernel, rfl, by decide +kernel, by decide +kernel⟩
theorem ok_state {f : Addr} {fd : FuncData} (F : Fun K "_law_state" "_law_state" s__law_state f fd) (T : Txt K mg C tS) : FnOk P w K mg base CX0 1 f fd ["script"] (spState K) := by
  refine F.ok sc__law_state (fun vs H Q E h => ?_) (fun cdv A outer st H vs Q E hr h => ?_)
  · obtain ⟨G, a, ns, rfl, _⟩ := h
    rfl
  · obtain ⟨G, a, ns, rfl, gh, ha, k⟩ := h
    have nd := sc__law_state.nd
    refine ⟨_, (pss_cons (ps_setLc (i := 1) (own := [("cell", 2)]) rfl nd rfl rfl (sw_true rfl rfl rfl (by decide +kernel)) (pi_listK (K := K) rfl (pe_slice (sl_listK (K := K) rfl) (pv 0) po_none (po_some pe_int))) (blkOk_by (own := [("cell", 2)]) (N := ["script", "cells", "cell"]) (sc := defScope s__law_state) (by decide +kernel)) (fun _ _ _ _ _ => (pg_name (i := 2) nd rfl (Or.inl rfl))) (fun _ _ _ _ _ => pts_nil) (fun _ _ _ _ _ => (pe_callB call_abs (by rfl) T.b_abs (by decide +kernel) (pa_cons (pv 2) pa_nil))))
    (pss_cons (ps_if (pt_cmpR op_eq (pe_callB (call_len_seqK (K := K) rfl) (by rfl) T.b_len (by decide +kernel) (pa_cons (pv 1) pa_nil)) pe_int (nomark _))
    (pss_one (ps_set (i := 1) nd rfl (Or.inl rfl) (pe_lst (pa_cons pe_int pa_nil))))
    pss_nil)
    (pss_one (ps_ret (pe_lst (pa_cons pe_int (pa_cons (pv 1) pa_nil))))))), ?_⟩
    refine ⟨_, rfl, _, rfl, a, _, rfl, ha, fun S1 nS1 => ?_⟩
    rw [show ((63 : Int)) = ((63 : Nat) : Int) from rfl, cut_to]
    generalize e1 : upd H S1 _ = H1
    obtain ⟨s1, f1, k1, g1, z1⟩ := own_of (Stp.refl (O := O0) gh) nS1 e1
    rw [← List.map_take] at f1
    have hms : (ns.take 63).length ≤ 63 := by rw [List.length_take]; omega
    generalize ns.take 63 = ms at f1 hms
    refine ⟨S1, rfl, ⟨_, SqL.of f1⟩, fun D1 nD1 => ?_⟩
    obtain ⟨s2, f2, k2, g2, z2⟩ := own_of (o := .lst []) s1 nD1 rfl
    refine lc_list (K := K) (a := S1) (xs := ms.map V.int) (fun i H3 => Stp O0 G H G H3 ∧ H3 S1 = some (rowI ms) ∧ ∃ acc, H3 D1 = some (rowI acc) ∧ acc.length ≤ i ∧ ∀ x ∈ acc, 0 ≤ x)
      ⟨s2, k2 _ _ f1, [], f2, Nat.le_refl _, fun x hx => by cases hx⟩ (fun i H3 _ ⟨_, q, _⟩ => SqL.of q) ?_ ?_
    · rintro i y H3 hi ⟨s3, q3, acc, f3, l3, p3⟩
      obtain ⟨n, hn, rfl⟩ : ∃ n, ms[i]? = some n ∧ y = V.int n := by
        rw [List.getElem?_map] at hi
        cases e : ms[i]? with
        | none => rw [e] at hi; cases hi
        | some z => rw [e] at hi; exact ⟨z, rfl, (Option.some.inj hi).symm⟩
      have hi63 := (List.getElem?_eq_some_iff.mp hn).1
      refine ⟨rfl, g_yes ⟨_, rfl, _, rfl, acc.map V.int, f3, by rw [List.length_map, sizeLine_eq]; omega, ?_⟩⟩
      generalize e4 : upd H3 D1 _ = H4
      obtain ⟨s4, f4, k4⟩ := wr_of s3 f3 g2 (.inr z2) e4
      refine ⟨s4, k4 _ _ (ne_of_none f1 nD1) q3, acc ++ [if n < 0 then -n else n], by rw [f4]; show _ = some (HO.lst ((acc ++ [_]).map V.int)); rw [List.map_append]; rfl, by rw [List.length_append]; exact Nat.succ_le_succ l3, fun x hx => ?_⟩
      rcases List.mem_append.mp hx with e | e
      · exact p3 x e
      · have e := List.mem_singleton.mp e
        rw [e]
        split <;> omega
    · rintro H3 ⟨s3, q3, acc, f3, l3, p3⟩
      refine ⟨_, rfl, D1, _, rfl, .inl (SqL.of f3), rfl, _, rfl, ?_⟩
      rw [List.length_map]
      refine if_int (fun e => ?_) (fun e => ?_)
      · refine ⟨(by show 1 ≤ sizeLine; decide), fun C1 nC1 => ?_⟩
        generalize e4 : upd H3 C1 _ = H4
        obtain ⟨s4, f4, k4, g4, z4⟩ := own_of s3 nC1 e4
        refine ⟨_, rfl, (by show 2 ≤ sizeLine; decide), fun S2 nS2 => ?_⟩
        generalize e5 : upd H4 S2 _ = H5
        obtain ⟨s5, f5, k5, g5, z5⟩ := own_of s4 nS2 e5
        exact k S2 C1 H5 s5 ⟨⟨0, [0], f5, k5 _ _ f4, Int.le_refl _, by decide, fun x hx => by rw [List.mem_singleton.mp hx]; exact Int.le_refl _⟩, g5, g4, (ne_of_none f4 nS2).symm⟩ z5 z4
      · refine ⟨_, rfl, (by show 2 ≤ sizeLine; decide), fun S2 nS2 => ?_⟩
        generalize e5 : upd H3 S2 _ = H5
        obtain ⟨s5, f5, k5, g5, z5⟩ := own_of s3 nS2 e5
        exact k S2 D1 H5 s5 ⟨⟨0, acc, f5, k5 _ _ f3, Int.le_refl _, by omega, p3⟩, g5, g2, (ne_of_none f3 nS2).symm⟩ z5 z2
def spTake : Sp := fun vs H Q _ => ∃ (G : Hp) (s c : Addr) (m : Int), vs = [.ref s, .int m] ∧ Same G H ∧ StAt G H s c ∧ 0 < m ∧ m < 1073741824 ∧
  ∀ r H', 0 ≤ r → r < m → Stp (fun b => b = s ∨ b = c) G H G H' → StAt G H' s c → Q (.int r) H'
abbrev s__law_take : Stmt := top 23
theorem sc__law_take : FnScope ["state", "most", "cells", "at", "cell", "mixed"] ["state", "most"] (defScope s__law_take) := ⟨rfl, rfl, rfl, by decide +kernel, rfl, by decide +kernel, by decide +kernel⟩
theorem ok_take {f : Addr} {fd : FuncData} (F : Fun K "_law_take" "_law_take" s__law_take f fd) (T : Txt K mg C tS) : FnOk P w K mg base CX0 1 f fd ["state", "most"] (spTake) := by
  refine F.ok sc__law_take (fun vs H Q E h => ?_) (fun cdv A outer st H vs Q E hr h => ?_)
  · obtain ⟨G, s, c, m, rfl, _⟩ := h
    rfl
  · obtain ⟨G, s, c, m, rfl, gh, S, m0, m1, k⟩ := h
    have nd := sc__law_take.nd
    refine ⟨_, (pss_cons (ps_set (i := 2) nd rfl (Or.inl rfl) (pe_ix (ix_listK (K := K) rfl) (pv 0) pe_int (fun _ _ => rfl)))
    (pss_cons (ps_set (i := 3) nd rfl (Or.inl rfl) (pe_op op_mod (pe_ix (ix_listK (K := K) rfl) (pv 0) pe_int (fun _ _ => rfl)) (pe_callB (call_len_seqK (K := K) rfl) (by rfl) T.b_len (by decide +kernel) (pa_cons (pv 2) pa_nil))))
    (pss_cons (ps_set (i := 4) nd rfl (Or.inl rfl) (pe_ix (ix_listK (K := K) rfl) (pv 2) (pv 3) (fun _ _ => rfl)))
    (pss_cons (ps_if (pt_cmpR op_ge (pv 4) pe_int (nomark _))
    (pss_cons (ps_asg (pe_op op_fdiv (pv 4) (pv 1)) (pg_sub (pv 2) (pv 3) set_list))
    (pss_one (ps_ret (pe_op op_mod (pv 4) (pv 1)))))
    pss_nil)
    (pss_cons (ps_asg (pe_op op_add (pe_ix (ix_listK (K := K) rfl) (pv 0) pe_int (fun _ _ => rfl)) pe_int) (pg_sub (pv 0) pe_int set_list))
    (pss_cons (ps_set (i := 5) nd rfl (Or.inl rfl) (pe_op op_mod (pe_callTy call_int1 (by rfl) T.b_int (by decide +kernel) (pa_cons (pe_op op_add (pe_op op_mul (pv 4) pe_int) (pe_op op_mul (pe_ix (ix_listK (K := K) rfl) (pv 0) pe_int (fun _ _ => rfl)) pe_int)) pa_nil)) pe_int))
    (pss_cons (ps_set (i := 5) nd rfl (Or.inl rfl) (pe_op op_mod (pe_callTy call_int1 (by rfl) T.b_int (by decide +kernel) (pa_cons (pe_op op_add (pe_op op_mul (pv 5) pe_int) (pe_op op_mul (pe_ix (ix_listK (K := K) rfl) (pv 0) pe_int (fun _ _ => rfl)) pe_int)) pa_nil)) pe_int))
    (pss_one (ps_ret (pe_op op_mod (pe_op op_fdiv (pv 5) pe_int) (pv 1))))))))))), ?_⟩
    obtain ⟨n, cells, h1, h2, n0, cl, cp⟩ := id S.ex
    have s0 : Stp (fun b => b = s ∨ b = c) G H G H := Stp.refl gh
    have lc : (0 : Int) < ((cells.map V.int).length : Int) := by rw [List.length_map]; omega
    have r0 := Int.emod_nonneg n (Int.ne_of_gt lc)
    have r1 := Int.emod_lt_of_pos n lc
    obtain ⟨j, ej⟩ : ∃ j : Nat, n % ((cells.map V.int).length : Int) = (j : Int) := ⟨(n % ((cells.map V.int).length : Int)).toNat, by omega⟩
    have hj : j < cells.length := by rw [List.length_map] at r1 ej; omega
    have hcell : (cells.map V.int)[j]? = some (.int cells[j]) := by rw [List.getElem?_map, List.getElem?_eq_getElem hj]; rfl
    have c0 := cp _ (List.getElem_mem hj)
    refine ⟨_, rfl, s, _, _, _, rfl, rfl, SqL.of h1, at_of (j := 1) rfl rfl, ?_⟩
    refine ⟨_, rfl, s, _, _, _, rfl, rfl, SqL.of h1, at_of (j := 0) rfl rfl, _, rfl, c, _, rfl, .inl (SqL.of h2), _, _, rfl, rfl, lc, ?_⟩
    refine ⟨_, rfl, _, rfl, c, _, _, _, rfl, rfl, SqL.of h2, at_of ej hcell, ?_⟩
    refine ⟨_, rfl, _, _, rfl, rfl, _, rfl, if_dec (fun b => ?_) (fun b => ?_)⟩
    · refine ⟨_, rfl, _, rfl, _, _, rfl, rfl, ⟨m0, m1⟩, _, rfl, _, rfl, c, _, _, j, rfl, rfl, h2, ?_, ?_⟩
      · rw [ej]
        unfold ixN
        rw [if_pos (by omega), if_pos (by rw [List.length_map]; omega), Int.toNat_natCast]
      generalize e1 : upd H c _ = H1
      obtain ⟨s1, f1, k1⟩ := wr_of s0 h2 S.gc (.inl (.inr rfl)) e1
      refine ⟨_, rfl, _, rfl, _, _, rfl, rfl, m0, ?_⟩
      refine k _ H1 (Int.emod_nonneg _ (by omega)) (Int.emod_lt_of_pos _ m0) s1 ⟨⟨n, cells.set j (cells[j] / m), k1 _ _ S.ne h1, by rw [f1]; show _ = some (HO.lst ((cells.set j _).map V.int)); rw [List.map_set], n0, by rw [List.length_set]; exact cl, fun x hx => ?_⟩, S.gs, S.gc, S.ne⟩
      rcases List.mem_or_eq_of_mem_set hx with e | e
      · exact cp x e
      · rw [e]
        exact Int.ediv_nonneg c0 (by omega)
    · refine ⟨_, rfl, s, _, _, _, rfl, rfl, SqL.of h1, at_of (j := 0) rfl rfl, _, _, rfl, rfl, _, rfl, s, _, _, 0, rfl, rfl, h1, rfl, ?_⟩
      generalize e1 : upd H s _ = H1
      obtain ⟨s1, f1, k1⟩ := wr_of s0 h1 S.gs (.inl (.inl rfl)) e1
      have f1' : H1 s = some (.lst [.int (n + 1), .ref c]) := f1
      refine ⟨_, rfl, _, _, rfl, rfl, .inr ⟨by decide, by decide⟩, _, rfl, s, _, _, _, rfl, rfl, SqL.of f1', at_of (j := 0) rfl rfl, _, _, rfl, rfl, .inr ⟨by decide, by decide⟩, _, _, rfl, rfl, .inl ⟨_, rfl, ?_⟩⟩
      refine ⟨_, _, rfl, rfl, (by show (0 : Int) < 2147483647; decide), ?_⟩
      refine ⟨_, rfl, _, _, rfl, rfl, .inr ⟨by decide, by decide⟩, _, rfl, s, _, _, _, rfl, rfl, SqL.of f1', at_of (j := 0) rfl rfl, _, _, rfl, rfl, .inr ⟨by decide, by decide⟩, _, _, rfl, rfl, .inl ⟨_, rfl, ?_⟩⟩
      refine ⟨_, _, rfl, rfl, (by show (0 : Int) < 1000000007; decide), ?_⟩
      refine ⟨_, rfl, _, _, rfl, rfl, ⟨by decide, by decide⟩, _, rfl, _, _, rfl, rfl, m0, ?_⟩
      exact k _ H1 (Int.emod_nonneg _ (by omega)) (Int.emod_lt_of_pos _ m0) s1 ⟨⟨n + 1, cells, f1', k1 _ _ S.ne.symm h2, by omega, cl, cp⟩, S.gs, S.gc, S.ne⟩
end
end K51

/-! KBM: batches as plain functions of what a disk reads. -/
namespace K51
open Y
abbrev Page := List Int
abbrev BRows := List (Int × Page)
abbrev Rd := Int → Sec
def four (n : Int) : List Int := [n / 16777216 % 256, n / 65536 % 256, n / 256 % 256, n % 256]
def ofFour (x : List Int) : Int := x.getD 0 0 * 16777216 + x.getD 1 0 * 65536 + x.getD 2 0 * 256 + x.getD 3 0
def lg (k : Int) : Int := 3 + 2 * k
def hm (page part : Int) : Int := 2 + 2 * (4 * page + part)
/-- xs[a:b] -/
def sl (xs : List Int) (a b : Nat) : List Int := (xs.take b).drop a
theorem sl_len {xs : List Int} {a b : Nat} (h : b ≤ xs.length) : (sl xs a b).length = b - a := by
  unfold sl
  rw [List.length_drop, List.length_take]
  omega
theorem four_len (n : Int) : (four n).length = 4 := rfl
theorem ofFour_four {n : Int} (h0 : 0 ≤ n) (h1 : n < 4294967296) : ofFour (four n) = n := by
  unfold ofFour four
  simp only [List.getD_cons_zero, List.getD_cons_succ]
  omega
/-! ### what a batch holds -/
def contOf (epoch : Int) (rows : BRows) : List Int := four epoch ++ four rows.length ++ rows.flatMap fun r => four r.1 ++ r.2
/-- parts of fifteen, each behind a 0, the last one filled up -/
def parts (c : List Int) : Nat := (c.length + 14) / 15
def part (c : List Int) (i : Nat) : Sec := 0 :: ((c.drop (15 * i)).take 15 ++ List.replicate (15 - ((c.drop (15 * i)).take 15).length) 0)
theorem part_len (c : List Int) (i : Nat) : (part c i).length = 16 := by
  unfold part
  rw [List.length_cons, List.length_append, List.length_replicate]
  have : ((c.drop (15 * i)).take 15).length ≤ 15 := by rw [List.length_take]; omega
  omega
def partsL (c : List Int) : List Sec := (List.range (parts c)).map (part c)
def mark (x : Sec) : Sec := 1 :: x.drop 1
/-! ### the log -/
def strm (rd : Rd) (place : Int) (m : Nat) : List Int := (List.range m).flatMap fun i : Nat => (rd (lg (place + i))).drop 1
def secs (k : Nat) : Nat := (22 + 68 * k) / 15
def brow (rd : Rd) (place : Int) (k : Nat) : Int × Page :=
  (ofFour (sl (strm rd place (secs (k + 1))) (8 + 68 * k) (12 + 68 * k)), sl (strm rd place (secs (k + 1))) (12 + 68 * k) (76 + 68 * k))
def headOk (rd : Rd) (place epoch : Int) : Prop := (rd (lg place)).getD 0 0 = 1 ∧ ofFour (sl (rd (lg place)) 1 5) = epoch
instance (rd : Rd) (place epoch : Int) : Decidable (headOk rd place epoch) := by unfold headOk; exact inferInstance
def cnt (rd : Rd) (place : Int) : Nat := (ofFour (sl (rd (lg place)) 5 9)).toNat
def browsN (rd : Rd) (place : Int) (n : Nat) : BRows := (List.range n).map (brow rd place)
def rising (rows : BRows) : Prop := (rows.map (·.1)).Pairwise (· < ·)
instance (rows : BRows) : Decidable (rising rows) := by unfold rising; exact inferInstance
def batchAt (rd : Rd) (place epoch : Int) : Option (BRows × Int) :=
  if headOk rd place epoch then (if rising (browsN rd place (cnt rd place)) then some (browsN rd place (cnt rd place), (secs (cnt rd place) : Nat)) else none) else none
theorem strm_succ (rd : Rd) (place : Int) (m : Nat) : strm rd place (m + 1) = strm rd place m ++ (rd (lg (place + m))).drop 1 := by
  unfold strm
  rw [List.range_succ, List.flatMap_append]
  simp
theorem strm_len {rd : Rd} (h : ∀ n, (rd n).length = 16) (place : Int) : ∀ m, (strm rd place m).length = 15 * m
  | 0 => rfl
  | m + 1 => by
    rw [strm_succ, List.length_append, strm_len h place m, List.length_drop, h]
    omega
theorem strm_one (rd : Rd) (place : Int) : strm rd place 1 = (rd (lg place)).drop 1 := by
  rw [strm_succ]
  show [] ++ _ = _
  rw [List.nil_append]
  simp
theorem secs_le {j k : Nat} (h : j ≤ k) : secs j ≤ secs k := by
  unfold secs
  exact Nat.div_le_div_right (by omega)
theorem browsN_succ (rd : Rd) (place : Int) (n : Nat) : browsN rd place (n + 1) = browsN rd place n ++ [brow rd place n] := by
  unfold browsN
  rw [List.range_succ, List.map_append]
  rfl
theorem rising_snoc {rows : BRows} {r : Int × Page} : rising (rows ++ [r]) ↔ rising rows ∧ ∀ x ∈ rows, x.1 < r.1 := by
  unfold rising
  rw [List.map_append, List.pairwise_append]
  constructor
  · rintro ⟨h1, _, h3⟩
    exact ⟨h1, fun x hx => h3 x.1 (List.mem_map_of_mem hx) r.1 (by simp)⟩
  · rintro ⟨h1, h3⟩
    refine ⟨h1, List.pairwise_singleton _ _, fun a ha b hb => ?_⟩
    obtain ⟨x, hx, rfl⟩ := List.mem_map.mp ha
    simp at hb
    subst hb
    exact h3 x hx
theorem rising_last {rows : BRows} {l r : Int × Page} (h : rising rows) (hl : rows.getLast? = some l) (hr : l.1 < r.1) : rising (rows ++ [r]) := by
  refine rising_snoc.mpr ⟨h, fun x hx => ?_⟩
  obtain ⟨ys, rfl⟩ := List.getLast?_eq_some_iff.mp hl
  rcases List.mem_append.mp hx with hx | hx
  · have := (rising_snoc.mp h).2 x hx
    omega
  · simp at hx
    subst hx
    exact hr
/-! ### roots -/
def rootAt (rd : Rd) (place : Int) : Option (Int × Int) := if (rd place).getD 0 0 = 1 then some (ofFour (sl (rd place) 1 5), ofFour (sl (rd place) 5 9)) else none
/-- how many rows a head tells: not too many -/
def CntOk (rd : Rd) (place epoch : Int) : Prop := headOk rd place epoch → 0 ≤ ofFour (sl (rd (lg place)) 5 9) ∧ ofFour (sl (rd (lg place)) 5 9) ≤ 60000
/-! ### the batches that stand in a log, from place on -/
inductive LogIs (rd : Rd) (epoch : Int) : Int → List BRows → Int → Prop
  | nil {e : Int} : batchAt rd e epoch = none → CntOk rd e epoch → LogIs rd epoch e [] e
  | cons {e e' : Int} {b : BRows} {s : Int} {bs : List BRows} : batchAt rd e epoch = some (b, s) → CntOk rd e epoch → LogIs rd epoch (e + s) bs e' → LogIs rd epoch e (b :: bs) e'
def takeR (pages : List (Int × Page)) (rows : BRows) : List (Int × Page) := rows.foldl (fun s x => put s x.1 x.2) pages
/-- a Batches object -/
structure BS where
  place : Int
  epoch : Int
  many : Int
  pages : List (Int × Page)
  fin : Int
def pageOf (rd : Rd) (pages : List (Int × Page)) (n : Int) : Page := match look pages n with
  | some p => p
  | none => rd (hm n 0) ++ rd (hm n 1) ++ rd (hm n 2) ++ rd (hm n 3)
/-! ### a commit upon a disk -/
def DS.writes (d : DS) (l : List (Int × Sec)) : DS := l.foldl (fun d x => d.write x.1 x.2) d
def logW (e : Int) (c : List Int) : List (Int × Sec) := (List.range (parts c)).map fun i : Nat => (lg (e + i), part c i)
def DS.commit (d : DS) (epoch e : Int) (rows : BRows) : DS :=
  let c := contOf epoch rows
  (((d.writes (logW e c)).sync).write (lg e) (mark (part c 0))).sync
end K51

/-! KB1: the small functions of batches. -/
namespace K51
open PySem PySem.Spec PyProof.Rows L2 Y
/-- what the batches' text leans on -/
structure TxB (K : PySem.W.Frag) (mg : Str → Option Value) (B : Addr) (tP tR tW tH : Tok) : Prop where
  cl : Cls K B
  m1 : NoAttr K B "disk"
  m2 : NoAttr K B "bend"
  m3 : NoAttr K B "place"
  m4 : NoAttr K B "epoch"
  m5 : NoAttr K B "many"
  m6 : NoAttr K B "pages"
  m7 : NoAttr K B "end"
  c_PAGE : mg "PAGE" = some (.int 64 tP)
  c_ROOM : mg "ROOM" = some (.int 15 tR)
  c_ROW : mg "ROW" = some (.int 68 tW)
  c_HEAD : mg "HEAD" = some (.int 8 tH)
  b_list : mg "list" = none
  b_len : mg "len" = none
  b_max : mg "max" = none
  b_range : mg "range" = none
  b_enumerate : mg "enumerate" = none
section
variable {P : Program} {w : World} {K : PySem.W.Frag} {mg : Str → Option Value} {base : Heap} {C B : Addr} {tP tR tW tH : Tok}
def spFour : Sp := fun vs H Q _ => ∃ (G : Hp) (n : Int), vs = [.int n] ∧ Same G H ∧ ∀ q G' H', Stp O0 G H G' H' → H q = none → G' q = none → H' q = some (rowI (four n)) → Q (.ref q) H'
def spOfFour : Sp := fun vs H Q _ => ∃ (a : Addr) (x : List Int), vs = [.ref a] ∧ H a = some (rowI x) ∧ 4 ≤ x.length ∧ Q (.int (ofFour x)) H
def spHome : Sp := fun vs H Q _ => ∃ n k : Int, vs = [.int n, .int k] ∧ Q (.int (hm n k)) H
def spLogS : Sp := fun vs H Q _ => ∃ n : Int, vs = [.int n] ∧ Q (.int (lg n)) H
abbrev s_four : Stmt := top 9
theorem sc_four : FnScope ["number"] ["number"] (defScope s_four) := ⟨rfl, rfl, rfl, by decide +kernel, rfl, by decide +kernel, by decide +kernel⟩
theorem ok_four {f : Addr} {fd : FuncData} (F : Fun K "four" "four" s_four f fd) : FnOk P w K mg base CX0 1 f fd ["number"] spFour := by
  refine F.ok sc_four (fun vs H Q E h => ?_) (fun cdv A outer st H vs Q E hr h => ?_)
  · obtain ⟨G, n, rfl, _⟩ := h
    rfl
  · obtain ⟨G, n, rfl, gh, k⟩ := h
    have nd := sc_four.nd
    refine ⟨_, (pss_one (ps_ret (pe_lst (pa_cons (pe_op op_mod (pe_op op_fdiv (pv 0) pe_int) pe_int) (pa_cons (pe_op op_mod (pe_op op_fdiv (pv 0) pe_int) pe_int) (pa_cons (pe_op op_mod (pe_op op_fdiv (pv 0) pe_int) pe_int) (pa_cons (pe_op op_mod (pv 0) pe_int) pa_nil))))))), ?_⟩
    have z : (0 : Int) < 256 := by decide
    refine ⟨_, rfl, _, _, rfl, rfl, ⟨by decide, by decide⟩, _, _, rfl, rfl, z, _, rfl, _, _, rfl, rfl, ⟨by decide, by decide⟩, _, _, rfl, rfl, z, _, rfl, _, _, rfl, rfl, ⟨by decide, by decide⟩, _, _, rfl, rfl, z, _, rfl, _, _, rfl, rfl, z, (by show 4 ≤ sizeLine; decide), fun q nq => ?_⟩
    generalize e1 : upd H q _ = H1
    obtain ⟨s1, f1, _, g1, _⟩ := own_of (Stp.refl (O := O0) gh) nq e1
    exact k q G H1 s1 nq g1 f1
abbrev s_of_four : Stmt := top 10
theorem sc_of_four : FnScope ["octets"] ["octets"] (defScope s_of_four) := ⟨rfl, rfl, rfl, by decide +kernel, rfl, by decide +kernel, by decide +kernel⟩
theorem ok_of_four {f : Addr} {fd : FuncData} (F : Fun K "of_four" "of_four" s_of_four f fd) : FnOk P w K mg base CX0 1 f fd ["octets"] spOfFour := by
  refine F.ok sc_of_four (fun vs H Q E h => ?_) (fun cdv A outer st H vs Q E hr h => ?_)
  · obtain ⟨a, x, rfl, _⟩ := h
    rfl
  · obtain ⟨a, x, rfl, ha, h4, k⟩ := h
    have nd := sc_of_four.nd
    refine ⟨_, (pss_one (ps_ret (pe_op op_add (pe_op op_add (pe_op op_add (pe_op op_mul (pe_ix (ix_listK (K := K) rfl) (pv 0) pe_int (fun _ _ => rfl)) pe_int) (pe_op op_mul (pe_ix (ix_listK (K := K) rfl) (pv 0) pe_int (fun _ _ => rfl)) pe_int)) (pe_op op_mul (pe_ix (ix_listK (K := K) rfl) (pv 0) pe_int (fun _ _ => rfl)) pe_int)) (pe_ix (ix_listK (K := K) rfl) (pv 0) pe_int (fun _ _ => rfl))))), ?_⟩
    have at4 : ∀ j : Nat, j < 4 → (x.map V.int)[j]? = some (.int (x.getD j 0)) := fun j hj => by
      rw [List.getElem?_map, List.getD_eq_getElem?_getD, List.getElem?_eq_getElem (by omega)]
      rfl
    have hs : SqL K H a (x.map V.int) := SqL.of ha
    refine ⟨_, rfl, a, _, _, _, rfl, rfl, hs, at_of (j := 0) rfl (at4 0 (by decide)), _, _, rfl, rfl, .inr ⟨by decide, by decide⟩, _, rfl, a, _, _, _, rfl, rfl, hs, at_of (j := 1) rfl (at4 1 (by decide)), _, _, rfl, rfl, .inr ⟨by decide, by decide⟩, _, _, rfl, rfl,
      _, rfl, a, _, _, _, rfl, rfl, hs, at_of (j := 2) rfl (at4 2 (by decide)), _, _, rfl, rfl, .inr ⟨by decide, by decide⟩, _, _, rfl, rfl, _, rfl, a, _, _, _, rfl, rfl, hs, at_of (j := 3) rfl (at4 3 (by decide)), _, _, rfl, rfl, k⟩
abbrev s_home_sector : Stmt := top 11
theorem sc_home_sector : FnScope ["page", "part"] ["page", "part"] (defScope s_home_sector) := ⟨rfl, rfl, rfl, by decide +kernel, rfl, by decide +kernel, by decide +kernel⟩
theorem ok_home {f : Addr} {fd : FuncData} (F : Fun K "home_sector" "home_sector" s_home_sector f fd) : FnOk P w K mg base CX0 1 f fd ["page", "part"] spHome := by
  refine F.ok sc_home_sector (fun vs H Q E h => ?_) (fun cdv A outer st H vs Q E hr h => ?_)
  · obtain ⟨n, m, rfl, _⟩ := h
    rfl
  · obtain ⟨n, m, rfl, k⟩ := h
    have nd := sc_home_sector.nd
    refine ⟨_, (pss_one (ps_ret (pe_op op_add pe_int (pe_op op_mul pe_int (pe_op op_add (pe_op op_mul pe_int (pv 0)) (pv 1)))))), ?_⟩
    exact ⟨_, rfl, _, _, rfl, rfl, .inl ⟨by decide, by decide⟩, _, rfl, _, _, rfl, rfl, _, _, rfl, rfl, .inl ⟨by decide, by decide⟩, _, _, rfl, rfl, k⟩
abbrev s_log_sector : Stmt := top 12
theorem sc_log_sector : FnScope ["place"] ["place"] (defScope s_log_sector) := ⟨rfl, rfl, rfl, by decide +kernel, rfl, by decide +kernel, by decide +kernel⟩
theorem ok_logS {f : Addr} {fd : FuncData} (F : Fun K "log_sector" "log_sector" s_log_sector f fd) : FnOk P w K mg base CX0 1 f fd ["place"] spLogS := by
  refine F.ok sc_log_sector (fun vs H Q E h => ?_) (fun cdv A outer st H vs Q E hr h => ?_)
  · obtain ⟨n, rfl, _⟩ := h
    rfl
  · obtain ⟨n, rfl, k⟩ := h
    have nd := sc_log_sector.nd
    refine ⟨_, (pss_one (ps_ret (pe_op op_add pe_int (pe_op op_mul pe_int (pv 0))))), ?_⟩
    exact ⟨_, rfl, _, _, rfl, rfl, .inl ⟨by decide, by decide⟩, _, _, rfl, rfl, k⟩
end
end K51

/-! KB2: roots, the content of a batch, its parts. -/
namespace K51
open PySem PySem.Spec PyProof.Rows L2 Y
theorem cut_mid (xs : List Int) {a b : Nat} (h : a ≤ b) : cutV (xs.map V.int) (some (a : Int)) (some (b : Int)) = (sl xs a b).map V.int := by
  unfold cutV sl
  rw [HT.sIx_nat, HT.sIx_nat, List.length_map, List.map_drop, List.map_take, List.drop_take]
  by_cases h1 : b ≤ xs.length
  · rw [Nat.min_eq_left h1, Nat.min_eq_left (by omega)]
  · rw [Nat.min_eq_right (by omega : xs.length ≤ b)]
    by_cases h2 : a ≤ xs.length
    · rw [Nat.min_eq_left h2, List.take_of_length_le (by rw [List.length_drop, List.length_map]; omega), List.take_of_length_le (by rw [List.length_drop, List.length_map]; omega)]
    · rw [Nat.min_eq_right (by omega), List.drop_eq_nil_of_le (by rw [List.length_map]; omega), List.drop_eq_nil_of_le (by rw [List.length_map]; omega)]
      simp
theorem cut_mid1 (xs : List Int) : cutV (xs.map V.int) (some 1) (some 5) = (sl xs 1 5).map V.int := cut_mid xs (a := 1) (b := 5) (by decide)
theorem cut_mid5 (xs : List Int) : cutV (xs.map V.int) (some 5) (some 9) = (sl xs 5 9).map V.int := cut_mid xs (a := 5) (b := 9) (by decide)
theorem cut_1 (xs : List Int) : cutV (xs.map V.int) (some 1) none = (xs.drop 1).map V.int := by
  have := cut_from (xs.map V.int) 1
  rw [List.map_drop]
  exact this
theorem rgC_up {i j c : Int} {n : Nat} (hc : 0 < c) (hc2 : c < 1073741824) (ha : -(2 ^ 62) ≤ i) (ha' : i < 2 ^ 62) (hb : -(2 ^ 62) ≤ j) (hb' : j < 2 ^ 62) (e : (n : Int) = if i < j then (j - i - 1) / c + 1 else 0) : RgC i j c n := by
  have er : Builtin.Range.rangeSize i j c = n := by
    unfold Builtin.Range.rangeSize
    rw [if_pos hc, e]
  have hq : i < j → (j - i - 1) / c ≤ j - i - 1 := fun h => Int.ediv_le_self _ (by omega)
  have hz : i < j → 0 ≤ (j - i - 1) / c := fun h => Int.ediv_nonneg (by omega) (by omega)
  have hn : (n : Int) < 2 ^ 63 := by
    rw [e]
    split
    · rename_i h
      have := hq h
      omega
    · decide
  refine ⟨by omega, by omega, ?_, er⟩
  unfold Builtin.Range.small
  rw [er]
  simp only [Builtin.Range.rangeFitsLong, Bool.and_eq_true, Bool.or_eq_true, decide_eq_true_eq, beq_iff_eq]
  have c1 : c ≤ 2 ^ 62 := by omega
  refine ⟨⟨⟨⟨⟨by omega, by omega⟩, by omega, by omega⟩, by omega, by omega⟩, by omega, hn⟩, .inr ?_⟩
  rw [if_pos hc]
  rw [Bool.and_eq_true, decide_eq_true_eq, decide_eq_true_eq]
  constructor <;> omega
theorem enc_len : ∀ {rows : BRows}, (∀ r ∈ rows, r.2.length = 64) → (rows.flatMap fun r => four r.1 ++ r.2).length = 68 * rows.length
  | [], _ => rfl
  | r :: rows, h => by
    rw [List.flatMap_cons, List.length_append, enc_len fun r hr => h r (List.mem_cons_of_mem _ hr), List.length_append, h r List.mem_cons_self, List.length_cons]
    show 4 + 64 + _ = _
    omega
theorem at0 {x : List Int} (h : 0 < x.length) : (x.map V.int)[0]? = some (.int (x.getD 0 0)) := by
  rw [List.getElem?_map, List.getD_eq_getElem?_getD, List.getElem?_eq_getElem h]
  rfl
def RootV (H G' H' : Hp) (v : V) : Option (Int × Int) → Prop
  | none => v = .non
  | some x => ∃ t, v = .ref t ∧ H t = none ∧ G' t = none ∧ H' t = some (.tup [.int x.1, .int x.2])
section
variable {P : Program} {w : World} {K : PySem.W.Frag} {mg : Str → Option Value} {base : Heap} {C B : Addr} {tP tR tW tH : Tok}
def spRootAt (C : Addr) : Sp := fun vs H Q _ => ∃ (G : Hp) (p s wl : Addr) (d : DS) (n : Int), vs = [.ref p, .int n] ∧ Same G H ∧ DiskAt C G H p s wl d ∧ (∀ n, (d.read n).length = 16) ∧
  ∀ v G' H', Stp O0 G H G' H' → RootV H G' H' v (rootAt d.read n) → Q v H'
abbrev s_root_at : Stmt := top 13
theorem sc_root_at : FnScope ["disk", "place", "content"] ["disk", "place"] (defScope s_root_at) := ⟨rfl, rfl, rfl, by decide +kernel, rfl, by decide +kernel, by decide +kernel⟩
theorem ok_root {f : Addr} {fd : FuncData} (F : Fun K "root_at" "root_at" s_root_at f fd) (L_of_four : FnC P w K mg base "of_four" 1 ["octets"] spOfFour) (L_Disk_read : MtC P w K mg base C "read" 2 ["self", "number"] (spRead C)) :
    FnOk P w K mg base CX0 3 f fd ["disk", "place"] (spRootAt C) := by
  refine F.ok sc_root_at (fun vs H Q E h => ?_) (fun cdv A outer st H vs Q E hr h => ?_)
  · obtain ⟨G, p, s, wl, d, n, rfl, _⟩ := h
    rfl
  · obtain ⟨G, p, s, wl, d, n, rfl, gh, D, l16, k⟩ := h
    have nd := sc_root_at.nd
    refine ⟨_, (pss_cons (ps_set (i := 2) nd rfl (Or.inl rfl) (pe_mtc (pv 0) L_Disk_read (hr.mono (by decide)) (pa_cons (pv 1) pa_nil)))
    (pss_one (ps_ret (pe_ifExp (pt_cmpR op_eq (pe_ix (ix_listK (K := K) rfl) (pv 2) pe_int (fun _ _ => rfl)) pe_int (nomark _)) (pe_tup (pa_cons (pe_fnc L_of_four (hr.mono (by decide)) rfl (pa_cons (pe_slice (sl_listK (K := K) rfl) (pv 2) (po_some pe_int) (po_some pe_int)) pa_nil)) (pa_cons (pe_fnc L_of_four (hr.mono (by decide)) rfl (pa_cons (pe_slice (sl_listK (K := K) rfl) (pv 2) (po_some pe_int) (po_some pe_int)) pa_nil)) pa_nil))) pe_non)))), ?_⟩
    obtain ⟨dx, rl, h1, _⟩ := id D.ob
    refine ⟨_, rfl, p, dx, _, rfl, h1, df_no (by decide +kernel) (by decide +kernel) (by decide +kernel) (by decide +kernel) (by decide +kernel), _, rfl, G, p, s, wl, d, n, rfl, gh, D, fun q G1 H1 s1 nq gq fq => ?_⟩
    have l := l16 n
    refine ⟨_, rfl, q, _, _, _, rfl, rfl, SqL.of fq, at_of (j := 0) rfl (at0 (by omega)), rfl, _, rfl, if_int (fun c => ?_) (fun c => ?_)⟩
    · refine ⟨_, rfl, _, rfl, _, rfl, q, _, rfl, SqL.of fq, fun p1 n1 => ?_⟩
      rw [cut_mid1]
      generalize e2 : upd H1 p1 _ = H2
      obtain ⟨s2, f2, k2, _, _⟩ := own_of s1 n1 e2
      refine ⟨p1, _, rfl, f2, by rw [sl_len (by omega)]; decide, ?_⟩
      refine ⟨_, rfl, _, rfl, _, rfl, q, _, rfl, SqL.of (k2 _ _ fq), fun p2 n2 => ?_⟩
      rw [cut_mid5]
      generalize e3 : upd H2 p2 _ = H3
      obtain ⟨s3, f3, k3, _, _⟩ := own_of s2 n2 e3
      refine ⟨p2, _, rfl, f3, by rw [sl_len (by omega)]; decide, (by show 2 ≤ sizeLine; decide), fun t nt => ?_⟩
      generalize e4 : upd H3 t _ = H4
      obtain ⟨s4, f4, k4, g4, z4⟩ := own_of s3 nt e4
      refine k _ G1 H4 s4 ?_
      unfold rootAt
      rw [if_pos c]
      exact ⟨t, rfl, z4, g4, f4⟩
    · refine k _ G1 H1 s1 ?_
      unfold rootAt
      rw [if_neg c]
      rfl
def spContent : Sp := fun vs H Q _ => ∃ (G : Hp) (e : Int) (a : Addr) (rows : BRows), vs = [.int e, .ref a] ∧ Same G H ∧ LstAt rSec H H a rows ∧ rows.length ≤ 1000 ∧ (∀ r ∈ rows, r.2.length = 64) ∧
  ∀ q G' H', Stp O0 G H G' H' → H q = none → G' q = none → H' q = some (rowI (contOf e rows)) → Q (.ref q) H'
abbrev s_content_of : Stmt := top 15
theorem sc_content_of : FnScope ["epoch", "rows", "found", "number", "page"] ["epoch", "rows"] (defScope s_content_of) := ⟨rfl, rfl, rfl, by decide +kernel, rfl, by decide +kernel, by decide +kernel⟩
theorem ok_content {f : Addr} {fd : FuncData} (F : Fun K "content_of" "content_of" s_content_of f fd) (T : TxB K mg B tP tR tW tH) (L_four : FnC P w K mg base "four" 1 ["number"] spFour) :
    FnOk P w K mg base CX0 2 f fd ["epoch", "rows"] spContent := by
  refine F.ok sc_content_of (fun vs H Q E h => ?_) (fun cdv A outer st H vs Q E hr h => ?_)
  · obtain ⟨G, e, a, rows, rfl, _⟩ := h
    rfl
  · obtain ⟨G, e, a, rows, rfl, gh, ⟨us, ha, pu⟩, hl, h64, k⟩ := h
    have nd := sc_content_of.nd
    refine ⟨_, (pss_cons (ps_set (i := 2) nd rfl (Or.inl rfl) (pe_op op_cat (pe_fnc L_four (hr.mono (by decide)) rfl (pa_cons (pv 0) pa_nil)) (pe_fnc L_four (hr.mono (by decide)) rfl (pa_cons (pe_callB (call_len_seqK (K := K) rfl) (by rfl) T.b_len (by decide +kernel) (pa_cons (pv 1) pa_nil)) pa_nil))))
    (pss_cons (ps_for PassesOwn.never rfl (pi_listK (K := K) rfl (pv 1)) (pg_tupK (K := K) (n := 2) rfl rfl (pgs_cons (pg_name (i := 3) nd rfl (Or.inl rfl)) (pgs_cons (pg_name (i := 4) nd rfl (Or.inl rfl)) pgs_nil)))
    (pss_one (ps_expr (pe_bmK (K := K) rfl PySem.F.plainAttrs_list PySem.F.slot_list_extend PySem.F.type_list_extend mt_extend (pv 2) (pa_cons (pe_op op_cat (pe_fnc L_four (hr.mono (by decide)) rfl (pa_cons (pv 3) pa_nil)) (pe_callTy (call_list_ofK (K := K) rfl) (by rfl) T.b_list (by decide +kernel) (pa_cons (pv 4) pa_nil))) pa_nil)))))
    (pss_one (ps_ret (pv 2))))), ?_⟩
    refine ⟨_, rfl, G, e, rfl, gh, fun q1 G1 H1 s1 n1 g1 f1 => ?_⟩
    have ha1 := s1.kp _ _ ha fun z => z
    refine ⟨_, rfl, a, _, rfl, .inl (SqL.of ha1), G1, _, rfl, s1.gh, fun q2 G2 H2 s2 n2 g2 f2 => ?_⟩
    have s12 := s1.trans s2 fun b z => z.elim
    have f12 := s2.kp _ _ f1 fun z => z
    refine ⟨q1, q2, _, _, rfl, rfl, f12, f2, ?_, fun q nq => ?_⟩
    · rw [List.length_map, List.length_map]
      show 4 + 4 ≤ sizeLine
      decide
    generalize e3 : upd H2 q _ = H3
    obtain ⟨s3, f3, k3, g3, z3⟩ := own_of s12 nq e3
    rw [← List.map_append] at f3
    have elen := pd_len pu
    refine ⟨_, rfl, a, rfl, ⟨_, SqL.of (s3.kp _ _ ha fun z => z)⟩, for_list (K := K) (a := a) (xs := us)
      (fun i σ H4 => (∃ x3 x4, σ = [some (.int e), some (.ref a), some (.ref q), x3, x4]) ∧ ∃ G4, Stp O0 G H G4 H4 ∧ G4 q = none ∧ H4 q = some (rowI (four e ++ four (us.length : Int) ++ (rows.take i).flatMap fun r => four r.1 ++ r.2)))
      ⟨⟨_, _, rfl⟩, _, s3, g3, by rw [List.take_zero, List.flatMap_nil, List.append_nil]; exact f3⟩ (fun i σ H4 _ ⟨_, G4, s4, _, _⟩ => SqL.of (s4.kp _ _ ha fun z => z)) ?_ ?_⟩
    · rintro i y σ H4 hi ⟨⟨x3, x4, rfl⟩, G4, s4, g4, f4⟩
      obtain ⟨r, hr', t, u, c0, rfl, ht, hu', hc⟩ := pd_get pu hi
      cases hu'
      obtain ⟨c, rfl, hcc⟩ := rLI hc
      have hi2 := (List.getElem?_eq_some_iff.mp hr').1
      have r64 := h64 r (List.mem_of_getElem? hr')
      refine g_pair (s4.kp _ _ ht fun z => z) ?_
      refine ⟨_, rfl, .inl ⟨rfl, _, SqL.of f4⟩, _, rfl, G4, _, rfl, s4.gh, fun q5 G5 H5 s5 n5 g5 f5 => ?_⟩
      have s45 := s4.trans s5 fun b z => z.elim
      refine ⟨_, rfl, c, _, rfl, .inl (SqL.of (s45.kp _ _ hcc fun z => z)), fun q6 n6 => ?_⟩
      generalize e6 : upd H5 q6 _ = H6
      obtain ⟨s6, f6, k6, g6, z6⟩ := own_of s45 n6 e6
      refine ⟨q5, q6, _, _, rfl, rfl, k6 _ _ f5, f6, ?_, fun q7 n7 => ?_⟩
      · rw [List.length_map, List.length_map, r64]
        show 4 + 64 ≤ sizeLine
        decide
      generalize e7 : upd H6 q7 _ = H7
      obtain ⟨s7, f7, k7, g7, z7⟩ := own_of s6 n7 e7
      have fq := k7 _ _ (k6 _ _ (s5.kp _ _ f4 fun z => z))
      have gq : G5 q = none := s5.nw q (ne_none f4) g4
      refine ⟨q, q7, _, _, rfl, rfl, fq, f7, ?_, ?_⟩
      · have z := enc_len (rows := rows.take i) fun r hr => h64 r (List.mem_of_mem_take hr)
        have z2 : (rows.take i).length ≤ 1000 := by rw [List.length_take]; omega
        rw [List.length_map, List.length_append, List.length_append, List.length_append, List.length_map, List.length_map, z, r64, sizeLine_eq]
        show 4 + 4 + _ + (4 + 64) ≤ _
        omega
      generalize e8 : upd H7 q _ = H8
      obtain ⟨s8, f8, k8⟩ := wr_of s7 fq gq (.inr z3) e8
      refine ⟨⟨_, _, rfl⟩, _, s8, gq, ?_⟩
      rw [f8, List.take_add_one, hr', List.flatMap_append]
      simp
    · rintro σ H4 ⟨⟨x3, x4, rfl⟩, G4, s4, g4, f4⟩
      rw [elen, List.take_of_length_le (Nat.le_refl _)] at f4
      exact ⟨_, rfl, k q G4 H4 s4 z3 g4 f4⟩
def spLogSecs : Sp := fun vs H Q _ => ∃ (G : Hp) (a : Addr) (c : List Int), vs = [.ref a] ∧ Same G H ∧ H a = some (rowI c) ∧ c.length ≤ 100000 ∧
  ∀ q us G' H', Stp O0 G H G' H' → H q = none → G' q = none → H' q = some (.lst us) → Paired (rL rI G') us (partsL c) → Q (.ref q) H'
abbrev s_log_sectors : Stmt := top 16
theorem sc_log_sectors : FnScope ["content", "found", "at", "part"] ["content"] (defScope s_log_sectors) := ⟨rfl, rfl, rfl, by decide +kernel, rfl, by decide +kernel, by decide +kernel⟩
theorem ok_logSecs {f : Addr} {fd : FuncData} (F : Fun K "log_sectors" "log_sectors" s_log_sectors f fd) (T : TxB K mg B tP tR tW tH) :
    FnOk P w K mg base CX0 1 f fd ["content"] spLogSecs := by
  refine F.ok sc_log_sectors (fun vs H Q E h => ?_) (fun cdv A outer st H vs Q E hr h => ?_)
  · obtain ⟨G, a, c, rfl, _⟩ := h
    rfl
  · obtain ⟨G, a, c, rfl, gh, ha, hl, k⟩ := h
    have nd := sc_log_sectors.nd
    refine ⟨_, (pss_cons (ps_set (i := 1) nd rfl (Or.inl rfl) (pe_lst pa_nil))
    (pss_cons (ps_for PassesOwn.never rfl (pi_range3 rfl T.b_range (pa_cons pe_int (pa_cons (pe_callB (call_len_seqK (K := K) rfl) (by rfl) T.b_len (by decide +kernel) (pa_cons (pv 0) pa_nil)) (pa_cons (pe_glob (v := .int 15) rfl T.c_ROOM ⟨_, rfl⟩) pa_nil)))) (pg_name (i := 2) nd rfl (Or.inl rfl))
    (pss_cons (ps_set (i := 3) nd rfl (Or.inl rfl) (pe_slice (sl_listK (K := K) rfl) (pv 0) (po_some (pv 2)) (po_some (pe_op op_add (pv 2) (pe_glob (v := .int 15) rfl T.c_ROOM ⟨_, rfl⟩)))))
    (pss_one (ps_expr (pe_bmK (K := K) rfl PySem.F.plainAttrs_list PySem.F.slot_list_append PySem.F.type_list_append mt_append (pv 1) (pa_cons (pe_op op_cat (pe_op op_cat (pe_lst (pa_cons pe_int pa_nil)) (pv 3)) (pe_op op_rep (pe_lst (pa_cons pe_int pa_nil)) (pe_op op_sub (pe_glob (v := .int 15) rfl T.c_ROOM ⟨_, rfl⟩) (pe_callB (call_len_seqK (K := K) rfl) (by rfl) T.b_len (by decide +kernel) (pa_cons (pv 3) pa_nil))))) pa_nil))))))
    (pss_one (ps_ret (pv 1))))), ?_⟩
    refine ⟨(by show 0 ≤ sizeLine; decide), fun q nq => ?_⟩
    generalize e1 : upd H q _ = H1
    obtain ⟨s1, f1, k1, g1, z1⟩ := own_of (Stp.refl (O := O0) gh) nq e1
    refine ⟨_, rfl, a, _, rfl, .inl (SqL.of (k1 _ _ ha)), 0, _, 15, parts c, rfl, rgC_up (by decide) (by decide) (by decide) (by decide) (by omega) (by rw [List.length_map]; omega) (by rw [List.length_map]; unfold parts; split <;> omega), for_rangeC (lo := 0) (c := 15) (n := parts c)
      (fun i σ H4 => (∃ x2 x3, σ = [some (.ref a), some (.ref q), x2, x3]) ∧ ∃ G4 us, Stp O0 G H G4 H4 ∧ G4 q = none ∧ H4 q = some (.lst us) ∧ us.length = i ∧ Paired (rL rI G4) us ((List.range i).map (part c)))
      ⟨⟨_, _, rfl⟩, _, [], s1, g1, f1, rfl, .nil⟩ ?_ ?_⟩
    · rintro i σ H4 hi ⟨⟨x2, x3, rfl⟩, G4, us, s4, g4, f4, l4, pp⟩
      have ha4 := s4.kp _ _ ha fun z => z
      refine ⟨_, rfl, _, rfl, _, rfl, _, rfl, _, _, rfl, rfl, _, rfl, a, _, rfl, SqL.of ha4, fun p1 n1 => ?_⟩
      have ei : (0 : Int) + (i : Int) * 15 = ((15 * i : Nat) : Int) := by omega
      have ei2 : (0 : Int) + (i : Int) * 15 + 15 = ((15 * i + 15 : Nat) : Int) := by omega
      rw [ei2, ei, cut_mid c (by omega)]
      generalize e5 : upd H4 p1 _ = H5
      obtain ⟨s5, f5, k5, g5, z5⟩ := own_of s4 n1 e5
      have esl : sl c (15 * i) (15 * i + 15) = (c.drop (15 * i)).take 15 := by
        unfold sl
        rw [List.drop_take]
        congr 1
        omega
      rw [esl] at f5
      have l15 : ((c.drop (15 * i)).take 15).length ≤ 15 := by rw [List.length_take]; omega
      refine ⟨_, rfl, .inl ⟨rfl, _, SqL.of (k5 _ _ f4)⟩, (by show 1 ≤ sizeLine; decide), fun p2 n2 => ?_⟩
      generalize e6 : upd H5 p2 _ = H6
      obtain ⟨s6, f6, k6, g6, z6⟩ := own_of s5 n2 e6
      refine ⟨_, rfl, p2, p1, _, _, rfl, rfl, f6, k6 _ _ f5, ?_, fun p3 n3 => ?_⟩
      · rw [List.length_map, sizeLine_eq]
        show 1 + _ ≤ _
        omega
      generalize e7 : upd H6 p3 _ = H7
      obtain ⟨s7, f7, k7, g7, z7⟩ := own_of s6 n3 e7
      refine ⟨(by show 1 ≤ sizeLine; decide), fun p4 n4 => ?_⟩
      generalize e8 : upd H7 p4 _ = H8
      obtain ⟨s8, f8, k8, g8, z8⟩ := own_of s7 n4 e8
      refine ⟨_, rfl, p1, _, rfl, .inl (SqL.of (k8 _ _ (k7 _ _ (k6 _ _ f5)))), _, _, rfl, rfl, ?_⟩
      rw [List.length_map]
      generalize ez : (c.drop (15 * i)).take 15 = z at *
      have ek : ((15 : Int) - (z.length : Int)).toNat = 15 - z.length := by omega
      refine ⟨p4, _, _, rfl, rfl, f8, by omega, by omega, by rw [ek]; show 1 * _ ≤ _; rw [sizeLine_eq]; omega, fun p5 n5 => ?_⟩
      rw [ek]
      generalize e9 : upd H8 p5 _ = H9
      obtain ⟨s9, f9, k9, g9, z9⟩ := own_of s8 n5 e9
      have erep : (List.replicate (15 - z.length) [V.int 0]).flatten = (List.replicate (15 - z.length) (0 : Int)).map V.int := by
        rw [List.map_replicate]
        generalize 15 - z.length = m
        induction m with
        | zero => rfl
        | succ m ih => rw [List.replicate_succ, List.flatten_cons, ih, List.replicate_succ]; rfl
      rw [erep] at f9
      refine ⟨p3, p5, _, _, rfl, rfl, k9 _ _ (k8 _ _ f7), f9, ?_, fun p6 n6 => ?_⟩
      · rw [List.length_append, List.length_map, List.length_map, List.length_replicate, sizeLine_eq]
        show 1 + _ + _ ≤ _
        omega
      generalize e10 : upd H9 p6 _ = H10
      obtain ⟨G10, s10, f10, gg10, k10, gk10⟩ := data_of s9 n6 e10
      have fq := k10 _ _ (k9 _ _ (k8 _ _ (k7 _ _ (k6 _ _ (k5 _ _ f4)))))
      have nq6 : q ≠ p6 := ne_of_none (k9 _ _ (k8 _ _ (k7 _ _ (k6 _ _ (k5 _ _ f4))))) n6
      have gq10 : G10 q = none := by rw [gk10 q nq6]; exact g4
      refine ⟨q, us, _, rfl, rfl, fq, ?_, ?_⟩
      · have : parts c ≤ 100000 := by unfold parts; omega
        rw [sizeLine_eq]
        omega
      generalize e11 : upd H10 q _ = H11
      obtain ⟨s11, f11, k11⟩ := wr_of s10 fq gq10 (.inr z1) e11
      refine ⟨⟨_, _, rfl⟩, G10, _, s11, gq10, f11, by rw [List.length_append, l4]; rfl, ?_⟩
      rw [List.range_succ, List.map_append]
      refine pd_snoc (mI.l.ps gg10 pp) (rLI_of ?_)
      rw [f10]
      unfold part
      rw [ez]
      simp
    · rintro σ H4 ⟨⟨x2, x3, rfl⟩, G4, us, s4, g4, f4, _, p4⟩
      exact ⟨_, rfl, k q us G4 H4 s4 z1 g4 f4 p4⟩
end
end K51

/-! KB3: a batch of the log. -/
namespace K51
open PySem PySem.Spec PyProof.Rows L2 Y
def BatV (H G' H' : Hp) (v : V) : Option (BRows × Int) → Prop
  | none => v = .non
  | some x => ∃ t l, v = .ref t ∧ H' t = some (.tup [.ref l, .int x.2]) ∧ LstAt rSec G' H' l x.1 ∧ H t = none ∧ H l = none ∧ G' t = none ∧ G' l = none
theorem if_nint {i j : Int} {A B : Prop} (h1 : i ≠ j → A) (h2 : i = j → B) : if (!decide (V.int i = V.int j)) = true then A else B := by
  by_cases e : i = j
  · rw [if_neg (by rw [decide_eq_true (by rw [e])]; exact Bool.false_ne_true)]
    exact h2 e
  · rw [if_pos (by rw [decide_eq_false fun z => e (V.int.inj z)]; rfl)]
    exact h1 e
theorem atI_last {xs : List V} {v : V} (h : xs.getLast? = some v) : atI xs (-1) = some v := by
  have h0 : 0 < xs.length := by
    cases xs with
    | nil => cases h
    | cons x xs => rw [List.length_cons]; omega
  unfold atI ixN
  rw [if_neg (by decide), if_pos (by omega)]
  rw [List.getLast?_eq_getElem?] at h
  show xs[((-1 : Int) + (xs.length : Int)).toNat]? = some v
  rw [show ((-1 : Int) + (xs.length : Int)).toNat = xs.length - 1 by omega]
  exact h
section
variable {P : Program} {w : World} {K : PySem.W.Frag} {mg : Str → Option Value} {base : Heap} {C B : Addr} {tP tR tW tH : Tok}
def spBatchAt (C : Addr) : Sp := fun vs H Q _ => ∃ (G : Hp) (p s wl : Addr) (d : DS) (n e : Int), vs = [.ref p, .int n, .int e] ∧ Same G H ∧ DiskAt C G H p s wl d ∧ (∀ n, (d.read n).length = 16) ∧ CntOk d.read n e ∧
  ∀ v G' H', Stp O0 G H G' H' → BatV H G' H' v (batchAt d.read n e) → Q v H'
abbrev s_batch_at : Stmt := top 17
theorem sc_batch_at : FnScope ["disk", "place", "epoch", "head", "octets", "sectors", "rows", "at", "number"] ["disk", "place", "epoch"] (defScope s_batch_at) := ⟨rfl, rfl, rfl, by decide +kernel, rfl, by decide +kernel, by decide +kernel⟩
theorem ok_batch {f : Addr} {fd : FuncData} (F : Fun K "batch_at" "batch_at" s_batch_at f fd) (T : TxB K mg B tP tR tW tH) (L_of_four : FnC P w K mg base "of_four" 1 ["octets"] spOfFour) (L_log_sector : FnC P w K mg base "log_sector" 1 ["place"] spLogS)
    (L_Disk_read : MtC P w K mg base C "read" 2 ["self", "number"] (spRead C)) : FnOk P w K mg base CX0 3 f fd ["disk", "place", "epoch"] (spBatchAt C) := by
  refine F.ok sc_batch_at (fun vs H Q E h => ?_) (fun cdv A outer st H vs Q E hr h => ?_)
  · obtain ⟨G, p, s, wl, d, n, e, rfl, _⟩ := h
    rfl
  · obtain ⟨G, p, s, wl, d, n, e, rfl, gh, D, l16, hcnt, k⟩ := h
    have nd := sc_batch_at.nd
    refine ⟨_, (pss_cons (ps_set (i := 3) nd rfl (Or.inl rfl) (pe_mtc (pv 0) L_Disk_read (hr.mono (by decide)) (pa_cons (pe_fnc L_log_sector (hr.mono (by decide)) rfl (pa_cons (pv 1) pa_nil)) pa_nil)))
    (pss_cons (ps_if (PW.pt (pw_or (pt_cmpR op_ne (pe_ix (ix_listK (K := K) rfl) (pv 3) pe_int (fun _ _ => rfl)) pe_int (nomark _)) (pw_or1 (pt_cmpR op_ne (pe_fnc L_of_four (hr.mono (by decide)) rfl (pa_cons (pe_slice (sl_listK (K := K) rfl) (pv 3) (po_some pe_int) (po_some pe_int)) pa_nil)) (pv 2) (nomark _)))))
    (pss_one (ps_ret pe_non))
    pss_nil)
    (pss_cons (ps_par3 (i := 4) (j := 5) (l := 6) rfl nd rfl rfl rfl (by decide) (by decide) (by decide) rfl rfl rfl (pa_cons (pe_slice (sl_listK (K := K) rfl) (pv 3) (po_some pe_int) po_none) (pa_cons pe_int (pa_cons (pe_lst pa_nil) pa_nil))) rfl)
    (pss_cons (ps_for PassesOwn.never rfl (pi_range3 rfl T.b_range (pa_cons (pe_glob (v := .int 8) rfl T.c_HEAD ⟨_, rfl⟩) (pa_cons (pe_op op_add (pe_glob (v := .int 8) rfl T.c_HEAD ⟨_, rfl⟩) (pe_op op_mul (pe_glob (v := .int 68) rfl T.c_ROW ⟨_, rfl⟩) (pe_fnc L_of_four (hr.mono (by decide)) rfl (pa_cons (pe_slice (sl_listK (K := K) rfl) (pv 3) (po_some pe_int) (po_some pe_int)) pa_nil)))) (pa_cons (pe_glob (v := .int 68) rfl T.c_ROW ⟨_, rfl⟩) pa_nil)))) (pg_name (i := 7) nd rfl (Or.inl rfl))
    (pss_cons (ps_while PassesOwn.never (pt_cmpR op_lt (pe_callB (call_len_seqK (K := K) rfl) (by rfl) T.b_len (by decide +kernel) (pa_cons (pv 4) pa_nil)) (pe_op op_add (pv 7) (pe_glob (v := .int 68) rfl T.c_ROW ⟨_, rfl⟩)) (nomark _))
    (pss_cons (ps_expr (pe_bmK (K := K) rfl PySem.F.plainAttrs_list PySem.F.slot_list_extend PySem.F.type_list_extend mt_extend (pv 4) (pa_cons (pe_slice (sl_listK (K := K) rfl) (pe_mtc (pv 0) L_Disk_read (hr.mono (by decide)) (pa_cons (pe_fnc L_log_sector (hr.mono (by decide)) rfl (pa_cons (pe_op op_add (pv 1) (pv 5)) pa_nil)) pa_nil)) (po_some pe_int) po_none) pa_nil)))
    (pss_one (ps_set (i := 5) nd rfl (Or.inl rfl) (pe_op op_add (pv 5) pe_int)))))
    (pss_cons (ps_set (i := 8) nd rfl (Or.inl rfl) (pe_fnc L_of_four (hr.mono (by decide)) rfl (pa_cons (pe_slice (sl_listK (K := K) rfl) (pv 4) (po_some (pv 7)) (po_some (pe_op op_add (pv 7) pe_int))) pa_nil)))
    (C8.pss_cut (ps_if (PW.pt (pw_and (pt_cmpR op_gt (pe_callB (call_len_seqK (K := K) rfl) (by rfl) T.b_len (by decide +kernel) (pa_cons (pv 6) pa_nil)) pe_int (nomark _)) (pw_and1 (pt_cmpR op_le (pv 8) (pe_ix (ix_tupK (K := K) rfl) (pe_ix (ix_listK (K := K) rfl) (pv 6) (pe_un un_neg pe_int) (fun _ _ => rfl)) pe_int (fun _ _ => rfl)) (nomark _)))))
    (pss_one (ps_ret pe_non))
    pss_nil)
    (pss_one (ps_expr (pe_bmK (K := K) rfl PySem.F.plainAttrs_list PySem.F.slot_list_append PySem.F.type_list_append mt_append (pv 6) (pa_cons (pe_tup (pa_cons (pv 8) (pa_cons (pe_slice (sl_listK (K := K) rfl) (pv 4) (po_some (pe_op op_add (pv 7) pe_int)) (po_some (pe_op op_add (pv 7) (pe_glob (v := .int 68) rfl T.c_ROW ⟨_, rfl⟩)))) pa_nil))) pa_nil))))))))
    (pss_one (ps_ret (pe_tup (pa_cons (pv 6) (pa_cons (pv 5) pa_nil))))))))), ?_⟩
    obtain ⟨dx, rl, h1, _⟩ := id D.ob
    refine ⟨_, rfl, p, dx, _, rfl, h1, df_no (by decide +kernel) (by decide +kernel) (by decide +kernel) (by decide +kernel) (by decide +kernel), _, rfl, n, rfl, G, p, s, wl, d, _, rfl, gh, D, fun q G1 H1 s1 nq gq fq => ?_⟩
    have l := l16 (lg n)
    refine ⟨_, rfl, q, _, _, _, rfl, rfl, SqL.of fq, at_of (j := 0) rfl (at0 (by omega)), rfl, _, rfl, if_nint (fun e0 => iteT ?_) (fun e0 => ?_)⟩
    · refine k _ G1 H1 s1 ?_
      unfold batchAt
      rw [if_neg fun z => e0 z.1]
      rfl
    refine ⟨_, rfl, _, rfl, _, rfl, q, _, rfl, SqL.of fq, fun p1 n1 => ?_⟩
    rw [cut_mid1]
    generalize e2 : upd H1 p1 _ = H2
    obtain ⟨s2, f2, k2, _, _⟩ := own_of s1 n1 e2
    refine ⟨p1, _, rfl, f2, by rw [sl_len (by omega)]; decide, _, rfl, rfl, _, rfl, if_nint (fun e1 => ?_) (fun e1 => ?_)⟩
    · refine k _ G1 H2 s2 ?_
      unfold batchAt
      rw [if_neg fun z => e1 z.2]
      rfl
    have hd : headOk d.read n e := ⟨e0, e1⟩
    obtain ⟨c0, c1⟩ := hcnt hd
    refine ⟨_, rfl, _, rfl, q, _, rfl, SqL.of (k2 _ _ fq), fun O nO => ?_⟩
    rw [cut_1]
    generalize e3 : upd H2 O _ = H3
    obtain ⟨s3, f3, k3, g3, z3⟩ := own_of s2 nO e3
    refine ⟨(by show 0 ≤ sizeLine; decide), fun R nR => ?_⟩
    generalize e4 : upd H3 R _ = H4
    obtain ⟨s4, f4, k4, g4, z4⟩ := own_of s3 nR e4
    refine ⟨_, _, _, rfl, ?_⟩
    have fq4 := k4 _ _ (k3 _ _ (k2 _ _ fq))
    refine ⟨_, rfl, _, rfl, _, rfl, q, _, rfl, SqL.of fq4, fun p2 n2 => ?_⟩
    rw [cut_mid5]
    generalize e5 : upd H4 p2 _ = H5
    obtain ⟨s5, f5, k5, _, _⟩ := own_of s4 n2 e5
    have nOR : O ≠ R := ne_of_none f3 nR
    refine ⟨p2, _, rfl, f5, by rw [sl_len (by omega)]; decide, _, _, rfl, rfl, .inl ⟨by decide, by decide⟩, _, _, rfl, rfl, 8, _, 68, cnt d.read n, rfl, rgC_up (by decide) (by decide) (by decide) (by decide) (by omega) (by omega) (by unfold cnt; split <;> omega),
      for_rangeC (lo := 8) (c := 68) (n := cnt d.read n)
      (fun i σ H6 => i ≤ cnt d.read n ∧ (∃ x7 x8, σ = [some (.ref p), some (.int n), some (.int e), some (.ref q), some (.ref O), some (.int (secs i : Nat)), some (.ref R), x7, x8]) ∧ ∃ G6 us, Stp O0 G H G6 H6 ∧ G6 O = none ∧ G6 R = none ∧
        H6 O = some (rowI (strm d.read n (secs i))) ∧ H6 R = some (.lst us) ∧ Paired (rSec G6) us (browsN d.read n i) ∧ rising (browsN d.read n i))
      ⟨Nat.zero_le _, ⟨_, _, rfl⟩, G1, [], s5, g3, g4, by rw [show secs 0 = 1 from rfl, strm_one]; exact k5 _ _ (k4 _ _ f3), k5 _ _ f4, .nil, List.Pairwise.nil⟩ ?_ ?_⟩
    · rintro i σ H6 hi ⟨_, ⟨x7, x8, rfl⟩, G6, us, s6, gO, gR, fO, fR, pR, rR⟩
      have cl : cnt d.read n ≤ 60000 := by unfold cnt; omega
      have e81 : (22 + 68 * (i + 1)) / 15 = secs (i + 1) := rfl
      have le1 : secs i ≤ secs (i + 1) := secs_le (Nat.le_succ _)
      have le2 : secs (i + 1) ≤ 300000 := by unfold secs; omega
      refine ⟨fun m σ H7 => ∃ mm : Nat, m = secs (i + 1) - mm ∧ secs i ≤ mm ∧ mm ≤ secs (i + 1) ∧ (∃ x8, σ = [some (.ref p), some (.int n), some (.int e), some (.ref q), some (.ref O), some (.int (mm : Nat)), some (.ref R), some (.int (8 + (i : Int) * 68)), x8]) ∧
        ∃ G7, Stp O0 G H G7 H7 ∧ Same G6 G7 ∧ G7 O = none ∧ G7 R = none ∧ H7 O = some (rowI (strm d.read n mm)) ∧ H7 R = some (.lst us), ⟨_, secs i, rfl, Nat.le_refl _, le1, ⟨_, rfl⟩, G6, s6, Same.refl _, gO, gR, fO, fR⟩, ?_⟩
      rintro m σ H7 ⟨mm, rfl, m1, m2, ⟨x8, rfl⟩, G7, s7, gg7, gO7, gR7, fO7, fR7⟩
      have lstrm := strm_len (rd := d.read) l16 n mm
      refine ⟨_, rfl, O, _, rfl, .inl (SqL.of fO7), _, rfl, _, _, rfl, rfl, _, _, rfl, rfl, _, rfl, if_dec (fun lt => ?_) (fun ge => ?_)⟩
      · rw [List.length_map, lstrm] at lt
        have m3 : mm + 1 ≤ secs (i + 1) := by omega
        refine ⟨fun σ' H' => ∃ m', m' < secs (i + 1) - mm ∧ _, fun σ' H' z => z, ?_⟩
        have D7 := D.stp s7 fun _ _ z => z
        obtain ⟨dx7, rl7, h17, _⟩ := id D7.ob
        refine ⟨_, rfl, .inl ⟨rfl, _, SqL.of fO7⟩, _, rfl, p, dx7, _, rfl, h17, df_no (by decide +kernel) (by decide +kernel) (by decide +kernel) (by decide +kernel) (by decide +kernel), _, rfl, _, rfl, _, _, rfl, rfl, _, rfl, G7, p, s, wl, d, _, rfl, s7.gh, D7, fun q8 G8 H8 s8 n8 g8 f8 => ?_⟩
        have s78 := s7.trans s8 fun b z => z.elim
        refine ⟨_, rfl, q8, _, rfl, SqL.of f8, fun p9 n9 => ?_⟩
        rw [cut_1]
        generalize e9 : upd H8 p9 _ = H9
        obtain ⟨s9, f9, k9, g9, z9⟩ := own_of s78 n9 e9
        have fO9 := k9 _ _ (s8.kp _ _ fO7 fun z => z)
        have gO9 := s8.nw O (ne_none fO7) gO7
        have gR9 := s8.nw R (ne_none fR7) gR7
        refine ⟨O, p9, _, _, rfl, rfl, fO9, f9, ?_, ?_⟩
        · rw [List.length_map, List.length_map, lstrm, List.length_drop, l16, sizeLine_eq]
          omega
        generalize e10 : upd H9 O _ = H10
        obtain ⟨s10, f10, k10⟩ := wr_of s9 fO9 gO9 (.inr z3) e10
        refine ⟨_, rfl, _, _, rfl, rfl, secs (i + 1) - (mm + 1), by omega, mm + 1, rfl, by omega, m3, ⟨_, rfl⟩, G8, s10, gg7.trans s8.gg, gO9, gR9, ?_, k10 _ _ nOR.symm (k9 _ _ (s8.kp _ _ fR7 fun z => z))⟩
        rw [f10, strm_succ]
        simp
      · rw [List.length_map, lstrm] at ge
        have em : mm = secs (i + 1) := by omega
        subst em
        have ea : (8 : Int) + (i : Int) * 68 = ((8 + 68 * i : Nat) : Int) := by omega
        have ea4 : (8 : Int) + (i : Int) * 68 + 4 = ((12 + 68 * i : Nat) : Int) := by omega
        have ea68 : (8 : Int) + (i : Int) * 68 + 68 = ((76 + 68 * i : Nat) : Int) := by omega
        refine ⟨_, rfl, _, rfl, _, rfl, _, rfl, _, _, rfl, rfl, _, rfl, O, _, rfl, SqL.of fO7, fun p8 n8 => ?_⟩
        rw [ea4, ea, cut_mid _ (by omega)]
        generalize e8 : upd H7 p8 _ = H8
        obtain ⟨s8, f8, k8, g8, z8⟩ := own_of s7 n8 e8
        have eb : (brow d.read n i).1 = ofFour (sl (strm d.read n (secs (i + 1))) (8 + 68 * i) (12 + 68 * i)) := rfl
        refine ⟨p8, _, rfl, f8, by rw [sl_len (by omega)]; omega, ?_⟩
        rw [← eb]
        have fR8 := k8 _ _ fR7
        have fO8 := k8 _ _ fO7
        have lus := pd_len pR
        refine ⟨fun σ H9 => rising (browsN d.read n (i + 1)) ∧ H9 = H8 ∧ σ = [some (.ref p), some (.int n), some (.int e), some (.ref q), some (.ref O), some (.int (secs (i + 1) : Nat)), some (.ref R), some (.int (8 + 68 * i : Nat)), some (.int (brow d.read n i).1)], ?_, ?_⟩
        · refine ⟨_, rfl, R, _, rfl, .inl (SqL.of fR8), _, _, rfl, rfl, _, rfl, if_dec (fun h0 => ?_) (fun h0 => iteF ⟨?_, rfl, rfl⟩)⟩
          · rw [lus] at h0
            cases i with
            | zero => exact absurd h0 (by show ¬ (0 : Int) < ((0 : Nat) : Int); decide)
            | succ j =>
              have hl : us.getLast? ≠ none := fun z => by
                rw [List.getLast?_eq_none_iff] at z
                rw [z] at lus
                unfold browsN at lus
                rw [List.length_map, List.length_range] at lus
                cases lus
              obtain ⟨u, hu⟩ := Option.ne_none_iff_exists'.mp hl
              have hu2 : us[j]? = some u := by
                rw [List.getLast?_eq_getElem?, lus] at hu
                unfold browsN at hu
                rw [List.length_map, List.length_range] at hu
                exact hu
              obtain ⟨r, hr2, t, v0, c0, rfl, ht, hv, hc⟩ := pd_get pR hu2
              cases hv
              have hlast : (browsN d.read n (j + 1)).getLast? = some r := by
                rw [List.getLast?_eq_getElem?]
                unfold browsN at hr2 ⊢
                rw [List.length_map, List.length_range]
                exact hr2
              refine ⟨_, rfl, _, rfl, _, rfl, R, _, _, _, rfl, rfl, SqL.of fR8, atI_last hu, t, _, _, _, rfl, rfl, SqT.of (k8 _ _ (s7.gh _ _ (gg7 _ _ ht))), at_of (j := 0) rfl rfl, _, _, rfl, rfl, _, rfl, if_dec (fun h1 => ?_) (fun h1 => ?_)⟩
              · refine k _ G7 H8 s8 ?_
                unfold batchAt
                rw [if_pos hd, if_neg]
                · rfl
                · intro z
                  have z2 : rising (browsN d.read n (j + 1 + 1)) := by
                    unfold rising browsN at z ⊢
                    have e : List.range (j + 1 + 1) = (List.range (cnt d.read n)).take (j + 1 + 1) := by rw [List.take_range, Nat.min_eq_left (by omega)]
                    rw [e, List.map_take, List.map_take]
                    exact z.take
                  rw [browsN_succ] at z2
                  have := (rising_snoc.mp z2).2 r (List.mem_of_getLast? hlast)
                  omega
              · refine ⟨?_, rfl, rfl⟩
                rw [browsN_succ]
                exact rising_last rR hlast (by omega)
          · rw [lus] at h0
            have : i = 0 := by
              unfold browsN at h0
              rw [List.length_map, List.length_range] at h0
              omega
            subst this
            exact List.pairwise_singleton _ _
        · rintro σ H9 ⟨hris, rfl, rfl⟩
          refine ⟨_, rfl, .inl ⟨rfl, _, SqL.of fR8⟩, _, rfl, _, rfl, _, rfl, _, _, rfl, rfl, _, rfl, _, rfl, _, _, rfl, rfl, _, rfl, O, _, rfl, SqL.of fO8, fun p9 n9 => ?_⟩
          rw [show ((8 + 68 * i : Nat) : Int) + 4 = ((12 + 68 * i : Nat) : Int) by omega, show ((8 + 68 * i : Nat) : Int) + 68 = ((76 + 68 * i : Nat) : Int) by omega, cut_mid _ (by omega)]
          generalize e9 : upd H9 p9 _ = H10
          obtain ⟨G10, s10, f10, gg10, k10, gk10⟩ := data_of s8 n9 e9
          refine ⟨(by show 2 ≤ sizeLine; decide), fun t nt => ?_⟩
          generalize e11 : upd H10 t _ = H11
          obtain ⟨G11, s11, f11, gg11, k11, gk11⟩ := data_of s10 nt e11
          have fR11 := k11 _ _ (k10 _ _ fR8)
          have fO11 := k11 _ _ (k10 _ _ fO8)
          have gR11 : G11 R = none := by rw [gk11 R (ne_of_none (k10 _ _ fR8) nt), gk10 R (ne_of_none fR8 n9)]; exact gR7
          have gO11 : G11 O = none := by rw [gk11 O (ne_of_none (k10 _ _ fO8) nt), gk10 O (ne_of_none fO8 n9)]; exact gO7
          refine ⟨R, us, _, rfl, rfl, fR11, ?_, ?_⟩
          · rw [lus]
            unfold browsN
            rw [List.length_map, List.length_range, sizeLine_eq]
            omega
          generalize e12 : upd H11 R _ = H12
          obtain ⟨s12, f12, k12⟩ := wr_of s11 fR11 gR11 (.inr z4) e12
          refine ⟨hi, ⟨_, _, rfl⟩, G11, _, s12, gO11, gR11, k12 _ _ nOR fO11, f12, ?_, hris⟩
          rw [browsN_succ]
          exact pd_snoc (mRow.ps (gg7.trans (gg10.trans gg11)) pR) ⟨t, _, _, rfl, f11, rfl, rLI_of (gg11 _ _ f10)⟩
    · rintro σ H6 ⟨_, ⟨x7, x8, rfl⟩, G6, us, s6, gO, gR, fO, fR, pR, rR⟩
      refine ⟨_, rfl, _, rfl, (by show 2 ≤ sizeLine; decide), fun t nt => ?_⟩
      generalize e7 : upd H6 t _ = H7
      obtain ⟨s7, f7, k7, g7, z7⟩ := own_of s6 nt e7
      refine k _ G6 H7 s7 ?_
      unfold batchAt
      rw [if_pos hd, if_pos rR]
      exact ⟨t, R, rfl, f7, ⟨us, k7 _ _ fR, pR⟩, z7, z4, g7, gR⟩
end
end K51

/-! KB4: a Batches object: take, page, open_log. -/
namespace K51
open PySem PySem.Spec PyProof.Rows L2 Y
def bf (p : Addr) (pl ep mn : Int) (pg : Addr) (fi : Int) : List (Str × V) := [("disk", .ref p), ("bend", .non), ("place", .int pl), ("epoch", .int ep), ("many", .int mn), ("pages", .ref pg), ("end", .int fi)]
theorem bf_disk {p : Addr} {pl ep mn : Int} {pg : Addr} {fi : Int} : (bf p pl ep mn pg fi).lookup ("disk" : Str) = some (.ref p) := lk_hit
theorem bf_bend {p : Addr} {pl ep mn : Int} {pg : Addr} {fi : Int} : (bf p pl ep mn pg fi).lookup ("bend" : Str) = some (.non) := (lk_miss (by decide +kernel)).trans (lk_hit)
theorem bf_place {p : Addr} {pl ep mn : Int} {pg : Addr} {fi : Int} : (bf p pl ep mn pg fi).lookup ("place" : Str) = some (.int pl) := (lk_miss (by decide +kernel)).trans ((lk_miss (by decide +kernel)).trans (lk_hit))
theorem bf_epoch {p : Addr} {pl ep mn : Int} {pg : Addr} {fi : Int} : (bf p pl ep mn pg fi).lookup ("epoch" : Str) = some (.int ep) := (lk_miss (by decide +kernel)).trans ((lk_miss (by decide +kernel)).trans ((lk_miss (by decide +kernel)).trans (lk_hit)))
theorem bf_many {p : Addr} {pl ep mn : Int} {pg : Addr} {fi : Int} : (bf p pl ep mn pg fi).lookup ("many" : Str) = some (.int mn) := (lk_miss (by decide +kernel)).trans ((lk_miss (by decide +kernel)).trans ((lk_miss (by decide +kernel)).trans ((lk_miss (by decide +kernel)).trans (lk_hit))))
theorem bf_pages {p : Addr} {pl ep mn : Int} {pg : Addr} {fi : Int} : (bf p pl ep mn pg fi).lookup ("pages" : Str) = some (.ref pg) := (lk_miss (by decide +kernel)).trans ((lk_miss (by decide +kernel)).trans ((lk_miss (by decide +kernel)).trans ((lk_miss (by decide +kernel)).trans ((lk_miss (by decide +kernel)).trans (lk_hit)))))
theorem bf_end {p : Addr} {pl ep mn : Int} {pg : Addr} {fi : Int} : (bf p pl ep mn pg fi).lookup ("end" : Str) = some (.int fi) := (lk_miss (by decide +kernel)).trans ((lk_miss (by decide +kernel)).trans ((lk_miss (by decide +kernel)).trans ((lk_miss (by decide +kernel)).trans ((lk_miss (by decide +kernel)).trans ((lk_miss (by decide +kernel)).trans (lk_hit))))))
theorem bf_no {p : Addr} {pl ep mn : Int} {pg : Addr} {fi : Int} {m : Str} (h1 : (m == ("disk" : Str)) = false) (h2 : (m == ("bend" : Str)) = false) (h3 : (m == ("place" : Str)) = false) (h4 : (m == ("epoch" : Str)) = false) (h5 : (m == ("many" : Str)) = false) (h6 : (m == ("pages" : Str)) = false) (h7 : (m == ("end" : Str)) = false) : (bf p pl ep mn pg fi).lookup m = none := (lk_miss h1).trans ((lk_miss h2).trans ((lk_miss h3).trans ((lk_miss h4).trans ((lk_miss h5).trans ((lk_miss h6).trans ((lk_miss h7).trans (rfl)))))))
theorem bf_p_place {p : Addr} {pl ep mn : Int} {pg : Addr} {fi : Int} (z : Int) : putF "place" (.int z) (bf p pl ep mn pg fi) = bf p z ep mn pg fi := (pf_miss (by decide +kernel)).trans (congrArg _ ((pf_miss (by decide +kernel)).trans (congrArg _ (pf_hit))))
theorem bf_p_epoch {p : Addr} {pl ep mn : Int} {pg : Addr} {fi : Int} (z : Int) : putF "epoch" (.int z) (bf p pl ep mn pg fi) = bf p pl z mn pg fi := (pf_miss (by decide +kernel)).trans (congrArg _ ((pf_miss (by decide +kernel)).trans (congrArg _ ((pf_miss (by decide +kernel)).trans (congrArg _ (pf_hit))))))
theorem bf_p_many {p : Addr} {pl ep mn : Int} {pg : Addr} {fi : Int} (z : Int) : putF "many" (.int z) (bf p pl ep mn pg fi) = bf p pl ep z pg fi := (pf_miss (by decide +kernel)).trans (congrArg _ ((pf_miss (by decide +kernel)).trans (congrArg _ ((pf_miss (by decide +kernel)).trans (congrArg _ ((pf_miss (by decide +kernel)).trans (congrArg _ (pf_hit))))))))
theorem bf_p_pages {p : Addr} {pl ep mn : Int} {pg : Addr} {fi : Int} (z : Addr) : putF "pages" (.ref z) (bf p pl ep mn pg fi) = bf p pl ep mn z fi := (pf_miss (by decide +kernel)).trans (congrArg _ ((pf_miss (by decide +kernel)).trans (congrArg _ ((pf_miss (by decide +kernel)).trans (congrArg _ ((pf_miss (by decide +kernel)).trans (congrArg _ ((pf_miss (by decide +kernel)).trans (congrArg _ (pf_hit))))))))))
theorem bf_p_end {p : Addr} {pl ep mn : Int} {pg : Addr} {fi : Int} (z : Int) : putF "end" (.int z) (bf p pl ep mn pg fi) = bf p pl ep mn pg z := (pf_miss (by decide +kernel)).trans (congrArg _ ((pf_miss (by decide +kernel)).trans (congrArg _ ((pf_miss (by decide +kernel)).trans (congrArg _ ((pf_miss (by decide +kernel)).trans (congrArg _ ((pf_miss (by decide +kernel)).trans (congrArg _ ((pf_miss (by decide +kernel)).trans (congrArg _ (pf_hit))))))))))))
theorem bf_i0 {p : Addr} : putF "disk" (.ref p) ([] : List (Str × V)) = ([("disk", .ref p)] : List (Str × V)) := pf_nil
theorem bf_i1 {p : Addr} : putF "bend" (.non) ([("disk", .ref p)] : List (Str × V)) = ([("disk", .ref p), ("bend", .non)] : List (Str × V)) := (pf_miss (by decide +kernel)).trans (congrArg _ (pf_nil))
theorem bf_i2 {p : Addr} {pl : Int} : putF "place" (.int pl) ([("disk", .ref p), ("bend", .non)] : List (Str × V)) = ([("disk", .ref p), ("bend", .non), ("place", .int pl)] : List (Str × V)) := (pf_miss (by decide +kernel)).trans (congrArg _ ((pf_miss (by decide +kernel)).trans (congrArg _ (pf_nil))))
theorem bf_i3 {p : Addr} {pl ep : Int} : putF "epoch" (.int ep) ([("disk", .ref p), ("bend", .non), ("place", .int pl)] : List (Str × V)) = ([("disk", .ref p), ("bend", .non), ("place", .int pl), ("epoch", .int ep)] : List (Str × V)) := (pf_miss (by decide +kernel)).trans (congrArg _ ((pf_miss (by decide +kernel)).trans (congrArg _ ((pf_miss (by decide +kernel)).trans (congrArg _ (pf_nil))))))
theorem bf_i4 {p : Addr} {pl ep mn : Int} : putF "many" (.int mn) ([("disk", .ref p), ("bend", .non), ("place", .int pl), ("epoch", .int ep)] : List (Str × V)) = ([("disk", .ref p), ("bend", .non), ("place", .int pl), ("epoch", .int ep), ("many", .int mn)] : List (Str × V)) := (pf_miss (by decide +kernel)).trans (congrArg _ ((pf_miss (by decide +kernel)).trans (congrArg _ ((pf_miss (by decide +kernel)).trans (congrArg _ ((pf_miss (by decide +kernel)).trans (congrArg _ (pf_nil))))))))
theorem bf_i5 {p : Addr} {pl ep mn : Int} {pg : Addr} : putF "pages" (.ref pg) ([("disk", .ref p), ("bend", .non), ("place", .int pl), ("epoch", .int ep), ("many", .int mn)] : List (Str × V)) = ([("disk", .ref p), ("bend", .non), ("place", .int pl), ("epoch", .int ep), ("many", .int mn), ("pages", .ref pg)] : List (Str × V)) := (pf_miss (by decide +kernel)).trans (congrArg _ ((pf_miss (by decide +kernel)).trans (congrArg _ ((pf_miss (by decide +kernel)).trans (congrArg _ ((pf_miss (by decide +kernel)).trans (congrArg _ ((pf_miss (by decide +kernel)).trans (congrArg _ (pf_nil))))))))))
theorem bf_i6 {p : Addr} {pl ep mn : Int} {pg : Addr} {fi : Int} : putF "end" (.int fi) ([("disk", .ref p), ("bend", .non), ("place", .int pl), ("epoch", .int ep), ("many", .int mn), ("pages", .ref pg)] : List (Str × V)) = ([("disk", .ref p), ("bend", .non), ("place", .int pl), ("epoch", .int ep), ("many", .int mn), ("pages", .ref pg), ("end", .int fi)] : List (Str × V)) := (pf_miss (by decide +kernel)).trans (congrArg _ ((pf_miss (by decide +kernel)).trans (congrArg _ ((pf_miss (by decide +kernel)).trans (congrArg _ ((pf_miss (by decide +kernel)).trans (congrArg _ ((pf_miss (by decide +kernel)).trans (congrArg _ ((pf_miss (by decide +kernel)).trans (congrArg _ (pf_nil))))))))))))
/-- an object Batches at b over the disk at p, its pages at pg -/
structure BatAt (B : Addr) (G H : Hp) (b p pg : Addr) (x : BS) : Prop where
  ob : ∃ dx, H b = some (.ins B dx (bf p x.place x.epoch x.many pg x.fin))
  pa : ∃ kvs, H pg = some (.dK kvs) ∧ DRel (rL rI) G kvs x.pages
  gb : G b = none
  gp : G pg = none
def BOwn (b pg : Addr) : Addr → Prop := fun a => a = b ∨ a = pg
section
variable {B : Addr} {G H G' H' : Hp} {b p pg : Addr} {x : BS}
theorem BatAt.bp (h : BatAt B G H b p pg x) : b ≠ pg := by
  obtain ⟨dx, h1⟩ := h.ob
  obtain ⟨kvs, h2, _⟩ := h.pa
  exact ne_of h1 h2 (fun e => nomatch e)
theorem BatAt.stp {O : Addr → Prop} (h : BatAt B G H b p pg x) (e : Stp O G H G' H') (n : ∀ a, BOwn b pg a → ¬ O a) : BatAt B G' H' b p pg x := by
  obtain ⟨dx, h1⟩ := h.ob
  obtain ⟨kvs, h2, r2⟩ := h.pa
  exact ⟨⟨dx, e.kp _ _ h1 (n b (.inl rfl))⟩, ⟨kvs, e.kp _ _ h2 (n pg (.inr rfl)), r2.mono mSec e.gg⟩, e.nw b (ne_none h1) h.gb, e.nw pg (ne_none h2) h.gp⟩
end
theorem takeR_snoc (pages : List (Int × Page)) {rows : BRows} {i : Nat} {r : Int × Page} (h : rows[i]? = some r) : takeR pages (rows.take (i + 1)) = put (takeR pages (rows.take i)) r.1 r.2 := by
  unfold takeR
  rw [List.take_add_one, h, List.foldl_append]
  rfl
theorem takeR_len : ∀ (rows : BRows) (pages : List (Int × Page)), (takeR pages rows).length ≤ pages.length + rows.length
  | [], pages => Nat.le_refl _
  | r :: rows, pages => by
    have := put_len pages r.1 r.2
    have z := takeR_len rows (put pages r.1 r.2)
    show (takeR (put pages r.1 r.2) rows).length ≤ _
    rw [List.length_cons]
    omega
section
variable {P : Program} {w : World} {K : PySem.W.Frag} {mg : Str → Option Value} {base : Heap} {C B : Addr} {tP tR tW tH : Tok}
def spTakeB (B : Addr) : Sp := fun vs H Q _ => ∃ (G : Hp) (b p pg : Addr) (x : BS) (a : Addr) (rows : BRows), vs = [.ref b, .ref a] ∧ Same G H ∧ BatAt B G H b p pg x ∧ LstAt rSec H H a rows ∧ x.pages.length + rows.length ≤ 1000000 ∧
  ∀ G' H', Stp (BOwn b pg) G H G' H' → BatAt B G' H' b p pg { x with pages := takeR x.pages rows, many := x.many + 1 } → Q .non H'
abbrev s_Batches_take : Stmt := inClass (top 18) 2
theorem sc_Batches_take : FnScope ["self", "rows", "number", "page"] ["self", "rows"] (defScope s_Batches_take) := ⟨rfl, rfl, rfl, by decide +kernel, rfl, by decide +kernel, by decide +kernel⟩
theorem ok_takeB {f : Addr} {fd : FuncData} (F : Fun K "take" "Batches.take" s_Batches_take f fd) (T : TxB K mg B tP tR tW tH) : FnOk P w K mg base CX0 1 f fd ["self", "rows"] (spTakeB B) := by
  refine F.ok sc_Batches_take (fun vs H Q E h => ?_) (fun cdv A outer st H vs Q E hr h => ?_)
  · obtain ⟨G, b, p, pg, x, a, rows, rfl, _⟩ := h
    rfl
  · obtain ⟨G, b, p, pg, x, a, rows, rfl, gh, D, ⟨us, ha, pu⟩, hl, k⟩ := h
    have nd := sc_Batches_take.nd
    have hu := hu_of hr
    refine ⟨_, (pss_cons (ps_for PassesOwn.never rfl (pi_listK (K := K) rfl (pv 1)) (pg_tupK (K := K) (n := 2) rfl rfl (pgs_cons (pg_name (i := 2) nd rfl (Or.inl rfl)) (pgs_cons (pg_name (i := 3) nd rfl (Or.inl rfl)) pgs_nil)))
    (pss_one (ps_dput hu (pe_fldK (K := K) rfl (pv 0) rfl) (pv 2) (pe_callTy (call_list_ofK (K := K) rfl) (by rfl) T.b_list (by decide +kernel) (pa_cons (pv 3) pa_nil)) rfl)))
    (pss_one (ps_fldK (K := K) rfl (pv 0) (pe_op op_add (pe_fldK (K := K) rfl (pv 0) rfl) pe_int) rfl))), ?_⟩
    obtain ⟨dx, h1⟩ := id D.ob
    obtain ⟨kvs, h2, r2⟩ := id D.pa
    have nbp := D.bp
    refine ⟨_, rfl, a, rfl, ⟨_, SqL.of ha⟩, for_list (K := K) (a := a) (xs := us)
      (fun i σ H4 => (∃ x2 x3, σ = [some (.ref b), some (.ref a), x2, x3]) ∧ (∀ c o, c ≠ pg → H c = some o → H4 c = some o) ∧ ∃ G4 kvs4, Stp (BOwn b pg) G H G4 H4 ∧ G4 pg = none ∧ G4 b = none ∧ H4 pg = some (.dK kvs4) ∧ DRel (rL rI) G4 kvs4 (takeR x.pages (rows.take i)) ∧ kvs4.length ≤ kvs.length + i)
      ⟨⟨_, _, rfl⟩, fun _ _ _ z => z, G, kvs, Stp.refl gh, D.gp, D.gb, h2, r2, Nat.le_refl _⟩ (fun i σ H4 _ ⟨_, k4, _⟩ => SqL.of (k4 _ _ (ne_of ha h2 fun z => nomatch z) ha)) ?_ ?_⟩
    · rintro i y σ H4 hi ⟨⟨x2, x3, rfl⟩, k4, G4, kvs4, s4, gp4, gb4, f4, r4, l4⟩
      obtain ⟨r, hr', t, u, c0, rfl, ht, hu', hc⟩ := pd_get pu hi
      cases hu'
      obtain ⟨c, rfl, hcc⟩ := rLI hc
      refine g_pair (k4 _ _ (ne_of ht h2 fun z => nomatch z) ht) ⟨_, rfl, c, _, rfl, .inl (SqL.of (k4 _ _ (ne_of hcc h2 fun z => nomatch z) hcc)), fun q nq => ?_⟩
      generalize e5 : upd H4 q _ = H5
      obtain ⟨G5, s5, f5, gg5, k5, gk5⟩ := data_of s4 nq e5
      have f45 := k5 _ _ f4
      have gp5 : G5 pg = none := by rw [gk5 pg (ne_of_none f4 nq)]; exact gp4
      have gb5 : G5 b = none := by rw [gk5 b (ne_of_none (k4 _ _ nbp h1) nq)]; exact gb4
      refine ⟨_, rfl, b, B, dx, _, _, rfl, k5 _ _ (k4 _ _ nbp h1), T.cl, T.m6, bf_pages, _, rfl, pg, _, rfl, DPut.k (k := Sum.inl r.1) f45 ?_, ?_⟩
      · have := pd_len r2
        have h7 := pd_len pu
        have hi2 := (List.getElem?_eq_some_iff.mp hi).1
        rw [sizeLine_eq]
        omega
      generalize e6 : upd H5 pg _ = H6
      obtain ⟨s6, f6, k6⟩ := wr_of s5 f45 gp5 (.inl (.inr rfl)) e6
      refine ⟨⟨_, _, rfl⟩, fun z o hz e => k6 z o hz (k5 _ _ (k4 z o hz e)), G5, _, s6, gp5, gb5, f6, ?_, ?_⟩
      · rw [takeR_snoc _ hr']
        exact (r4.mono mSec gg5).put (rLI_of f5)
      · exact Nat.le_trans (length_putK _ _ _) (by omega)
    · rintro σ H4 ⟨⟨x2, x3, rfl⟩, k4, G4, kvs4, s4, gp4, gb4, f4, r4, l4⟩
      rw [pd_len pu, List.take_of_length_le (Nat.le_refl _)] at r4
      have h14 := k4 _ _ nbp h1
      refine ⟨_, rfl, b, B, dx, _, _, rfl, h14, T.cl, T.m5, bf_many, _, _, rfl, rfl, _, rfl, b, B, dx, _, rfl, h14, T.cl, T.m5, (by show 7 < 1000; decide), ?_⟩
      rw [bf_p_many]
      generalize e5 : upd H4 b _ = H5
      obtain ⟨s5, f5, k5⟩ := wr_of s4 h14 gb4 (.inl (.inl rfl)) e5
      exact k G4 H5 s5 ⟨⟨dx, f5⟩, ⟨kvs4, k5 _ _ nbp.symm f4, r4⟩, gb4, gp4⟩
def spPageB (B C : Addr) : Sp := fun vs H Q _ => ∃ (G : Hp) (b p pg s wl : Addr) (x : BS) (d : DS) (n : Int), vs = [.ref b, .int n] ∧ Same G H ∧ BatAt B G H b p pg x ∧ DiskAt C G H p s wl d ∧ (∀ n, (d.read n).length = 16) ∧ (∀ y ∈ x.pages, y.2.length ≤ 1000) ∧
  ∀ q G' H', Stp O0 G H G' H' → H q = none → G' q = none → H' q = some (rowI (pageOf d.read x.pages n)) → Q (.ref q) H'
abbrev s_Batches_page : Stmt := inClass (top 18) 3
theorem sc_Batches_page : FnScope ["self", "number", "found", "part"] ["self", "number"] (defScope s_Batches_page) := ⟨rfl, rfl, rfl, by decide +kernel, rfl, by decide +kernel, by decide +kernel⟩
theorem ok_pageB {f : Addr} {fd : FuncData} (F : Fun K "page" "Batches.page" s_Batches_page f fd) (T : TxB K mg B tP tR tW tH) (L_home_sector : FnC P w K mg base "home_sector" 1 ["page", "part"] spHome) (L_Disk_read : MtC P w K mg base C "read" 2 ["self", "number"] (spRead C)) :
    FnOk P w K mg base CX0 3 f fd ["self", "number"] (spPageB B C) := by
  refine F.ok sc_Batches_page (fun vs H Q E h => ?_) (fun cdv A outer st H vs Q E hr h => ?_)
  · obtain ⟨G, b, p, pg, s, wl, x, d, n, rfl, _⟩ := h
    rfl
  · obtain ⟨G, b, p, pg, s, wl, x, d, n, rfl, gh, D, Dk, l16, lp, k⟩ := h
    have nd := sc_Batches_page.nd
    have hu := hu_of hr
    refine ⟨_, (pss_cons (ps_if (pt_cmp (pc_din hu (pv 1) (pe_fldK (K := K) rfl (pv 0) rfl)))
    (pss_one (ps_ret (pe_callTy (call_list_ofK (K := K) rfl) (by rfl) T.b_list (by decide +kernel) (pa_cons (pe_dget hu (pe_fldK (K := K) rfl (pv 0) rfl) (pv 1) (fun _ _ => rfl)) pa_nil))))
    pss_nil)
    (pss_cons (ps_set (i := 2) nd rfl (Or.inl rfl) (pe_lst pa_nil))
    (pss_cons (ps_for PassesOwn.never rfl (pi_range1 rfl T.b_range (pa_cons pe_int pa_nil)) (pg_name (i := 3) nd rfl (Or.inl rfl))
    (pss_one (ps_expr (pe_bmK (K := K) rfl PySem.F.plainAttrs_list PySem.F.slot_list_extend PySem.F.type_list_extend mt_extend (pv 2) (pa_cons (pe_mtc (pe_fldK (K := K) rfl (pv 0) rfl) L_Disk_read (hr.mono (by decide)) (pa_cons (pe_fnc L_home_sector (hr.mono (by decide)) rfl (pa_cons (pv 1) (pa_cons (pv 3) pa_nil))) pa_nil)) pa_nil)))))
    (pss_one (ps_ret (pv 2)))))), ?_⟩
    obtain ⟨dx, h1⟩ := id D.ob
    obtain ⟨kvs, h2, r2⟩ := id D.pa
    have g := DGet.k (k := Sum.inl n) h2
    cases e : look x.pages n with
    | some y =>
      obtain ⟨v, hv, rv⟩ := r2.look_some e
      obtain ⟨c, rfl, hc⟩ := rLI rv
      rw [hv] at g
      refine ⟨_, rfl, _, rfl, b, B, dx, _, _, rfl, h1, T.cl, T.m6, bf_pages, pg, _, rfl, g, _, rfl, iteT ⟨_, rfl, b, B, dx, _, _, rfl, h1, T.cl, T.m6, bf_pages, _, rfl, pg, _, rfl, g, c, _, rfl, .inl (SqL.of (gh _ _ hc)), fun q nq => ?_⟩⟩
      generalize e5 : upd H q _ = H5
      obtain ⟨s5, f5, k5, g5, z5⟩ := own_of (Stp.refl (O := O0) gh) nq e5
      refine k q G H5 s5 z5 g5 ?_
      unfold pageOf
      rw [e]
      exact f5
    | none =>
      rw [r2.look_none e] at g
      refine ⟨_, rfl, _, rfl, b, B, dx, _, _, rfl, h1, T.cl, T.m6, bf_pages, pg, _, rfl, g, _, rfl, iteF ⟨(by show 0 ≤ sizeLine; decide), fun q nq => ?_⟩⟩
      generalize e5 : upd H q _ = H5
      obtain ⟨s5, f5, k5, g5, z5⟩ := own_of (Stp.refl (O := O0) gh) nq e5
      refine ⟨4, rfl, by decide, by decide, for_range (n := 4) (fun i σ H6 => i ≤ 4 ∧ (∃ x3, σ = [some (.ref b), some (.int n), some (.ref q), x3]) ∧ ∃ G6, Stp O0 G H G6 H6 ∧ G6 q = none ∧ H6 q = some (rowI ((List.range i).flatMap fun j : Nat => d.read (hm n j))))
        ⟨Nat.zero_le _, ⟨_, rfl⟩, G, s5, g5, f5⟩ ?_ ?_⟩
      · rintro i σ H6 hi ⟨_, ⟨x3, rfl⟩, G6, s6, g6, f6⟩
        have D6 := Dk.stp s6 fun _ _ z => z
        obtain ⟨dx6, rl6, h16, _⟩ := id D6.ob
        have hb6 := s6.kp _ _ h1 fun z => z
        refine ⟨_, rfl, .inl ⟨rfl, _, SqL.of f6⟩, _, rfl, b, B, dx, _, _, rfl, hb6, T.cl, T.m1, bf_disk, p, dx6, _, rfl, h16, df_no (by decide +kernel) (by decide +kernel) (by decide +kernel) (by decide +kernel) (by decide +kernel), _, rfl, _, rfl, _, _, rfl, G6, p, s, wl, d, _, rfl, s6.gh, D6, fun q8 G8 H8 s8 n8 g8 f8 => ?_⟩
        have s68 := s6.trans s8 fun b z => z.elim
        have f68 := s8.kp _ _ f6 fun z => z
        have g68 := s8.nw q (ne_none f6) g6
        have lf : ∀ i : Nat, ((List.range i).flatMap fun j : Nat => d.read (hm n j)).length = 16 * i := fun i => by
          induction i with
          | zero => rfl
          | succ j ih =>
            rw [List.range_succ, List.flatMap_append, List.length_append, ih]
            simp [l16]
            omega
        rw [Int.zero_add] at f8
        refine ⟨q, q8, _, _, rfl, rfl, f68, f8, ?_, ?_⟩
        · rw [List.length_map, List.length_map, lf i, l16, sizeLine_eq]
          omega
        generalize e9 : upd H8 q _ = H9
        obtain ⟨s9, f9, k9⟩ := wr_of s68 f68 g68 (.inr z5) e9
        refine ⟨hi, ⟨_, rfl⟩, G8, s9, g68, ?_⟩
        rw [f9, List.range_succ, List.flatMap_append]
        simp
      · rintro σ H6 ⟨_, ⟨x3, rfl⟩, G6, s6, g6, f6⟩
        refine ⟨_, rfl, k q G6 H6 s6 z5 g6 ?_⟩
        unfold pageOf
        rw [e, f6]
        simp [List.range_succ]
/-- what batch_at has told -/
def ToldV (H : Hp) (v : V) : Option (BRows × Int) → Prop
  | none => v = .non
  | some x => ∃ t l, v = .ref t ∧ H t = some (.tup [.ref l, .int x.2]) ∧ LstAt rSec H H l x.1
def bOff (O : Addr → Prop) (b pg : Addr) : Prop := ¬ O b ∧ ¬ O pg
/-- what a log brings to a Batches object -/
def BS.opened (x : BS) (bs : List BRows) (e : Int) : BS := { x with pages := bs.foldl takeR x.pages, many := x.many + bs.length, fin := e }
def rowsSum (bs : List BRows) : Nat := (bs.map List.length).sum
def spOpen (B C : Addr) : Sp := fun vs H Q _ => ∃ (G : Hp) (b p pg s wl : Addr) (x : BS) (d : DS) (bs : List BRows) (e : Int), vs = [.ref b] ∧ Same G H ∧ BatAt B G H b p pg x ∧ DiskAt C G H p s wl d ∧ (∀ a, DOwn p s wl a → ¬ BOwn b pg a) ∧ (∀ n, (d.read n).length = 16) ∧
  LogIs d.read x.epoch x.fin bs e ∧ x.pages.length + rowsSum bs ≤ 1000000 ∧ ∀ G' H', Stp (BOwn b pg) G H G' H' → BatAt B G' H' b p pg (x.opened bs e) → Q .non H'
abbrev s_Batches_open_log : Stmt := inClass (top 18) 1
theorem sc_Batches_open_log : FnScope ["self", "told"] ["self"] (defScope s_Batches_open_log) := ⟨rfl, rfl, rfl, by decide +kernel, rfl, by decide +kernel, by decide +kernel⟩
theorem ok_open {f : Addr} {fd : FuncData} (F : Fun K "open_log" "Batches.open_log" s_Batches_open_log f fd) (T : TxB K mg B tP tR tW tH) (L_batch_at : FnC P w K mg base "batch_at" 3 ["disk", "place", "epoch"] (spBatchAt C)) (L_Batches_take : MtC P w K mg base B "take" 1 ["self", "rows"] (spTakeB B)) :
    FnOk P w K mg base CX0 4 f fd ["self"] (spOpen B C) := by
  refine F.ok sc_Batches_open_log (fun vs H Q E h => ?_) (fun cdv A outer st H vs Q E hr h => ?_)
  · obtain ⟨G, b, p, pg, s, wl, x, d, bs, e, rfl, _⟩ := h
    rfl
  · obtain ⟨G, b, p, pg, s, wl, x, d, bs, e, rfl, gh, D, Dk, sep, l16, lg0, sz, k⟩ := h
    have nd := sc_Batches_open_log.nd
    have hu := hu_of hr
    refine ⟨_, (pss_cons (ps_set (i := 1) nd rfl (Or.inl rfl) (pe_fnc L_batch_at (hr.mono (by decide)) rfl (pa_cons (pe_fldK (K := K) rfl (pv 0) rfl) (pa_cons (pe_fldK (K := K) rfl (pv 0) rfl) (pa_cons (pe_fldK (K := K) rfl (pv 0) rfl) pa_nil)))))
    (pss_one (ps_while PassesOwn.never (pt_cmp (pc_notN (pv 1)))
    (pss_cons (ps_expr (pe_mtc (pv 0) L_Batches_take (hr.mono (by decide)) (pa_cons (pe_ix (ix_tupK (K := K) rfl) (pv 1) pe_int (fun _ _ => rfl)) pa_nil)))
    (pss_cons (ps_fldK (K := K) rfl (pv 0) (pe_op op_add (pe_fldK (K := K) rfl (pv 0) rfl) (pe_ix (ix_tupK (K := K) rfl) (pv 1) pe_int (fun _ _ => rfl))) rfl)
    (pss_one (ps_set (i := 1) nd rfl (Or.inl rfl) (pe_fnc L_batch_at (hr.mono (by decide)) rfl (pa_cons (pe_fldK (K := K) rfl (pv 0) rfl) (pa_cons (pe_fldK (K := K) rfl (pv 0) rfl) (pa_cons (pe_fldK (K := K) rfl (pv 0) rfl) pa_nil))))))))))), ?_⟩
    obtain ⟨dx, h1⟩ := id D.ob
    have cntOk : ∀ {e0 : Int} {bs0 : List BRows}, LogIs d.read x.epoch e0 bs0 e → CntOk d.read e0 x.epoch := fun z => by
      cases z with
      | nil _ h => exact h
      | cons _ h _ => exact h
    refine ⟨_, rfl, b, B, dx, _, _, rfl, h1, T.cl, T.m1, bf_disk, _, rfl, b, B, dx, _, _, rfl, h1, T.cl, T.m7, bf_end, _, rfl, b, B, dx, _, _, rfl, h1, T.cl, T.m4, bf_epoch, G, p, s, wl, d, _, _, rfl, gh, Dk, l16, cntOk lg0, fun v G1 H1 s1 hv => ?_⟩
    have toldV : ∀ {Ha Ga Hb : Hp} {va : V} {o : Option (BRows × Int)}, Same Ga Hb → BatV Ha Ga Hb va o → ToldV Hb va o := fun {Ha Ga Hb va o} hs h => by
      cases o with
      | none => exact h
      | some y =>
        obtain ⟨t, l, e1, a1, ⟨us, a2, a3⟩, _⟩ := h
        exact ⟨t, l, e1, a1, us, a2, mRow.ps hs a3⟩
    have s1' : Stp (BOwn b pg) G H G1 H1 := s1.mono fun _ z => z.elim
    refine ⟨fun m σ H2 => ∃ (G2 : Hp) (bs2 : List BRows) (x2 : BS) (v2 : V), m = bs2.length ∧ σ = [some (.ref b), some v2] ∧ Stp (BOwn b pg) G H G2 H2 ∧ BatAt B G2 H2 b p pg x2 ∧ LogIs d.read x.epoch x2.fin bs2 e ∧ x2.opened bs2 e = x.opened bs e ∧ x2.epoch = x.epoch ∧
      x2.pages.length + rowsSum bs2 ≤ 1000000 ∧ ToldV H2 v2 (batchAt d.read x2.fin x2.epoch), ⟨_, G1, bs, x, v, rfl, rfl, s1', D.stp s1 fun _ _ z => z, lg0, rfl, rfl, sz, toldV s1.gh hv⟩, ?_⟩
    rintro m σ H2 ⟨G2, bs2, x2, v2, rfl, rfl, s2, D2, lg2, eo, ee, sz2, hv2⟩
    rw [ee] at hv2
    obtain ⟨dx2, h12⟩ := id D2.ob
    cases lg2 with
    | nil hb _ =>
      rw [hb] at hv2
      obtain rfl : v2 = .non := hv2
      refine ⟨_, rfl, _, rfl, iteF ?_⟩
      refine k G2 H2 s2 ?_
      rw [← eo]
      have e0 : x2.opened [] x2.fin = x2 := by
        show ({ x2 with many := x2.many + ((0 : Nat) : Int) } : BS) = x2
        rw [Int.natCast_zero, Int.add_zero]
      rw [e0]
      exact D2
    | cons hb hc lg3 =>
      rename_i rows sc bs3
      rw [hb] at hv2
      obtain ⟨t, l, rfl, ht, us, hl, pu⟩ := hv2
      have sz3 : x2.pages.length + rows.length ≤ 1000000 := by
        unfold rowsSum at sz2
        rw [List.map_cons, List.sum_cons] at sz2
        omega
      refine ⟨_, rfl, _, rfl, iteT ⟨fun σ' H' => ∃ m', m' < bs3.length + 1 ∧ _, fun σ' H' z => z, ?_⟩⟩
      refine ⟨_, rfl, b, dx2, _, rfl, h12, bf_no (by decide +kernel) (by decide +kernel) (by decide +kernel) (by decide +kernel) (by decide +kernel) (by decide +kernel) (by decide +kernel), _, rfl, t, _, _, _, rfl, rfl, SqT.of ht, at_of (j := 0) rfl rfl, G2, b, p, pg, x2, l, rows, rfl, s2.gh, D2, ⟨us, hl, pu⟩, sz3, fun G4 H4 s4 D4 => ?_⟩
      obtain ⟨dx4, h14⟩ := id D4.ob
      have h1t : ∀ a, BOwn b pg a → t ≠ a := fun a ha => by
        obtain ⟨kv, h2, _⟩ := D2.pa
        rcases ha with rfl | rfl
        · exact ne_of ht h12 fun z => nomatch z
        · exact ne_of ht h2 fun z => nomatch z
      have ht4 := s4.kp _ _ ht fun z => h1t t z rfl
      have s24 := s2.trans s4 fun b z => .inl z
      refine ⟨_, rfl, b, B, dx4, _, _, rfl, h14, T.cl, T.m7, bf_end, _, rfl, t, _, _, _, rfl, rfl, SqT.of ht4, at_of (j := 1) rfl rfl, _, _, rfl, rfl, _, rfl, b, B, dx4, _, rfl, h14, T.cl, T.m7, (by show 7 < 1000; decide), ?_⟩
      rw [bf_p_end]
      generalize e5 : upd H4 b _ = H5
      obtain ⟨s5, f5, k5⟩ := wr_of s24 h14 D4.gb (.inl (.inl rfl)) e5
      obtain ⟨kv4, h24, r24⟩ := id D4.pa
      have D5 : BatAt B G4 H5 b p pg { x2 with pages := takeR x2.pages rows, many := x2.many + 1, fin := x2.fin + sc } := ⟨⟨dx4, f5⟩, ⟨kv4, k5 _ _ D4.bp.symm h24, r24⟩, D4.gb, D4.gp⟩
      have kx : ∀ a o, H a = some o → ¬ BOwn b pg a → H5 a = some o := s5.kp
      have Dk5 : DiskAt C G4 H5 p s wl d := Dk.stp s5 sep
      refine ⟨_, rfl, b, B, dx4, _, _, rfl, f5, T.cl, T.m1, bf_disk, _, rfl, b, B, dx4, _, _, rfl, f5, T.cl, T.m7, bf_end, _, rfl, b, B, dx4, _, _, rfl, f5, T.cl, T.m4, bf_epoch, G4, p, s, wl, d, _, _, rfl, s5.gh, Dk5, l16, by rw [ee]; exact cntOk lg3, fun v6 G6 H6 s6 hv6 => ?_⟩
      refine ⟨bs3.length, Nat.lt_succ_self _, G6, bs3, _, v6, rfl, rfl, s5.trans s6 (fun b z => z.elim), D5.stp s6 (fun _ _ z => z), lg3, ?_, ee, ?_, toldV s6.gh hv6⟩
      · rw [← eo]
        unfold BS.opened
        simp only [List.foldl_cons, List.length_cons]
        congr 1
        omega
      · have := takeR_len rows x2.pages
        unfold rowsSum at sz2 ⊢
        rw [List.map_cons, List.sum_cons] at sz2
        show (takeR x2.pages rows).length + _ ≤ _
        omega
/-- the roots that a law's disks have -/
def newest (rd : Rd) : Int × Int × Int := match rootAt rd 0, rootAt rd 1 with
  | none, none => (1, 0, 0)
  | some (e, m), none => (0, e, m)
  | none, some (e, m) => (1, e, m)
  | some (e, m), some (e', m') => if e < e' ∨ (e = e' ∧ m ≤ m') then (1, e', m') else (0, e, m)
def TripV (H G' H' : Hp) (v : V) (x : Int × Int × Int) : Prop := ∃ t, v = .ref t ∧ H' t = some (.tup [.int x.1, .int x.2.1, .int x.2.2]) ∧ H t = none ∧ G' t = none
/-- R: what is asked of the roots -/
def spNewest (C : Addr) (R : Rd → Prop) : Sp := fun vs H Q _ => ∃ (G : Hp) (p s wl : Addr) (d : DS), vs = [.ref p] ∧ Same G H ∧ DiskAt C G H p s wl d ∧ (∀ n, (d.read n).length = 16) ∧ R d.read ∧ ∀ v G' H', Stp O0 G H G' H' → TripV H G' H' v (newest d.read) → Q v H'
theorem g_trip {a : Addr} {u v w : V} {tu tv tw : TG} {σ : L2.St} {H : Hp} {Q : L2.St → Hp → Prop} (h : H a = some (.tup [u, v, w])) (k : tu u σ H fun σ' H' => tv v σ' H' fun σ' H' => tw w σ' H' Q) : gTup K 3 (gCons tu (gCons tv (gCons tw gNil))) (.ref a) σ H Q :=
  ⟨a, _, rfl, SqT.of h, rfl, u, _, rfl, by
    have e : (fun σ' H' => tv v σ' H' fun σ' H' => tw w σ' H' Q) = (fun σ' H' => ∃ z r, [v, w] = z :: r ∧ tv z σ' H' fun σ' H' => ∃ z' r', r = z' :: r' ∧ tw z' σ' H' fun σ' H' => r' = [] ∧ Q σ' H') := by
      funext σ' H'
      apply propext
      have e2 : (fun σ' H' => tw w σ' H' Q) = (fun σ' H' => ∃ z' r', [w] = z' :: r' ∧ tw z' σ' H' fun σ' H' => r' = [] ∧ Q σ' H') := by
        funext σ' H'
        apply propext
        have e3 : Q = fun σ' H' => ([] : List V) = [] ∧ Q σ' H' := by
          funext σ' H'
          apply propext
          exact ⟨fun q => ⟨rfl, q⟩, fun q => q.2⟩
        constructor
        · intro q
          refine ⟨w, [], rfl, ?_⟩
          rw [e3] at q
          exact q
        · rintro ⟨z', r', e4, q⟩
          cases e4
          rw [e3]
          exact q
      constructor
      · intro q
        refine ⟨v, [w], rfl, ?_⟩
        rw [e2] at q
        exact q
      · rintro ⟨z, r, e4, q⟩
        cases e4
        rw [e2]
        exact q
    show tu u σ H fun σ' H' => ∃ z r, [v, w] = z :: r ∧ tv z σ' H' fun σ' H' => ∃ z' r', r = z' :: r' ∧ tw z' σ' H' fun σ' H' => r' = [] ∧ Q σ' H'
    rw [e] at k
    exact k⟩
def spInitB (B C : Addr) (R : Rd → Prop) : Sp := fun vs H Q _ => ∃ (G : Hp) (b dx p s wl : Addr) (d : DS) (bs : List BRows) (e : Int), vs = [.ref b, .ref p, .non] ∧ Same G H ∧ H b = some (.ins B dx []) ∧ G b = none ∧ DiskAt C G H p s wl d ∧ (∀ n, (d.read n).length = 16) ∧ R d.read ∧
  LogIs d.read (newest d.read).2.1 0 bs e ∧ rowsSum bs ≤ 1000000 ∧
  ∀ pg G' H', Stp (fun a => a = b) G H G' H' → BatAt B G' H' b p pg (({ place := (newest d.read).1, epoch := (newest d.read).2.1, many := (newest d.read).2.2, pages := [], fin := 0 } : BS).opened bs e) → H pg = none → Q .non H'
abbrev s_Batches_init : Stmt := inClass (top 18) 0
theorem sc_Batches_init : FnScope ["self", "disk", "bend"] ["self", "disk", "bend"] (defScope s_Batches_init) := ⟨rfl, rfl, rfl, by decide +kernel, rfl, by decide +kernel, by decide +kernel⟩
theorem ok_initB {R : Rd → Prop} {f : Addr} {fd : FuncData} (F : FunX K "__init__" "Batches.__init__" s_Batches_init f fd) (T : TxB K mg B tP tR tW tH) (L_newest_root : FnC P w K mg base "newest_root" 4 ["disk"] (spNewest C R)) (L_Batches_open_log : MtC P w K mg base B "open_log" 4 ["self"] (spOpen B C)) :
    FnOk P w K mg base CX0 5 f fd ["self", "disk", "bend"] (spInitB B C R) := by
  refine F.ok sc_Batches_init (fun vs H Q E h => ?_) (fun cdv A outer st H vs Q E hr h => ?_)
  · obtain ⟨G, b, dx, p, s, wl, d, bs, e, rfl, _⟩ := h
    rfl
  · obtain ⟨G, b, dx, p, s, wl, d, bs, e, rfl, gh, h1, gb, Dk, l16, hR, lg0, sz, k⟩ := h
    have nd := sc_Batches_init.nd
    have hu := hu_of hr
    refine ⟨_, (pss_cons (ps_fldK (K := K) rfl (pv 0) (pv 1) rfl)
    (pss_cons (ps_fldK (K := K) rfl (pv 0) (pv 2) rfl)
    (pss_cons (ps_asg (pe_fnc L_newest_root (hr.mono (by decide)) rfl (pa_cons (pv 1) pa_nil)) (pg_tupK (K := K) (n := 3) rfl rfl (pgs_cons (pg_fldK (K := K) rfl (pv 0)) (pgs_cons (pg_fldK (K := K) rfl (pv 0)) (pgs_cons (pg_fldK (K := K) rfl (pv 0)) pgs_nil)))))
    (pss_cons (ps_fldK (K := K) rfl (pv 0) pe_dnewK rfl)
    (pss_cons (ps_fldK (K := K) rfl (pv 0) pe_int rfl)
    (pss_one (ps_expr (pe_mtc0 (pv 0) L_Batches_open_log (hr.mono (by decide)))))))))), ?_⟩
    refine ⟨_, rfl, _, rfl, b, B, dx, _, rfl, h1, T.cl, T.m1, (by show 0 < 1000; decide), ?_⟩
    rw [bf_i0]
    generalize e1 : upd H b _ = H1
    obtain ⟨s1, f1, k1⟩ := wr_of (O := fun a => a = b) (Stp.refl gh) h1 gb (.inl rfl) e1
    refine ⟨_, rfl, _, rfl, b, B, dx, _, rfl, f1, T.cl, T.m2, (by show 1 < 1000; decide), ?_⟩
    rw [bf_i1]
    generalize e2 : upd H1 b _ = H2
    obtain ⟨s2, f2, k2⟩ := wr_of s1 f1 gb (.inl rfl) e2
    have bdp : ∀ a, DOwn p s wl a → ¬ a = b := fun a ha => by
      obtain ⟨dxp, rlp, hp, _⟩ := Dk.ob
      obtain ⟨kvp, hs, _⟩ := Dk.sec
      obtain ⟨wsp, hw, _⟩ := Dk.wai
      rcases ha with rfl | rfl | rfl
      · exact ne_of hp h1 fun z => by cases z
      · exact ne_of hs h1 fun z => nomatch z
      · exact ne_of hw h1 fun z => nomatch z
    have Dk2 := Dk.stp s2 bdp
    refine ⟨_, rfl, G, p, s, wl, d, rfl, s2.gh, Dk2, l16, hR, fun v3 G3 H3 s3 ⟨t, ev, ht, nt, gt⟩ => ?_⟩
    subst ev
    have s23 := s2.trans s3 fun b z => z.elim
    have f3 := s3.kp _ _ f2 fun z => z
    have tb : t ≠ b := (ne_of_none f2 nt).symm
    have g3 := s3.nw b (ne_none f2) gb
    refine g_trip ht ?_
    refine ⟨_, rfl, b, B, dx, _, rfl, f3, T.cl, T.m3, (by show 2 < 1000; decide), ?_⟩
    rw [bf_i2]
    generalize e4 : upd H3 b _ = H4
    obtain ⟨s4, f4, k4⟩ := wr_of s23 f3 g3 (.inl rfl) e4
    refine ⟨_, rfl, b, B, dx, _, rfl, f4, T.cl, T.m4, (by show 3 < 1000; decide), ?_⟩
    rw [bf_i3]
    generalize e5 : upd H4 b _ = H5
    obtain ⟨s5, f5, k5⟩ := wr_of s4 f4 g3 (.inl rfl) e5
    refine ⟨_, rfl, b, B, dx, _, rfl, f5, T.cl, T.m5, (by show 4 < 1000; decide), ?_⟩
    rw [bf_i4]
    generalize e6 : upd H5 b _ = H6
    obtain ⟨s6, f6, k6⟩ := wr_of s5 f5 g3 (.inl rfl) e6
    intro pg npg
    generalize e7 : upd H6 pg _ = H7
    obtain ⟨s7, f7, k7, g7, z7⟩ := own_of s6 npg e7
    have npb : pg ≠ b := (ne_of_none f6 npg).symm
    refine ⟨_, rfl, b, B, dx, _, rfl, k7 _ _ f6, T.cl, T.m6, (by show 5 < 1000; decide), ?_⟩
    rw [bf_i5]
    generalize e8 : upd H7 b _ = H8
    obtain ⟨s8, f8, k8⟩ := wr_of s7 (k7 _ _ f6) g3 (.inl rfl) e8
    refine ⟨_, rfl, b, B, dx, _, rfl, f8, T.cl, T.m7, (by show 6 < 1000; decide), ?_⟩
    rw [bf_i6]
    generalize e9 : upd H8 b _ = H9
    obtain ⟨s9, f9, k9⟩ := wr_of s8 f8 g3 (.inl rfl) e9
    have D9 : BatAt B G3 H9 b p pg ({ place := (newest d.read).1, epoch := (newest d.read).2.1, many := (newest d.read).2.2, pages := [], fin := 0 } : BS) := ⟨⟨dx, f9⟩, ⟨[], k9 _ _ npb (k8 _ _ npb f7), .nil⟩, g3, g7⟩
    have Dk9 := Dk.stp s9 bdp
    have sep : ∀ a, DOwn p s wl a → ¬ BOwn b pg a := fun a ha hb => by
      rcases hb with hb | hb
      · exact bdp a ha hb
      · subst hb
        obtain ⟨dxp, rlp, hp, _⟩ := Dk.ob
        obtain ⟨kvp, hs, _⟩ := Dk.sec
        obtain ⟨wsp, hw, _⟩ := Dk.wai
        rcases ha with rfl | rfl | rfl
        · rw [z7] at hp; cases hp
        · rw [z7] at hs; cases hs
        · rw [z7] at hw; cases hw
    refine ⟨_, rfl, b, dx, _, rfl, f9, bf_no (by decide +kernel) (by decide +kernel) (by decide +kernel) (by decide +kernel) (by decide +kernel) (by decide +kernel) (by decide +kernel), G3, b, p, pg, s, wl, _, d, bs, e, rfl, s9.gh, D9, Dk9, sep, l16, lg0, by show 0 + rowsSum bs ≤ 1000000; omega, fun G10 H10 s10 D10 => ?_⟩
    exact k pg G10 H10 (s9.trans s10 fun c hc => hc.elim (fun z => .inl z) fun z => .inr (by rw [z]; exact z7)) D10 z7
end
end K51

/-! KB5: a commit. -/
namespace K51
open PySem PySem.Spec PyProof.Rows L2 Y
theorem for_enumM {K : PySem.W.Frag} {a : Addr} {xs : List V} {g : TG} {tb : TS} {D : Ends} {σ : L2.St} {H : Hp} (Pv : Nat → L2.St → Hp → Prop) (h0 : Pv 0 σ H) (hq : ∀ i σ H, Pv i σ H → SqL K H a xs)
    (hs : ∀ (i : Nat) (x : V) (T : Addr) (σ : L2.St) (H : Hp), xs[i]? = some x → Pv i σ H → H T = none → g (.ref T) σ (upd H T (.tup [.int (i : Nat), x])) fun σ2 H2 => tb { D with nx := Pv (i + 1), ct := Pv (i + 1), bk := D.nx } σ2 H2)
    (hd : ∀ σ H, Pv xs.length σ H → D.nx σ H) :
    ∃ W : Nat → Nat → L2.St → Hp → Prop, (∃ m, W 0 m σ H) ∧ ∀ i m σ H, W i m σ H →
      ((Ite K a).stop i H ∧ D.nx σ H) ∨ ((Ite K a).go i H ∧ ∃ N : L2.St → Hp → Prop, (∀ σ' H', N σ' H' → ∃ m', m' < m ∧ W (i + 1) m' σ' H') ∧ ∀ v H', (Ite K a).yld i H v H' → g v σ H' fun σ2 H2 => tb { D with nx := N, ct := N, bk := D.nx } σ2 H2) := by
  refine ⟨fun i m σ H => m = xs.length - i ∧ i ≤ xs.length ∧ Pv i σ H, ⟨_, rfl, Nat.zero_le _, h0⟩, ?_⟩
  rintro i m σ H ⟨rfl, hi, p⟩
  have qx := hq i σ H p
  by_cases hlt : i < xs.length
  · refine .inr ⟨⟨xs, _, qx, List.getElem?_eq_getElem hlt⟩, Pv (i + 1), fun σ' H' p' => ⟨_, by omega, rfl, by omega, p'⟩, fun v H' y => ?_⟩
    obtain ⟨T, x', rfl, hT, rfl, f1⟩ := y
    exact hs i x' T σ H (f1 xs qx) p hT
  · have e : i = xs.length := by omega
    subst e
    exact .inl ⟨⟨xs, qx, Nat.le_refl _⟩, hd σ H p⟩
/-- rows that someone hands in: none of their lists is the list l -/
def RowsH (H : Hp) (a : Addr) (rows : BRows) (l : Addr) : Prop := a ≠ l ∧ ∃ us, H a = some (.lst us) ∧ Paired (fun v (x : Int × Page) => ∃ t c, v = V.ref t ∧ H t = some (.tup [.int x.1, .ref c]) ∧ H c = some (rowI x.2) ∧ c ≠ l) us rows
theorem RowsH.lst {H : Hp} {a : Addr} {rows : BRows} {l : Addr} (h : RowsH H a rows l) : LstAt rSec H H a rows := by
  obtain ⟨_, us, h1, h2⟩ := h
  refine ⟨us, h1, pd_mono (fun v x z => ?_) h2⟩
  obtain ⟨t, c, e, a1, a2, _⟩ := z
  exact ⟨t, _, _, e, a1, rfl, rLI_of a2⟩
def BS.commit (x : BS) (cut : Bool) (rows : BRows) : BS := if cut then x else { x with fin := x.fin + (parts (contOf x.epoch rows) : Nat), pages := takeR x.pages rows, many := x.many + 1 }
def DBOwn (p s wl b pg : Addr) : Addr → Prop := fun a => DOwn p s wl a ∨ BOwn b pg a
theorem cont_len {e : Int} {rows : BRows} (h : ∀ r ∈ rows, r.2.length = 64) : (contOf e rows).length = 8 + 68 * rows.length := by
  unfold contOf
  rw [List.length_append, List.length_append, enc_len h]
  show 4 + 4 + _ = _
  omega
theorem writes_snoc (d : DS) (l : List (Int × Sec)) (x : Int × Sec) : d.writes (l ++ [x]) = (d.writes l).write x.1 x.2 := by
  unfold DS.writes
  rw [List.foldl_append]
  rfl
theorem logW_succ {e : Int} {c : List Int} {i : Nat} (h : i < parts c) : (logW e c).take (i + 1) = (logW e c).take i ++ [(lg (e + i), part c i)] := by
  unfold logW
  rw [List.take_add_one, List.getElem?_map, List.getElem?_range h]
  rfl
/-! ### what fits stays fitting -/
theorem counts_wai (d : DS) : d.counts.wai.length ≤ d.wai.length := by
  unfold DS.counts
  split
  · exact Nat.le_refl _
  · split
    · exact Nat.le_refl _
    · split
      · exact Nat.zero_le _
      · exact Nat.le_refl _
theorem counts_sz {d : DS} (h : Fit d) : d.counts.sec.length + d.counts.wai.length ≤ d.sec.length + d.wai.length := by
  unfold DS.counts
  split
  · exact Nat.le_refl _
  · split
    · exact Nat.le_refl _
    · split
      · obtain ⟨_, b, _⟩ := foldl_torn h.lw (d.rows.zip (nums (d.wai.map (·.1)))) d.sec h.nd h.ls
        have q := le_nums_len (d.wai.map (·.1))
        rw [List.length_zip] at b
        rw [List.length_map] at q
        show (crashed d.sec d.wai d.rows).length + 0 ≤ _
        unfold crashed
        omega
      · exact Nat.le_refl _
theorem fit_write {d : DS} (h : Fit d) {n : Int} {x : Sec} (hx : x.length = 16) (hs : d.sec.length + d.wai.length < 60000) (hw : d.wai.length < 60) :
    Fit (d.write n x) ∧ (d.write n x).sec.length + (d.write n x).wai.length ≤ d.sec.length + d.wai.length + 1 ∧ (d.write n x).wai.length ≤ d.wai.length + 1 := by
  have hc := h.counts
  have h1 := counts_sz h
  have h2 := counts_wai d
  by_cases hcut : d.counts.cut = true
  · have e : d.write n x = d.counts := if_pos hcut
    rw [e]
    exact ⟨hc, by omega, by omega⟩
  · have e : d.write n x = { d.counts with wai := d.counts.wai ++ [(n, x)] } := if_neg hcut
    rw [e]
    refine ⟨⟨hc.nd, ?_, hc.rz, hc.ls, ?_, ?_⟩, ?_, ?_⟩
    · show d.counts.sec.length + (d.counts.wai ++ [(n, x)]).length ≤ 60000
      rw [List.length_append]
      show d.counts.sec.length + (d.counts.wai.length + 1) ≤ 60000
      omega
    · intro y hy
      rcases List.mem_append.mp hy with hy | hy
      · exact hc.lw y hy
      · rw [List.mem_singleton] at hy
        subst hy
        exact hx
    · show (d.counts.wai ++ [(n, x)]).length ≤ 60
      rw [List.length_append]
      show d.counts.wai.length + 1 ≤ 60
      omega
    · show d.counts.sec.length + (d.counts.wai ++ [(n, x)]).length ≤ _
      rw [List.length_append]
      show d.counts.sec.length + (d.counts.wai.length + 1) ≤ _
      omega
    · show (d.counts.wai ++ [(n, x)]).length ≤ _
      rw [List.length_append]
      show d.counts.wai.length + 1 ≤ _
      omega
theorem fit_writes : ∀ (l : List (Int × Sec)) {d : DS}, Fit d → (∀ x ∈ l, x.2.length = 16) → d.sec.length + d.wai.length + l.length ≤ 60000 → d.wai.length + l.length ≤ 60 →
    Fit (d.writes l) ∧ (d.writes l).sec.length + (d.writes l).wai.length ≤ d.sec.length + d.wai.length + l.length ∧ (d.writes l).wai.length ≤ d.wai.length + l.length
  | [], d, h, _, _, _ => ⟨h, Nat.le_refl _, Nat.le_refl _⟩
  | x :: l, d, h, hx, h1, h2 => by
    rw [List.length_cons] at h1 h2
    obtain ⟨a, b, c⟩ := fit_write h (n := x.1) (hx x List.mem_cons_self) (by omega) (by omega)
    obtain ⟨a', b', c'⟩ := fit_writes l a (fun y hy => hx y (List.mem_cons_of_mem _ hy)) (by omega) (by omega)
    have e : d.writes (x :: l) = (d.write x.1 x.2).writes l := rfl
    rw [e, List.length_cons]
    exact ⟨a', by omega, by omega⟩
theorem fit_sync {d : DS} (h : Fit d) : Fit d.sync ∧ d.sync.sec.length + d.sync.wai.length ≤ d.sec.length + d.wai.length ∧ d.sync.wai.length ≤ d.wai.length := by
  have hc := h.counts
  have h1 := counts_sz h
  have h2 := counts_wai d
  by_cases hcut : d.counts.cut = true
  · have e : d.sync = d.counts := if_pos hcut
    rw [e]
    exact ⟨hc, h1, h2⟩
  · have e : d.sync = { d.counts with sec := synS d.counts.sec d.counts.wai, wai := [] } := if_neg hcut
    rw [e]
    have z := synS_len d.counts.wai d.counts.sec
    have hz := hc.sz
    refine ⟨⟨synS_nd _ _ hc.nd, ?_, hc.rz, synS_16 _ _ hc.ls hc.lw, (fun x hx => by cases hx), Nat.zero_le _⟩, ?_, Nat.zero_le _⟩
    · show (synS d.counts.sec d.counts.wai).length + 0 ≤ 60000
      omega
    · show (synS d.counts.sec d.counts.wai).length + 0 ≤ _
      omega
theorem DiskAt.keepL {C : Addr} {G H G' H' : Hp} {p s w : Addr} {d : DS} (D : DiskAt C G H p s w d) (e : Stp (DOwn p s w) G H G' H') {q : Addr} {xs : List V} (h : H q = some (.lst xs)) (n : q ≠ w) : H' q = some (.lst xs) :=
  e.kp _ _ h fun z => by
    obtain ⟨dxp, rlp, hp, _⟩ := D.ob
    obtain ⟨kvp, hs, _⟩ := D.sec
    rcases z with z | z | z
    · rw [z, hp] at h; cases h
    · rw [z, hs] at h; cases h
    · exact n z
theorem RowsH.keep {B C : Addr} {G H G' H' : Hp} {a b p pg s wl : Addr} {x : BS} {d : DS} {rows : BRows} (h : RowsH H a rows wl) (D : BatAt B G H b p pg x) (Dk : DiskAt C G H p s wl d) (e : Stp (DBOwn p s wl b pg) G H G' H') : RowsH H' a rows wl := by
  obtain ⟨n, us, h1, h2⟩ := h
  obtain ⟨dxp, rlp, hp, _⟩ := Dk.ob
  obtain ⟨kvp, hs, _⟩ := Dk.sec
  obtain ⟨dxb, hb⟩ := D.ob
  obtain ⟨kvb, hpg, _⟩ := D.pa
  have off : ∀ {c : Addr} {o : HO}, H c = some o → c ≠ wl → ((∃ xs, o = .lst xs) ∨ ∃ xs, o = .tup xs) → ¬ DBOwn p s wl b pg c := by
    rintro c o hc hw hk ((z | z | z) | (z | z))
    · subst z
      rw [hp] at hc
      cases hc
      rcases hk with ⟨_, q⟩ | ⟨_, q⟩ <;> cases q
    · subst z
      rw [hs] at hc
      cases hc
      rcases hk with ⟨_, q⟩ | ⟨_, q⟩ <;> cases q
    · exact hw z
    · subst z
      rw [hb] at hc
      cases hc
      rcases hk with ⟨_, q⟩ | ⟨_, q⟩ <;> cases q
    · subst z
      rw [hpg] at hc
      cases hc
      rcases hk with ⟨_, q⟩ | ⟨_, q⟩ <;> cases q
  obtain ⟨wsp, hw, _⟩ := Dk.wai
  refine ⟨n, us, e.kp _ _ h1 (off h1 n (.inl ⟨_, rfl⟩)), pd_mono (fun v y z => ?_) h2⟩
  obtain ⟨t, c, ev, a1, a2, a3⟩ := z
  exact ⟨t, c, ev, e.kp _ _ a1 (off a1 (ne_of a1 hw fun z => nomatch z) (.inr ⟨_, rfl⟩)), e.kp _ _ a2 (off a2 a3 (.inl ⟨_, rfl⟩)), a3⟩
section
variable {P : Program} {w : World} {K : PySem.W.Frag} {mg : Str → Option Value} {base : Heap} {C B : Addr} {tP tR tW tH : Tok}
def spCommit (B C : Addr) : Sp := fun vs H Q _ => ∃ (G : Hp) (b p pg s wl : Addr) (x : BS) (d : DS) (a : Addr) (rows : BRows), vs = [.ref b, .ref a] ∧ Same G H ∧ BatAt B G H b p pg x ∧ DiskAt C G H p s wl d ∧ (∀ a, DOwn p s wl a → ¬ BOwn b pg a) ∧
  Fit d ∧ d.wai = [] ∧ d.sec.length ≤ 59000 ∧ RowsH H a rows wl ∧ rows.length ≤ 12 ∧ (∀ r ∈ rows, r.2.length = 64) ∧ x.pages.length + rows.length ≤ 1000000 ∧
  ∀ w' G' H', Stp (DBOwn p s wl b pg) G H G' H' → DiskAt C G' H' p s w' (d.commit x.epoch x.fin rows) → BatAt B G' H' b p pg (x.commit (d.commit x.epoch x.fin rows).cut rows) → (w' = wl ∨ H w' = none) → Q (.bl (!(d.commit x.epoch x.fin rows).cut)) H'
abbrev s_Batches_commit : Stmt := inClass (top 18) 4
theorem sc_Batches_commit : FnScope ["self", "rows", "sectors", "first", "marked", "at", "content"] ["self", "rows"] (defScope s_Batches_commit) := ⟨rfl, rfl, rfl, by decide +kernel, rfl, by decide +kernel, by decide +kernel⟩
theorem ok_commit {f : Addr} {fd : FuncData} (F : Fun K "commit" "Batches.commit" s_Batches_commit f fd) (T : TxB K mg B tP tR tW tH) (TD : Cls K C ∧ NoAttr K C "is_cut") (L_content_of : FnC P w K mg base "content_of" 2 ["epoch", "rows"] spContent) (L_log_sectors : FnC P w K mg base "log_sectors" 1 ["content"] spLogSecs)
    (L_log_sector : FnC P w K mg base "log_sector" 1 ["place"] spLogS) (L_Disk_write : MtC P w K mg base C "write" 4 ["self", "number", "content"] (spWrite C)) (L_Disk_sync : MtC P w K mg base C "sync" 4 ["self"] (spSync C)) (L_Batches_take : MtC P w K mg base B "take" 1 ["self", "rows"] (spTakeB B)) :
    FnOk P w K mg base CX0 5 f fd ["self", "rows"] (spCommit B C) := by
  refine F.ok sc_Batches_commit (fun vs H Q E h => ?_) (fun cdv A outer st H vs Q E hr h => ?_)
  · obtain ⟨G, b, p, pg, s, wl, x, d, a, rows, rfl, _⟩ := h
    rfl
  · obtain ⟨G, b, p, pg, s, wl, x, d, a, rows, rfl, gh, D, Dk, sep, fit, w0, sl0, hrows, hl, h64, sz, k⟩ := h
    have nd := sc_Batches_commit.nd
    have hu := hu_of hr
    refine ⟨_, (pss_cons (ps_set (i := 2) nd rfl (Or.inl rfl) (pe_fnc L_log_sectors (hr.mono (by decide)) rfl (pa_cons (pe_fnc L_content_of (hr.mono (by decide)) rfl (pa_cons (pe_fldK (K := K) rfl (pv 0) rfl) (pa_cons (pv 1) pa_nil))) pa_nil)))
    (pss_cons (ps_set (i := 3) nd rfl (Or.inl rfl) (pe_fnc L_log_sector (hr.mono (by decide)) rfl (pa_cons (pe_fldK (K := K) rfl (pv 0) rfl) pa_nil)))
    (pss_cons (ps_set (i := 4) nd rfl (Or.inl rfl) (pe_op op_cat (pe_lst (pa_cons pe_int pa_nil)) (pe_slice (sl_listK (K := K) rfl) (pe_ix (ix_listK (K := K) rfl) (pv 2) pe_int (fun _ _ => rfl)) (po_some pe_int) po_none)))
    (pss_cons (ps_if (pt_cmpR op_eq (pe_fldK (K := K) rfl (pv 0) rfl) pe_str (nomark _))
    (pss_cons (ps_expr (pe_mtc (pe_fldK (K := K) rfl (pv 0) rfl) L_Disk_write (hr.mono (by decide)) (pa_cons (pv 3) (pa_cons (pv 4) pa_nil))))
    (pss_cons (ps_expr (pe_mtc0 (pe_fldK (K := K) rfl (pv 0) rfl) L_Disk_sync (hr.mono (by decide))))
    (pss_one (ps_asg (pv 4) (pg_sub (pv 2) pe_int set_list)))))
    pss_nil)
    (pss_cons (ps_for PassesOwn.never rfl (pi_enumK (K := K) rfl rfl T.b_enumerate (pa_cons (pv 2) pa_nil)) (pg_tupK (K := K) (n := 2) rfl rfl (pgs_cons (pg_name (i := 5) nd rfl (Or.inl rfl)) (pgs_cons (pg_name (i := 6) nd rfl (Or.inl rfl)) pgs_nil)))
    (pss_one (ps_expr (pe_mtc (pe_fldK (K := K) rfl (pv 0) rfl) L_Disk_write (hr.mono (by decide)) (pa_cons (pe_fnc L_log_sector (hr.mono (by decide)) rfl (pa_cons (pe_op op_add (pe_fldK (K := K) rfl (pv 0) rfl) (pv 5)) pa_nil)) (pa_cons (pv 6) pa_nil))))))
    (pss_cons (ps_if (pt_cmpR op_ne (pe_fldK (K := K) rfl (pv 0) rfl) pe_str (nomark _))
    (pss_one (ps_expr (pe_mtc0 (pe_fldK (K := K) rfl (pv 0) rfl) L_Disk_sync (hr.mono (by decide)))))
    pss_nil)
    (pss_cons (ps_expr (pe_mtc (pe_fldK (K := K) rfl (pv 0) rfl) L_Disk_write (hr.mono (by decide)) (pa_cons (pv 3) (pa_cons (pv 4) pa_nil))))
    (pss_cons (ps_if (pt_cmpR op_ne (pe_fldK (K := K) rfl (pv 0) rfl) pe_str (nomark _))
    (pss_one (ps_expr (pe_mtc0 (pe_fldK (K := K) rfl (pv 0) rfl) L_Disk_sync (hr.mono (by decide)))))
    pss_nil)
    (pss_cons (ps_if (pt_val (pe_fldK (K := K) rfl (pe_fldK (K := K) rfl (pv 0) rfl) rfl))
    (pss_one (ps_ret pe_bl))
    pss_nil)
    (pss_cons (ps_fldK (K := K) rfl (pv 0) (pe_op op_add (pe_fldK (K := K) rfl (pv 0) rfl) (pe_callB (call_len_seqK (K := K) rfl) (by rfl) T.b_len (by decide +kernel) (pa_cons (pv 2) pa_nil))) rfl)
    (pss_cons (ps_expr (pe_mtc (pv 0) L_Batches_take (hr.mono (by decide)) (pa_cons (pv 1) pa_nil)))
    (pss_one (ps_ret pe_bl))))))))))))), ?_⟩
    obtain ⟨dx, h1⟩ := id D.ob
    refine ⟨_, rfl, b, B, dx, _, _, rfl, h1, T.cl, T.m4, bf_epoch, _, rfl, G, _, a, rows, rfl, gh, hrows.lst, by omega, h64, fun q1 G1 H1 s1 n1 g1 f1 => ?_⟩
    have lc : (contOf x.epoch rows).length = 8 + 68 * rows.length := cont_len h64
    refine ⟨G1, q1, _, rfl, s1.gh, f1, by omega, fun L us G2 H2 s2 n2 g2 f2 p2 => ?_⟩
    have s12 := s1.trans s2 fun b z => z.elim
    have h12 := s12.kp _ _ h1 fun z => z
    refine ⟨_, rfl, b, B, dx, _, _, rfl, h12, T.cl, T.m7, bf_end, _, rfl, ?_⟩
    have lus : us.length = parts (contOf x.epoch rows) := by rw [pd_len p2]; unfold partsL; rw [List.length_map, List.length_range]
    have lp0 : 0 < parts (contOf x.epoch rows) := by unfold parts; omega
    obtain ⟨u0, hu0⟩ : ∃ u, us[0]? = some u := ⟨_, List.getElem?_eq_getElem (by omega)⟩
    obtain ⟨y0, hy0, rv0⟩ := pd_get p2 hu0
    obtain ⟨c0, rfl, hc0⟩ := rLI rv0
    have ey0 : y0 = part (contOf x.epoch rows) 0 := by
      unfold partsL at hy0
      rw [List.getElem?_map, List.getElem?_range lp0] at hy0
      exact (Option.some.inj hy0).symm
    subst ey0
    refine ⟨(by show 1 ≤ sizeLine; decide), fun p3 n3 => ?_⟩
    generalize e3 : upd H2 p3 _ = H3
    obtain ⟨s3, f3, k3, g3, z3⟩ := own_of s12 n3 e3
    refine ⟨_, rfl, L, _, _, _, rfl, rfl, SqL.of (k3 _ _ f2), at_of (j := 0) rfl hu0, _, rfl, c0, _, rfl, SqL.of (k3 _ _ (s12.gh _ _ hc0)), fun p4 n4 => ?_⟩
    rw [cut_1]
    generalize e4 : upd H3 p4 _ = H4
    obtain ⟨s4, f4, k4, g4, z4⟩ := own_of s3 n4 e4
    refine ⟨p3, p4, _, _, rfl, rfl, k4 _ _ f3, f4, ?_, fun p5 n5 => ?_⟩
    · rw [List.length_map, List.length_drop, part_len]
      show 1 + 15 ≤ sizeLine
      decide
    generalize e5 : upd H4 p5 _ = H5
    obtain ⟨s5, f5, k5, g5, z5⟩ := own_of s4 n5 e5
    have fm : H5 p5 = some (rowI (mark (part (contOf x.epoch rows) 0))) := f5
    have h15 := k5 _ _ (k4 _ _ (k3 _ _ h12))
    have fL5 := k5 _ _ (k4 _ _ (k3 _ _ f2))
    refine ⟨_, rfl, b, B, dx, _, _, rfl, h15, T.cl, T.m2, bf_bend, rfl, _, rfl, ?_⟩
    have eNo : ∀ z : Str, decide (V.non = V.str z) = false := fun z => decide_eq_false fun e => nomatch e
    rw [eNo]
    refine iteF ?_
    -- the disk under way
    have sepN : ∀ {w1 : Addr}, (w1 = wl ∨ H w1 = none) → ∀ c, BOwn b pg c → ¬ DOwn p s w1 c := fun {w1} hw c hc hd => by
      rcases hd with z | z | z
      · exact sep c (.inl z) hc
      · exact sep c (.inr (.inl z)) hc
      · rcases hw with e | e
        · exact sep c (.inr (.inr (z.trans e))) hc
        · obtain ⟨kvb, hpg, _⟩ := D.pa
          rw [← z] at e
          rcases hc with y | y
          · rw [y, h1] at e; cases e
          · rw [y, hpg] at e; cases e
    have trO : ∀ {w1 : Addr}, (w1 = wl ∨ H w1 = none) → ∀ c, DOwn p s w1 c → DBOwn p s wl b pg c ∨ H c = none := fun {w1} hw c hd => by
      rcases hd with z | z | z
      · exact .inl (.inl (.inl z))
      · exact .inl (.inl (.inr (.inl z)))
      · rcases hw with e | e
        · exact .inl (.inl (.inr (.inr (z.trans e))))
        · exact .inr (by rw [z]; exact e)
    have s5' : Stp (DBOwn p s wl b pg) G H G2 H5 := s5.mono fun _ z => z.elim
    have D5 := D.stp s5 fun _ _ z => z
    have Dk5 := Dk.stp s5 fun _ _ z => z
    obtain ⟨wsp, hwl, _⟩ := id Dk.wai
    have nLw : L ≠ wl := fun z => by rw [z] at fL5; have := s1.kp _ _ hwl fun z => z; rw [z] at n2; rw [this] at n2; cases n2
    have n5w : p5 ≠ wl := fun z => by rw [z, hwl] at z5; cases z5
    generalize hcs : contOf x.epoch rows = cs at *
    refine ⟨_, rfl, L, us, rfl, SqL.of fL5, for_enumM (K := K) (a := L) (xs := us)
      (fun i σ H6 => i ≤ us.length ∧ (∃ x5 x6, σ = [some (.ref b), some (.ref a), some (.ref L), some (.int (lg x.fin)), some (.ref p5), x5, x6]) ∧ ∃ G6 w6, Stp (DBOwn p s wl b pg) G H G6 H6 ∧ Same G2 G6 ∧ DiskAt C G6 H6 p s w6 (d.writes ((logW x.fin cs).take i)) ∧ BatAt B G6 H6 b p pg x ∧
        (w6 = wl ∨ H w6 = none) ∧ H6 L = some (.lst us) ∧ H6 p5 = some (rowI (mark (part cs 0))) ∧ L ≠ w6 ∧ p5 ≠ w6)
      ⟨Nat.zero_le _, ⟨_, _, rfl⟩, G2, wl, s5', Same.refl _, Dk5, D5, .inl rfl, fL5, fm, nLw, n5w⟩ (fun i σ H6 ⟨_, _, G6, w6, _, _, _, _, _, z, _⟩ => SqL.of z) ?_ ?_⟩
    · rintro i y T0 σ H6 hi ⟨_, ⟨x5, x6, rfl⟩, G6, w6, s6, gg6, Dk6, D6, hw6, fL6, fm6, nL6, n56⟩ nT
      have hi2 := (List.getElem?_eq_some_iff.mp hi).1
      have hiw : i < parts cs := by rw [← lus]; exact hi2
      obtain ⟨yy, hyy, rv⟩ := pd_get p2 hi
      obtain ⟨c, rfl, hc⟩ := rLI rv
      have eyy : yy = part cs i := by
        unfold partsL at hyy
        rw [List.getElem?_map, List.getElem?_range hiw] at hyy
        exact (Option.some.inj hyy).symm
      subst eyy
      generalize e7 : upd H6 T0 _ = H7
      obtain ⟨s7, f7, k7, g7, z7⟩ := own_of s6 nT e7
      have s67 : Stp O0 G6 H6 G6 H7 := (own_of (Stp.refl (O := O0) s6.gh) nT e7).1
      have D7 := D6.stp s67 fun _ _ z => z
      have Dk7 := Dk6.stp s67 fun _ _ z => z
      obtain ⟨dx7, h17⟩ := id D7.ob
      obtain ⟨dxp7, rlp7, hp7, _⟩ := id Dk7.ob
      have lw : ((logW x.fin cs).take i).length = i := by
        unfold logW
        rw [List.length_take, List.length_map, List.length_range]
        omega
      have h16 : ∀ y ∈ (logW x.fin cs).take i, y.2.length = 16 := fun y hy => by
        obtain ⟨j, _, e⟩ := List.mem_map.mp (List.mem_of_mem_take hy)
        rw [← e]
        exact part_len _ _
      have lpc : parts cs ≤ 56 := by unfold parts; omega
      obtain ⟨fi, fs, fw⟩ := fit_writes _ fit h16 (by rw [w0, lw]; show _ + 0 + i ≤ _; omega) (by rw [w0, lw]; show 0 + i ≤ _; omega)
      have hc7 := s7.gh _ _ (gg6 _ _ hc)
      have ncw : c ≠ w6 := fun z => by
        have := Dk6.gw
        rw [← z, gg6 _ _ hc] at this
        cases this
      refine g_pair f7 ⟨_, rfl, b, B, dx7, _, _, rfl, h17, T.cl, T.m1, bf_disk, p, dxp7, _, rfl, hp7, df_no (by decide +kernel) (by decide +kernel) (by decide +kernel) (by decide +kernel) (by decide +kernel),
        _, rfl, b, B, dx7, _, _, rfl, h17, T.cl, T.m7, bf_end, _, rfl, _, _, rfl, rfl, _, rfl, _, rfl, G6, p, s, w6, _, _, c, _, rfl, s7.gh, Dk7, fi, hc7, ncw, fun w8 G8 H8 s8 D8 hw8 => ?_⟩
      have s78 := s7.trans s8 (trO hw6)
      have nh8 : w8 = wl ∨ H w8 = none := by
        rcases hw8 with e | e
        · rw [e]; exact hw6
        · exact .inr (s7.fr e)
      have fL8 := Dk7.keepL s8 (k7 _ _ fL6) nL6
      have fm8 := Dk7.keepL s8 (k7 _ _ fm6) n56
      refine ⟨hi2, ⟨_, _, rfl⟩, G8, w8, s78, gg6.trans s8.gg, ?_, D7.stp s8 (sepN hw6), nh8, fL8, fm8, ?_, ?_⟩
      · rw [logW_succ hiw, writes_snoc]
        exact D8
      · rcases hw8 with e | e
        · rw [e]; exact nL6
        · exact ne_of_none (k7 _ _ fL6) e
      · rcases hw8 with e | e
        · rw [e]; exact n56
        · exact ne_of_none (k7 _ _ fm6) e
    · rintro σ H6 ⟨_, ⟨x5, x6, rfl⟩, G6, w6, s6, gg6, Dk6, D6, hw6, fL6, fm6, nL6, n56⟩
      have elg : (logW x.fin cs).take us.length = logW x.fin cs := List.take_of_length_le (by unfold logW; rw [List.length_map, List.length_range, lus]; exact Nat.le_refl _)
      rw [elg] at Dk6
      have lwL : (logW x.fin cs).length = parts cs := by unfold logW; rw [List.length_map, List.length_range]
      have h16 : ∀ y ∈ logW x.fin cs, y.2.length = 16 := fun y hy => by
        obtain ⟨j, _, e⟩ := List.mem_map.mp hy
        rw [← e]
        exact part_len _ _
      have lpc : parts cs ≤ 56 := by unfold parts; omega
      obtain ⟨f1', fs1, fw1⟩ := fit_writes _ fit h16 (by rw [w0, lwL]; show _ + 0 + _ ≤ _; omega) (by rw [w0, lwL]; show 0 + _ ≤ _; omega)
      rw [w0, lwL] at fs1 fw1
      have fs1 : (d.writes (logW x.fin cs)).sec.length + (d.writes (logW x.fin cs)).wai.length ≤ d.sec.length + 0 + parts cs := fs1
      have fw1 : (d.writes (logW x.fin cs)).wai.length ≤ 0 + parts cs := fw1
      obtain ⟨f2', fs2, fw2⟩ := fit_sync f1'
      obtain ⟨f3', fs3, fw3⟩ := fit_write f2' (n := lg x.fin) (x := mark (part cs 0)) (by show (1 :: (part cs 0).drop 1).length = 16; rw [List.length_cons, List.length_drop, part_len]) (by omega) (by omega)
      obtain ⟨f4', fs4, fw4⟩ := fit_sync f3'
      obtain ⟨dx6, h16b⟩ := id D6.ob
      obtain ⟨dxp6, rlp6, hp6, _⟩ := id Dk6.ob
      refine ⟨_, rfl, b, B, dx6, _, _, rfl, h16b, T.cl, T.m2, bf_bend, rfl, _, rfl, ?_⟩
      rw [eNo]
      refine iteT ?_
      refine ⟨_, rfl, b, B, dx6, _, _, rfl, h16b, T.cl, T.m1, bf_disk, p, dxp6, _, rfl, hp6, df_no (by decide +kernel) (by decide +kernel) (by decide +kernel) (by decide +kernel) (by decide +kernel), G6, p, s, w6, _, rfl, s6.gh, Dk6, f1', fun w7 G7 H7 s7 Dk7 hw7 => ?_⟩
      have s67 := s6.trans s7 (trO hw6)
      have D7 := D6.stp s7 (sepN hw6)
      have nh7 : w7 = wl ∨ H w7 = none := by
        rcases hw7 with e | e
        · rw [e]; exact hw6
        · exact .inr (s6.fr e)
      have fL7 := Dk6.keepL s7 fL6 nL6
      have fm7 := Dk6.keepL s7 fm6 n56
      have nL7 : L ≠ w7 := by
        rcases hw7 with e | e
        · rw [e]; exact nL6
        · exact ne_of_none fL6 e
      have n57 : p5 ≠ w7 := by
        rcases hw7 with e | e
        · rw [e]; exact n56
        · exact ne_of_none fm6 e
      obtain ⟨dx7, h17⟩ := id D7.ob
      obtain ⟨dxp7, rlp7, hp7, _⟩ := id Dk7.ob
      refine ⟨_, rfl, b, B, dx7, _, _, rfl, h17, T.cl, T.m1, bf_disk, p, dxp7, _, rfl, hp7, df_no (by decide +kernel) (by decide +kernel) (by decide +kernel) (by decide +kernel) (by decide +kernel), _, rfl, _, rfl, G7, p, s, w7, _, _, p5, _, rfl, s67.gh, Dk7, f2', fm7, n57, fun w8 G8 H8 s8 Dk8 hw8 => ?_⟩
      have s68 := s67.trans s8 (trO nh7)
      have D8 := D7.stp s8 (sepN nh7)
      have nh8 : w8 = wl ∨ H w8 = none := by
        rcases hw8 with e | e
        · rw [e]; exact nh7
        · exact .inr (s67.fr e)
      have fL8 := Dk7.keepL s8 fL7 nL7
      have nL8 : L ≠ w8 := by
        rcases hw8 with e | e
        · rw [e]; exact nL7
        · exact ne_of_none fL7 e
      obtain ⟨dx8, h18⟩ := id D8.ob
      obtain ⟨dxp8, rlp8, hp8, _⟩ := id Dk8.ob
      refine ⟨_, rfl, b, B, dx8, _, _, rfl, h18, T.cl, T.m2, bf_bend, rfl, _, rfl, ?_⟩
      rw [eNo]
      refine iteT ?_
      refine ⟨_, rfl, b, B, dx8, _, _, rfl, h18, T.cl, T.m1, bf_disk, p, dxp8, _, rfl, hp8, df_no (by decide +kernel) (by decide +kernel) (by decide +kernel) (by decide +kernel) (by decide +kernel), G8, p, s, w8, _, rfl, s68.gh, Dk8, f3', fun w9 G9 H9 s9 Dk9 hw9 => ?_⟩
      have s69 := s68.trans s9 (trO nh8)
      have D9 := D8.stp s9 (sepN nh8)
      have nh9 : w9 = wl ∨ H w9 = none := by
        rcases hw9 with e | e
        · rw [e]; exact nh8
        · exact .inr (s68.fr e)
      have fL9 := Dk8.keepL s9 fL8 nL8
      obtain ⟨dx9, h19⟩ := id D9.ob
      obtain ⟨dxp9, rlp9, hp9, _⟩ := id Dk9.ob
      have ed : ((((d.writes (logW x.fin cs)).sync).write (lg x.fin) (mark (part cs 0))).sync) = d.commit x.epoch x.fin rows := by
        unfold DS.commit
        rw [hcs]
      rw [ed] at Dk9 hp9
      refine ⟨_, rfl, b, B, dx9, _, _, rfl, h19, T.cl, T.m1, bf_disk, p, C, dxp9, _, _, rfl, hp9, TD.1, TD.2, df_cut, _, rfl, if_bool (fun hc => ?_) (fun hc => ?_)⟩
      · have z := k w9 G9 H9 s69 Dk9 (by unfold BS.commit; rw [hc]; exact D9) nh9
        rw [hc] at z
        exact z
      · refine ⟨_, rfl, b, B, dx9, _, _, rfl, h19, T.cl, T.m7, bf_end, _, rfl, L, _, rfl, .inl (SqL.of fL9), _, _, rfl, rfl, _, rfl, b, B, dx9, _, rfl, h19, T.cl, T.m7, (by show 7 < 1000; decide), ?_⟩
        rw [bf_p_end]
        generalize e10 : upd H9 b _ = H10
        obtain ⟨s10, f10, k10⟩ := wr_of s69 h19 D9.gb (.inl (.inr (.inl rfl))) e10
        obtain ⟨kv9, h29, r29⟩ := id D9.pa
        have D10 : BatAt B G9 H10 b p pg { x with fin := x.fin + (parts cs : Nat) } := ⟨⟨dx9, by rw [f10, lus]⟩, ⟨kv9, k10 _ _ D9.bp.symm h29, r29⟩, D9.gb, D9.gp⟩
        have s9b : Stp (BOwn b pg) G9 H9 G9 H10 := (wr_of (O := BOwn b pg) (Stp.refl s69.gh) h19 D9.gb (.inl (.inl rfl)) e10).1
        have sepD : ∀ c, DOwn p s w9 c → ¬ BOwn b pg c := fun c hd hb => sepN nh9 c hb hd
        have Dk10 := Dk9.stp s9b sepD
        have hr10 := hrows.keep D Dk s10
        refine ⟨_, rfl, b, dx9, _, rfl, f10, bf_no (by decide +kernel) (by decide +kernel) (by decide +kernel) (by decide +kernel) (by decide +kernel) (by decide +kernel) (by decide +kernel), _, rfl, G9, b, p, pg, _, a, rows, rfl, s10.gh, D10, hr10.lst, sz, fun G11 H11 s11 D11 => ?_⟩
        have z := k w9 G11 H11 (s10.trans s11 fun c hc => .inl (.inr hc)) (Dk10.stp s11 sepD) (by unfold BS.commit; rw [hc, hcs]; exact D11) nh9
        rw [hc] at z
        exact z
end
end K51

/-! KCM: what is read back of a batch that was written. -/
namespace K51
open Y
/-- the content, filled up to whole parts -/
def padC (c : List Int) : List Int := c ++ List.replicate (15 * parts c - c.length) 0
theorem padC_len (c : List Int) : (padC c).length = 15 * parts c := by
  unfold padC
  rw [List.length_append, List.length_replicate]
  have : c.length ≤ 15 * parts c := by unfold parts; omega
  omega
theorem part_tail (c : List Int) {i : Nat} (h : i < parts c) : (part c i).drop 1 = ((padC c).drop (15 * i)).take 15 := by
  show ((c.drop (15 * i)).take 15 ++ List.replicate (15 - ((c.drop (15 * i)).take 15).length) 0) = _
  unfold padC
  have hp : c.length ≤ 15 * parts c := by unfold parts; omega
  have h1 : 15 * i < c.length ∨ c.length = 0 := by unfold parts at h; omega
  have h0 : 15 * i ≤ c.length := by unfold parts at h; omega
  rw [List.drop_append_of_le_length h0]
  generalize hd : c.drop (15 * i) = y
  have ly : y.length = c.length - 15 * i := by rw [← hd, List.length_drop]
  rw [List.take_append, List.length_take, List.take_replicate]
  congr 2
  unfold parts at hp h ⊢
  omega
theorem strm_pad {rd : Rd} {e : Int} {c : List Int} (h : ∀ i : Nat, i < parts c → (rd (lg (e + i))).drop 1 = (part c i).drop 1) : ∀ m, m ≤ parts c → strm rd e m = (padC c).take (15 * m)
  | 0, _ => by rw [Nat.mul_zero, List.take_zero]; rfl
  | m + 1, hm => by
    rw [strm_succ, strm_pad h m (by omega), h m (by omega), part_tail c (by omega)]
    rw [show 15 * (m + 1) = 15 * m + 15 by omega, List.take_add]
theorem sl_take {xs : List Int} {a b n : Nat} (h : b ≤ n) : sl (xs.take n) a b = sl xs a b := by
  unfold sl
  rw [List.take_take, Nat.min_eq_left h]
theorem sl_pad {c : List Int} {a b : Nat} (h : b ≤ c.length) : sl (padC c) a b = sl c a b := by
  unfold sl padC
  rw [List.take_append_of_le_length h]
abbrev encB (r : Int × Page) : List Int := four r.1 ++ r.2
theorem flat_drop : ∀ {rows : BRows} (k : Nat), (∀ r ∈ rows, r.2.length = 64) → ∀ {r : Int × Page}, rows[k]? = some r → ∃ rest, (rows.flatMap encB).drop (68 * k) = four r.1 ++ (r.2 ++ rest)
  | [], k, _, r, h => by simp at h
  | x :: rows, 0, _, r, h => by
    obtain rfl : x = r := Option.some.inj h
    refine ⟨rows.flatMap encB, ?_⟩
    rw [Nat.mul_zero, List.drop_zero, List.flatMap_cons, List.append_assoc]
  | x :: rows, k + 1, h64, r, h => by
    obtain ⟨rest, e⟩ := flat_drop k (fun y hy => h64 y (List.mem_cons_of_mem _ hy)) (r := r) h
    refine ⟨rest, ?_⟩
    have lx : (encB x).length = 68 := by
      show (four x.1 ++ x.2).length = 68
      rw [List.length_append, h64 x List.mem_cons_self]
      rfl
    have e1 : (encB x ++ rows.flatMap encB).drop 68 = rows.flatMap encB := by
      rw [List.drop_append_of_le_length (by rw [lx]; exact Nat.le_refl _), List.drop_of_length_le (by rw [lx]; exact Nat.le_refl _), List.nil_append]
    rw [List.flatMap_cons, show 68 * (k + 1) = 68 + 68 * k by omega, ← List.drop_drop, e1]
    exact e
theorem cont_drop {ep : Int} {rows : BRows} (h64 : ∀ r ∈ rows, r.2.length = 64) {k : Nat} {r : Int × Page} (h : rows[k]? = some r) : ∃ rest, (contOf ep rows).drop (8 + 68 * k) = four r.1 ++ (r.2 ++ rest) := by
  obtain ⟨rest, e⟩ := flat_drop k h64 h
  refine ⟨rest, ?_⟩
  have e1 : (contOf ep rows).drop 8 = rows.flatMap encB := rfl
  rw [← List.drop_drop, e1]
  exact e
theorem cont_len' {e : Int} : ∀ {rows : BRows}, (∀ r ∈ rows, r.2.length = 64) → (contOf e rows).length = 8 + 68 * rows.length := by
  intro rows h
  have el : ∀ rows : BRows, (∀ r ∈ rows, r.2.length = 64) → (rows.flatMap encB).length = 68 * rows.length := by
    intro rows
    induction rows with
    | nil => intro _; rfl
    | cons r rows ih =>
      intro h
      rw [List.flatMap_cons, List.length_append, ih fun r hr => h r (List.mem_cons_of_mem _ hr), List.length_append, h r List.mem_cons_self, List.length_cons]
      show 4 + 64 + _ = _
      omega
  show (four e ++ four (rows.length : Int) ++ rows.flatMap encB).length = _
  rw [List.length_append, List.length_append, el rows h]
  show 4 + 4 + _ = _
  omega
theorem drop_take_sl {xs : List Int} {a b : Nat} : sl xs a b = (xs.drop a).take (b - a) := by
  unfold sl
  rw [List.drop_take]
/-- a batch that stands written, its head marked -/
theorem batch_back {rd : Rd} {e ep : Int} {rows : BRows} (h64 : ∀ r ∈ rows, r.2.length = 64) (hn : ∀ r ∈ rows, 0 ≤ r.1 ∧ r.1 < 4294967296) (hr : rising rows) (hl : rows.length ≤ 60000) (he : 0 ≤ ep ∧ ep < 4294967296)
    (h0 : rd (lg e) = mark (part (contOf ep rows) 0)) (hs : ∀ i : Nat, 0 < i → i < parts (contOf ep rows) → rd (lg (e + i)) = part (contOf ep rows) i) :
    batchAt rd e ep = some (rows, ((parts (contOf ep rows) : Nat) : Int)) ∧ CntOk rd e ep := by
  generalize hc : contOf ep rows = c at *
  have lc : c.length = 8 + 68 * rows.length := by rw [← hc]; exact cont_len' h64
  have lp : 0 < parts c := by unfold parts; omega
  have htail : ∀ i : Nat, i < parts c → (rd (lg (e + i))).drop 1 = (part c i).drop 1 := fun i hi => by
    by_cases hz : i = 0
    · subst hz
      have : e + ((0 : Nat) : Int) = e := by omega
      rw [this, h0]
      rfl
    · rw [hs i (by omega) hi]
  have hh : ∀ {a b : Nat}, 1 ≤ a → a ≤ b → b ≤ 9 → sl (rd (lg e)) a b = sl c (a - 1) (b - 1) := fun {a b} h1 h2 h3 => by
    rw [h0]
    have e1 : mark (part c 0) = 1 :: ((padC c).drop 0).take 15 := by
      show 1 :: (part c 0).drop 1 = _
      rw [part_tail c lp]
    rw [e1, List.drop_zero]
    obtain ⟨a', rfl⟩ : ∃ a', a = a' + 1 := ⟨a - 1, by omega⟩
    obtain ⟨b', rfl⟩ : ∃ b', b = b' + 1 := ⟨b - 1, by omega⟩
    show sl (1 :: (padC c).take 15) (a' + 1) (b' + 1) = sl c a' b'
    have e2 : sl (1 :: (padC c).take 15) (a' + 1) (b' + 1) = sl ((padC c).take 15) a' b' := rfl
    rw [e2, sl_take (by omega), sl_pad (by omega)]
  have h15 : sl (rd (lg e)) 1 5 = four ep := by
    rw [hh (by decide) (by decide) (by decide), ← hc]
    rfl
  have h59 : sl (rd (lg e)) 5 9 = four rows.length := by
    rw [hh (by decide) (by decide) (by decide), ← hc]
    rfl
  have ecnt : ofFour (sl (rd (lg e)) 5 9) = (rows.length : Int) := by rw [h59]; exact ofFour_four (by omega) (by omega)
  have hd : headOk rd e ep := ⟨by rw [h0]; rfl, by rw [h15]; exact ofFour_four he.1 he.2⟩
  have hcn : cnt rd e = rows.length := by unfold cnt; rw [ecnt]; omega
  have hsec : secs rows.length = parts c := by unfold secs parts; rw [lc]; congr 1; omega
  have hrow : ∀ k, k < rows.length → brow rd e k = rows.getD k (0, []) := fun k hk => by
    have hk' : rows[k]? = some rows[k] := List.getElem?_eq_getElem hk
    obtain ⟨rest, er⟩ := cont_drop (ep := ep) h64 hk'
    rw [hc] at er
    have hm : secs (k + 1) ≤ parts c := by rw [← hsec]; exact secs_le hk
    have est := strm_pad (rd := rd) (e := e) htail _ hm
    have hb : 76 + 68 * k ≤ 15 * secs (k + 1) := by unfold secs; omega
    have hx := h64 _ (List.getElem_mem hk)
    unfold brow
    rw [est, sl_take (by omega), sl_take hb, sl_pad (by omega), sl_pad (by omega)]
    have g1 : sl c (8 + 68 * k) (12 + 68 * k) = four rows[k].1 := by
      rw [drop_take_sl, er, show 12 + 68 * k - (8 + 68 * k) = 4 by omega]
      rfl
    have g2 : sl c (12 + 68 * k) (76 + 68 * k) = rows[k].2 := by
      rw [drop_take_sl, show 12 + 68 * k = (8 + 68 * k) + 4 by omega, ← List.drop_drop, er, show 76 + 68 * k - (8 + 68 * k + 4) = 64 by omega]
      show (rows[k].2 ++ rest).take 64 = _
      rw [List.take_append_of_le_length (by omega), List.take_of_length_le (by omega)]
    rw [g1, g2, ofFour_four (hn _ (List.getElem_mem hk)).1 (hn _ (List.getElem_mem hk)).2, List.getD_eq_getElem?_getD, hk']
    rfl
  have hb : browsN rd e (cnt rd e) = rows := by
    rw [hcn]
    unfold browsN
    apply List.ext_getElem?
    intro i
    rw [List.getElem?_map]
    by_cases hi : i < rows.length
    · rw [List.getElem?_range hi, Option.map_some, hrow i hi, List.getD_eq_getElem?_getD, List.getElem?_eq_getElem hi]
      rfl
    · rw [List.getElem?_eq_none (by rw [List.length_range]; omega), List.getElem?_eq_none (by omega)]
      rfl
  refine ⟨?_, fun _ => by rw [ecnt]; omega⟩
  unfold batchAt
  rw [if_pos hd, hb, if_pos hr, hcn, hsec]
end K51

/-! KB6: disks without roots. -/
namespace K51
open PySem PySem.Spec PyProof.Rows L2 Y
def NoRoots (rd : Rd) : Prop := rootAt rd 0 = none ∧ rootAt rd 1 = none
section
variable {P : Program} {w : World} {K : PySem.W.Frag} {mg : Str → Option Value} {base : Heap} {C B : Addr} {tP tR tW tH : Tok}
abbrev s_newest_root : Stmt := top 14
theorem sc_newest_root : FnScope ["disk", "roots", "place", "epoch", "many"] ["disk"] (defScope s_newest_root) := ⟨rfl, rfl, rfl, by decide +kernel, rfl, by decide +kernel, by decide +kernel⟩
theorem ok_newest {f : Addr} {fd : FuncData} (F : Fun K "newest_root" "newest_root" s_newest_root f fd) (T : TxB K mg B tP tR tW tH) (L_root_at : FnC P w K mg base "root_at" 3 ["disk", "place"] (spRootAt C)) :
    FnOk P w K mg base CX0 4 f fd ["disk"] (spNewest C NoRoots) := by
  refine F.ok sc_newest_root (fun vs H Q E h => ?_) (fun cdv A outer st H vs Q E hr h => ?_)
  · obtain ⟨G, p, s, wl, d, rfl, _⟩ := h
    rfl
  · obtain ⟨G, p, s, wl, d, rfl, gh, Dk, l16, ⟨r0, r1⟩, k⟩ := h
    have nd := sc_newest_root.nd
    refine ⟨_, (pss_cons (ps_setLc (i := 1) (own := [("place", 2)]) rfl nd rfl rfl (sw_true rfl rfl rfl (by decide +kernel)) (pi_tupK (K := K) rfl (pe_tup (pa_cons pe_int (pa_cons pe_int pa_nil)))) (blkOk_by (own := [("place", 2)]) (N := ["disk", "roots", "place", "epoch", "many"]) (sc := defScope s_newest_root) (by decide +kernel)) (fun _ _ _ _ _ => (pg_name (i := 2) nd rfl (Or.inl rfl))) (fun _ _ _ _ _ => (pts_one (pt_cmp (pc_notN (pe_fnc L_root_at (hr.mono (by decide)) rfl (pa_cons (pv 0) (pa_cons (pv 2) pa_nil))))))) (fun _ _ _ _ _ => (pe_tup (pa_cons (pe_fnc L_root_at (hr.mono (by decide)) rfl (pa_cons (pv 0) (pa_cons (pv 2) pa_nil))) (pa_cons (pv 2) pa_nil)))))
    (pss_cons (ps_if (pt_cmpR op_eq (pe_callB (call_len_seqK (K := K) rfl) (by rfl) T.b_len (by decide +kernel) (pa_cons (pv 1) pa_nil)) pe_int (nomark _))
    (pss_one (ps_ret (pe_tup (pa_cons pe_int (pa_cons pe_int (pa_cons pe_int pa_nil))))))
    pss_nil)
    (pss_cons ps_dead
    (pss_one (ps_ret (pe_tup (pa_cons (pv 2) (pa_cons (pv 3) (pa_cons (pv 4) pa_nil))))))))), ?_⟩
    refine ⟨(by show 2 ≤ sizeLine; decide), fun t nt => ?_⟩
    generalize e1 : upd H t _ = H1
    obtain ⟨s1, f1, k1, g1, z1⟩ := own_of (Stp.refl (O := O0) gh) nt e1
    refine ⟨t, rfl, ⟨_, SqT.of f1⟩, fun D nD => ?_⟩
    obtain ⟨s2, f2, k2, g2, z2⟩ := own_of (o := .lst []) s1 nD rfl
    refine lc_tup (K := K) (a := t) (xs := [.int 0, .int 1]) (fun i H2 => ∃ G2, Stp O0 G H G2 H2 ∧ H2 t = some (.tup [.int 0, .int 1]) ∧ H2 D = some (.lst []))
      ⟨G, s2, k2 _ _ f1, f2⟩ (fun i H2 _ ⟨_, _, q, _⟩ => SqT.of q) ?_ ?_
    · rintro i y H2 hi ⟨G2, s2, f2, g2⟩
      have D2 := Dk.stp s2 fun _ _ z => z
      obtain ⟨m, hm, rfl⟩ : ∃ m : Int, rootAt d.read m = none ∧ y = .int m := by
        match i, hi with
        | 0, hi => cases hi; exact ⟨0, r0, rfl⟩
        | 1, hi => cases hi; exact ⟨1, r1, rfl⟩
      refine ⟨rfl, _, rfl, _, rfl, G2, p, s, wl, d, m, rfl, s2.gh, D2, l16, fun v G3 H3 s3 hv => ?_⟩
      rw [hm] at hv
      obtain rfl : v = .non := hv
      refine ⟨_, rfl, iteF ?_⟩
      exact ⟨G3, s2.trans s3 fun _ z => z.elim, s3.kp _ _ f2 (fun z => z), s3.kp _ _ g2 fun z => z⟩
    · rintro H2 ⟨G2, s2, f2, g2⟩
      refine ⟨_, rfl, D, _, rfl, .inl (SqL.of g2), rfl, _, rfl, if_int (fun _ => ?_) (fun z => absurd rfl z)⟩
      refine ⟨(by show 3 ≤ sizeLine; decide), fun q nq => ?_⟩
      generalize e3 : upd H2 q _ = H3
      obtain ⟨s3, f3, k3, g3, z3⟩ := own_of s2 nq e3
      refine k _ G2 H3 s3 ?_
      unfold newest
      rw [r0, r1]
      exact ⟨q, rfl, f3, z3, g3⟩
end
end K51

/-! KR1: a room: its data, found, is_waiting. -/
namespace K51
open PySem PySem.Spec PyProof.Rows L2 Y
def rf (b : Addr) (ms : Int) (ma q : Addr) (rd : Int) : List (Str × V) := [("batches", .ref b), ("most", .int ms), ("memory", .ref ma), ("waits", .ref q), ("reads", .int rd)]
theorem rf_batches {b : Addr} {ms : Int} {ma q : Addr} {rd : Int} : (rf b ms ma q rd).lookup ("batches" : Str) = some (.ref b) := lk_hit
theorem rf_most {b : Addr} {ms : Int} {ma q : Addr} {rd : Int} : (rf b ms ma q rd).lookup ("most" : Str) = some (.int ms) := (lk_miss (by decide +kernel)).trans (lk_hit)
theorem rf_memory {b : Addr} {ms : Int} {ma q : Addr} {rd : Int} : (rf b ms ma q rd).lookup ("memory" : Str) = some (.ref ma) := (lk_miss (by decide +kernel)).trans ((lk_miss (by decide +kernel)).trans (lk_hit))
theorem rf_waits {b : Addr} {ms : Int} {ma q : Addr} {rd : Int} : (rf b ms ma q rd).lookup ("waits" : Str) = some (.ref q) := (lk_miss (by decide +kernel)).trans ((lk_miss (by decide +kernel)).trans ((lk_miss (by decide +kernel)).trans (lk_hit)))
theorem rf_reads {b : Addr} {ms : Int} {ma q : Addr} {rd : Int} : (rf b ms ma q rd).lookup ("reads" : Str) = some (.int rd) := (lk_miss (by decide +kernel)).trans ((lk_miss (by decide +kernel)).trans ((lk_miss (by decide +kernel)).trans ((lk_miss (by decide +kernel)).trans (lk_hit))))
theorem rf_no {b : Addr} {ms : Int} {ma q : Addr} {rd : Int} {m : Str} (h1 : (m == ("batches" : Str)) = false) (h2 : (m == ("most" : Str)) = false) (h3 : (m == ("memory" : Str)) = false) (h4 : (m == ("waits" : Str)) = false) (h5 : (m == ("reads" : Str)) = false) : (rf b ms ma q rd).lookup m = none := (lk_miss h1).trans ((lk_miss h2).trans ((lk_miss h3).trans ((lk_miss h4).trans ((lk_miss h5).trans (rfl)))))
theorem rf_p_reads {b : Addr} {ms : Int} {ma q : Addr} {rd : Int} (z : Int) : putF "reads" (.int z) (rf b ms ma q rd) = rf b ms ma q z := (pf_miss (by decide +kernel)).trans (congrArg _ ((pf_miss (by decide +kernel)).trans (congrArg _ ((pf_miss (by decide +kernel)).trans (congrArg _ ((pf_miss (by decide +kernel)).trans (congrArg _ (pf_hit))))))))
theorem rf_i0 {b : Addr} : putF "batches" (.ref b) ([] : List (Str × V)) = ([("batches", .ref b)] : List (Str × V)) := pf_nil
theorem rf_i1 {b : Addr} {ms : Int} : putF "most" (.int ms) ([("batches", .ref b)] : List (Str × V)) = ([("batches", .ref b), ("most", .int ms)] : List (Str × V)) := (pf_miss (by decide +kernel)).trans (congrArg _ (pf_nil))
theorem rf_i2 {b : Addr} {ms : Int} {ma : Addr} : putF "memory" (.ref ma) ([("batches", .ref b), ("most", .int ms)] : List (Str × V)) = ([("batches", .ref b), ("most", .int ms), ("memory", .ref ma)] : List (Str × V)) := (pf_miss (by decide +kernel)).trans (congrArg _ ((pf_miss (by decide +kernel)).trans (congrArg _ (pf_nil))))
theorem rf_i3 {b : Addr} {ms : Int} {ma q : Addr} : putF "waits" (.ref q) ([("batches", .ref b), ("most", .int ms), ("memory", .ref ma)] : List (Str × V)) = ([("batches", .ref b), ("most", .int ms), ("memory", .ref ma), ("waits", .ref q)] : List (Str × V)) := (pf_miss (by decide +kernel)).trans (congrArg _ ((pf_miss (by decide +kernel)).trans (congrArg _ ((pf_miss (by decide +kernel)).trans (congrArg _ (pf_nil))))))
theorem rf_i4 {b : Addr} {ms : Int} {ma q : Addr} {rd : Int} : putF "reads" (.int rd) ([("batches", .ref b), ("most", .int ms), ("memory", .ref ma), ("waits", .ref q)] : List (Str × V)) = ([("batches", .ref b), ("most", .int ms), ("memory", .ref ma), ("waits", .ref q), ("reads", .int rd)] : List (Str × V)) := (pf_miss (by decide +kernel)).trans (congrArg _ ((pf_miss (by decide +kernel)).trans (congrArg _ ((pf_miss (by decide +kernel)).trans (congrArg _ ((pf_miss (by decide +kernel)).trans (congrArg _ (pf_nil))))))))
structure RS where
  mem : List (Int × Page)
  wts : List BRows
  most : Int
  reads : Int
  bs : BS
  d : DS
structure RA where
  r : Addr
  b : Addr
  m : Addr
  q : Addr
  p : Addr
  pg : Addr
  s : Addr
def ROwn (A : RA) (wl : Addr) : Addr → Prop := fun a => a = A.r ∨ a = A.m ∨ a = A.q ∨ DBOwn A.p A.s wl A.b A.pg a
structure RoomAt (R B C : Addr) (G H : Hp) (A : RA) (wl : Addr) (x : RS) : Prop where
  ob : ∃ dx, H A.r = some (.ins R dx (rf A.b x.most A.m A.q x.reads))
  me : LstAt rSec G H A.m x.mem
  wa : LstAt (rL rSec) G H A.q x.wts
  ba : BatAt B G H A.b A.p A.pg x.bs
  dk : DiskAt C G H A.p A.s wl x.d
  sep : ∀ a, DOwn A.p A.s wl a → ¬ BOwn A.b A.pg a
  gr : G A.r = none
  gm : G A.m = none
  gq : G A.q = none
  nmw : A.m ≠ wl
  nqw : A.q ≠ wl
  nmq : A.m ≠ A.q
  nrb : A.r ≠ A.b
  nrp : A.r ≠ A.p
/-- the room's numbers: each once in memory; pages of 64; groups of a few rows -/
structure RFit (x : RS) : Prop where
  nd : (x.mem.map (·.1)).Nodup
  ml : x.mem.length ≤ 1000
  m64 : ∀ y ∈ x.mem, y.2.length = 64
  w64 : ∀ g ∈ x.wts, g.length ≤ 12 ∧ ∀ r ∈ g, r.2.length = 64
  wl : x.wts.length ≤ 1000
  fit : Fit x.d
  w0 : x.d.wai = []
  ph : x.d.sec.length + 57 * x.wts.length + (if x.d.cut = true then 0 else 57) ≤ 50000
  pp : x.bs.pages.length + 12 * x.wts.length ≤ 100000
  p64 : ∀ y ∈ x.bs.pages, y.2.length = 64
section
variable {R B C : Addr} {G H G' H' : Hp} {A : RA} {wl : Addr} {x : RS}
theorem RoomAt.stp {O : Addr → Prop} (h : RoomAt R B C G H A wl x) (e : Stp O G H G' H') (n : ∀ a, ROwn A wl a → ¬ O a) : RoomAt R B C G' H' A wl x := by
  obtain ⟨dx, h1⟩ := h.ob
  obtain ⟨ms, h2, p2⟩ := h.me
  obtain ⟨qs, h3, p3⟩ := h.wa
  exact { h with
    ob := ⟨dx, e.kp _ _ h1 (n _ (.inl rfl))⟩
    me := ⟨ms, e.kp _ _ h2 (n _ (.inr (.inl rfl))), mRow.ps e.gg p2⟩
    wa := ⟨qs, e.kp _ _ h3 (n _ (.inr (.inr (.inl rfl)))), mRow.l.ps e.gg p3⟩
    ba := h.ba.stp e fun a ha => n a (.inr (.inr (.inr (.inr ha))))
    dk := h.dk.stp e fun a ha => n a (.inr (.inr (.inr (.inl ha))))
    gr := e.nw _ (ne_none h1) h.gr
    gm := e.nw _ (ne_none h2) h.gm
    gq := e.nw _ (ne_none h3) h.gq }
/-- the addresses stand apart -/
theorem RoomAt.apart (h : RoomAt R B C G H A wl x) : (∀ a, DBOwn A.p A.s wl A.b A.pg a → a ≠ A.r ∧ a ≠ A.m ∧ a ≠ A.q) ∧ A.r ≠ A.m ∧ A.r ≠ A.q := by
  obtain ⟨dx, h1⟩ := h.ob
  obtain ⟨ms, h2, _⟩ := h.me
  obtain ⟨qs, h3, _⟩ := h.wa
  obtain ⟨dxb, h4⟩ := h.ba.ob
  obtain ⟨kvb, h5, _⟩ := h.ba.pa
  obtain ⟨dxp, rlp, h6, _⟩ := h.dk.ob
  obtain ⟨kvs, h7, _⟩ := h.dk.sec
  obtain ⟨ws, h8, _⟩ := h.dk.wai
  refine ⟨fun a ha => ?_, ne_of h1 h2 fun z => (nomatch z), ne_of h1 h3 fun z => nomatch z⟩
  rcases ha with (z | z | z) | (z | z) <;> subst z
  · exact ⟨h.nrp.symm, ne_of h6 h2 (fun z => nomatch z), ne_of h6 h3 fun z => nomatch z⟩
  · exact ⟨ne_of h7 h1 (fun z => nomatch z), ne_of h7 h2 (fun z => nomatch z), ne_of h7 h3 fun z => nomatch z⟩
  · exact ⟨ne_of h8 h1 (fun z => nomatch z), h.nmw.symm, h.nqw.symm⟩
  · exact ⟨h.nrb.symm, ne_of h4 h2 (fun z => nomatch z), ne_of h4 h3 fun z => nomatch z⟩
  · exact ⟨ne_of h5 h1 (fun z => nomatch z), ne_of h5 h2 (fun z => nomatch z), ne_of h5 h3 fun z => nomatch z⟩
/-- the memory is written -/
theorem RoomAt.setMem (h : RoomAt R B C G H A wl x) {ms : List V} {mem : List (Int × Page)} (e : upd H A.m (.lst ms) = H') (p : Paired (rSec G) ms mem) : RoomAt R B C G H' A wl { x with mem := mem } := by
  obtain ⟨ap, n1, n2⟩ := h.apart
  obtain ⟨dx, h1⟩ := h.ob
  obtain ⟨ms0, h2, p2⟩ := h.me
  obtain ⟨qs, h3, p3⟩ := h.wa
  obtain ⟨dxb, h4⟩ := h.ba.ob
  obtain ⟨kvb, h5, p5⟩ := h.ba.pa
  obtain ⟨dxp, rlp, h6, p6⟩ := h.dk.ob
  obtain ⟨kvs, h7, p7⟩ := h.dk.sec
  obtain ⟨ws, h8, p8⟩ := h.dk.wai
  have k : ∀ {a : Addr} {o : HO}, H a = some o → a ≠ A.m → H' a = some o := fun ha hn => by rw [← e, upd_ne hn]; exact ha
  exact { h with
    ob := ⟨dx, k h1 n1⟩
    me := ⟨ms, by rw [← e]; exact upd_same, p⟩
    wa := ⟨qs, k h3 h.nmq.symm, p3⟩
    ba := ⟨⟨dxb, k h4 (ap _ (.inr (.inl rfl))).2.1⟩, ⟨kvb, k h5 (ap _ (.inr (.inr rfl))).2.1, p5⟩, h.ba.gb, h.ba.gp⟩
    dk := ⟨⟨dxp, rlp, k h6 (ap _ (.inl (.inl rfl))).2.1, p6⟩, ⟨kvs, k h7 (ap _ (.inl (.inr (.inl rfl)))).2.1, p7⟩, ⟨ws, k h8 (ap _ (.inl (.inr (.inr rfl)))).2.1, p8⟩, h.dk.gp, h.dk.gs, h.dk.gw⟩ }
theorem RoomAt.setWts (h : RoomAt R B C G H A wl x) {qs : List V} {wts : List BRows} (e : upd H A.q (.lst qs) = H') (p : Paired (rL rSec G) qs wts) : RoomAt R B C G H' A wl { x with wts := wts } := by
  obtain ⟨ap, n1, n2⟩ := h.apart
  obtain ⟨dx, h1⟩ := h.ob
  obtain ⟨ms0, h2, p2⟩ := h.me
  obtain ⟨qs0, h3, p3⟩ := h.wa
  obtain ⟨dxb, h4⟩ := h.ba.ob
  obtain ⟨kvb, h5, p5⟩ := h.ba.pa
  obtain ⟨dxp, rlp, h6, p6⟩ := h.dk.ob
  obtain ⟨kvs, h7, p7⟩ := h.dk.sec
  obtain ⟨ws, h8, p8⟩ := h.dk.wai
  have k : ∀ {a : Addr} {o : HO}, H a = some o → a ≠ A.q → H' a = some o := fun ha hn => by rw [← e, upd_ne hn]; exact ha
  exact { h with
    ob := ⟨dx, k h1 n2⟩
    me := ⟨ms0, k h2 h.nmq, p2⟩
    wa := ⟨qs, by rw [← e]; exact upd_same, p⟩
    ba := ⟨⟨dxb, k h4 (ap _ (.inr (.inl rfl))).2.2⟩, ⟨kvb, k h5 (ap _ (.inr (.inr rfl))).2.2, p5⟩, h.ba.gb, h.ba.gp⟩
    dk := ⟨⟨dxp, rlp, k h6 (ap _ (.inl (.inl rfl))).2.2, p6⟩, ⟨kvs, k h7 (ap _ (.inl (.inr (.inl rfl)))).2.2, p7⟩, ⟨ws, k h8 (ap _ (.inl (.inr (.inr rfl)))).2.2, p8⟩, h.dk.gp, h.dk.gs, h.dk.gw⟩ }
end
def touch (mem : List (Int × Page)) (n : Int) : List (Int × Page) := match look mem n with
  | none => mem
  | some p => mem.filter (fun y => decide (y.1 ≠ n)) ++ [(n, p)]
def isW (wts : List BRows) (n : Int) : Bool := wts.any fun g => g.any fun r => decide (r.1 = n)
theorem pd_erase {α β : Type} {F : α → β → Prop} : ∀ {xs : List α} {ys : List β}, Paired F xs ys → ∀ j, Paired F (xs.eraseIdx j) (ys.eraseIdx j)
  | _, _, .nil, _ => .nil
  | _, _, .cons r t, 0 => t
  | _, _, .cons r t, j + 1 => .cons r (pd_erase t j)
/-- rows as the library's trees -/
abbrev encR (x : Int × Page) : PyData := .tuple [.int x.1, .list (x.2.map PyData.int)]
theorem eRow : En rSec encR (fun x => True ∧ ∀ y ∈ x.2, True) 2 := eI.p eI.l
theorem eqv_row (x y : Int × Page) : PyData.eqv (encR x) (encR y) = decide (x = y) := by
  simp only [encR, PyData.eqv, PyData.eqvAll, eqvAll_ints, Bool.and_true]
  obtain ⟨a, b⟩ := x
  obtain ⟨c, d⟩ := y
  by_cases h1 : a = c <;> by_cases h2 : b = d <;> simp [h1, h2]
theorem look_cons' {β : Type} (y : Int × β) (mem : List (Int × β)) (n : Int) : look (y :: mem) n = if y.1 = n then some y.2 else look mem n := by
  unfold look
  rw [List.find?_cons]
  by_cases h : y.1 = n
  · rw [if_pos h, decide_eq_true h]
    rfl
  · rw [if_neg h, decide_eq_false h]
theorem place_row : ∀ {mem : List (Int × Page)} {n : Int} {p : Page}, (mem.map (·.1)).Nodup → look mem n = some p →
    ∃ j : Nat, mem[j]? = some (n, p) ∧ mem.eraseIdx j = mem.filter (fun y => decide (y.1 ≠ n)) ∧ SeqAt.dataPlace (mem.map encR) (encR (n, p)) = some j := by
  intro mem
  induction mem with
  | nil => intro n p _ h; cases h
  | cons y mem ih =>
    intro n p nd h
    rw [List.map_cons, List.nodup_cons] at nd
    rw [look_cons'] at h
    by_cases hy : y.1 = n
    · rw [if_pos hy] at h
      cases h
      subst hy
      refine ⟨0, rfl, ?_, ?_⟩
      · rw [List.filter_cons_of_neg (by simp)]
        show mem = _
        rw [List.filter_eq_self.mpr]
        intro z hz
        refine decide_eq_true fun e => nd.1 ?_
        rw [← e]
        exact List.mem_map_of_mem hz
      · unfold SeqAt.dataPlace
        rw [List.map_cons, List.findIdx?_cons, eqv_row, decide_eq_true rfl]
        rfl
    · rw [if_neg hy] at h
      obtain ⟨j, h1, h2, h3⟩ := ih nd.2 h
      refine ⟨j + 1, h1, ?_, ?_⟩
      · rw [List.filter_cons_of_pos (by simpa using hy), List.eraseIdx_cons_succ, h2]
      · unfold SeqAt.dataPlace at h3 ⊢
        rw [List.map_cons, List.findIdx?_cons, eqv_row, decide_eq_false fun e => hy (by rw [e]), h3]
        rfl
theorem look_filter : ∀ {mem : List (Int × Page)} {n : Int}, (mem.map (·.1)).Nodup → mem.filter (fun y => decide (y.1 = n)) = (match look mem n with
    | none => []
    | some p => [(n, p)]) := by
  intro mem
  induction mem with
  | nil => intro n _; rfl
  | cons y mem ih =>
    intro n nd
    rw [List.map_cons, List.nodup_cons] at nd
    rw [look_cons']
    by_cases hy : y.1 = n
    · rw [if_pos hy, List.filter_cons_of_pos (by simpa using hy)]
      subst hy
      have : mem.filter (fun z => decide (z.1 = y.1)) = [] := by
        rw [List.filter_eq_nil_iff]
        intro z hz e
        refine nd.1 ?_
        rw [← of_decide_eq_true e]
        exact List.mem_map_of_mem hz
      rw [this]
    · rw [if_neg hy, List.filter_cons_of_neg (by simpa using hy), ih nd.2]
/-- a comprehension of two generators over lists: the outer one -/
theorem lc2_list {K : PySem.W.Frag} {a : Addr} {xs : List V} {g : TG} {tt : TT} {wi1 : TI} {g1 : TG} {tt1 : TT} {te : TE} {vs vs1 : List Nat} {σ : L2.St} {H1 : Hp} {D : Addr} {Qd : Hp → Prop} (Pv : Nat → Hp → Prop) (h0 : Pv 0 (upd H1 D (.lst []))) (hl : ∀ i H, i ≤ xs.length → Pv i H → SqL K H a xs)
    (hs : ∀ i x H, xs[i]? = some x → Pv i H → g x (wipe σ vs) H fun σ2 H2 => wipe σ2 vs = wipe σ vs ∧ tt σ2 H2 fun b H3 =>
      if b = true then wi1 σ2 H3 fun J1 H4 => ∃ W1 : Nat → Nat → Hp → Prop, (∃ m, W1 0 m H4) ∧ ∀ j k H, W1 j k H →
        (J1.stop j H ∧ Pv (i + 1) H) ∨ (J1.go j H ∧ ∃ Nx1 : Hp → Prop, (∀ H', Nx1 H' → ∃ k', k' < k ∧ W1 (j + 1) k' H') ∧ ∀ x H', J1.yld j H x H' → g1 x (wipe σ2 vs1) H' fun σ3 H5 => wipe σ3 vs1 = wipe σ2 vs1 ∧ tt1 σ3 H5 fun b H6 =>
          if b = true then te σ3 H6 fun y H7 => ∃ acc, H7 D = some (.lst acc) ∧ acc.length < sizeLine ∧ Nx1 (upd H7 D (.lst (acc ++ [y]))) else Nx1 H6)
      else Pv (i + 1) H3) (hd : ∀ H, Pv xs.length H → Qd H) :
    ∃ W : Nat → Nat → Hp → Prop, (∃ m, W 0 m (upd H1 D (.lst []))) ∧ ∀ i m H, W i m H →
      ((Itl K a).stop i H ∧ Qd H) ∨ ((Itl K a).go i H ∧ ∃ Nx : Hp → Prop, (∀ H', Nx H' → ∃ m', m' < m ∧ W (i + 1) m' H') ∧ ∀ x H', (Itl K a).yld i H x H' → g x (wipe σ vs) H' fun σ2 H2 => wipe σ2 vs = wipe σ vs ∧ tt σ2 H2 fun b H3 =>
      if b = true then wi1 σ2 H3 fun J1 H4 => ∃ W1 : Nat → Nat → Hp → Prop, (∃ m, W1 0 m H4) ∧ ∀ j k H, W1 j k H →
        (J1.stop j H ∧ Nx H) ∨ (J1.go j H ∧ ∃ Nx1 : Hp → Prop, (∀ H', Nx1 H' → ∃ k', k' < k ∧ W1 (j + 1) k' H') ∧ ∀ x H', J1.yld j H x H' → g1 x (wipe σ2 vs1) H' fun σ3 H5 => wipe σ3 vs1 = wipe σ2 vs1 ∧ tt1 σ3 H5 fun b H6 =>
          if b = true then te σ3 H6 fun y H7 => ∃ acc, H7 D = some (.lst acc) ∧ acc.length < sizeLine ∧ Nx1 (upd H7 D (.lst (acc ++ [y]))) else Nx1 H6)
      else Nx H3) := by
  refine ⟨fun i m H => m = xs.length - i ∧ i ≤ xs.length ∧ Pv i H, ⟨xs.length, by simp, Nat.zero_le _, h0⟩, ?_⟩
  rintro i m H ⟨rfl, hi, p⟩
  have q := hl i H hi p
  by_cases hlt : i < xs.length
  · refine .inr ⟨⟨xs, xs[i], q, by simp [hlt]⟩, Pv (i + 1), fun H' p' => ⟨xs.length - (i + 1), by omega, rfl, hlt, p'⟩, fun x H' y => ?_⟩
    obtain ⟨e, y⟩ := y
    subst e
    exact hs i x _ (y xs q) p
  · have e : i = xs.length := by omega
    subst e
    exact .inl ⟨⟨xs, q, Nat.le_refl _⟩, hd H p⟩
/-- the inner one -/
theorem lc2_in {K : PySem.W.Frag} {a : Addr} {xs : List V} {g1 : TG} {tt1 : TT} {te : TE} {vs1 : List Nat} {σ2 : L2.St} {H4 : Hp} {D : Addr} {N : Hp → Prop} (Pv : Nat → Hp → Prop) (h0 : Pv 0 H4) (hl : ∀ i H, i ≤ xs.length → Pv i H → SqL K H a xs)
    (hs : ∀ i x H, xs[i]? = some x → Pv i H → g1 x (wipe σ2 vs1) H fun σ3 H5 => wipe σ3 vs1 = wipe σ2 vs1 ∧ tt1 σ3 H5 fun b H6 =>
      if b = true then te σ3 H6 fun y H7 => ∃ acc, H7 D = some (.lst acc) ∧ acc.length < sizeLine ∧ Pv (i + 1) (upd H7 D (.lst (acc ++ [y]))) else Pv (i + 1) H6) (hd : ∀ H, Pv xs.length H → N H) :
    ∃ W1 : Nat → Nat → Hp → Prop, (∃ m, W1 0 m H4) ∧ ∀ j k H, W1 j k H →
      ((Itl K a).stop j H ∧ N H) ∨ ((Itl K a).go j H ∧ ∃ Nx1 : Hp → Prop, (∀ H', Nx1 H' → ∃ k', k' < k ∧ W1 (j + 1) k' H') ∧ ∀ x H', (Itl K a).yld j H x H' → g1 x (wipe σ2 vs1) H' fun σ3 H5 => wipe σ3 vs1 = wipe σ2 vs1 ∧ tt1 σ3 H5 fun b H6 =>
        if b = true then te σ3 H6 fun y H7 => ∃ acc, H7 D = some (.lst acc) ∧ acc.length < sizeLine ∧ Nx1 (upd H7 D (.lst (acc ++ [y]))) else Nx1 H6) := by
  refine ⟨fun i m H => m = xs.length - i ∧ i ≤ xs.length ∧ Pv i H, ⟨xs.length, by simp, Nat.zero_le _, h0⟩, ?_⟩
  rintro i m H ⟨rfl, hi, p⟩
  have q := hl i H hi p
  by_cases hlt : i < xs.length
  · refine .inr ⟨⟨xs, xs[i], q, by simp [hlt]⟩, Pv (i + 1), fun H' p' => ⟨xs.length - (i + 1), by omega, rfl, hlt, p'⟩, fun x H' y => ?_⟩
    obtain ⟨e, y⟩ := y
    subst e
    exact hs i x _ (y xs q) p
  · have e : i = xs.length := by omega
    subst e
    exact .inl ⟨⟨xs, q, Nat.le_refl _⟩, hd H p⟩
def FoundV (G : Hp) (v : V) : Option Page → Prop
  | none => v = .non
  | some p => rL rI G v p
section
variable {P : Program} {w : World} {K : PySem.W.Frag} {mg : Str → Option Value} {base : Heap} {R C B : Addr} {tP tR tW tH : Tok}
/-- what the room's text leans on -/
structure TxR (K : PySem.W.Frag) (mg : Str → Option Value) (R : Addr) : Prop where
  cl : Cls K R
  q1 : NoAttr K R "batches"
  q2 : NoAttr K R "most"
  q3 : NoAttr K R "memory"
  q4 : NoAttr K R "waits"
  q5 : NoAttr K R "reads"
  b_list : mg "list" = none
  b_len : mg "len" = none
  b_any : mg "any" = none
def spFound (R B C : Addr) : Sp := fun vs H Q _ => ∃ (G : Hp) (A : RA) (wl : Addr) (x : RS) (n : Int), vs = [.ref A.r, .int n] ∧ Same G H ∧ RoomAt R B C G H A wl x ∧ RFit x ∧
  ∀ v G' H', Stp (fun a => a = A.m) G H G' H' → RoomAt R B C G' H' A wl { x with mem := touch x.mem n } → FoundV G' v (look x.mem n) → Q v H'
abbrev s_Room_found : Stmt := inClass (top 20) 1
theorem sc_Room_found : FnScope ["self", "number", "rows", "row"] ["self", "number"] (defScope s_Room_found) := ⟨rfl, rfl, rfl, by decide +kernel, rfl, by decide +kernel, by decide +kernel⟩
theorem ok_found {f : Addr} {fd : FuncData} (F : Fun K "found" "Room.found" s_Room_found f fd) (T : TxR K mg R) : FnOk P w K mg base CX0 1 f fd ["self", "number"] (spFound R B C) := by
  refine F.ok sc_Room_found (fun vs H Q E h => ?_) (fun cdv A0 outer st H vs Q E hr h => ?_)
  · obtain ⟨G, A, wl, x, n, rfl, _⟩ := h
    rfl
  · obtain ⟨G, A, wl, x, n, rfl, gh, D, fit, k⟩ := h
    have nd := sc_Room_found.nd
    have hu := hu_of hr
    refine ⟨_, (pss_cons (ps_setLc (i := 2) (own := [("row", 3)]) rfl nd rfl rfl (sw_true rfl rfl rfl (by decide +kernel)) (pi_listK (K := K) rfl (pe_fldK (K := K) rfl (pv 0) rfl)) (blkOk_by (own := [("row", 3)]) (N := ["self", "number", "rows", "row"]) (sc := defScope s_Room_found) (by decide +kernel)) (fun _ _ _ _ _ => (pg_name (i := 3) nd rfl (Or.inl rfl))) (fun _ _ _ _ _ => (pts_one (pt_cmpR op_eq (pe_ix (ix_tupK (K := K) rfl) (pv 3) pe_int (fun _ _ => rfl)) (pv 1) (nomark _)))) (fun _ _ _ _ _ => (pv 3)))
    (pss_cons (ps_if (pt_cmpR op_eq (pe_callB (call_len_seqK (K := K) rfl) (by rfl) T.b_len (by decide +kernel) (pa_cons (pv 2) pa_nil)) pe_int (nomark _))
    (pss_one (ps_ret pe_non))
    pss_nil)
    (pss_cons (ps_expr (pe_bmK (K := K) rfl PySem.F.plainAttrs_list PySem.F.slot_list_remove PySem.F.type_list_remove (mt_removeD (K := K) rfl hr.units) (pe_fldK (K := K) rfl (pv 0) rfl) (pa_cons (pe_ix (ix_listK (K := K) rfl) (pv 2) pe_int (fun _ _ => rfl)) pa_nil)))
    (pss_cons (ps_expr (pe_bmK (K := K) rfl PySem.F.plainAttrs_list PySem.F.slot_list_append PySem.F.type_list_append mt_append (pe_fldK (K := K) rfl (pv 0) rfl) (pa_cons (pe_ix (ix_listK (K := K) rfl) (pv 2) pe_int (fun _ _ => rfl)) pa_nil)))
    (pss_one (ps_ret (pe_ix (ix_tupK (K := K) rfl) (pe_ix (ix_listK (K := K) rfl) (pv 2) pe_int (fun _ _ => rfl)) pe_int (fun _ _ => rfl)))))))), ?_⟩
    obtain ⟨dx, h1⟩ := id D.ob
    obtain ⟨ms, h2, p2⟩ := id D.me
    refine ⟨_, rfl, A.r, R, dx, _, _, rfl, h1, T.cl, T.q3, rf_memory, A.m, rfl, ⟨_, SqL.of h2⟩, fun L nL => ?_⟩
    obtain ⟨s1, f1, k1, g1, z1⟩ := own_of (o := .lst []) (Stp.refl (O := O0) gh) nL rfl
    refine lc_list (K := K) (a := A.m) (xs := ms) (fun i H2 => ∃ acc, Stp O0 G H G H2 ∧ H2 L = some (.lst acc) ∧ acc.length ≤ i ∧ Paired (rSec G) acc ((x.mem.take i).filter fun y => decide (y.1 = n)))
      ⟨[], s1, f1, Nat.le_refl _, .nil⟩ (fun i H2 _ ⟨_, s2, _⟩ => SqL.of (s2.kp _ _ h2 fun z => z)) ?_ ?_
    · rintro i y H2 hi ⟨acc, s2, f2, l2, pa⟩
      obtain ⟨r, hr', hrr⟩ := pd_get p2 hi
      obtain ⟨t, u, c0, rfl, ht, hu', hc⟩ := id hrr
      cases hu'
      have hi2 := (List.getElem?_eq_some_iff.mp hi).1
      have hml := pd_len p2
      have hmm := fit.ml
      refine ⟨rfl, _, rfl, t, _, _, _, rfl, rfl, SqT.of (s2.gh _ _ ht), at_of (j := 0) rfl rfl, _, rfl, rfl, _, rfl, if_int (fun e => ?_) (fun e => ?_)⟩
      · refine ⟨_, rfl, acc, f2, by rw [sizeLine_eq]; omega, ?_⟩
        generalize e3 : upd H2 L _ = H3
        obtain ⟨s3, f3, k3⟩ := wr_of s2 f2 g1 (.inr z1) e3
        refine ⟨_, s3, f3, by rw [List.length_append]; exact Nat.succ_le_succ l2, ?_⟩
        rw [List.take_add_one, hr', List.filter_append]
        have : (some r).toList.filter (fun y => decide (y.1 = n)) = [r] := by simp [e]
        rw [this]
        exact pd_snoc pa hrr
      · refine ⟨acc, s2, f2, Nat.le_succ_of_le l2, ?_⟩
        rw [List.take_add_one, hr', List.filter_append]
        have : (some r).toList.filter (fun y => decide (y.1 = n)) = [] := by simp [e]
        rw [this, List.append_nil]
        exact pa
    · rintro H2 ⟨acc, s2, f2, l2, pa⟩
      rw [pd_len p2, List.take_of_length_le (Nat.le_refl _), look_filter fit.nd] at pa
      have D2 := D.stp s2 fun _ _ z => z
      cases el : look x.mem n with
      | none =>
        rw [el] at pa
        cases pa
        refine ⟨_, rfl, L, _, rfl, .inl (SqL.of f2), rfl, _, rfl, if_int (fun _ => ?_) (fun z => absurd rfl z)⟩
        refine k _ G H2 (s2.mono fun _ z => z.elim) ?_ (by rw [el]; rfl)
        unfold touch
        rw [el]
        exact D2
      | some pp =>
        rw [el] at pa
        obtain ⟨v0, rfl, hv0⟩ : ∃ v0, acc = [v0] ∧ rSec G v0 (n, pp) := by
          cases pa with
          | cons r t => cases t; exact ⟨_, rfl, r⟩
        obtain ⟨t, u, c0, rfl, ht, hu', hc⟩ := id hv0
        cases hu'
        obtain ⟨j, j1, j2, j3⟩ := place_row fit.nd el
        have h12 := s2.kp _ _ h1 fun z => z
        have h22 := s2.kp _ _ h2 fun z => z
        refine ⟨_, rfl, L, _, rfl, .inl (SqL.of f2), rfl, _, rfl, if_int (fun z => absurd z (by show ¬ ((1 : Nat) : Int) = 0; decide)) (fun _ => ?_)⟩
        refine ⟨_, rfl, A.r, R, dx, _, _, rfl, h12, T.cl, T.q3, rf_memory, .inl ⟨rfl, _, SqL.of h22⟩, _, rfl, L, _, _, _, rfl, rfl, SqL.of f2, at_of (j := 0) rfl rfl, ?_⟩
        have okA : ∀ y ∈ x.mem, True ∧ ∀ z ∈ y.2, True := fun _ _ => ⟨trivial, fun _ _ => trivial⟩
        refine ⟨A.m, ms, x.mem.map encR, _, encR (n, pp), j, rfl, rfl, h22, dpAll_of eRow s2.gh p2, eRow.dp s2.gh hv0, PyData.plainAll_of_canLay0 _ (layAll_of eRow.lay _ okA), PyData.plain_of_canLay0 _ (eRow.lay _ ⟨trivial, fun _ _ => trivial⟩), Nat.le_trans (eRow.dep _) (by decide), j3, ?_⟩
        generalize e3 : upd H2 A.m _ = H3
        obtain ⟨s3, f3, k3⟩ := wr_of (s2.mono (O' := fun a => a = A.m) fun _ z => z.elim) h22 D.gm (.inl rfl) e3
        have p3 := pd_erase p2 j
        rw [j2] at p3
        have D3 := D2.setMem e3 p3
        obtain ⟨dx3, h13⟩ := id D3.ob
        have nLm : L ≠ A.m := (ne_of_none h2 z1).symm
        have f23 := k3 _ _ nLm f2
        have hmm := fit.ml
        have hlen : (ms.eraseIdx j).length ≤ ms.length := List.length_eraseIdx_le _ _
        have hml := pd_len p2
        refine ⟨_, rfl, A.r, R, dx3, _, _, rfl, h13, T.cl, T.q3, rf_memory, .inl ⟨rfl, _, SqL.of f3⟩, _, rfl, L, _, _, _, rfl, rfl, SqL.of f23, at_of (j := 0) rfl rfl, A.m, _, _, rfl, rfl, f3, by rw [sizeLine_eq]; omega, ?_⟩
        generalize e4 : upd H3 A.m _ = H4
        obtain ⟨s4, f4, k4⟩ := wr_of s3 f3 D.gm (.inl rfl) e4
        have D4 := D3.setMem e4 (pd_snoc p3 hv0)
        refine ⟨_, rfl, L, _, _, _, rfl, rfl, SqL.of (k4 _ _ nLm f23), at_of (j := 0) rfl rfl, t, _, _, _, rfl, rfl, SqT.of (s4.gh _ _ ht), at_of (j := 1) rfl rfl, ?_⟩
        refine k _ G H4 s4 ?_ ?_
        · unfold touch
          rw [el]
          exact D4
        · rw [el]
          exact hc
def spIsW (R B C : Addr) : Sp := fun vs H Q _ => ∃ (G : Hp) (A : RA) (wl : Addr) (x : RS) (n : Int), vs = [.ref A.r, .int n] ∧ Same G H ∧ RoomAt R B C G H A wl x ∧ RFit x ∧
  ∀ G' H', Stp O0 G H G' H' → Q (.bl (isW x.wts n)) H'
abbrev s_Room_is_waiting : Stmt := inClass (top 20) 3
theorem sc_Room_is_waiting : FnScope ["self", "number", "group", "row"] ["self", "number"] (defScope s_Room_is_waiting) := ⟨rfl, rfl, rfl, by decide +kernel, rfl, by decide +kernel, by decide +kernel⟩
theorem ok_isW {f : Addr} {fd : FuncData} (F : Fun K "is_waiting" "Room.is_waiting" s_Room_is_waiting f fd) (T : TxR K mg R) : FnOk P w K mg base CX0 1 f fd ["self", "number"] (spIsW R B C) := by
  refine F.ok sc_Room_is_waiting (fun vs H Q E h => ?_) (fun cdv A0 outer st H vs Q E hr h => ?_)
  · obtain ⟨G, A, wl, x, n, rfl, _⟩ := h
    rfl
  · obtain ⟨G, A, wl, x, n, rfl, gh, D, fit, k⟩ := h
    have nd := sc_Room_is_waiting.nd
    have hu := hu_of hr
    refine ⟨_, (pss_one (ps_ret (pe_callB (cr_anyK (K := K) rfl rfl) (by rfl) T.b_any (by decide +kernel) (pa_cons (pe_lc2 (own := [("group", 2), ("row", 3)]) (vs1 := [3]) rfl nd (pi_listK (K := K) rfl (pe_fldK (K := K) rfl (pv 0) rfl)) (blkOk_by (own := [("group", 2), ("row", 3)]) (N := ["self", "number", "group", "row"]) (sc := defScope s_Room_is_waiting) (by decide +kernel)) (by decide) (fun _ _ _ _ _ => (pg_name (i := 2) nd rfl (Or.inl rfl))) (fun _ _ _ _ _ => pts_nil) (fun _ _ _ _ _ => (pi_listK (K := K) rfl (pv 2))) (fun _ _ _ _ _ => (pg_name (i := 3) nd rfl (Or.inl rfl))) (fun _ _ _ _ _ => pts_nil) (fun _ _ _ _ _ => (pe_cmpR op_eq (pe_ix (ix_tupK (K := K) rfl) (pv 3) pe_int (fun _ _ => rfl)) (pv 1) (nomark _)))) pa_nil)))), ?_⟩
    obtain ⟨dx, h1⟩ := id D.ob
    obtain ⟨qs, h2, p2⟩ := id D.wa
    refine ⟨_, rfl, A.r, R, dx, _, _, rfl, h1, T.cl, T.q4, rf_waits, A.q, rfl, ⟨_, SqL.of h2⟩, fun L nL => ?_⟩
    obtain ⟨s1, f1, k1, g1, z1⟩ := own_of (o := .lst []) (Stp.refl (O := O0) gh) nL rfl
    refine lc2_list (K := K) (a := A.q) (xs := qs) (fun i H2 => ∃ bs : List Bool, Stp O0 G H G H2 ∧ H2 L = some (.lst (bs.map V.bl)) ∧ bs.length ≤ 12 * i ∧ bs.any id = isW (x.wts.take i) n)
      ⟨[], s1, f1, Nat.zero_le _, rfl⟩ (fun i H2 _ ⟨_, s2, _⟩ => SqL.of (s2.kp _ _ h2 fun z => z)) ?_ ?_
    · rintro i y H2 hi ⟨bs, s2, f2, l2, a2⟩
      obtain ⟨gr, hgr, c, us, rfl, hc, pu⟩ := pd_get p2 hi
      have hi2 := (List.getElem?_eq_some_iff.mp hi).1
      have hg12 := (fit.w64 gr (List.mem_of_getElem? hgr)).1
      have hql := pd_len p2
      have hwl := fit.wl
      have hul := pd_len pu
      refine ⟨rfl, g_yes ⟨_, rfl, c, rfl, ⟨_, SqL.of (s2.gh _ _ hc)⟩, ?_⟩⟩
      refine lc2_in (K := K) (a := c) (xs := us) (fun j H3 => ∃ bs3 : List Bool, Stp O0 G H G H3 ∧ H3 L = some (.lst (bs3.map V.bl)) ∧ bs3.length ≤ bs.length + j ∧ bs3.any id = (isW (x.wts.take i) n || (gr.take j).any fun r => decide (r.1 = n)))
        ⟨bs, s2, f2, Nat.le_refl _, by rw [a2, List.take_zero]; simp⟩ (fun j H3 _ ⟨_, s3, _⟩ => SqL.of (s3.gh _ _ hc)) ?_ ?_
      · rintro j y H3 hj ⟨bs3, s3, f3, l3, a3⟩
        obtain ⟨r, hr', t, u, c0, rfl, ht, hu', hc'⟩ := pd_get pu hj
        cases hu'
        have hj2 := (List.getElem?_eq_some_iff.mp hj).1
        refine ⟨rfl, g_yes ⟨_, rfl, t, _, _, _, rfl, rfl, SqT.of (s3.gh _ _ ht), at_of (j := 0) rfl rfl, _, rfl, rfl, _, f3, by rw [List.length_map, sizeLine_eq]; omega, ?_⟩⟩
        generalize e4 : upd H3 L _ = H4
        obtain ⟨s4, f4, k4⟩ := wr_of s3 f3 g1 (.inr z1) e4
        refine ⟨bs3 ++ [decide (r.1 = n)], s4, ?_, by rw [List.length_append]; show bs3.length + 1 ≤ _; omega, ?_⟩
        · rw [f4, List.map_append]
          congr 3
          show [V.bl _] = [V.bl _]
          congr 2
          by_cases e : r.1 = n
          · rw [decide_eq_true e, decide_eq_true (by rw [e])]
          · rw [decide_eq_false e, decide_eq_false fun z => e (V.int.inj z)]
        · rw [List.any_append, a3, List.take_add_one, hr', List.any_append, Bool.or_assoc]
          simp
      · rintro H3 ⟨bs3, s3, f3, l3, a3⟩
        rw [hul, List.take_of_length_le (Nat.le_refl _)] at a3
        refine ⟨bs3, s3, f3, by omega, ?_⟩
        rw [a3]
        unfold isW
        rw [List.take_add_one, hgr, List.any_append]
        simp
    · rintro H2 ⟨bs, s2, f2, l2, a2⟩
      rw [pd_len p2, List.take_of_length_le (Nat.le_refl _)] at a2
      refine ⟨L, bs, rfl, SqL.of f2, ?_⟩
      rw [a2]
      exact k G H2 s2
end
end K51

/-! KRM: what a commit and a room's steps do, as plain functions. -/
namespace K51
open Y
def Wz (d : DS) : Prop := d.cut = true → d.wai = []
theorem counts_cut {d : DS} (h : d.cut = true) : d.counts = d := by
  unfold DS.counts
  split
  · rfl
  · rw [if_pos h]
theorem counts_wz {d : DS} (h : Wz d) : Wz d.counts := by
  unfold DS.counts
  split
  · exact h
  · split
    · exact h
    · split
      · exact fun _ => rfl
      · rename_i hc _
        exact fun z => absurd z hc
theorem write_wz {d : DS} (h : Wz d) (n : Int) (x : Sec) : Wz (d.write n x) := by
  by_cases hc : d.counts.cut = true
  · have e : d.write n x = d.counts := if_pos hc
    rw [e]
    exact counts_wz h
  · have e : d.write n x = { d.counts with wai := d.counts.wai ++ [(n, x)] } := if_neg hc
    rw [e]
    exact fun z => absurd z hc
theorem writes_wz : ∀ (l : List (Int × Sec)) {d : DS}, Wz d → Wz (d.writes l)
  | [], _, h => h
  | x :: l, _, h => writes_wz l (write_wz h x.1 x.2)
theorem sync_wai {d : DS} (h : Wz d) : d.sync.wai = [] := by
  by_cases hc : d.counts.cut = true
  · have e : d.sync = d.counts := if_pos hc
    rw [e]
    exact counts_wz h hc
  · have e : d.sync = { d.counts with sec := synS d.counts.sec d.counts.wai, wai := [] } := if_neg hc
    rw [e]
theorem write_cut {d : DS} (h : d.cut = true) (n : Int) (x : Sec) : d.write n x = d := by
  have e : d.counts = d := counts_cut h
  have e2 : d.write n x = d.counts := if_pos (by rw [e]; exact h)
  rw [e2, e]
theorem writes_cut : ∀ (l : List (Int × Sec)) {d : DS}, d.cut = true → d.writes l = d
  | [], _, _ => rfl
  | x :: l, d, h => by
    have e : d.writes (x :: l) = (d.write x.1 x.2).writes l := rfl
    rw [e, write_cut h, writes_cut l h]
theorem sync_cut {d : DS} (h : d.cut = true) : d.sync = d := by
  have e : d.counts = d := counts_cut h
  have e2 : d.sync = d.counts := if_pos (by rw [e]; exact h)
  rw [e2, e]
theorem commit_cut {d : DS} (h : d.cut = true) (ep e : Int) (rows : BRows) : d.commit ep e rows = d := by
  show ((d.writes (logW e (contOf ep rows))).sync.write (lg e) (mark (part (contOf ep rows) 0))).sync = d
  rw [writes_cut _ h, sync_cut h, write_cut h, sync_cut h]
theorem logW_len (e : Int) (c : List Int) : (logW e c).length = parts c := by
  unfold logW
  rw [List.length_map, List.length_range]
theorem logW_16 (e : Int) (c : List Int) : ∀ y ∈ logW e c, y.2.length = 16 := fun y hy => by
  obtain ⟨j, _, e⟩ := List.mem_map.mp hy
  rw [← e]
  exact part_len _ _
theorem commit_fit {d : DS} (h : Fit d) (w0 : d.wai = []) (hs : d.sec.length ≤ 59000) (ep e : Int) {rows : BRows} (hl : rows.length ≤ 12) (h64 : ∀ r ∈ rows, r.2.length = 64) :
    Fit (d.commit ep e rows) ∧ (d.commit ep e rows).wai = [] ∧ (d.commit ep e rows).sec.length ≤ d.sec.length + 57 := by
  have lc := cont_len (e := ep) h64
  have lp : parts (contOf ep rows) ≤ 56 := by unfold parts; omega
  obtain ⟨f1, s1, w1⟩ := fit_writes (logW e (contOf ep rows)) h (logW_16 _ _) (by rw [logW_len, w0]; show _ + 0 + _ ≤ _; omega) (by rw [logW_len, w0]; show 0 + _ ≤ _; omega)
  rw [logW_len, w0] at s1 w1
  have s1 : (d.writes (logW e (contOf ep rows))).sec.length + (d.writes (logW e (contOf ep rows))).wai.length ≤ d.sec.length + 0 + parts (contOf ep rows) := s1
  have w1 : (d.writes (logW e (contOf ep rows))).wai.length ≤ 0 + parts (contOf ep rows) := w1
  obtain ⟨f2, s2, w2⟩ := fit_sync f1
  obtain ⟨f3, s3, w3⟩ := fit_write f2 (n := lg e) (x := mark (part (contOf ep rows) 0)) (by show (1 :: (part (contOf ep rows) 0).drop 1).length = 16; rw [List.length_cons, List.length_drop, part_len]) (by omega) (by omega)
  obtain ⟨f4, s4, w4⟩ := fit_sync f3
  have z1 : Wz (d.writes (logW e (contOf ep rows))) := writes_wz _ fun _ => w0
  have z2 : Wz (d.writes (logW e (contOf ep rows))).sync := fun _ => sync_wai z1
  have z3 : Wz ((d.writes (logW e (contOf ep rows))).sync.write (lg e) (mark (part (contOf ep rows) 0))) := write_wz z2 _ _
  exact ⟨f4, sync_wai z3, by show (DS.sync _).sec.length ≤ _; omega⟩
/-! ### the room's steps -/
def RS.wg (x : RS) : List BRows → RS × Bool
  | [] => (x, true)
  | g :: rest => if (x.d.commit x.bs.epoch x.bs.fin g).cut = true then ({ x with d := x.d.commit x.bs.epoch x.bs.fin g }, false)
    else ({ x with d := x.d.commit x.bs.epoch x.bs.fin g, bs := x.bs.commit false g, wts := rest }, true)
def RS.wgroup (x : RS) : RS × Bool := x.wg x.wts
def RS.clean (x : RS) : List (Int × Page) := x.mem.filter fun y => !(isW x.wts y.1)
def RS.drop (x : RS) (n : Int) : RS := { x with mem := x.mem.filter fun y => decide (y.1 ≠ n) }
def RS.mroom : Nat → RS → RS × Bool
  | 0, x => (x, true)
  | f + 1, x => if x.most < (x.mem.length : Int) then (match x.clean with
      | c :: _ => RS.mroom f (x.drop c.1)
      | [] => if x.wgroup.2 = true then RS.mroom f x.wgroup.1 else (x.wgroup.1, false)) else (x, true)
def RS.made (x : RS) : RS × Bool := RS.mroom (x.mem.length + x.wts.length + 1) x
theorem takeR_64 {pages : List (Int × Page)} (h : ∀ y ∈ pages, y.2.length = 64) : ∀ {rows : BRows}, (∀ r ∈ rows, r.2.length = 64) → ∀ y ∈ takeR pages rows, y.2.length = 64 := by
  intro rows
  induction rows generalizing pages with
  | nil => intro _; exact h
  | cons r rows ih =>
    intro h2
    refine ih (pages := put pages r.1 r.2) (fun y hy => ?_) fun z hz => h2 z (List.mem_cons_of_mem _ hz)
    rcases put_mem hy with e | e
    · rw [e]
      exact h2 r List.mem_cons_self
    · exact h y e
theorem RFit.wgroup {x : RS} (h : RFit x) : RFit x.wgroup.1 := by
  unfold RS.wgroup
  cases ew : x.wts with
  | nil => exact h
  | cons g rest =>
    have hg := h.w64 g (by rw [ew]; exact List.mem_cons_self)
    have hph := h.ph
    have hpp := h.pp
    rw [ew, List.length_cons] at hph hpp
    obtain ⟨f, w0, sl⟩ := commit_fit h.fit h.w0 (by omega) x.bs.epoch x.bs.fin hg.1 hg.2
    by_cases hc : (x.d.commit x.bs.epoch x.bs.fin g).cut = true
    · show RFit (if (x.d.commit x.bs.epoch x.bs.fin g).cut = true then _ else _ : RS × Bool).1
      rw [if_pos hc]
      refine { h with fit := f, w0 := w0, ph := ?_ }
      show (x.d.commit x.bs.epoch x.bs.fin g).sec.length + 57 * x.wts.length + (if (x.d.commit x.bs.epoch x.bs.fin g).cut = true then 0 else 57) ≤ 50000
      rw [if_pos hc, ew, List.length_cons]
      by_cases hd : x.d.cut = true
      · rw [if_pos hd] at hph
        rw [commit_cut hd]
        omega
      · rw [if_neg hd] at hph
        omega
    · show RFit (if (x.d.commit x.bs.epoch x.bs.fin g).cut = true then _ else _ : RS × Bool).1
      rw [if_neg hc]
      have hd : ¬ x.d.cut = true := fun z => hc (by rw [commit_cut z]; exact z)
      rw [if_neg hd] at hph
      refine { h with fit := f, w0 := w0, ph := ?_, pp := ?_, p64 := ?_, w64 := fun y hy => h.w64 y (by rw [ew]; exact List.mem_cons_of_mem _ hy), wl := ?_ }
      · have := h.wl
        rw [ew, List.length_cons] at this
        show rest.length ≤ 1000
        omega
      · show (x.d.commit x.bs.epoch x.bs.fin g).sec.length + 57 * rest.length + (if (x.d.commit x.bs.epoch x.bs.fin g).cut = true then 0 else 57) ≤ 50000
        rw [if_neg hc]
        omega
      · show (takeR x.bs.pages g).length + 12 * rest.length ≤ 100000
        have := takeR_len g x.bs.pages
        have := hg.1
        omega
      · exact takeR_64 h.p64 hg.2
theorem RFit.drop {x : RS} (h : RFit x) (n : Int) : RFit (x.drop n) :=
  { h with
    nd := h.nd.sublist (List.Sublist.map _ List.filter_sublist)
    ml := Nat.le_trans (List.length_filter_le _ _) h.ml
    m64 := fun y hy => h.m64 y (List.mem_filter.mp hy).1 }
theorem isW_nil (n : Int) : isW [] n = false := rfl
theorem clean_wts {x : RS} (h : x.clean = []) (hm : x.mem ≠ []) : x.wts ≠ [] := fun e => by
  unfold RS.clean at h
  rw [e] at h
  cases hx : x.mem with
  | nil => exact hm hx
  | cons y r =>
    rw [hx, List.filter_cons_of_pos rfl] at h
    cases h
theorem wgroup_of {x : RS} {g : BRows} {rest : List BRows} (ew : x.wts = g :: rest) : x.wgroup = if (x.d.commit x.bs.epoch x.bs.fin g).cut = true then ({ x with d := x.d.commit x.bs.epoch x.bs.fin g }, false)
    else ({ x with d := x.d.commit x.bs.epoch x.bs.fin g, bs := x.bs.commit false g, wts := rest }, true) := by
  show x.wg x.wts = _
  conv => lhs; rw [ew]
  rfl
theorem wgroup_cut {x : RS} {g : BRows} {rest : List BRows} (ew : x.wts = g :: rest) (hc : (x.d.commit x.bs.epoch x.bs.fin g).cut = true) : x.wgroup = ({ x with d := x.d.commit x.bs.epoch x.bs.fin g }, false) := by
  rw [wgroup_of ew, if_pos hc]
theorem wgroup_ok {x : RS} {g : BRows} {rest : List BRows} (ew : x.wts = g :: rest) (hc : (x.d.commit x.bs.epoch x.bs.fin g).cut = false) : x.wgroup = ({ x with d := x.d.commit x.bs.epoch x.bs.fin g, bs := x.bs.commit false g, wts := rest }, true) := by
  rw [wgroup_of ew, if_neg (by rw [hc]; exact Bool.false_ne_true)]
theorem wgroup_true {x : RS} (hne : x.wts ≠ []) (h : x.wgroup.2 = true) : x.wgroup.1.mem = x.mem ∧ x.wgroup.1.most = x.most ∧ x.wgroup.1.wts.length + 1 = x.wts.length := by
  cases ew : x.wts with
  | nil => exact absurd ew hne
  | cons g rest =>
    cases hc : (x.d.commit x.bs.epoch x.bs.fin g).cut with
    | true => rw [wgroup_cut ew hc] at h; cases h
    | false => rw [wgroup_ok ew hc]; exact ⟨rfl, rfl, rfl⟩
end K51

/-! KR2: a room: write_group, make_room. -/
namespace K51
open PySem PySem.Spec PyProof.Rows L2 Y
/-- a group of the room's, as data, for a commit -/
theorem rowsH_of {G H : Hp} {v : V} {g : BRows} {wl : Addr} (h : rL rSec G v g) (e : Same G H) (n : G wl = none) : ∃ a, v = .ref a ∧ RowsH H a g wl := by
  obtain ⟨a, us, rfl, ha, pu⟩ := h
  refine ⟨a, rfl, fun z => (by rw [z, n] at ha; cases ha), us, e _ _ ha, pd_mono (fun v x z => ?_) pu⟩
  obtain ⟨t, u, c, rfl, ht, hu, hc⟩ := z
  cases hu
  obtain ⟨c', rfl, hcc⟩ := rLI hc
  exact ⟨t, c', rfl, e _ _ ht, e _ _ hcc, fun z => by rw [z, n] at hcc; cases hcc⟩
section
variable {P : Program} {w : World} {K : PySem.W.Frag} {mg : Str → Option Value} {base : Heap} {R C B : Addr} {tP tR tW tH : Tok}
section
variable {G H G' H' : Hp} {A : RA} {wl w' : Addr} {x : RS}
/-- a commit below the room -/
theorem RoomAt.comm (h : RoomAt R B C G H A wl x) (e : Stp (DBOwn A.p A.s wl A.b A.pg) G H G' H') {d : DS} {bs : BS} (D : DiskAt C G' H' A.p A.s w' d) (Bt : BatAt B G' H' A.b A.p A.pg bs) (n : w' = wl ∨ H w' = none) : RoomAt R B C G' H' A w' { x with d := d, bs := bs } := by
  obtain ⟨ap, n1, n2⟩ := h.apart
  obtain ⟨dx, h1⟩ := h.ob
  obtain ⟨ms, h2, p2⟩ := h.me
  obtain ⟨qs, h3, p3⟩ := h.wa
  obtain ⟨dxb, h4⟩ := h.ba.ob
  obtain ⟨kvb, h5, p5⟩ := h.ba.pa
  have off : ∀ {a : Addr}, (a = A.r ∨ a = A.m ∨ a = A.q) → ¬ DBOwn A.p A.s wl A.b A.pg a := fun {a} ha z => by
    obtain ⟨a1, a2, a3⟩ := ap a z
    rcases ha with y | y | y
    · exact a1 y
    · exact a2 y
    · exact a3 y
  have nw : ∀ {a : Addr} {o : HO}, H a = some o → a ≠ wl → a ≠ w' := fun ha hn => by
    rcases n with z | z
    · rw [z]; exact hn
    · exact ne_of_none ha z
  refine { h with
    ob := ⟨dx, e.kp _ _ h1 (off (.inl rfl))⟩
    me := ⟨ms, e.kp _ _ h2 (off (.inr (.inl rfl))), mRow.ps e.gg p2⟩
    wa := ⟨qs, e.kp _ _ h3 (off (.inr (.inr rfl))), mRow.l.ps e.gg p3⟩
    ba := Bt
    dk := D
    sep := ?_
    gr := e.nw _ (ne_none h1) h.gr
    gm := e.nw _ (ne_none h2) h.gm
    gq := e.nw _ (ne_none h3) h.gq
    nmw := nw h2 h.nmw
    nqw := nw h3 h.nqw }
  intro a ha hb
  rcases ha with z | z | z
  · exact h.sep a (.inl z) hb
  · exact h.sep a (.inr (.inl z)) hb
  · rcases n with y | y
    · exact h.sep a (.inr (.inr (z.trans y))) hb
    · rw [z] at hb
      rcases hb with q | q
      · rw [q, h4] at y; cases y
      · rw [q, h5] at y; cases y
end
def spWGroup (R B C : Addr) : Sp := fun vs H Q _ => ∃ (G : Hp) (A : RA) (wl : Addr) (x : RS), vs = [.ref A.r] ∧ Same G H ∧ RoomAt R B C G H A wl x ∧ RFit x ∧ x.wts ≠ [] ∧
  ∀ w' G' H', Stp (ROwn A wl) G H G' H' → RoomAt R B C G' H' A w' x.wgroup.1 → (w' = wl ∨ H w' = none) → Q (.bl x.wgroup.2) H'
abbrev s_Room_write_group : Stmt := inClass (top 20) 5
theorem sc_Room_write_group : FnScope ["self"] ["self"] (defScope s_Room_write_group) := ⟨rfl, rfl, rfl, by decide +kernel, rfl, by decide +kernel, by decide +kernel⟩
theorem ok_wgroup {f : Addr} {fd : FuncData} (F : Fun K "write_group" "Room.write_group" s_Room_write_group f fd) (T : TxR K mg R) (L_Batches_commit : MtC P w K mg base B "commit" 5 ["self", "rows"] (spCommit B C)) : FnOk P w K mg base CX0 6 f fd ["self"] (spWGroup R B C) := by
  refine F.ok sc_Room_write_group (fun vs H Q E h => ?_) (fun cdv A0 outer st H vs Q E hr h => ?_)
  · obtain ⟨G, A, wl, x, rfl, _⟩ := h
    rfl
  · obtain ⟨G, A, wl, x, rfl, gh, D, fit, hne, k⟩ := h
    have nd := sc_Room_write_group.nd
    have hu := hu_of hr
    refine ⟨_, (pss_cons (ps_if (pt_not (pt_val (pe_mtc (pe_fldK (K := K) rfl (pv 0) rfl) L_Batches_commit (hr.mono (by decide)) (pa_cons (pe_ix (ix_listK (K := K) rfl) (pe_fldK (K := K) rfl (pv 0) rfl) pe_int (fun _ _ => rfl)) pa_nil))))
    (pss_one (ps_ret pe_bl))
    pss_nil)
    (pss_cons (ps_expr (pe_bmK (K := K) rfl PySem.F.plainAttrs_list PySem.F.slot_list_pop PySem.F.type_list_pop mt_popAt (pe_fldK (K := K) rfl (pv 0) rfl) (pa_cons pe_int pa_nil)))
    (pss_one (ps_ret pe_bl)))), ?_⟩
    obtain ⟨dx, h1⟩ := id D.ob
    obtain ⟨qs, h3, p3⟩ := id D.wa
    obtain ⟨dxb, h4⟩ := id D.ba.ob
    cases ew : x.wts with
    | nil => exact absurd ew hne
    | cons g rest =>
      have p3' := p3
      rw [ew] at p3'
      obtain ⟨v0, qs', rfl, rv0, pq'⟩ : ∃ v0 qs', qs = v0 :: qs' ∧ rL rSec G v0 g ∧ Paired (rL rSec G) qs' rest := by
        cases p3' with
        | cons r t => exact ⟨_, _, rfl, r, t⟩
      obtain ⟨a, rfl, hrows⟩ := rowsH_of rv0 gh D.dk.gw
      have hg := fit.w64 g (by rw [ew]; exact List.mem_cons_self)
      have hph := fit.ph
      have hpp := fit.pp
      rw [ew, List.length_cons] at hph hpp
      refine ⟨_, rfl, A.r, R, dx, _, _, rfl, h1, T.cl, T.q1, rf_batches, A.b, dxb, _, rfl, h4, bf_no (by decide +kernel) (by decide +kernel) (by decide +kernel) (by decide +kernel) (by decide +kernel) (by decide +kernel) (by decide +kernel), _, rfl, A.r, R, dx, _, _, rfl, h1, T.cl, T.q4, rf_waits, A.q, _, _, _, rfl, rfl, SqL.of h3, at_of (j := 0) rfl rfl,
        G, A.b, A.p, A.pg, A.s, wl, x.bs, x.d, a, g, rfl, gh, D.ba, D.dk, D.sep, fit.fit, fit.w0, by omega, hrows, hg.1, hg.2, by omega, fun w' G' H' s1 Dk1 B1 hw1 => ?_⟩
      have sR : Stp (ROwn A wl) G H G' H' := s1.mono fun _ z => .inr (.inr (.inr z))
      have D1 := D.comm s1 Dk1 B1 hw1
      refine ⟨_, rfl, if_nbool (fun hc => ?_) (fun hc => ?_)⟩
      · have hc : (x.d.commit x.bs.epoch x.bs.fin g).cut = true := by simpa using hc
        have z := k w' G' H' sR (by rw [wgroup_cut ew hc]; rw [hc] at D1; exact D1) hw1
        rw [wgroup_cut ew hc] at z
        exact z
      · have hc : (x.d.commit x.bs.epoch x.bs.fin g).cut = false := by simpa using hc
        rw [hc] at D1
        obtain ⟨dx1, h11⟩ := id D1.ob
        obtain ⟨qs1, h31, p31⟩ := id D1.wa
        have p31' := p31
        have ew1 : ({ x with d := x.d.commit x.bs.epoch x.bs.fin g, bs := x.bs.commit false g } : RS).wts = g :: rest := ew
        rw [ew1] at p31'
        obtain ⟨v1, qs1', rfl, rv1, pq1'⟩ : ∃ v0 qs', qs1 = v0 :: qs' ∧ rL rSec G' v0 g ∧ Paired (rL rSec G') qs' rest := by
          cases p31' with
          | cons r t => exact ⟨_, _, rfl, r, t⟩
        refine ⟨_, rfl, A.r, R, dx1, _, _, rfl, h11, T.cl, T.q4, rf_waits, .inl ⟨rfl, _, SqL.of h31⟩, A.q, _, 0, 0, _, rfl, rfl, h31, by decide, by decide, (ixN_seq (i := 0) (j := 0) (by unfold ixN; rw [if_pos (by decide), if_pos (by rw [List.length_cons]; omega)]; rfl)).1, rfl, ?_⟩
        generalize e2 : upd H' A.q _ = H2
        have D2 := D1.setWts (wts := rest) e2 pq1'
        obtain ⟨s2, f2, k2⟩ := wr_of sR h31 D1.gq (.inl (.inr (.inr (.inl rfl)))) e2
        have z := k w' G' H2 s2 (by rw [wgroup_ok ew hc]; exact D2) hw1
        rw [wgroup_ok ew hc] at z
        exact z
theorem ROwn.tr {H : Hp} {A : RA} {wl w1 a : Addr} (hw : w1 = wl ∨ H w1 = none) (h : ROwn A w1 a) : ROwn A wl a ∨ H a = none := by
  rcases h with z | z | z | z
  · exact .inl (.inl z)
  · exact .inl (.inr (.inl z))
  · exact .inl (.inr (.inr (.inl z)))
  · rcases z with (z | z | z) | z
    · exact .inl (.inr (.inr (.inr (.inl (.inl z)))))
    · exact .inl (.inr (.inr (.inr (.inl (.inr (.inl z))))))
    · rcases hw with e | e
      · exact .inl (.inr (.inr (.inr (.inl (.inr (.inr (z.trans e)))))))
      · exact .inr (by rw [z]; exact e)
    · exact .inl (.inr (.inr (.inr (.inr z))))
def spMRoom (R B C : Addr) : Sp := fun vs H Q _ => ∃ (G : Hp) (A : RA) (wl : Addr) (x : RS), vs = [.ref A.r] ∧ Same G H ∧ RoomAt R B C G H A wl x ∧ RFit x ∧ 0 ≤ x.most ∧
  ∀ w' G' H', Stp (ROwn A wl) G H G' H' → RoomAt R B C G' H' A w' x.made.1 → (w' = wl ∨ H w' = none) → RFit x.made.1 → Q (.bl x.made.2) H'
abbrev s_Room_make_room : Stmt := inClass (top 20) 4
theorem sc_Room_make_room : FnScope ["self", "clean", "row"] ["self"] (defScope s_Room_make_room) := ⟨rfl, rfl, rfl, by decide +kernel, rfl, by decide +kernel, by decide +kernel⟩
theorem ok_mroom {f : Addr} {fd : FuncData} (F : Fun K "make_room" "Room.make_room" s_Room_make_room f fd) (T : TxR K mg R) (L_Room_is_waiting : MtC P w K mg base R "is_waiting" 1 ["self", "number"] (spIsW R B C)) (L_Room_write_group : MtC P w K mg base R "write_group" 6 ["self"] (spWGroup R B C)) :
    FnOk P w K mg base CX0 7 f fd ["self"] (spMRoom R B C) := by
  refine F.ok sc_Room_make_room (fun vs H Q E h => ?_) (fun cdv A0 outer st H vs Q E hr h => ?_)
  · obtain ⟨G, A, wl, x, rfl, _⟩ := h
    rfl
  · obtain ⟨G, A, wl, x, rfl, gh, D, fit, hm0, k⟩ := h
    have nd := sc_Room_make_room.nd
    have hu := hu_of hr
    refine ⟨_, (pss_cons (ps_while PassesOwn.never (pt_cmpR op_gt (pe_callB (call_len_seqK (K := K) rfl) (by rfl) T.b_len (by decide +kernel) (pa_cons (pe_fldK (K := K) rfl (pv 0) rfl) pa_nil)) (pe_fldK (K := K) rfl (pv 0) rfl) (nomark _))
    (pss_cons (ps_setLc (i := 1) (own := [("row", 2)]) rfl nd rfl rfl (sw_true rfl rfl rfl (by decide +kernel)) (pi_listK (K := K) rfl (pe_fldK (K := K) rfl (pv 0) rfl)) (blkOk_by (own := [("row", 2)]) (N := ["self", "clean", "row"]) (sc := defScope s_Room_make_room) (by decide +kernel)) (fun _ _ _ _ _ => (pg_name (i := 2) nd rfl (Or.inl rfl))) (fun _ _ _ _ _ => (pts_one (pt_not (pt_val (pe_mtc (pv 0) L_Room_is_waiting (hr.mono (by decide)) (pa_cons (pe_ix (ix_tupK (K := K) rfl) (pv 2) pe_int (fun _ _ => rfl)) pa_nil)))))) (fun _ _ _ _ _ => (pv 2)))
    (pss_one (ps_if (pt_cmpR op_gt (pe_callB (call_len_seqK (K := K) rfl) (by rfl) T.b_len (by decide +kernel) (pa_cons (pv 1) pa_nil)) pe_int (nomark _))
    (pss_one (ps_expr (pe_bmK (K := K) rfl PySem.F.plainAttrs_list PySem.F.slot_list_remove PySem.F.type_list_remove (mt_removeD (K := K) rfl hr.units) (pe_fldK (K := K) rfl (pv 0) rfl) (pa_cons (pe_ix (ix_listK (K := K) rfl) (pv 1) pe_int (fun _ _ => rfl)) pa_nil))))
    (pss_one (ps_if (pt_not (pt_val (pe_mtc0 (pv 0) L_Room_write_group (hr.mono (by decide)))))
    (pss_one (ps_ret pe_bl))
    pss_nil))))))
    (pss_one (ps_ret pe_bl))), ?_⟩
    refine ⟨fun m σ H1 => ∃ (x1 : RS) (w1 : Addr) (G1 : Hp) (y1 y2 : Option V), σ = [some (.ref A.r), y1, y2] ∧ m = x1.mem.length + x1.wts.length ∧ Stp (ROwn A wl) G H G1 H1 ∧ RoomAt R B C G1 H1 A w1 x1 ∧ (w1 = wl ∨ H w1 = none) ∧ RFit x1 ∧ x1.most = x.most ∧
      ∃ f1, m + 1 ≤ f1 ∧ RS.mroom f1 x1 = x.made, ⟨_, x, wl, G, _, _, rfl, rfl, Stp.refl gh, D, .inl rfl, fit, rfl, _, Nat.le_refl _, rfl⟩, ?_⟩
    rintro m σ H1 ⟨x1, w1, G1, y1, y2, rfl, rfl, s1, D1, hw1, fit1, em, f1, hf1, ef1⟩
    obtain ⟨dx1, h11⟩ := id D1.ob
    obtain ⟨ms, h21, p21⟩ := id D1.me
    have lms := pd_len p21
    obtain ⟨f2, rfl⟩ : ∃ f2, f1 = f2 + 1 := ⟨f1 - 1, by omega⟩
    refine ⟨_, rfl, A.r, R, dx1, _, _, rfl, h11, T.cl, T.q3, rf_memory, A.m, _, rfl, .inl (SqL.of h21), _, rfl, A.r, R, dx1, _, _, rfl, h11, T.cl, T.q2, rf_most, _, _, rfl, rfl, _, rfl, if_dec (fun hgt => ?_) (fun hle => ?_)⟩
    · rw [lms] at hgt
      refine ⟨fun σ' H' => ∃ m', m' < x1.mem.length + x1.wts.length ∧ _, fun σ' H' z => z, ?_⟩
      refine ⟨_, rfl, A.r, R, dx1, _, _, rfl, h11, T.cl, T.q3, rf_memory, A.m, rfl, ⟨_, SqL.of h21⟩, fun L nL => ?_⟩
      obtain ⟨s2, f2', k2, g2, z2⟩ := own_of (o := .lst []) (Stp.refl (O := O0) s1.gh) nL rfl
      refine lc_list (K := K) (a := A.m) (xs := ms) (fun i H2 => ∃ G2 acc, Stp O0 G1 H1 G2 H2 ∧ H2 L = some (.lst acc) ∧ G2 L = none ∧ acc.length ≤ i ∧ Paired (rSec G2) acc ((x1.mem.take i).filter fun y => !(isW x1.wts y.1)))
        ⟨G1, [], s2, f2', g2, Nat.le_refl _, .nil⟩ (fun i H2 _ ⟨_, _, s3, _⟩ => SqL.of (s3.kp _ _ h21 fun z => z)) ?_ ?_
      · rintro i y H2 hi ⟨G2, acc, s3, f3, g3, l3, pa⟩
        obtain ⟨r, hr', hrr⟩ := pd_get p21 hi
        have hrr2 := mRow _ _ _ _ s3.gg hrr
        obtain ⟨t, u, c0, rfl, ht, hu', hc⟩ := id hrr2
        cases hu'
        have D3 := D1.stp s3 fun _ _ z => z
        obtain ⟨dx3, h13⟩ := id D3.ob
        have hi2 := (List.getElem?_eq_some_iff.mp hi).1
        have hmm := fit1.ml
        refine ⟨rfl, _, rfl, A.r, dx3, _, rfl, h13, rf_no (by decide +kernel) (by decide +kernel) (by decide +kernel) (by decide +kernel) (by decide +kernel), _, rfl, t, _, _, _, rfl, rfl, SqT.of (s3.gh _ _ ht), at_of (j := 0) rfl rfl, G2, A, w1, x1, r.1, rfl, s3.gh, D3, fit1, fun G4 H4 s4 => ?_⟩
        have s34 := s3.trans s4 fun _ z => z.elim
        have f4 := s4.kp _ _ f3 fun z => z
        have g4 := s4.nw L (ne_none f3) g3
        have pa4 := mRow.ps s4.gg pa
        refine ⟨_, rfl, if_nbool (fun e => ?_) (fun e => ?_)⟩
        · refine ⟨_, rfl, acc, f4, by rw [sizeLine_eq]; omega, ?_⟩
          generalize e5 : upd H4 L _ = H5
          obtain ⟨s5, f5, k5⟩ := wr_of s34 f4 g4 (.inr nL) e5
          refine ⟨G4, _, s5, f5, g4, by rw [List.length_append]; exact Nat.succ_le_succ l3, ?_⟩
          rw [List.take_add_one, hr', List.filter_append]
          have : (some r).toList.filter (fun y => !(isW x1.wts y.1)) = [r] := by simp [e]
          rw [this]
          exact pd_snoc pa4 (mRow _ _ _ _ s4.gg hrr2)
        · refine ⟨G4, acc, s34, f4, g4, Nat.le_succ_of_le l3, ?_⟩
          rw [List.take_add_one, hr', List.filter_append]
          have : (some r).toList.filter (fun y => !(isW x1.wts y.1)) = [] := by simp [e]
          rw [this, List.append_nil]
          exact pa4
      · rintro H2 ⟨G2, acc, s3, f3, g3, l3, pa⟩
        rw [lms, List.take_of_length_le (Nat.le_refl _)] at pa
        have pa : Paired (rSec G2) acc x1.clean := pa
        have D3 := D1.stp s3 fun _ _ z => z
        have s13 := s1.trans s3 fun _ z => z.elim
        obtain ⟨dx3, h13⟩ := id D3.ob
        obtain ⟨ms3, h23, p23⟩ := id D3.me
        cases ec : x1.clean with
        | cons c rest =>
          rw [ec] at pa
          obtain ⟨v0, accr, rfl, hv0⟩ : ∃ v0 accr, acc = v0 :: accr ∧ rSec G2 v0 c := by
            cases pa with
            | cons r t => exact ⟨_, _, rfl, r⟩
          have hcm : c ∈ x1.mem := by
            have : c ∈ x1.clean := by rw [ec]; exact List.mem_cons_self
            exact (List.mem_filter.mp this).1
          have el : look x1.mem c.1 = some c.2 := look_of_mem fit1.nd hcm
          obtain ⟨j, j1, j2, j3⟩ := place_row fit1.nd el
          have okA : ∀ y ∈ x1.mem, True ∧ ∀ z ∈ y.2, True := fun _ _ => ⟨trivial, fun _ _ => trivial⟩
          refine ⟨_, rfl, L, _, rfl, .inl (SqL.of f3), _, _, rfl, rfl, _, rfl, if_dec (fun _ => ?_) (fun z => absurd (by rw [List.length_cons]; omega) z)⟩
          refine ⟨_, rfl, A.r, R, dx3, _, _, rfl, h13, T.cl, T.q3, rf_memory, .inl ⟨rfl, _, SqL.of h23⟩, _, rfl, L, _, _, _, rfl, rfl, SqL.of f3, at_of (j := 0) rfl rfl, A.m, ms3, x1.mem.map encR, _, encR c, j, rfl, rfl, h23, dpAll_of eRow s3.gh p23, eRow.dp s3.gh hv0,
            PyData.plainAll_of_canLay0 _ (layAll_of eRow.lay _ okA), PyData.plain_of_canLay0 _ (eRow.lay _ ⟨trivial, fun _ _ => trivial⟩), Nat.le_trans (eRow.dep _) (by decide), j3, ?_⟩
          generalize e4 : upd H2 A.m _ = H4
          obtain ⟨s4, f4, k4⟩ := wr_of s13 h23 D3.gm (.inl (.inr (.inl rfl))) e4
          have p3 := pd_erase p23 j
          rw [j2] at p3
          have D4 := D3.setMem e4 p3
          have hlen : (x1.drop c.1).mem.length + 1 = x1.mem.length := by
            show (x1.mem.filter fun y => decide (y.1 ≠ c.1)).length + 1 = _
            rw [← j2, List.length_eraseIdx]
            have := (List.getElem?_eq_some_iff.mp j1).1
            rw [if_pos this]
            omega
          have estep : RS.mroom (f2 + 1) x1 = RS.mroom f2 (x1.drop c.1) := by
            show (if x1.most < (x1.mem.length : Int) then _ else _) = _
            rw [if_pos hgt, ec]
          rw [estep] at ef1
          exact ⟨_, by show (x1.drop c.1).mem.length + x1.wts.length < _; omega, x1.drop c.1, w1, G2, _, _, rfl, rfl, s4, D4, hw1, fit1.drop c.1, em, f2, by show (x1.drop c.1).mem.length + x1.wts.length + 1 ≤ _; omega, ef1⟩
        | nil =>
          rw [ec] at pa
          cases pa
          have hne := clean_wts ec (fun z => by rw [z] at hgt; rw [em] at hgt; exact absurd hgt (by show ¬ x.most < ((0 : Nat) : Int); omega))
          refine ⟨_, rfl, L, _, rfl, .inl (SqL.of f3), _, _, rfl, rfl, _, rfl, if_dec (fun z => absurd z (by show ¬ (0 : Int) < ((0 : Nat) : Int); decide)) (fun _ => ?_)⟩
          refine ⟨_, rfl, A.r, dx3, _, rfl, h13, rf_no (by decide +kernel) (by decide +kernel) (by decide +kernel) (by decide +kernel) (by decide +kernel), G2, A, w1, x1, rfl, s3.gh, D3, fit1, hne, fun w4 G4 H4 s4 D4 hw4 => ⟨_, rfl, ?_⟩⟩
          have s14 := s13.trans s4 fun a ha => ROwn.tr hw1 ha
          have nh4 : w4 = wl ∨ H w4 = none := by
            rcases hw4 with e | e
            · rw [e]; exact hw1
            · exact .inr (s13.fr e)
          have estep : RS.mroom (f2 + 1) x1 = if x1.wgroup.2 = true then RS.mroom f2 x1.wgroup.1 else (x1.wgroup.1, false) := by
            show (if x1.most < (x1.mem.length : Int) then _ else _) = _
            rw [if_pos hgt, ec]
          rw [estep] at ef1
          refine if_nbool (fun hc => ?_) (fun hc => ?_)
          · rw [if_neg (by rw [hc]; exact Bool.false_ne_true)] at ef1
            have z := k w4 G4 H4 s14 (by rw [← ef1]; exact D4) nh4 (by rw [← ef1]; exact fit1.wgroup)
            rw [← ef1] at z
            exact z
          · rw [if_pos hc] at ef1
            obtain ⟨t1, t2, t3⟩ := wgroup_true hne hc
            exact ⟨_, by rw [t1]; omega, x1.wgroup.1, w4, G4, _, _, rfl, rfl, s14, D4, nh4, fit1.wgroup, t2.trans em, f2, by rw [t1]; omega, ef1⟩
    · rw [lms] at hle
      have e1 : RS.mroom (f2 + 1) x1 = (x1, true) := by
        unfold RS.mroom
        rw [if_neg hle]
      rw [e1] at ef1
      have z := k w1 G1 H1 s1 (by rw [← ef1]; exact D1) hw1 (by rw [← ef1]; exact fit1)
      rw [← ef1] at z
      exact z
end
end K51

/-! KR3: a room: page, write, flush, __init__. -/
namespace K51
open PySem PySem.Spec PyProof.Rows L2 Y
theorem lastOf_len : ∀ (wai : List (Int × Sec)) {n : Int} {x : Sec}, (∀ y ∈ wai, y.2.length = 16) → x.length = 16 → (lastOf wai n x).length = 16
  | [], _, _, _, h => h
  | y :: wai, n, x, hw, h => by
    have e : lastOf (y :: wai) n x = lastOf wai n (if y.1 = n then y.2 else x) := rfl
    rw [e]
    refine lastOf_len wai (fun z hz => hw z (List.mem_cons_of_mem _ hz)) ?_
    split
    · exact hw y List.mem_cons_self
    · exact h
theorem Fit.rd {d : DS} (h : Fit d) (n : Int) : (d.read n).length = 16 := lastOf_len _ h.lw (whole_len h.ls n)
theorem look_mem64 {pages : List (Int × Page)} {n : Int} {p : Page} (h : ∀ y ∈ pages, y.2.length = 64) (e : look pages n = some p) : p.length = 64 := h _ (look_some_mem e)
theorem pageOf_64 {d : DS} (h : Fit d) {pages : List (Int × Page)} (hp : ∀ y ∈ pages, y.2.length = 64) (n : Int) : (pageOf d.read pages n).length = 64 := by
  unfold pageOf
  cases e : look pages n with
  | some p => exact look_mem64 hp e
  | none =>
    simp only [List.length_append, h.rd]
def RS.page (x : RS) (n : Int) : RS × Page := match look x.mem n with
  | some p => ({ x with mem := touch x.mem n }, p)
  | none => (({ x with reads := x.reads + 1, mem := x.mem ++ [(n, pageOf x.d.read x.bs.pages n)] } : RS).made.1, pageOf x.d.read x.bs.pages n)
def layIn (mem : List (Int × Page)) (rows : BRows) : List (Int × Page) := rows.foldl (fun m r => m.filter (fun y => decide (y.1 ≠ r.1)) ++ [r]) mem
def RS.write (x : RS) (rows : BRows) : RS × Bool := ({ x with wts := x.wts ++ [rows], mem := layIn x.mem rows } : RS).made
def RS.fl : Nat → RS → RS × Bool
  | 0, x => (x, !x.d.cut)
  | f + 1, x => if x.wts = [] then (x, !x.d.cut) else if x.wgroup.2 = true then RS.fl f x.wgroup.1 else (x.wgroup.1, false)
def RS.flush (x : RS) : RS × Bool := RS.fl (x.wts.length + 1) x
theorem RFit.touch {x : RS} (h : RFit x) (n : Int) : RFit { x with mem := touch x.mem n } := by
  cases e : look x.mem n with
  | none =>
    have : K51.touch x.mem n = x.mem := by unfold K51.touch; rw [e]
    rw [this]
    exact h
  | some p =>
    have et : K51.touch x.mem n = x.mem.filter (fun y => decide (y.1 ≠ n)) ++ [(n, p)] := by unfold K51.touch; rw [e]
    rw [et]
    obtain ⟨j, j1, j2, _⟩ := place_row h.nd e
    have hl : (x.mem.filter fun y => decide (y.1 ≠ n)).length + 1 = x.mem.length := by
      rw [← j2, List.length_eraseIdx]
      have := (List.getElem?_eq_some_iff.mp j1).1
      rw [if_pos this]
      omega
    refine { h with nd := ?_, ml := ?_, m64 := ?_ }
    · rw [List.map_append]
      refine List.nodup_append.mpr ⟨h.nd.sublist (List.Sublist.map _ List.filter_sublist), by simp, ?_⟩
      intro a ha b hb
      obtain ⟨y, hy, rfl⟩ := List.mem_map.mp ha
      simp at hb
      subst hb
      exact of_decide_eq_true (List.mem_filter.mp hy).2
    · rw [List.length_append]
      show _ + 1 ≤ _
      rw [hl]
      exact h.ml
    · intro y hy
      rcases List.mem_append.mp hy with hy | hy
      · exact h.m64 y (List.mem_filter.mp hy).1
      · simp at hy
        rw [hy]
        exact look_mem64 h.m64 e
theorem RFit.lay {x : RS} (h : RFit x) {r : Int × Page} (h64 : r.2.length = 64) (hl : x.mem.length < 1000) : RFit { x with mem := x.mem.filter (fun y => decide (y.1 ≠ r.1)) ++ [r] } := by
  refine { h with nd := ?_, ml := ?_, m64 := ?_ }
  · rw [List.map_append]
    refine List.nodup_append.mpr ⟨h.nd.sublist (List.Sublist.map _ List.filter_sublist), by simp, ?_⟩
    intro a ha b hb
    obtain ⟨y, hy, rfl⟩ := List.mem_map.mp ha
    simp at hb
    subst hb
    exact of_decide_eq_true (List.mem_filter.mp hy).2
  · rw [List.length_append]
    have := List.length_filter_le (fun y => decide (y.1 ≠ r.1)) x.mem
    show _ + 1 ≤ 1000
    omega
  · intro y hy
    rcases List.mem_append.mp hy with hy | hy
    · exact h.m64 y (List.mem_filter.mp hy).1
    · simp at hy
      rw [hy]
      exact h64
theorem filter_none {mem : List (Int × Page)} {n : Int} (h : look mem n = none) : mem.filter (fun y => decide (y.1 ≠ n)) = mem := by
  rw [List.filter_eq_self]
  intro y hy
  refine decide_eq_true fun e => ?_
  have : (look mem n).isSome := look_isSome.mpr (by rw [← e]; exact List.mem_map_of_mem hy)
  rw [h] at this
  cases this
section
variable {P : Program} {w : World} {K : PySem.W.Frag} {mg : Str → Option Value} {base : Heap} {R C B : Addr} {tP tR tW tH : Tok}
section
variable {G H G' H' : Hp} {A : RA} {wl : Addr} {x : RS}
theorem RoomAt.off (h : RoomAt R B C G H A wl x) {q : Addr} (n : H q = none) : ¬ ROwn A wl q := fun z => by
  obtain ⟨dx, h1⟩ := h.ob
  obtain ⟨ms, h2, _⟩ := h.me
  obtain ⟨qs, h3, _⟩ := h.wa
  obtain ⟨dxb, h4⟩ := h.ba.ob
  obtain ⟨kvb, h5, _⟩ := h.ba.pa
  obtain ⟨dxp, rlp, h6, _⟩ := h.dk.ob
  obtain ⟨kvs, h7, _⟩ := h.dk.sec
  obtain ⟨ws, h8, _⟩ := h.dk.wai
  rcases z with z | z | z | ((z | z | z) | (z | z)) <;> rw [z] at n
  · rw [h1] at n; cases n
  · rw [h2] at n; cases n
  · rw [h3] at n; cases n
  · rw [h6] at n; cases n
  · rw [h7] at n; cases n
  · rw [h8] at n; cases n
  · rw [h4] at n; cases n
  · rw [h5] at n; cases n
theorem RoomAt.setReads (h : RoomAt R B C G H A wl x) {dx : Addr} {z : Int} (e : upd H A.r (.ins R dx (rf A.b x.most A.m A.q z)) = H') : RoomAt R B C G H' A wl { x with reads := z } := by
  obtain ⟨ap, n1, n2⟩ := h.apart
  obtain ⟨ms0, h2, p2⟩ := h.me
  obtain ⟨qs0, h3, p3⟩ := h.wa
  obtain ⟨dxb, h4⟩ := h.ba.ob
  obtain ⟨kvb, h5, p5⟩ := h.ba.pa
  obtain ⟨dxp, rlp, h6, p6⟩ := h.dk.ob
  obtain ⟨kvs, h7, p7⟩ := h.dk.sec
  obtain ⟨ws, h8, p8⟩ := h.dk.wai
  have k : ∀ {a : Addr} {o : HO}, H a = some o → a ≠ A.r → H' a = some o := fun ha hn => by rw [← e, upd_ne hn]; exact ha
  exact { h with
    ob := ⟨dx, by rw [← e]; exact upd_same⟩
    me := ⟨ms0, k h2 n1.symm, p2⟩
    wa := ⟨qs0, k h3 n2.symm, p3⟩
    ba := ⟨⟨dxb, k h4 (ap _ (.inr (.inl rfl))).1⟩, ⟨kvb, k h5 (ap _ (.inr (.inr rfl))).1, p5⟩, h.ba.gb, h.ba.gp⟩
    dk := ⟨⟨dxp, rlp, k h6 (ap _ (.inl (.inl rfl))).1, p6⟩, ⟨kvs, k h7 (ap _ (.inl (.inr (.inl rfl)))).1, p7⟩, ⟨ws, k h8 (ap _ (.inl (.inr (.inr rfl)))).1, p8⟩, h.dk.gp, h.dk.gs, h.dk.gw⟩ }
end
def spPageR (R B C : Addr) : Sp := fun vs H Q _ => ∃ (G : Hp) (A : RA) (wl : Addr) (x : RS) (n : Int), vs = [.ref A.r, .int n] ∧ Same G H ∧ RoomAt R B C G H A wl x ∧ RFit x ∧ 0 ≤ x.most ∧ x.mem.length < 900 ∧
  ∀ q w' G' H', Stp (ROwn A wl) G H G' H' → RoomAt R B C G' H' A w' (x.page n).1 → (w' = wl ∨ H w' = none) → RFit (x.page n).1 → H q = none → G' q = none → H' q = some (rowI (x.page n).2) → ¬ ROwn A w' q → Q (.ref q) H'
abbrev s_Room_page : Stmt := inClass (top 20) 2
theorem sc_Room_page : FnScope ["self", "number", "octets"] ["self", "number"] (defScope s_Room_page) := ⟨rfl, rfl, rfl, by decide +kernel, rfl, by decide +kernel, by decide +kernel⟩
theorem ok_pageR {f : Addr} {fd : FuncData} (F : Fun K "page" "Room.page" s_Room_page f fd) (T : TxR K mg R) (L_Room_found : MtC P w K mg base R "found" 1 ["self", "number"] (spFound R B C)) (L_Batches_page : MtC P w K mg base B "page" 3 ["self", "number"] (spPageB B C))
    (L_Room_make_room : MtC P w K mg base R "make_room" 7 ["self"] (spMRoom R B C)) : FnOk P w K mg base CX0 8 f fd ["self", "number"] (spPageR R B C) := by
  refine F.ok sc_Room_page (fun vs H Q E h => ?_) (fun cdv A0 outer st H vs Q E hr h => ?_)
  · obtain ⟨G, A, wl, x, n, rfl, _⟩ := h
    rfl
  · obtain ⟨G, A, wl, x, n, rfl, gh, D, fit, hm0, hml, k⟩ := h
    have nd := sc_Room_page.nd
    have hu := hu_of hr
    refine ⟨_, (pss_cons (ps_set (i := 2) nd rfl (Or.inl rfl) (pe_mtc (pv 0) L_Room_found (hr.mono (by decide)) (pa_cons (pv 1) pa_nil)))
    (pss_cons (ps_if (pt_cmp (pc_isN (pv 2)))
    (pss_cons (ps_fldK (K := K) rfl (pv 0) (pe_op op_add (pe_fldK (K := K) rfl (pv 0) rfl) pe_int) rfl)
    (pss_cons (ps_set (i := 2) nd rfl (Or.inl rfl) (pe_mtc (pe_fldK (K := K) rfl (pv 0) rfl) L_Batches_page (hr.mono (by decide)) (pa_cons (pv 1) pa_nil)))
    (pss_cons (ps_expr (pe_bmK (K := K) rfl PySem.F.plainAttrs_list PySem.F.slot_list_append PySem.F.type_list_append mt_append (pe_fldK (K := K) rfl (pv 0) rfl) (pa_cons (pe_tup (pa_cons (pv 1) (pa_cons (pv 2) pa_nil))) pa_nil)))
    (pss_one (ps_expr (pe_mtc0 (pv 0) L_Room_make_room (hr.mono (by decide))))))))
    pss_nil)
    (pss_one (ps_ret (pe_callTy (call_list_ofK (K := K) rfl) (by rfl) T.b_list (by decide +kernel) (pa_cons (pv 2) pa_nil)))))), ?_⟩
    obtain ⟨dx, h1⟩ := id D.ob
    refine ⟨_, rfl, A.r, dx, _, rfl, h1, rf_no (by decide +kernel) (by decide +kernel) (by decide +kernel) (by decide +kernel) (by decide +kernel), _, rfl, G, A, wl, x, n, rfl, gh, D, fit, fun v1 G1 H1 s1 D1 hv1 => ?_⟩
    have s1' : Stp (ROwn A wl) G H G1 H1 := s1.mono fun _ z => .inr (.inl z)
    cases el : look x.mem n with
    | some p =>
      rw [el] at hv1
      obtain ⟨c, rfl, hc⟩ := rLI hv1
      have ep : x.page n = ({ x with mem := touch x.mem n }, p) := by
        unfold RS.page
        rw [el]
      rw [ep] at k
      refine ⟨_, rfl, _, rfl, iteF ⟨_, rfl, c, _, rfl, .inl (SqL.of (s1.gh _ _ hc)), fun q nq => ?_⟩⟩
      generalize e2 : upd H1 q _ = H2
      obtain ⟨s2, f2, k2, g2, z2⟩ := own_of s1' nq e2
      have D2 := D1.stp (own_of (Stp.refl (O := O0) s1.gh) nq e2).1 fun _ _ z => z
      exact k q wl G1 H2 s2 D2 (.inl rfl) (fit.touch n) z2 g2 f2 (D1.off nq)
    | none =>
      rw [el] at hv1
      obtain rfl : v1 = .non := hv1
      have et : touch x.mem n = x.mem := by
        unfold touch
        rw [el]
      rw [et] at D1
      have D1 : RoomAt R B C G1 H1 A wl x := D1
      have p64 := pageOf_64 fit.fit fit.p64 n
      have ep : x.page n = (({ x with reads := x.reads + 1, mem := x.mem ++ [(n, pageOf x.d.read x.bs.pages n)] } : RS).made.1, pageOf x.d.read x.bs.pages n) := by
        unfold RS.page
        rw [el]
      rw [ep] at k
      generalize hpp : pageOf x.d.read x.bs.pages n = pp at *
      obtain ⟨dx1, h11⟩ := id D1.ob
      refine ⟨_, rfl, _, rfl, iteT ?_⟩
      refine ⟨_, rfl, A.r, R, dx1, _, _, rfl, h11, T.cl, T.q5, rf_reads, _, _, rfl, rfl, _, rfl, A.r, R, dx1, _, rfl, h11, T.cl, T.q5, (by show 5 < 1000; decide), ?_⟩
      rw [rf_p_reads]
      generalize e2 : upd H1 A.r _ = H2
      obtain ⟨s2, f2, k2⟩ := wr_of s1' h11 D1.gr (.inl (.inl rfl)) e2
      have D2 := D1.setReads e2
      obtain ⟨dx2, h12⟩ := id D2.ob
      obtain ⟨dxb2, h42⟩ := id D2.ba.ob
      refine ⟨_, rfl, A.r, R, dx2, _, _, rfl, h12, T.cl, T.q1, rf_batches, A.b, dxb2, _, rfl, h42, bf_no (by decide +kernel) (by decide +kernel) (by decide +kernel) (by decide +kernel) (by decide +kernel) (by decide +kernel) (by decide +kernel), _, rfl, G1, A.b, A.p, A.pg, A.s, wl, x.bs, x.d, n, rfl, s2.gh, D2.ba, D2.dk, fit.fit.rd, fun y hy => by rw [fit.p64 y hy]; decide, fun q3 G3 H3 s3 n3 g3 f3 => ?_⟩
      rw [hpp] at f3
      obtain ⟨G4, s4, f4, gg4, gk4⟩ := pub_of s3 f3 g3 n3
      have D3 := D2.stp s4 fun _ _ z => z
      have s24 := s2.trans s4 fun _ z => z.elim
      obtain ⟨dx3, h13⟩ := id D3.ob
      obtain ⟨ms3, h23, p23⟩ := id D3.me
      have lms := pd_len p23
      refine ⟨_, rfl, A.r, R, dx3, _, _, rfl, h13, T.cl, T.q3, rf_memory, .inl ⟨rfl, _, SqL.of h23⟩, _, rfl, _, rfl, (by show 2 ≤ sizeLine; decide), fun t nt => ?_⟩
      generalize e5 : upd H3 t _ = H5
      obtain ⟨G5, s5, f5, gg5, k5, gk5⟩ := data_of s24 nt e5
      have s35 : Stp O0 G4 H3 G5 H5 := by
        obtain ⟨G5', s5', f5', _, _, gk5'⟩ := data_of (Stp.refl (O := O0) s24.gh) nt e5
        have : G5' = G5 := by
          funext b
          by_cases hb : b = t
          · rw [hb, f5, f5']
          · rw [gk5 b hb, gk5' b hb]
        rw [← this]
        exact s5'
      have D5 := D3.stp s35 fun _ _ z => z
      obtain ⟨ms5, h25, p25⟩ := id D5.me
      have lms5 := pd_len p25
      refine ⟨A.m, ms5, _, rfl, rfl, h25, by rw [sizeLine_eq]; show ms5.length < _; have : ms5.length = x.mem.length := lms5; omega, ?_⟩
      generalize e6 : upd H5 A.m _ = H6
      obtain ⟨s6, f6, k6⟩ := wr_of s5 h25 D5.gm (.inl (.inr (.inl rfl))) e6
      have D6 := D5.setMem e6 (pd_snoc p25 (w := (n, pp)) ⟨t, _, _, rfl, f5, rfl, rLI_of (gg5 _ _ f4)⟩)
      obtain ⟨dx6, h16⟩ := id D6.ob
      have fit6 : RFit ({ x with reads := x.reads + 1, mem := x.mem ++ [(n, pp)] } : RS) := by
        have z := fit.lay (r := (n, pp)) p64 (by omega)
        rw [filter_none el] at z
        exact { z with }
      refine ⟨_, rfl, A.r, dx6, _, rfl, h16, rf_no (by decide +kernel) (by decide +kernel) (by decide +kernel) (by decide +kernel) (by decide +kernel), G5, A, wl, ({ x with reads := x.reads + 1, mem := x.mem ++ [(n, pp)] } : RS), rfl, s6.gh, D6, fit6, hm0, fun w7 G7 H7 s7 D7 hw7 fit7 => ?_⟩
      have s17 := s6.trans s7 fun _ z => .inl z
      refine ⟨_, rfl, q3, _, rfl, .inl (SqL.of (s7.gh _ _ (s7.gg _ _ (gg5 _ _ f4)))), fun q nq => ?_⟩
      generalize e8 : upd H7 q _ = H8
      obtain ⟨s8, f8, k8, g8, z8⟩ := own_of s17 nq e8
      have nh7 : w7 = wl ∨ H w7 = none := by
        rcases hw7 with e | e
        · exact .inl e
        · exact .inr (s6.fr e)
      have D8 := D7.stp (own_of (Stp.refl (O := O0) s7.gh) nq e8).1 fun _ _ z => z
      exact k q w7 G7 H8 s8 D8 nh7 fit7 z8 g8 f8 (D7.off nq)
end
end K51

/-! KR4: a room: write, flush, __init__. -/
namespace K51
open PySem PySem.Spec PyProof.Rows L2 Y
theorem layIn_snoc (mem : List (Int × Page)) {rows : BRows} {i : Nat} {r : Int × Page} (h : rows[i]? = some r) : layIn mem (rows.take (i + 1)) = (layIn mem (rows.take i)).filter (fun y => decide (y.1 ≠ r.1)) ++ [r] := by
  unfold layIn
  rw [List.take_add_one, h, List.foldl_append]
  rfl
theorem layIn_len (mem : List (Int × Page)) : ∀ rows : BRows, (layIn mem rows).length ≤ mem.length + rows.length := by
  intro rows
  induction rows generalizing mem with
  | nil => exact Nat.le_refl _
  | cons r rows ih =>
    have z := ih (mem.filter (fun y => decide (y.1 ≠ r.1)) ++ [r])
    have q := List.length_filter_le (fun y => decide (y.1 ≠ r.1)) mem
    rw [List.length_append] at z
    have e : [r].length = 1 := rfl
    rw [e] at z
    show (layIn (mem.filter (fun y => decide (y.1 ≠ r.1)) ++ [r]) rows).length ≤ _
    rw [List.length_cons]
    omega
theorem touch_drop {mem : List (Int × Page)} {n : Int} {p : Page} (h : look mem n = some p) : (touch mem n).dropLast = mem.filter (fun y => decide (y.1 ≠ n)) := by
  unfold touch
  rw [h]
  exact List.dropLast_concat
theorem pd_dropLast {α β : Type} {F : α → β → Prop} {xs : List α} {ys : List β} (h : Paired F xs ys) : Paired F xs.dropLast ys.dropLast := by
  rw [List.dropLast_eq_take, List.dropLast_eq_take, pd_len h]
  exact pd_take _ h
theorem RFit.more {x : RS} (h : RFit x) {rows : BRows} (hr : rows.length ≤ 12 ∧ ∀ r ∈ rows, r.2.length = 64) (hl : x.wts.length < 1000) (hp : x.d.sec.length + 57 * (x.wts.length + 1) + (if x.d.cut = true then 0 else 57) ≤ 50000) (hq : x.bs.pages.length + 12 * (x.wts.length + 1) ≤ 100000) :
    RFit { x with wts := x.wts ++ [rows] } := by
  refine { h with w64 := ?_, wl := ?_, ph := ?_, pp := ?_ }
  · intro g hg
    rcases List.mem_append.mp hg with hg | hg
    · exact h.w64 g hg
    · simp at hg
      subst hg
      exact hr
  · show (x.wts ++ [rows]).length ≤ 1000
    rw [List.length_append]
    show _ + 1 ≤ _
    omega
  · show x.d.sec.length + 57 * (x.wts ++ [rows]).length + (if x.d.cut = true then 0 else 57) ≤ 50000
    rw [List.length_append]
    exact hp
  · show x.bs.pages.length + 12 * (x.wts ++ [rows]).length ≤ 100000
    rw [List.length_append]
    exact hq
theorem RFit.layAll {x : RS} (h : RFit x) {rows : BRows} (h64 : ∀ r ∈ rows, r.2.length = 64) (hl : x.mem.length + rows.length ≤ 1000) : ∀ i, i ≤ rows.length → RFit { x with mem := layIn x.mem (rows.take i) }
  | 0, _ => h
  | i + 1, hi => by
    have z := RFit.layAll h h64 hl i (by omega)
    have hr : rows[i]? = some rows[i] := List.getElem?_eq_getElem (by omega)
    rw [layIn_snoc _ hr]
    have q := layIn_len x.mem (rows.take i)
    rw [List.length_take] at q
    exact z.lay (h64 _ (List.getElem_mem _)) (by show (layIn x.mem (rows.take i)).length < 1000; omega)
section
variable {P : Program} {w : World} {K : PySem.W.Frag} {mg : Str → Option Value} {base : Heap} {R C B : Addr} {tP tR tW tH : Tok}
def spWriteR (R B C : Addr) : Sp := fun vs H Q _ => ∃ (G : Hp) (A : RA) (wl : Addr) (x : RS) (a : Addr) (rows : BRows), vs = [.ref A.r, .ref a] ∧ Same G H ∧ RoomAt R B C G H A wl x ∧ RFit x ∧ 0 ≤ x.most ∧ x.mem.length + rows.length ≤ 900 ∧ LstAt rSec H H a rows ∧ (rows.length ≤ 12 ∧ ∀ r ∈ rows, r.2.length = 64) ∧
  x.wts.length < 1000 ∧ x.d.sec.length + 57 * (x.wts.length + 1) + (if x.d.cut = true then 0 else 57) ≤ 50000 ∧ x.bs.pages.length + 12 * (x.wts.length + 1) ≤ 100000 ∧
  ∀ w' G' H', Stp (ROwn A wl) G H G' H' → RoomAt R B C G' H' A w' (x.write rows).1 → (w' = wl ∨ H w' = none) → RFit (x.write rows).1 → Q (.bl (x.write rows).2) H'
abbrev s_Room_write : Stmt := inClass (top 20) 6
theorem sc_Room_write : FnScope ["self", "rows", "group", "number", "octets"] ["self", "rows"] (defScope s_Room_write) := ⟨rfl, rfl, rfl, by decide +kernel, rfl, by decide +kernel, by decide +kernel⟩
theorem ok_writeR {f : Addr} {fd : FuncData} (F : Fun K "write" "Room.write" s_Room_write f fd) (T : TxR K mg R) (L_Room_found : MtC P w K mg base R "found" 1 ["self", "number"] (spFound R B C)) (L_Room_make_room : MtC P w K mg base R "make_room" 7 ["self"] (spMRoom R B C)) :
    FnOk P w K mg base CX0 8 f fd ["self", "rows"] (spWriteR R B C) := by
  refine F.ok sc_Room_write (fun vs H Q E h => ?_) (fun cdv A0 outer st H vs Q E hr h => ?_)
  · obtain ⟨G, A, wl, x, a, rows, rfl, _⟩ := h
    rfl
  · obtain ⟨G, A, wl, x, a, rows, rfl, gh, D, fit, hm0, hml, ⟨us, ha, pu⟩, hrows, hwl, hph, hpp, k⟩ := h
    have nd := sc_Room_write.nd
    have hu := hu_of hr
    refine ⟨_, (pss_cons (ps_setLc (i := 2) (own := [("number", 3), ("octets", 4)]) rfl nd rfl rfl (sw_true rfl rfl rfl (by decide +kernel)) (pi_listK (K := K) rfl (pv 1)) (blkOk_by (own := [("number", 3), ("octets", 4)]) (N := ["self", "rows", "group", "number", "octets"]) (sc := defScope s_Room_write) (by decide +kernel)) (fun _ _ _ _ _ => (pg_tupK (K := K) (n := 2) rfl rfl (pgs_cons (pg_name (i := 3) nd rfl (Or.inl rfl)) (pgs_cons (pg_name (i := 4) nd rfl (Or.inl rfl)) pgs_nil)))) (fun _ _ _ _ _ => pts_nil) (fun _ _ _ _ _ => (pe_tup (pa_cons (pv 3) (pa_cons (pe_callTy (call_list_ofK (K := K) rfl) (by rfl) T.b_list (by decide +kernel) (pa_cons (pv 4) pa_nil)) pa_nil)))))
    (pss_cons (ps_expr (pe_bmK (K := K) rfl PySem.F.plainAttrs_list PySem.F.slot_list_append PySem.F.type_list_append mt_append (pe_fldK (K := K) rfl (pv 0) rfl) (pa_cons (pv 2) pa_nil)))
    (pss_cons (ps_for PassesOwn.never rfl (pi_listK (K := K) rfl (pv 2)) (pg_tupK (K := K) (n := 2) rfl rfl (pgs_cons (pg_name (i := 3) nd rfl (Or.inl rfl)) (pgs_cons (pg_name (i := 4) nd rfl (Or.inl rfl)) pgs_nil)))
    (C8.pss_cut (ps_if (pt_cmp (pc_notN (pe_mtc (pv 0) L_Room_found (hr.mono (by decide)) (pa_cons (pv 3) pa_nil))))
    (pss_one (ps_expr (pe_bm0K (K := K) rfl PySem.F.plainAttrs_list PySem.F.slot_list_pop PySem.F.type_list_pop mt_pop (pe_fldK (K := K) rfl (pv 0) rfl) )))
    pss_nil)
    (pss_one (ps_expr (pe_bmK (K := K) rfl PySem.F.plainAttrs_list PySem.F.slot_list_append PySem.F.type_list_append mt_append (pe_fldK (K := K) rfl (pv 0) rfl) (pa_cons (pe_tup (pa_cons (pv 3) (pa_cons (pv 4) pa_nil))) pa_nil))))))
    (pss_one (ps_ret (pe_mtc0 (pv 0) L_Room_make_room (hr.mono (by decide)))))))), ?_⟩
    refine ⟨_, rfl, a, rfl, ⟨_, SqL.of ha⟩, fun L nL => ?_⟩
    obtain ⟨s1, f1, k1, g1, z1⟩ := own_of (o := .lst []) (Stp.refl (O := O0) gh) nL rfl
    have lus := pd_len pu
    refine lc_list (K := K) (a := a) (xs := us) (fun i H2 => ∃ G2 acc, Stp O0 G H G2 H2 ∧ H2 L = some (.lst acc) ∧ G2 L = none ∧ acc.length ≤ i ∧ Paired (rSec G2) acc (rows.take i))
      ⟨G, [], s1, f1, g1, Nat.le_refl _, .nil⟩ (fun i H2 _ ⟨_, _, s2, _⟩ => SqL.of (s2.kp _ _ ha fun z => z)) ?_ ?_
    · rintro i y H2 hi ⟨G2, acc, s2, f2, g2, l2, pa⟩
      obtain ⟨r, hr', t, u, c0, rfl, ht, hu', hc⟩ := pd_get pu hi
      cases hu'
      obtain ⟨c, rfl, hcc⟩ := rLI hc
      have hi2 := (List.getElem?_eq_some_iff.mp hi).1
      refine g_pair (s2.kp _ _ ht fun z => z) ⟨rfl, g_yes ⟨_, rfl, _, rfl, c, _, rfl, .inl (SqL.of (s2.kp _ _ hcc fun z => z)), fun q nq => ?_⟩⟩
      generalize e3 : upd H2 q _ = H3
      obtain ⟨G3, s3, f3, gg3, k3, gk3⟩ := data_of s2 nq e3
      refine ⟨(by show 2 ≤ sizeLine; decide), fun t' nt => ?_⟩
      generalize e4 : upd H3 t' _ = H4
      obtain ⟨G4, s4, f4, gg4, k4, gk4⟩ := data_of s3 nt e4
      have fL4 := k4 _ _ (k3 _ _ f2)
      have gL4 : G4 L = none := by rw [gk4 L (ne_of_none (k3 _ _ f2) nt), gk3 L (ne_of_none f2 nq)]; exact g2
      refine ⟨acc, fL4, by rw [sizeLine_eq]; omega, ?_⟩
      generalize e5 : upd H4 L _ = H5
      obtain ⟨s5, f5, k5⟩ := wr_of s4 fL4 gL4 (.inr z1) e5
      refine ⟨G4, _, s5, f5, gL4, by rw [List.length_append]; exact Nat.succ_le_succ l2, ?_⟩
      rw [List.take_add_one, hr']
      exact pd_snoc (mRow.ps (gg3.trans gg4) pa) ⟨t', _, _, rfl, f4, rfl, rLI_of (gg4 _ _ f3)⟩
    · rintro H2 ⟨G2, gs, s2, f2, g2, l2, pa⟩
      rw [lus, List.take_of_length_le (Nat.le_refl _)] at pa
      -- the group becomes data
      obtain ⟨G3, s3, f3, gg3, gk3⟩ := pub_of s2 f2 g2 z1
      have pa3 := mRow.ps gg3 pa
      have D3 := D.stp s3 fun _ _ z => z
      obtain ⟨dx3, h13⟩ := id D3.ob
      obtain ⟨qs3, h33, p33⟩ := id D3.wa
      have lqs := pd_len p33
      have s3' : Stp (ROwn A wl) G H G3 H2 := s3.mono fun _ z => z.elim
      refine ⟨_, rfl, A.r, R, dx3, _, _, rfl, h13, T.cl, T.q4, rf_waits, .inl ⟨rfl, _, SqL.of h33⟩, _, rfl, A.q, qs3, _, rfl, rfl, h33, by rw [sizeLine_eq]; omega, ?_⟩
      generalize e4 : upd H2 A.q _ = H4
      obtain ⟨s4, f4, k4⟩ := wr_of s3' h33 D3.gq (.inl (.inr (.inr (.inl rfl)))) e4
      have D4 := D3.setWts (wts := x.wts ++ [rows]) e4 (pd_snoc p33 ⟨L, gs, rfl, f3, pa3⟩)
      have fitA := fit.more hrows hwl hph hpp
      have fitL := fitA.layAll hrows.2 (by show x.mem.length + rows.length ≤ 1000; omega)
      have nLq : L ≠ A.q := (ne_of_none D.wa.choose_spec.1 z1).symm
      have nLm : L ≠ A.m := (ne_of_none D.me.choose_spec.1 z1).symm
      refine ⟨_, rfl, L, rfl, ⟨_, SqL.of (s4.gh _ _ f3)⟩, for_list (K := K) (a := L) (xs := gs)
        (fun i σ H5 => i ≤ rows.length ∧ (∃ y3 y4, σ = [some (.ref A.r), some (.ref a), some (.ref L), y3, y4]) ∧ ∃ G5, Stp (ROwn A wl) G H G5 H5 ∧ Same G3 G5 ∧ RoomAt R B C G5 H5 A wl { x with wts := x.wts ++ [rows], mem := layIn x.mem (rows.take i) })
        ⟨Nat.zero_le _, ⟨_, _, rfl⟩, G3, s4, Same.refl _, D4⟩ (fun i σ H5 _ ⟨_, _, G5, s5, gg5, _⟩ => SqL.of (s5.gh _ _ (gg5 _ _ f3))) ?_ ?_⟩
      · rintro i y σ H5 hi ⟨_, ⟨y3, y4, rfl⟩, G5, s5, gg5, D5⟩
        obtain ⟨r, hr', hrr⟩ := pd_get pa3 hi
        obtain ⟨t, u, c0, rfl, ht, hu', hc⟩ := id hrr
        cases hu'
        have hi2 := (List.getElem?_eq_some_iff.mp hr').1
        have fit5 := fitL i (by omega)
        obtain ⟨dx5, h15⟩ := id D5.ob
        refine g_pair (s5.gh _ _ (gg5 _ _ ht)) ?_
        refine ⟨fun σ H6 => σ = [some (.ref A.r), some (.ref a), some (.ref L), some (.int r.1), some c0] ∧ ∃ G6, Stp (ROwn A wl) G H G6 H6 ∧ Same G3 G6 ∧ RoomAt R B C G6 H6 A wl { x with wts := x.wts ++ [rows], mem := (layIn x.mem (rows.take i)).filter fun y => decide (y.1 ≠ r.1) }, ?_, ?_⟩
        · refine ⟨_, rfl, A.r, dx5, _, rfl, h15, rf_no (by decide +kernel) (by decide +kernel) (by decide +kernel) (by decide +kernel) (by decide +kernel), _, rfl, G5, A, wl, _, r.1, rfl, s5.gh, D5, fit5, fun v6 G6 H6 s6 D6 hv6 => ?_⟩
          have s56 : Stp (ROwn A wl) G H G6 H6 := s5.trans s6 fun b hb => .inl (.inr (.inl hb))
          cases el : look (layIn x.mem (rows.take i)) r.1 with
          | none =>
            have hv6 : FoundV G6 v6 (look (layIn x.mem (rows.take i)) r.1) := hv6
            rw [el] at hv6
            obtain rfl : v6 = .non := hv6
            refine ⟨_, rfl, iteF ⟨rfl, G6, s56, gg5.trans s6.gg, ?_⟩⟩
            rw [filter_none el]
            have et : touch (layIn x.mem (rows.take i)) r.1 = layIn x.mem (rows.take i) := by
              unfold touch
              rw [el]
            have D6 : RoomAt R B C G6 H6 A wl { x with wts := x.wts ++ [rows], mem := touch (layIn x.mem (rows.take i)) r.1 } := D6
            rw [et] at D6
            exact D6
          | some pp =>
            have hv6 : FoundV G6 v6 (look (layIn x.mem (rows.take i)) r.1) := hv6
            rw [el] at hv6
            obtain ⟨c, rfl, _⟩ := rLI hv6
            have D6 : RoomAt R B C G6 H6 A wl { x with wts := x.wts ++ [rows], mem := touch (layIn x.mem (rows.take i)) r.1 } := D6
            obtain ⟨dx6, h16⟩ := id D6.ob
            obtain ⟨ms6, h26, p26⟩ := id D6.me
            have hne : ms6 ≠ [] := fun z => by
              have := pd_len p26
              rw [z] at this
              have e2 : (touch (layIn x.mem (rows.take i)) r.1).length ≠ 0 := by
                unfold touch
                rw [el]
                show (_ ++ [_]).length ≠ 0
                rw [List.length_append]
                show _ + 1 ≠ 0
                omega
              exact e2 this.symm
            refine ⟨_, rfl, iteT ?_⟩
            refine ⟨_, rfl, A.r, R, dx6, _, _, rfl, h16, T.cl, T.q3, rf_memory, .inl ⟨rfl, _, SqL.of h26⟩, A.m, ms6, _, rfl, rfl, h26, List.getElem?_eq_getElem (by have := List.length_pos_iff.mpr hne; omega), ?_⟩
            generalize e7 : upd H6 A.m _ = H7
            obtain ⟨s7, f7, k7⟩ := wr_of s56 h26 D6.gm (.inl (.inr (.inl rfl))) e7
            refine ⟨rfl, G6, s7, gg5.trans s6.gg, ?_⟩
            have p7 := pd_dropLast p26
            have e3 : (touch (layIn x.mem (rows.take i)) r.1).dropLast = _ := touch_drop el
            have p7 : Paired (rSec G6) ms6.dropLast (touch (layIn x.mem (rows.take i)) r.1).dropLast := p7
            rw [e3] at p7
            exact D6.setMem e7 p7
        · rintro σ H6 ⟨rfl, G6, s6, gg6, D6⟩
          obtain ⟨dx6, h16⟩ := id D6.ob
          obtain ⟨ms6, h26, p26⟩ := id D6.me
          have lq := layIn_len x.mem (rows.take i)
          rw [List.length_take] at lq
          have lf := List.length_filter_le (fun y => decide (y.1 ≠ r.1)) (layIn x.mem (rows.take i))
          have l6 := pd_len p26
          have l6 : ms6.length = ((layIn x.mem (rows.take i)).filter fun y => decide (y.1 ≠ r.1)).length := l6
          refine ⟨_, rfl, A.r, R, dx6, _, _, rfl, h16, T.cl, T.q3, rf_memory, .inl ⟨rfl, _, SqL.of h26⟩, _, rfl, _, rfl, (by show 2 ≤ sizeLine; decide), fun t7 nt7 => ?_⟩
          generalize e7 : upd H6 t7 _ = H7
          obtain ⟨G7, s7, f7, gg7, k7, gk7⟩ := data_of s6 nt7 e7
          have s67 : Stp O0 G6 H6 G7 H7 := by
            obtain ⟨G7', s7', f7', _, _, gk7'⟩ := data_of (Stp.refl (O := O0) s6.gh) nt7 e7
            have : G7' = G7 := by
              funext b
              by_cases hb : b = t7
              · rw [hb, f7, f7']
              · rw [gk7 b hb, gk7' b hb]
            rw [← this]
            exact s7'
          have D7 := D6.stp s67 fun _ _ z => z
          obtain ⟨ms7, h27, p27⟩ := id D7.me
          have l7 : ms7.length = ((layIn x.mem (rows.take i)).filter fun y => decide (y.1 ≠ r.1)).length := pd_len p27
          refine ⟨A.m, ms7, _, rfl, rfl, h27, by rw [sizeLine_eq, l7]; omega, ?_⟩
          generalize e8 : upd H7 A.m _ = H8
          obtain ⟨s8, f8, k8⟩ := wr_of s7 h27 D7.gm (.inl (.inr (.inl rfl))) e8
          refine ⟨hi2, ⟨_, _, rfl⟩, G7, s8, gg6.trans gg7, ?_⟩
          rw [layIn_snoc _ hr']
          exact D7.setMem e8 (pd_snoc p27 ⟨t7, _, _, rfl, f7, rfl, mI.l _ _ _ _ (gg6.trans gg7) hc⟩)
      · rintro σ H5 ⟨_, ⟨y3, y4, rfl⟩, G5, s5, gg5, D5⟩
        have lgs := pd_len pa3
        have fit5 := fitL gs.length (by omega)
        rw [lgs, List.take_of_length_le (Nat.le_refl _)] at D5 fit5
        obtain ⟨dx5, h15⟩ := id D5.ob
        refine ⟨_, rfl, A.r, dx5, _, rfl, h15, rf_no (by decide +kernel) (by decide +kernel) (by decide +kernel) (by decide +kernel) (by decide +kernel), G5, A, wl, _, rfl, s5.gh, D5, fit5, hm0, fun w6 G6 H6 s6 D6 hw6 fit6 => ?_⟩
        refine k w6 G6 H6 (s5.trans s6 fun _ z => .inl z) D6 ?_ fit6
        rcases hw6 with e | e
        · exact .inl e
        · exact .inr (s5.fr e)
def spFlushR (R B C : Addr) : Sp := fun vs H Q _ => ∃ (G : Hp) (A : RA) (wl : Addr) (x : RS), vs = [.ref A.r] ∧ Same G H ∧ RoomAt R B C G H A wl x ∧ RFit x ∧
  ∀ w' G' H', Stp (ROwn A wl) G H G' H' → RoomAt R B C G' H' A w' x.flush.1 → (w' = wl ∨ H w' = none) → RFit x.flush.1 → Q (.bl x.flush.2) H'
abbrev s_Room_flush : Stmt := inClass (top 20) 7
theorem sc_Room_flush : FnScope ["self"] ["self"] (defScope s_Room_flush) := ⟨rfl, rfl, rfl, by decide +kernel, rfl, by decide +kernel, by decide +kernel⟩
theorem ok_flushR {f : Addr} {fd : FuncData} (F : Fun K "flush" "Room.flush" s_Room_flush f fd) (T : TxR K mg R) (TB : Cls K B ∧ NoAttr K B "disk") (TD : Cls K C ∧ NoAttr K C "is_cut") (L_Room_write_group : MtC P w K mg base R "write_group" 6 ["self"] (spWGroup R B C)) :
    FnOk P w K mg base CX0 7 f fd ["self"] (spFlushR R B C) := by
  refine F.ok sc_Room_flush (fun vs H Q E h => ?_) (fun cdv A0 outer st H vs Q E hr h => ?_)
  · obtain ⟨G, A, wl, x, rfl, _⟩ := h
    rfl
  · obtain ⟨G, A, wl, x, rfl, gh, D, fit, k⟩ := h
    have nd := sc_Room_flush.nd
    have hu := hu_of hr
    refine ⟨_, (pss_cons (ps_while PassesOwn.never (pt_cmpR op_gt (pe_callB (call_len_seqK (K := K) rfl) (by rfl) T.b_len (by decide +kernel) (pa_cons (pe_fldK (K := K) rfl (pv 0) rfl) pa_nil)) pe_int (nomark _))
    (pss_one (ps_if (pt_not (pt_val (pe_mtc0 (pv 0) L_Room_write_group (hr.mono (by decide)))))
    (pss_one (ps_ret pe_bl))
    pss_nil)))
    (pss_one (ps_ret (pe_not (pe_fldK (K := K) rfl (pe_fldK (K := K) rfl (pe_fldK (K := K) rfl (pv 0) rfl) rfl) rfl))))), ?_⟩
    refine ⟨fun m σ H1 => ∃ (x1 : RS) (w1 : Addr) (G1 : Hp), σ = [some (.ref A.r)] ∧ m = x1.wts.length ∧ Stp (ROwn A wl) G H G1 H1 ∧ RoomAt R B C G1 H1 A w1 x1 ∧ (w1 = wl ∨ H w1 = none) ∧ RFit x1 ∧ RS.fl (x1.wts.length + 1) x1 = x.flush,
      ⟨_, x, wl, G, rfl, rfl, Stp.refl gh, D, .inl rfl, fit, rfl⟩, ?_⟩
    rintro m σ H1 ⟨x1, w1, G1, rfl, rfl, s1, D1, hw1, fit1, ef⟩
    obtain ⟨dx1, h11⟩ := id D1.ob
    obtain ⟨qs, h31, p31⟩ := id D1.wa
    have lqs := pd_len p31
    have estep : RS.fl (x1.wts.length + 1) x1 = if x1.wts = [] then (x1, !x1.d.cut) else if x1.wgroup.2 = true then RS.fl x1.wts.length x1.wgroup.1 else (x1.wgroup.1, false) := rfl
    rw [estep] at ef
    refine ⟨_, rfl, A.r, R, dx1, _, _, rfl, h11, T.cl, T.q4, rf_waits, A.q, _, rfl, .inl (SqL.of h31), _, _, rfl, rfl, _, rfl, if_dec (fun hgt => ?_) (fun hle => ?_)⟩
    · have hne : x1.wts ≠ [] := fun z => by
        rw [z] at lqs
        rw [lqs] at hgt
        exact absurd hgt (by show ¬ (0 : Int) < ((0 : Nat) : Int); decide)
      rw [if_neg hne] at ef
      refine ⟨fun σ' H' => ∃ m', m' < x1.wts.length ∧ _, fun σ' H' z => z, ?_⟩
      refine ⟨_, rfl, A.r, dx1, _, rfl, h11, rf_no (by decide +kernel) (by decide +kernel) (by decide +kernel) (by decide +kernel) (by decide +kernel), G1, A, w1, x1, rfl, s1.gh, D1, fit1, hne, fun w4 G4 H4 s4 D4 hw4 => ⟨_, rfl, ?_⟩⟩
      have s14 := s1.trans s4 fun a ha => ROwn.tr hw1 ha
      have nh4 : w4 = wl ∨ H w4 = none := by
        rcases hw4 with e | e
        · rw [e]; exact hw1
        · exact .inr (s1.fr e)
      refine if_nbool (fun hc => ?_) (fun hc => ?_)
      · rw [if_neg (by rw [hc]; exact Bool.false_ne_true)] at ef
        have z := k w4 G4 H4 s14 (by rw [← ef]; exact D4) nh4 (by rw [← ef]; exact fit1.wgroup)
        rw [← ef] at z
        exact z
      · rw [if_pos hc] at ef
        obtain ⟨t1, t2, t3⟩ := wgroup_true hne hc
        exact ⟨_, by omega, x1.wgroup.1, w4, G4, rfl, rfl, s14, D4, nh4, fit1.wgroup, by rw [t3]; exact ef⟩
    · have he : x1.wts = [] := by
        rw [lqs] at hle
        exact List.eq_nil_of_length_eq_zero (by omega)
      rw [if_pos he] at ef
      obtain ⟨dxb, h4⟩ := id D1.ba.ob
      obtain ⟨dxp, rlp, h6, _⟩ := id D1.dk.ob
      have z := k w1 G1 H1 s1 (by rw [← ef]; exact D1) hw1 (by rw [← ef]; exact fit1)
      rw [← ef] at z
      refine ⟨_, rfl, A.r, R, dx1, _, _, rfl, h11, T.cl, T.q1, rf_batches, A.b, B, dxb, _, _, rfl, h4, TB.1, TB.2, bf_disk, A.p, C, dxp, _, _, rfl, h6, TD.1, TD.2, df_cut, _, rfl, z⟩
/-- a room at its begin -/
def RS.begun (d : DS) (most : Int) (bs : List BRows) (e : Int) : RS :=
  { mem := [], wts := [], most := most, reads := 0, bs := ({ place := (newest d.read).1, epoch := (newest d.read).2.1, many := (newest d.read).2.2, pages := [], fin := 0 } : BS).opened bs e, d := d }
def spInitR (R B C : Addr) (RO : Rd → Prop) : Sp := fun vs H Q _ => ∃ (G : Hp) (r dx p s wl : Addr) (d : DS) (ms : Int) (bs : List BRows) (e : Int), vs = [.ref r, .ref p, .int ms] ∧ Same G H ∧ H r = some (.ins R dx []) ∧ G r = none ∧ DiskAt C G H p s wl d ∧ (∀ n, (d.read n).length = 16) ∧ RO d.read ∧
  LogIs d.read (newest d.read).2.1 0 bs e ∧ rowsSum bs ≤ 1000000 ∧
  ∀ b m q pg G' H', Stp (fun a => a = r) G H G' H' → RoomAt R B C G' H' ⟨r, b, m, q, p, pg, s⟩ wl (RS.begun d ms bs e) → H b = none → H m = none → H q = none → H pg = none → Q .non H'
abbrev s_Room_init : Stmt := inClass (top 20) 0
theorem sc_Room_init : FnScope ["self", "disk", "most"] ["self", "disk", "most"] (defScope s_Room_init) := ⟨rfl, rfl, rfl, by decide +kernel, rfl, by decide +kernel, by decide +kernel⟩
theorem ok_initR {RO : Rd → Prop} {f : Addr} {fd : FuncData} (F : Fun K "__init__" "Room.__init__" s_Room_init f fd) (T : TxR K mg R) (L_c_Batches : CsD P w K mg base "Batches" B 5 ["self", "disk", "bend"] [.non] (spInitB B C RO)) :
    FnOk P w K mg base CX0 7 f fd ["self", "disk", "most"] (spInitR R B C RO) := by
  refine F.ok sc_Room_init (fun vs H Q E h => ?_) (fun cdv A0 outer st H vs Q E hr h => ?_)
  · obtain ⟨G, r, dx, p, s, wl, d, ms, bs, e, rfl, _⟩ := h
    rfl
  · obtain ⟨G, r, dx, p, s, wl, d, ms, bs, e, rfl, gh, h1, gr, Dk, l16, hR, lg0, sz, k⟩ := h
    have nd := sc_Room_init.nd
    have hu := hu_of hr
    refine ⟨_, (pss_cons (ps_fldK (K := K) rfl (pv 0) (pe_mkd L_c_Batches (hr.mono (by decide)) rfl (pa_cons (pv 1) pa_nil)) rfl)
    (pss_cons (ps_fldK (K := K) rfl (pv 0) (pv 2) rfl)
    (pss_cons (ps_fldK (K := K) rfl (pv 0) (pe_lst pa_nil) rfl)
    (pss_cons (ps_fldK (K := K) rfl (pv 0) (pe_lst pa_nil) rfl)
    (pss_one (ps_fldK (K := K) rfl (pv 0) pe_int rfl)))))), ?_⟩
    refine ⟨_, rfl, fun b db nb ndb nbd => ?_⟩
    generalize e1 : upd H db _ = H1
    obtain ⟨s1, f1, k1, g1, z1⟩ := own_of (Stp.refl (O := fun a => a = r) gh) ndb e1
    have nb1 : H1 b = none := by rw [← e1, upd_ne nbd.symm]; exact nb
    generalize e2 : upd H1 b _ = H2
    obtain ⟨s2, f2, k2, g2, z2⟩ := own_of s1 nb1 e2
    have s02 : Stp O0 G H G H2 := (own_of (own_of (Stp.refl (O := O0) gh) ndb e1).1 nb1 e2).1
    have Dk2 := Dk.stp s02 fun _ _ z => z
    refine ⟨G, b, db, p, s, wl, d, bs, e, rfl, s2.gh, f2, g2, Dk2, l16, hR, lg0, sz, fun pg G3 H3 s3 B3 npg => ⟨rfl, ?_⟩⟩
    have s23 : Stp (fun a => a = r) G H G3 H3 := s2.trans s3 fun c hc => .inr (by rw [hc]; exact z2)
    have nbr : r ≠ b := ne_of_none h1 z2
    have h13 := s3.kp _ _ (k2 _ _ (k1 _ _ h1)) nbr
    have g3r := s3.nw r (ne_none (k2 _ _ (k1 _ _ h1))) gr
    have npgr : r ≠ pg := ne_of_none (k2 _ _ (k1 _ _ h1)) npg
    have z3 : H pg = none := s2.fr npg
    have npb : pg ≠ b := B3.bp.symm
    have sep : ∀ a, DOwn p s wl a → ¬ BOwn b pg a := fun a ha hb => by
      obtain ⟨dxp, rlp, hp, _⟩ := Dk.ob
      obtain ⟨kvp, hs, _⟩ := Dk.sec
      obtain ⟨wsp, hw, _⟩ := Dk.wai
      rcases hb with hb | hb <;> subst hb <;> rcases ha with z | z | z
      · rw [z, hp] at z2; cases z2
      · rw [z, hs] at z2; cases z2
      · rw [z, hw] at z2; cases z2
      · rw [z, hp] at z3; cases z3
      · rw [z, hs] at z3; cases z3
      · rw [z, hw] at z3; cases z3
    have Dk3 := Dk2.stp s3 fun a ha z => sep a ha (.inl z)
    refine ⟨_, rfl, r, R, dx, _, rfl, h13, T.cl, T.q1, (by show 0 < 1000; decide), ?_⟩
    rw [rf_i0]
    generalize e4 : upd H3 r _ = H4
    obtain ⟨s4, f4, k4⟩ := wr_of s23 h13 g3r (.inl rfl) e4
    refine ⟨_, rfl, _, rfl, r, R, dx, _, rfl, f4, T.cl, T.q2, (by show 1 < 1000; decide), ?_⟩
    rw [rf_i1]
    generalize e5 : upd H4 r _ = H5
    obtain ⟨s5, f5, k5⟩ := wr_of s4 f4 g3r (.inl rfl) e5
    refine ⟨(by show 0 ≤ sizeLine; decide), fun m nm => ?_⟩
    generalize e6 : upd H5 m _ = H6
    obtain ⟨s6, f6, k6, g6, z6⟩ := own_of s5 nm e6
    refine ⟨_, rfl, r, R, dx, _, rfl, k6 _ _ f5, T.cl, T.q3, (by show 2 < 1000; decide), ?_⟩
    rw [rf_i2]
    generalize e7 : upd H6 r _ = H7
    obtain ⟨s7, f7, k7⟩ := wr_of s6 (k6 _ _ f5) g3r (.inl rfl) e7
    refine ⟨(by show 0 ≤ sizeLine; decide), fun q nq => ?_⟩
    generalize e8 : upd H7 q _ = H8
    obtain ⟨s8, f8, k8, g8, z8⟩ := own_of s7 nq e8
    refine ⟨_, rfl, r, R, dx, _, rfl, k8 _ _ f7, T.cl, T.q4, (by show 3 < 1000; decide), ?_⟩
    rw [rf_i3]
    generalize e9 : upd H8 r _ = H9
    obtain ⟨s9, f9, k9⟩ := wr_of s8 (k8 _ _ f7) g3r (.inl rfl) e9
    refine ⟨_, rfl, r, R, dx, _, rfl, f9, T.cl, T.q5, (by show 4 < 1000; decide), ?_⟩
    rw [rf_i4]
    generalize e10 : upd H9 r _ = H10
    obtain ⟨s10, f10, k10⟩ := wr_of s9 f9 g3r (.inl rfl) e10
    have nmr : m ≠ r := (ne_of_none f5 nm).symm
    have nqr : q ≠ r := (ne_of_none f7 nq).symm
    have fm7 := k7 _ _ nmr f6
    have nmq : m ≠ q := ne_of_none fm7 nq
    have kk : ∀ {a : Addr} {o : HO}, H3 a = some o → a ≠ r → H10 a = some o := fun ha hn => k10 _ _ hn (k9 _ _ hn (k8 _ _ (k7 _ _ hn (k6 _ _ (k5 _ _ hn (k4 _ _ hn ha))))))
    have nwr : wl ≠ r := by
      obtain ⟨wsp, hw, _⟩ := Dk.wai
      exact ne_of hw h1 fun z => nomatch z
    obtain ⟨dxb, hb3⟩ := id B3.ob
    obtain ⟨kvb, hpg3, rpg3⟩ := id B3.pa
    obtain ⟨dxp, rlp, hp3, rp3⟩ := id Dk3.ob
    obtain ⟨kvs, hs3, rs3⟩ := id Dk3.sec
    obtain ⟨wsp, hw3, rw3⟩ := id Dk3.wai
    have npr : p ≠ r := by
      obtain ⟨dxp, rlp, hp, _⟩ := Dk.ob
      exact ne_of hp h1 fun z => by cases z
    have nsr : s ≠ r := by
      obtain ⟨kvp, hs, _⟩ := Dk.sec
      exact ne_of hs h1 fun z => nomatch z
    have D10 : RoomAt R B C G3 H10 ⟨r, b, m, q, p, pg, s⟩ wl (RS.begun d ms bs e) := {
      ob := ⟨dx, f10⟩
      me := ⟨[], k10 _ _ nmr (k9 _ _ nmr (k8 _ _ fm7)), .nil⟩
      wa := ⟨[], k10 _ _ nqr (k9 _ _ nqr f8), .nil⟩
      ba := ⟨⟨dxb, kk hb3 nbr.symm⟩, ⟨kvb, kk hpg3 npgr.symm, rpg3⟩, B3.gb, B3.gp⟩
      dk := ⟨⟨dxp, rlp, kk hp3 npr, rp3⟩, ⟨kvs, kk hs3 nsr, rs3⟩, ⟨wsp, kk hw3 nwr, rw3⟩, Dk3.gp, Dk3.gs, Dk3.gw⟩
      sep := sep
      gr := g3r
      gm := g6
      gq := g8
      nmw := fun (z : m = wl) => by
        obtain ⟨ws0, hw0, _⟩ := Dk.wai
        have z6' : H m = none := z6
        rw [z, hw0] at z6'
        cases z6'
      nqw := fun (z : q = wl) => by
        obtain ⟨ws0, hw0, _⟩ := Dk.wai
        have z8' : H q = none := z8
        rw [z, hw0] at z8'
        cases z8'
      nmq := nmq
      nrb := nbr
      nrp := npr.symm }
    exact k b m q pg G3 H10 s10 D10 z2 z6 z8 z3
end
end K51

/-! KDM: a commit upon a disk that may be cut: all of it or nothing. -/
namespace K51
open Y
def W (sec : List (Int × Sec)) (n : Int) : Sec := (look sec n).getD blank
theorem look_cons'' {β : Type} (y : Int × β) (mem : List (Int × β)) (n : Int) : look (y :: mem) n = if y.1 = n then some y.2 else look mem n := look_cons' y mem n
theorem look_map_put {β : Type} (k : Int) (x : β) (m : Int) : ∀ ds : List (Int × β), look (ds.map fun p => if p.1 = k then (p.1, x) else p) m = if m = k then (if ds.any (fun p => decide (p.1 = k)) then some x else none) else look ds m
  | [] => by
    by_cases h : m = k
    · rw [if_pos h]; rfl
    · rw [if_neg h]; rfl
  | y :: ds => by
    rw [List.map_cons, look_cons'', look_map_put k x m ds, look_cons'', List.any_cons]
    by_cases hy : y.1 = k
    · rw [if_pos hy, decide_eq_true hy, Bool.true_or]
      show (if y.1 = m then some x else _) = _
      by_cases hm : m = k
      · rw [if_pos (hy.trans hm.symm), if_pos hm]; rfl
      · rw [if_neg fun z => hm (z.symm.trans hy), if_neg hm, if_neg hm, if_neg fun z => hm (z.symm.trans hy)]
    · rw [if_neg hy, decide_eq_false hy, Bool.false_or]
      by_cases hm : m = k
      · rw [if_neg fun z => hy (z.trans hm), if_pos hm, if_pos hm]
      · rw [if_neg hm, if_neg hm]
theorem look_snoc {β : Type} (k : Int) (x : β) (m : Int) : ∀ ds : List (Int × β), ds.any (fun p => decide (p.1 = k)) = false → look (ds ++ [(k, x)]) m = if m = k then some x else look ds m
  | [], _ => by
    rw [List.nil_append, look_cons'']
    by_cases h : m = k
    · rw [if_pos h, if_pos h.symm]
    · rw [if_neg h, if_neg fun z => h z.symm]
  | y :: ds, h => by
    rw [List.any_cons, Bool.or_eq_false_iff] at h
    rw [List.cons_append, look_cons'', look_snoc k x m ds h.2, look_cons'']
    have hy := of_decide_eq_false h.1
    by_cases hm : m = k
    · rw [if_pos hm, if_neg (fun z => hy (z.trans hm)), if_pos hm]
    · rw [if_neg hm, if_neg hm]
theorem look_put {β : Type} (ds : List (Int × β)) (k : Int) (x : β) (m : Int) : look (put ds k x) m = if m = k then some x else look ds m := by
  unfold put
  cases h : ds.any (fun p => decide (p.1 = k)) with
  | true =>
    show look (ds.map _) m = _
    rw [look_map_put, h]
    rfl
  | false => exact look_snoc k x m ds h
theorem W_put (sec : List (Int × Sec)) (n : Int) (x : Sec) (m : Int) : W (put sec n x) m = if m = n then x else W sec m := by
  unfold W
  rw [look_put]
  by_cases h : m = n
  · rw [if_pos h, if_pos h]; rfl
  · rw [if_neg h, if_neg h]
theorem W_syn : ∀ (wai sec : List (Int × Sec)) (m : Int), W (synS sec wai) m = lastOf wai m (W sec m)
  | [], _, _ => rfl
  | x :: wai, sec, m => by
    have e1 : synS sec (x :: wai) = synS (put sec x.1 x.2) wai := rfl
    have e2 : lastOf (x :: wai) m (W sec m) = lastOf wai m (if x.1 = m then x.2 else W sec m) := rfl
    rw [e1, e2, W_syn wai, W_put]
    by_cases h : m = x.1
    · rw [if_pos h, if_pos h.symm]
    · rw [if_neg h, if_neg fun z => h z.symm]
def Safe (e : Int) (base f : Rd) : Prop := ∀ n, f n = base n ∨ ∃ k, e ≤ k ∧ n = lg k ∧ (f n).getD 0 0 ≠ 1
def OkW (e : Int) (x : Int × Sec) : Prop := x.2.length = 16 ∧ x.2.getD 0 0 ≠ 1 ∧ ∃ k, e ≤ k ∧ x.1 = lg k
theorem lastOf_or : ∀ (wai : List (Int × Sec)) (n : Int) (x : Sec), lastOf wai n x = x ∨ ∃ y ∈ wai, y.1 = n ∧ lastOf wai n x = y.2
  | [], _, _ => .inl rfl
  | y :: wai, n, x => by
    have e : lastOf (y :: wai) n x = lastOf wai n (if y.1 = n then y.2 else x) := rfl
    rw [e]
    rcases lastOf_or wai n (if y.1 = n then y.2 else x) with h | ⟨z, hz, h1, h2⟩
    · by_cases hy : y.1 = n
      · rw [if_pos hy] at h ⊢
        exact .inr ⟨y, List.mem_cons_self, hy, h⟩
      · rw [if_neg hy] at h ⊢
        exact .inl h
    · exact .inr ⟨z, List.mem_cons_of_mem _ hz, h1, h2⟩
theorem torn_W (wai sec : List (Int × Sec)) (r : (Int × Int) × Int) (m : Int) : W (torn wai sec r) m = W sec m ∨ (m = r.2 ∧ ∃ x ∈ wai, x.1 = m ∧ W (torn wai sec r) m = x.2.take (clip r.1.2) ++ (W sec m).drop (clip r.1.2)) := by
  unfold torn
  split
  · rename_i h
    rw [W_put]
    by_cases hm : m = r.2
    · rw [if_pos hm]
      refine .inr ⟨hm, ?_⟩
      have hj : r.1.1.toNat < (ofN wai r.2).length := by omega
      have hmem : (ofN wai r.2).getD r.1.1.toNat [] ∈ ofN wai r.2 := by
        rw [List.getD_eq_getElem?_getD, List.getElem?_eq_getElem hj, Option.getD_some]
        exact List.getElem_mem hj
      obtain ⟨x, hx, ex⟩ := List.mem_map.mp hmem
      obtain ⟨hx1, hx2⟩ := List.mem_filter.mp hx
      refine ⟨x, hx1, (of_decide_eq_true hx2).trans hm.symm, ?_⟩
      rw [ex, hm]
      rfl
    · rw [if_neg hm]
      exact .inl rfl
  · exact .inl rfl
theorem getD_take {w o : Sec} {c : Nat} (hw : w.length = 16) : (w.take c ++ o.drop c).getD 0 0 = if c = 0 then o.getD 0 0 else w.getD 0 0 := by
  cases c with
  | zero => simp
  | succ c =>
    rw [if_neg (by omega)]
    cases w with
    | nil => cases hw
    | cons a w => rfl
theorem torn_safe {e : Int} {base : Rd} {wai sec : List (Int × Sec)} (hw : ∀ x ∈ wai, OkW e x) (h : Safe e base (W sec)) (r : (Int × Int) × Int) : Safe e base (W (torn wai sec r)) := fun n => by
  rcases torn_W wai sec r n with q | ⟨_, x, hx, hn, q⟩
  · rw [q]
    exact h n
  · obtain ⟨h16, h0, k, hk, ek⟩ := hw x hx
    by_cases hc : clip r.1.2 = 0
    · rw [hc] at q
      have e2 : x.2.take 0 ++ (W sec n).drop 0 = W sec n := rfl
      rw [e2] at q
      rw [q]
      exact h n
    · refine .inr ⟨k, hk, hn.symm.trans ek, ?_⟩
      rw [q, getD_take h16, if_neg hc]
      exact h0
theorem crashed_safe {e : Int} {base : Rd} {wai : List (Int × Sec)} (hw : ∀ x ∈ wai, OkW e x) : ∀ (rs : List ((Int × Int) × Int)) (sec : List (Int × Sec)), Safe e base (W sec) → Safe e base (W (rs.foldl (torn wai) sec))
  | [], _, h => h
  | r :: rs, sec, h => crashed_safe hw rs _ (torn_safe hw h r)
/-- one count: cut off here, or nothing happens -/
theorem counts_run {e : Int} {base : Rd} {d : DS} (hc : d.cut = false) (hs : Safe e base (W d.sec)) (hw : ∀ x ∈ d.wai, OkW e x) :
    (d.counts.cut = true ∧ Safe e base (W d.counts.sec)) ∨ (d.counts.cut = false ∧ d.counts.sec = d.sec ∧ d.counts.wai = d.wai) := by
  unfold DS.counts
  split
  · exact .inr ⟨hc, rfl, rfl⟩
  · rw [if_neg (by rw [hc]; exact Bool.false_ne_true)]
    split
    · exact .inl ⟨rfl, crashed_safe hw _ _ hs⟩
    · exact .inr ⟨hc, rfl, rfl⟩
theorem writes_run {e : Int} {base : Rd} : ∀ (l : List (Int × Sec)) {d : DS}, d.cut = false → Safe e base (W d.sec) → (∀ x ∈ d.wai, OkW e x) → (∀ x ∈ l, OkW e x) →
    ((d.writes l).cut = true ∧ Safe e base (W (d.writes l).sec)) ∨ ((d.writes l).cut = false ∧ (d.writes l).sec = d.sec ∧ (d.writes l).wai = d.wai ++ l)
  | [], d, hc, hs, hw, _ => .inr ⟨hc, rfl, (List.append_nil _).symm⟩
  | x :: l, d, hc, hs, hw, hl => by
    have e0 : d.writes (x :: l) = (d.write x.1 x.2).writes l := rfl
    rw [e0]
    rcases counts_run hc hs hw with ⟨c1, c2⟩ | ⟨c1, c2, c3⟩
    · have ew : d.write x.1 x.2 = d.counts := if_pos c1
      rw [ew, writes_cut l c1]
      exact .inl ⟨c1, c2⟩
    · have ew : d.write x.1 x.2 = { d.counts with wai := d.counts.wai ++ [(x.1, x.2)] } := if_neg (by rw [c1]; exact Bool.false_ne_true)
      rw [ew]
      rcases writes_run l (d := { d.counts with wai := d.counts.wai ++ [(x.1, x.2)] }) c1 (by rw [c2]; exact hs) (by
        intro y hy
        have hy : y ∈ d.counts.wai ++ [(x.1, x.2)] := hy
        rw [c3] at hy
        rcases List.mem_append.mp hy with hy | hy
        · exact hw y hy
        · rw [List.mem_singleton] at hy
          subst hy
          exact hl x List.mem_cons_self) (fun y hy => hl y (List.mem_cons_of_mem _ hy)) with q | ⟨q1, q2, q3⟩
      · exact .inl q
      · refine .inr ⟨q1, q2.trans c2, ?_⟩
        rw [q3]
        show (d.counts.wai ++ [(x.1, x.2)]) ++ l = _
        rw [c3, List.append_assoc]
        rfl
theorem sync_run {e : Int} {base : Rd} {d : DS} (hc : d.cut = false) (hs : Safe e base (W d.sec)) (hw : ∀ x ∈ d.wai, OkW e x) :
    (d.sync.cut = true ∧ Safe e base (W d.sync.sec)) ∨ (d.sync.cut = false ∧ d.sync.sec = synS d.sec d.wai ∧ d.sync.wai = []) := by
  rcases counts_run hc hs hw with ⟨c1, c2⟩ | ⟨c1, c2, c3⟩
  · have e : d.sync = d.counts := if_pos c1
    rw [e]
    exact .inl ⟨c1, c2⟩
  · have e : d.sync = { d.counts with sec := synS d.counts.sec d.counts.wai, wai := [] } := if_neg (by rw [c1]; exact Bool.false_ne_true)
    rw [e]
    refine .inr ⟨c1, ?_, rfl⟩
    show synS d.counts.sec d.counts.wai = _
    rw [c2, c3]
/-- what stands in the log behind the first sync of a commit, and behind the last -/
def lay0 (e : Int) (c : List Int) (base : Rd) : Rd := fun n => lastOf (logW e c) n (base n)
def lay1 (e : Int) (c : List Int) (base : Rd) : Rd := fun n => if n = lg e then mark (part c 0) else lay0 e c base n
theorem part_head (c : List Int) (i : Nat) : (part c i).getD 0 0 = 0 := rfl
theorem logW_ok (e : Int) (c : List Int) : ∀ x ∈ logW e c, OkW e x := fun x hx => by
  obtain ⟨i, _, rfl⟩ := List.mem_map.mp hx
  exact ⟨part_len _ _, by rw [part_head]; decide, e + i, by omega, rfl⟩
theorem lay0_safe (e : Int) (c : List Int) (base : Rd) : Safe e base (lay0 e c base) := fun n => by
  unfold lay0
  rcases lastOf_or (logW e c) n (base n) with h | ⟨y, hy, h1, h2⟩
  · exact .inl h
  · obtain ⟨_, h0, k, hk, ek⟩ := logW_ok e c y hy
    exact .inr ⟨k, hk, h1.symm.trans ek, by rw [h2]; exact h0⟩
theorem lay0_at {e : Int} {c : List Int} {base : Rd} {i : Nat} (h : i < parts c) : lay0 e c base (lg (e + i)) = part c i := by
  have key : ∀ m : Nat, i < m → lastOf ((List.range m).map fun j : Nat => (lg (e + j), part c j)) (lg (e + i)) (base (lg (e + i))) = part c i := fun m => by
    induction m with
    | zero => intro h; omega
    | succ m ih =>
      intro hm
      rw [List.range_succ, List.map_append]
      unfold lastOf
      rw [List.foldl_append]
      show (if lg (e + m) = lg (e + i) then part c m else _) = _
      by_cases hi : i = m
      · subst hi
        rw [if_pos rfl]
      · rw [if_neg (by unfold lg; omega)]
        exact ih (by omega)
  exact key _ h
theorem lay0_off {e : Int} {c : List Int} {base : Rd} {n : Int} (h : ∀ i : Nat, i < parts c → n ≠ lg (e + i)) : lay0 e c base n = base n := by
  unfold lay0
  rcases lastOf_or (logW e c) n (base n) with q | ⟨y, hy, h1, _⟩
  · exact q
  · obtain ⟨i, hi, rfl⟩ := List.mem_map.mp hy
    exact absurd h1.symm (h i (List.mem_range.mp hi))
/-- a commit of a disk that stands: cut off with nothing of it, cut off with all of it, or done -/
theorem commit_run {d : DS} (hc : d.cut = false) (w0 : d.wai = []) (ep e : Int) (rows : BRows) :
    ((d.commit ep e rows).cut = true ∧ Safe e (W d.sec) (W (d.commit ep e rows).sec)) ∨ (∀ n, W (d.commit ep e rows).sec n = lay1 e (contOf ep rows) (W d.sec) n) := by
  show ((DS.sync _).cut = true ∧ _) ∨ _
  generalize hcs : contOf ep rows = c
  have e0 : d.commit ep e rows = ((d.writes (logW e c)).sync.write (lg e) (mark (part c 0))).sync := by rw [← hcs]; rfl
  rw [e0]
  have base0 : Safe e (W d.sec) (W d.sec) := fun n => .inl rfl
  rcases writes_run (logW e c) hc base0 (by rw [w0]; intro x hx; cases hx) (logW_ok e c) with ⟨a1, a2⟩ | ⟨a1, a2, a3⟩
  · rw [sync_cut a1, write_cut a1, sync_cut a1]
    exact .inl ⟨a1, a2⟩
  rw [w0, List.nil_append] at a3
  rcases sync_run (e := e) (base := W d.sec) a1 (by rw [a2]; exact base0) (by rw [a3]; exact logW_ok e c) with ⟨b1, b2⟩ | ⟨b1, b2, b3⟩
  · rw [write_cut b1, sync_cut b1]
    exact .inl ⟨b1, b2⟩
  rw [a2, a3] at b2
  generalize hd2 : (d.writes (logW e c)).sync = d2 at *
  have hW2 : ∀ n, W d2.sec n = lay0 e c (W d.sec) n := fun n => by rw [b2, W_syn]; rfl
  have s2 : Safe e (W d.sec) (W d2.sec) := fun n => by rw [hW2]; exact lay0_safe e c (W d.sec) n
  rcases counts_run (e := e) (base := W d.sec) b1 s2 (by rw [b3]; intro x hx; cases hx) with ⟨c1, c2⟩ | ⟨c1, c2, c3⟩
  · have ew : d2.write (lg e) (mark (part c 0)) = d2.counts := if_pos c1
    rw [ew, sync_cut c1]
    exact .inl ⟨c1, c2⟩
  have ew : d2.write (lg e) (mark (part c 0)) = { d2.counts with wai := d2.counts.wai ++ [(lg e, mark (part c 0))] } := if_neg (by rw [c1]; exact Bool.false_ne_true)
  rw [c3, b3, List.nil_append] at ew
  generalize hd3 : d2.write (lg e) (mark (part c 0)) = d3 at *
  have h3c : d3.cut = false := by rw [ew]; exact c1
  have h3s : d3.sec = d2.sec := by rw [ew]; exact c2
  have h3w : d3.wai = [(lg e, mark (part c 0))] := by rw [ew]
  have l1 : 0 < parts c ∨ parts c = 0 := by omega
  -- the last count
  have last : (d3.counts.cut = true ∧ ((∀ n, W d3.counts.sec n = W d2.sec n) ∨ ∀ n, W d3.counts.sec n = lay1 e c (W d.sec) n)) ∨ (d3.counts.cut = false ∧ d3.counts.sec = d3.sec ∧ d3.counts.wai = d3.wai) := by
    have hl : 0 < parts c := by
      have : 8 ≤ c.length := by
        rw [← hcs]
        unfold contOf
        rw [List.length_append, List.length_append]
        show 8 ≤ 4 + 4 + _
        omega
      unfold parts
      omega
    have h2e : W d2.sec (lg e) = part c 0 := by
      rw [hW2]
      have := lay0_at (e := e) (c := c) (base := W d.sec) (i := 0) hl
      rw [show e + ((0 : Nat) : Int) = e by omega] at this
      exact this
    unfold DS.counts
    split
    · exact .inr ⟨h3c, rfl, rfl⟩
    · rw [if_neg (by rw [h3c]; exact Bool.false_ne_true)]
      split
      · refine .inl ⟨rfl, ?_⟩
        show (∀ n, W (crashed d3.sec d3.wai d3.rows) n = W d2.sec n) ∨ ∀ n, W (crashed d3.sec d3.wai d3.rows) n = _
        have en : nums (d3.wai.map (·.1)) = [lg e] := by
          rw [h3w]
          exact nums_asc (List.pairwise_singleton _ _)
        unfold crashed
        rw [en, h3s]
        cases d3.rows with
        | nil => exact .inl fun n => rfl
        | cons r rows' =>
          have ez : (r :: rows').zip [lg e] = [(r, lg e)] := by
            show (r, lg e) :: rows'.zip [] = _
            rw [List.zip_nil_right]
          rw [ez]
          show (∀ n, W (torn d3.wai d2.sec (r, lg e)) n = W d2.sec n) ∨ ∀ n, W (torn d3.wai d2.sec (r, lg e)) n = lay1 e c (W d.sec) n
          have off : ∀ n, n ≠ lg e → W (torn d3.wai d2.sec (r, lg e)) n = W d2.sec n := fun n hn => by
            rcases torn_W d3.wai d2.sec (r, lg e) n with q | ⟨q, _⟩
            · exact q
            · exact absurd q hn
          rcases torn_W d3.wai d2.sec (r, lg e) (lg e) with q | ⟨_, x, hx, _, q⟩
          · refine .inl fun n => ?_
            by_cases hn : n = lg e
            · rw [hn]; exact q
            · exact off n hn
          · rw [h3w, List.mem_singleton] at hx
            rw [hx, h2e] at q
            by_cases hz : clip r.2 = 0
            · refine .inl fun n => ?_
              by_cases hn : n = lg e
              · rw [hn, q, h2e]
                show (mark (part c 0)).take (clip r.2) ++ (part c 0).drop (clip r.2) = _
                rw [hz]
                rfl
              · exact off n hn
            · refine .inr fun n => ?_
              unfold lay1
              by_cases hn : n = lg e
              · rw [if_pos hn, hn, q]
                show (mark (part c 0)).take (clip r.2) ++ (part c 0).drop (clip r.2) = _
                obtain ⟨k, hk⟩ : ∃ k, clip r.2 = k + 1 := ⟨clip r.2 - 1, by omega⟩
                rw [hk]
                show 1 :: (((part c 0).drop 1).take k ++ ((part c 0).drop 1).drop k) = _
                rw [List.take_append_drop]
                rfl
              · rw [if_neg hn, off n hn]
                exact hW2 n
      · exact .inr ⟨h3c, rfl, rfl⟩
  rcases last with ⟨q1, q2⟩ | ⟨q1, q2, q3⟩
  · have es : d3.sync = d3.counts := if_pos q1
    rw [es]
    rcases q2 with q2 | q2
    · refine .inl ⟨q1, fun n => ?_⟩
      rw [q2]
      exact s2 n
    · exact .inr q2
  · have es : d3.sync = { d3.counts with sec := synS d3.counts.sec d3.counts.wai, wai := [] } := if_neg (by rw [q1]; exact Bool.false_ne_true)
    rw [es]
    refine .inr fun n => ?_
    show W (synS d3.counts.sec d3.counts.wai) n = _
    rw [q2, q3, h3w, W_syn, h3s, hW2]
    unfold lay1
    show (if lg e = n then _ else _) = _
    by_cases hn : n = lg e
    · rw [if_pos hn, if_pos hn.symm]
    · rw [if_neg hn, if_neg fun z => hn z.symm]
end K51

/-! KEM: the log behind a commit; a disk that is found again. -/
namespace K51
open Y
theorem strm_congr {f g : Rd} {p : Int} : ∀ {m : Nat}, (∀ i : Nat, i < m → f (lg (p + i)) = g (lg (p + i))) → strm f p m = strm g p m
  | 0, _ => rfl
  | m + 1, h => by rw [strm_succ, strm_succ, strm_congr (m := m) (fun i hi => h i (by omega)), h m (by omega)]
theorem secs_pos (k : Nat) : 1 ≤ secs k := by unfold secs; omega
theorem batchAt_congr {f g : Rd} {p ep : Int} {b : BRows} {s : Int} (h : batchAt f p ep = some (b, s)) (e : ∀ i : Nat, (i : Int) < s → f (lg (p + i)) = g (lg (p + i))) : batchAt g p ep = some (b, s) ∧ 1 ≤ s ∧ (CntOk f p ep → CntOk g p ep) := by
  unfold batchAt at h
  by_cases hd : headOk f p ep
  · rw [if_pos hd] at h
    by_cases hr : rising (browsN f p (cnt f p))
    · rw [if_pos hr] at h
      have h := Option.some.inj h
      have hb : browsN f p (cnt f p) = b := congrArg Prod.fst h
      have hs : ((secs (cnt f p) : Nat) : Int) = s := congrArg Prod.snd h
      have sp := secs_pos (cnt f p)
      have e0 : f (lg p) = g (lg p) := by
        have := e 0 (by omega)
        rw [show p + ((0 : Nat) : Int) = p by omega] at this
        exact this
      have hd' : headOk g p ep := by unfold headOk at hd ⊢; rw [← e0]; exact hd
      have hc : cnt g p = cnt f p := by unfold cnt; rw [e0]
      have hbr : browsN g p (cnt g p) = b := by
        rw [hc, ← hb]
        unfold browsN
        apply List.map_congr_left
        intro k hk
        have hk := List.mem_range.mp hk
        have hle : secs (k + 1) ≤ secs (cnt f p) := secs_le (by omega)
        unfold brow
        rw [strm_congr (f := g) (g := f) (p := p) (m := secs (k + 1)) fun i hi => (e i (by omega)).symm]
      refine ⟨?_, by omega, fun z _ => ?_⟩
      · unfold batchAt
        rw [if_pos hd', hbr, if_pos (by rw [← hb]; exact hr), hc, hs]
      · rw [← e0]
        exact z hd
    · rw [if_neg hr] at h; cases h
  · rw [if_neg hd] at h; cases h
theorem LogIs.le {f : Rd} {ep p e : Int} {bs : List BRows} (h : LogIs f ep p bs e) : p ≤ e := by
  induction h with
  | nil _ _ => omega
  | cons hb _ _ ih =>
    have := (batchAt_congr hb fun _ _ => rfl).2.1
    omega
theorem no_head {g : Rd} {e ep : Int} (h : (g (lg e)).getD 0 0 ≠ 1) : batchAt g e ep = none ∧ CntOk g e ep :=
  ⟨by unfold batchAt; rw [if_neg fun z => h z.1], fun z => absurd z.1 h⟩
theorem LogIs.congr {f g : Rd} {ep p e : Int} {bs : List BRows} (h : LogIs f ep p bs e) (eq : ∀ k, p ≤ k → k < e → f (lg k) = g (lg k)) (hn : (g (lg e)).getD 0 0 ≠ 1) : LogIs g ep p bs e := by
  induction h with
  | nil _ _ => exact .nil (no_head hn).1 (no_head hn).2
  | cons hb hc hl ih =>
    rename_i p e b s bs
    have hle := LogIs.le hl
    obtain ⟨h1, h2, h3⟩ := batchAt_congr hb fun i hi => eq (p + i) (by omega) (by omega)
    exact .cons h1 (h3 hc) (ih (fun k h4 h5 => eq k (by omega) h5) hn)
theorem LogIs.snoc {f g : Rd} {ep p e e' : Int} {bs : List BRows} {b : BRows} (h : LogIs f ep p bs e) (eq : ∀ k, p ≤ k → k < e → f (lg k) = g (lg k)) (hb : batchAt g e ep = some (b, e' - e)) (hc : CntOk g e ep) (hn : (g (lg e')).getD 0 0 ≠ 1) : LogIs g ep p (bs ++ [b]) e' := by
  induction h with
  | nil _ _ =>
    refine .cons hb hc ?_
    have q : ∀ z : Int, z + (e' - z) = e' := fun z => by omega
    rw [q]
    exact .nil (no_head hn).1 (no_head hn).2
  | cons hb' hc' hl ih =>
    rename_i p e b' s bs
    have hle := LogIs.le hl
    obtain ⟨h1, h2, h3⟩ := batchAt_congr hb' fun i hi => eq (p + i) (by omega) (by omega)
    exact .cons h1 (h3 hc') (ih (fun k h4 h5 => eq k (by omega) h5) hb hc)
/-- a log of batches, from epoch 0, on a disk without roots and without home pages -/
structure LogOk (f : Rd) (bs : List BRows) (e : Int) : Prop where
  log : LogIs f 0 0 bs e
  bey : ∀ k, e ≤ k → (f (lg k)).getD 0 0 ≠ 1
  home : ∀ n, (∀ k : Int, 0 ≤ k → n ≠ lg k) → f n = blank
theorem LogOk.pos {f : Rd} {bs : List BRows} {e : Int} (h : LogOk f bs e) : 0 ≤ e := h.log.le
theorem LogOk.safe {f g : Rd} {bs : List BRows} {e : Int} (h : LogOk f bs e) (s : Safe e f g) : LogOk g bs e := by
  have hb : ∀ k, e ≤ k → (g (lg k)).getD 0 0 ≠ 1 := fun k hk => by
    rcases s (lg k) with q | ⟨_, _, _, q⟩
    · rw [q]; exact h.bey k hk
    · exact q
  refine ⟨h.log.congr (fun k h1 h2 => ?_) (hb e (Int.le_refl _)), hb, fun n hn => ?_⟩
  · rcases s (lg k) with q | ⟨k', hk', q, _⟩
    · exact q.symm
    · unfold lg at q
      omega
  · rcases s n with q | ⟨k', hk', q, _⟩
    · rw [q]; exact h.home n hn
    · exact absurd q (hn k' (by have := h.pos; omega))
/-- a batch that fits: its rows rise, their numbers fit into four octets, their pages have 64 -/
structure BFit (rows : BRows) : Prop where
  h64 : ∀ r ∈ rows, r.2.length = 64
  hn : ∀ r ∈ rows, 0 ≤ r.1 ∧ r.1 < 4294967296
  up : rising rows
  few : rows.length ≤ 12
theorem lg_inj {a b : Int} (h : lg a = lg b) : a = b := by unfold lg at h; omega
theorem LogOk.done {f g : Rd} {bs : List BRows} {e : Int} (h : LogOk f bs e) {rows : BRows} (hr : BFit rows) (s : ∀ n, g n = lay1 e (contOf 0 rows) f n) : LogOk g (bs ++ [rows]) (e + (parts (contOf 0 rows) : Nat)) := by
  have lp : 0 < parts (contOf 0 rows) := by
    have := cont_len' (e := 0) hr.h64
    unfold parts
    omega
  have off : ∀ n, (∀ i : Nat, i < parts (contOf 0 rows) → n ≠ lg (e + i)) → g n = f n := fun n hn => by
    rw [s]
    unfold lay1
    rw [if_neg, lay0_off hn]
    have := hn 0 lp
    rw [show e + ((0 : Nat) : Int) = e by omega] at this
    exact this
  have g0 : g (lg e) = mark (part (contOf 0 rows) 0) := by
    rw [s]
    unfold lay1
    rw [if_pos rfl]
  have gi : ∀ i : Nat, 0 < i → i < parts (contOf 0 rows) → g (lg (e + i)) = part (contOf 0 rows) i := fun i h1 h2 => by
    rw [s]
    unfold lay1
    rw [if_neg (by unfold lg; omega), lay0_at h2]
  obtain ⟨b1, b2⟩ := batch_back (ep := 0) hr.h64 hr.hn hr.up (by have := hr.few; omega) (by decide) g0 gi
  have hb : ∀ k, e + (parts (contOf 0 rows) : Nat) ≤ k → (g (lg k)).getD 0 0 ≠ 1 := fun k hk => by
    rw [off (lg k) fun i hi z => by have := lg_inj z; omega]
    exact h.bey k (by omega)
  refine ⟨h.log.snoc (fun k h1 h2 => (off (lg k) fun i hi z => by have := lg_inj z; omega).symm) (by rw [b1]; congr 2; omega) b2 (hb _ (Int.le_refl _)), hb, fun n hn => ?_⟩
  rw [off n fun i hi => hn _ (by have := h.pos; omega)]
  exact h.home n hn
theorem LogOk.commit {d : DS} {bs : List BRows} {e : Int} (h : LogOk (W d.sec) bs e) (hc : d.cut = false) (w0 : d.wai = []) {rows : BRows} (hr : BFit rows) :
    ((d.commit 0 e rows).cut = true ∧ LogOk (W (d.commit 0 e rows).sec) bs e) ∨ LogOk (W (d.commit 0 e rows).sec) (bs ++ [rows]) (e + (parts (contOf 0 rows) : Nat)) := by
  rcases commit_run hc w0 0 e rows with ⟨a, b⟩ | b
  · exact .inl ⟨a, h.safe b⟩
  · exact .inr (h.done hr b)
/-! ### a disk that is found again -/
theorem W_told (sec : List (Int × Sec)) (hnd : (sec.map (·.1)).Nodup) (n : Int) : W (ofRows (told sec)) n = W sec n := by
  have h := told_nodup sec
  have e : ofRows (told sec) = told sec := by
    have := ofRows_asc (told sec) [] (by simpa using h)
    simpa [ofRows] using this
  rw [e]
  have nd : ((told sec).map (·.1)).Nodup := by
    rw [List.nodup_iff_pairwise_ne, List.pairwise_map]
    exact h.imp fun q => by omega
  unfold W
  cases el : look sec n with
  | none =>
    have : look (told sec) n = none := by
      cases e2 : look (told sec) n with
      | none => rfl
      | some x =>
        have hm := look_some_mem e2
        unfold told at hm
        obtain ⟨m, hm1, hm2⟩ := List.mem_map.mp (List.mem_filter.mp hm).1
        have : m = n := congrArg Prod.fst hm2
        subst this
        rw [mem_nums] at hm1
        have := look_isSome.mpr hm1
        rw [el] at this
        cases this
    rw [this]
  | some x =>
    have hk : n ∈ sec.map (·.1) := look_isSome.mp (by rw [el]; rfl)
    by_cases hx : x = blank
    · have : look (told sec) n = none := by
        cases e2 : look (told sec) n with
        | none => rfl
        | some y =>
          have hm := look_some_mem e2
          unfold told at hm
          obtain ⟨hm0, hm3⟩ := List.mem_filter.mp hm
          obtain ⟨m, hm1, hm2⟩ := List.mem_map.mp hm0
          have e3 : m = n := congrArg Prod.fst hm2
          subst e3
          have e4 : (look sec m).getD blank = y := congrArg Prod.snd hm2
          rw [el] at e4
          have e4 : x = y := e4
          have := of_decide_eq_true hm3
          exact absurd (e4.symm.trans hx) this
      rw [this, hx]
      rfl
    · have hm : (n, x) ∈ told sec := by
        unfold told
        refine List.mem_filter.mpr ⟨List.mem_map.mpr ⟨n, (mem_nums n _).mpr hk, ?_⟩, decide_eq_true hx⟩
        rw [el]
        rfl
      rw [look_of_mem nd hm]
/-- what Disk(disk.synced()) is -/
def DS.again (d : DS) : DS := ⟨ofRows (told d.sec), [], none, [], false⟩
theorem told_le (sec : List (Int × Sec)) : (told sec).length ≤ sec.length := by
  unfold told
  refine Nat.le_trans (List.length_filter_le _ _) ?_
  rw [List.length_map]
  refine Nat.le_trans (le_nums_len _) ?_
  rw [List.length_map]
  exact Nat.le_refl _
theorem told_l16 {sec : List (Int × Sec)} (h : ∀ x ∈ sec, x.2.length = 16) : ∀ x ∈ told sec, x.2.length = 16 := fun x hx => by
  obtain ⟨n, _, e⟩ := List.mem_map.mp (List.mem_filter.mp hx).1
  rw [← e]
  exact whole_len (d := ⟨sec, [], none, [], false⟩) h n
theorem again_len (d : DS) : d.again.sec.length ≤ d.sec.length := by
  show (synS [] (told d.sec)).length ≤ _
  have h1 := synS_len (told d.sec) []
  have h2 := told_le d.sec
  rw [List.length_nil] at h1
  omega
theorem Fit.again {d : DS} (h : Fit d) : Fit d.again := by
  have h1 := again_len d
  have h2 := h.sz
  refine ⟨synS_nd (told d.sec) [] (by simp), ?_, Nat.zero_le _, synS_16 (told d.sec) [] (fun x hx => by cases hx) (told_l16 h.ls), (fun x hx => by cases hx), Nat.zero_le _⟩
  show d.again.sec.length + 0 ≤ 60000
  omega
theorem LogOk.again {d : DS} (h : Fit d) {bs : List BRows} {e : Int} (l : LogOk (W d.sec) bs e) : LogOk (W d.again.sec) bs e := by
  have e1 : W d.again.sec = W d.sec := funext fun n => W_told d.sec h.nd n
  rw [e1]
  exact l
theorem read_W {d : DS} (h : d.wai = []) : d.read = W d.sec := funext fun n => by
  unfold DS.read
  rw [h]
  rfl
theorem LogOk.noRoots {f : Rd} {bs : List BRows} {e : Int} (h : LogOk f bs e) : NoRoots f := by
  have z : ∀ n, n = 0 ∨ n = 1 → f n = blank := fun n hn => h.home n fun k hk z => by unfold lg at z; omega
  constructor <;> unfold rootAt
  · rw [z 0 (.inl rfl)]; rfl
  · rw [z 1 (.inr rfl)]; rfl
theorem NoRoots.newest {f : Rd} (h : NoRoots f) : newest f = (1, 0, 0) := by
  unfold K51.newest
  rw [h.1, h.2]
theorem LogOk.nil : LogOk (W []) [] 0 := by
  have hb : ∀ n, W [] n = blank := fun n => rfl
  have hh : ∀ k : Int, (W [] (lg k)).getD 0 0 ≠ 1 := fun k => by rw [hb]; decide
  exact ⟨.nil (no_head (hh 0)).1 (no_head (hh 0)).2, fun k _ => hh k, fun n _ => hb n⟩
/-- a page that is nowhere in the log -/
theorem LogOk.pageOf {f : Rd} {bs : List BRows} {e : Int} (h : LogOk f bs e) (pages : List (Int × Page)) (n : Int) : pageOf f pages n = (look pages n).getD (List.replicate 64 0) := by
  unfold K51.pageOf
  cases look pages n with
  | some p => rfl
  | none =>
    have z : ∀ k : Int, f (hm n k) = blank := fun k => h.home _ fun j hj q => by unfold hm lg at q; omega
    rw [z, z, z, z]
    rfl
end K51

/-! KFM: the room and the law's own model. -/
namespace K51
open Y
structure MS where
  most : Int
  order : List Int
  waits : List BRows
  done : List BRows
  reads : Int
def useO (order : List Int) (n : Int) : List Int := order.filter (fun y => decide (y ≠ n)) ++ [n]
def MS.mroom : Nat → MS → MS
  | 0, m => m
  | f + 1, m => if m.most < (m.order.length : Int) then (match m.order.filter (fun n => !(isW m.waits n)) with
      | c :: _ => MS.mroom f { m with order := m.order.filter fun y => decide (y ≠ c) }
      | [] => (match m.waits with
        | [] => MS.mroom f m
        | g :: rest => MS.mroom f { m with done := m.done ++ [g], waits := rest })) else m
def MS.made (m : MS) : MS := MS.mroom (m.order.length + m.waits.length + 1) m
def pagesOf (gs : List BRows) : List (Int × Page) := gs.foldl takeR []
theorem pagesOf_snoc (gs : List BRows) (g : BRows) : pagesOf (gs ++ [g]) = takeR (pagesOf gs) g := by
  unfold pagesOf
  rw [List.foldl_append]
  rfl
def zeros : Page := List.replicate 64 0
def cont (gs : List BRows) (n : Int) : Page := (look (pagesOf gs) n).getD zeros
structure Sy (x : RS) (m : MS) : Prop where
  o : x.mem.map (·.1) = m.order
  w : x.wts = m.waits
  k : x.most = m.most
theorem map_filter_fst (mem : List (Int × Page)) (q : Int → Bool) : (mem.filter fun y => q y.1).map (·.1) = (mem.map (·.1)).filter q := by
  induction mem with
  | nil => rfl
  | cons y mem ih =>
    rw [List.map_cons, List.filter_cons, List.filter_cons]
    cases h : q y.1
    · exact ih
    · show y.1 :: _ = _
      rw [ih]
      rfl
theorem wg_false {x : RS} (h : x.wgroup.2 = false) : x.wgroup.1.d.cut = true := by
  cases ew : x.wts with
  | nil =>
    have : x.wgroup = (x, true) := by
      show x.wg x.wts = _
      conv => lhs; rw [ew]
      rfl
    rw [this] at h
    cases h
  | cons g rest =>
    cases hc : (x.d.commit x.bs.epoch x.bs.fin g).cut with
    | true => rw [wgroup_cut ew hc]; exact hc
    | false => rw [wgroup_ok ew hc] at h; cases h
theorem wg_true {x : RS} (hx : x.d.cut = false) (h : x.wgroup.2 = true) : x.wgroup.1.d.cut = false := by
  cases ew : x.wts with
  | nil =>
    have : x.wgroup = (x, true) := by
      show x.wg x.wts = _
      conv => lhs; rw [ew]
      rfl
    rw [this]
    exact hx
  | cons g rest =>
    cases hc : (x.d.commit x.bs.epoch x.bs.fin g).cut with
    | true => rw [wgroup_cut ew hc] at h; cases h
    | false => rw [wgroup_ok ew hc]; exact hc
section
variable {f : Nat} {x : RS}
theorem mr_go {c : Int × Page} {r : List (Int × Page)} (hm : x.most < (x.mem.length : Int)) (ec : x.clean = c :: r) : RS.mroom (f + 1) x = RS.mroom f (x.drop c.1) := by
  show (if x.most < (x.mem.length : Int) then _ else _) = _
  rw [if_pos hm, ec]
theorem mr_ok (hm : x.most < (x.mem.length : Int)) (ec : x.clean = []) (hw : x.wgroup.2 = true) : RS.mroom (f + 1) x = RS.mroom f x.wgroup.1 := by
  show (if x.most < (x.mem.length : Int) then _ else _) = _
  rw [if_pos hm, ec]
  show (if x.wgroup.2 = true then _ else _) = _
  rw [if_pos hw]
theorem mr_no (hm : x.most < (x.mem.length : Int)) (ec : x.clean = []) (hw : x.wgroup.2 = false) : RS.mroom (f + 1) x = (x.wgroup.1, false) := by
  show (if x.most < (x.mem.length : Int) then _ else _) = _
  rw [if_pos hm, ec]
  show (if x.wgroup.2 = true then _ else _) = _
  rw [if_neg (by rw [hw]; exact Bool.false_ne_true)]
theorem mr_end (hm : ¬ x.most < (x.mem.length : Int)) : RS.mroom (f + 1) x = (x, true) := by
  show (if x.most < (x.mem.length : Int) then _ else _) = _
  rw [if_neg hm]
theorem wg_nil (ew : x.wts = []) : x.wgroup = (x, true) := by
  show x.wg x.wts = _
  conv => lhs; rw [ew]
  rfl
variable {m : MS}
theorem ms_go {c : Int} {r : List Int} (hm : m.most < (m.order.length : Int)) (ec : m.order.filter (fun n => !(isW m.waits n)) = c :: r) : MS.mroom (f + 1) m = MS.mroom f { m with order := m.order.filter fun y => decide (y ≠ c) } := by
  show (if m.most < (m.order.length : Int) then _ else _) = _
  rw [if_pos hm, ec]
theorem ms_nil (hm : m.most < (m.order.length : Int)) (ec : m.order.filter (fun n => !(isW m.waits n)) = []) (ew : m.waits = []) : MS.mroom (f + 1) m = MS.mroom f m := by
  show (if m.most < (m.order.length : Int) then _ else _) = _
  rw [if_pos hm, ec]
  show (match m.waits with
        | [] => MS.mroom f m
        | g :: rest => MS.mroom f { m with done := m.done ++ [g], waits := rest }) = _
  split
  · rfl
  · rename_i h; rw [ew] at h; cases h
theorem ms_pop {g : BRows} {rest : List BRows} (hm : m.most < (m.order.length : Int)) (ec : m.order.filter (fun n => !(isW m.waits n)) = []) (ew : m.waits = g :: rest) : MS.mroom (f + 1) m = MS.mroom f { m with done := m.done ++ [g], waits := rest } := by
  show (if m.most < (m.order.length : Int) then _ else _) = _
  rw [if_pos hm, ec]
  show (match m.waits with
        | [] => MS.mroom f m
        | g :: rest => MS.mroom f { m with done := m.done ++ [g], waits := rest }) = _
  split
  · rename_i h; rw [ew] at h; cases h
  · rename_i h; rw [ew] at h; cases h; rfl
theorem ms_end (hm : ¬ m.most < (m.order.length : Int)) : MS.mroom (f + 1) m = m := by
  show (if m.most < (m.order.length : Int) then _ else _) = _
  rw [if_neg hm]
end
theorem mroom_flag : ∀ (f : Nat) {x : RS}, x.d.cut = false → (RS.mroom f x).2 = !(RS.mroom f x).1.d.cut
  | 0, x, h => by show true = !x.d.cut; rw [h]; rfl
  | f + 1, x, h => by
    by_cases hm : x.most < (x.mem.length : Int)
    · cases ec : x.clean with
      | cons c r =>
        rw [mr_go hm ec]
        exact mroom_flag f (x := x.drop c.1) h
      | nil =>
        cases hw : x.wgroup.2 with
        | true =>
          rw [mr_ok hm ec hw]
          exact mroom_flag f (wg_true h hw)
        | false =>
          rw [mr_no hm ec hw]
          show false = !x.wgroup.1.d.cut
          rw [wg_false hw]
          rfl
    · rw [mr_end hm]
      show true = !x.d.cut
      rw [h]
      rfl
theorem mroom_sync : ∀ (f : Nat) {x : RS} {m : MS}, Sy x m → (RS.mroom f x).1.d.cut = false → Sy (RS.mroom f x).1 (MS.mroom f m)
  | 0, x, m, h, _ => h
  | f + 1, x, m, h, hc => by
    have hl : x.mem.length = m.order.length := by rw [← h.o, List.length_map]
    have hcl : x.clean.map (·.1) = m.order.filter (fun n => !(isW m.waits n)) := by
      unfold RS.clean
      rw [map_filter_fst x.mem (fun n => !(isW x.wts n)), h.o, h.w]
    by_cases hm : x.most < (x.mem.length : Int)
    · have hm' : m.most < (m.order.length : Int) := by rw [← h.k, ← hl]; exact hm
      cases ec : x.clean with
      | cons c r =>
        rw [ec] at hcl
        rw [mr_go hm ec] at hc ⊢
        rw [ms_go hm' hcl.symm]
        refine mroom_sync f (x := x.drop c.1) (m := { m with order := m.order.filter fun y => decide (y ≠ c.1) }) ⟨?_, h.w, h.k⟩ hc
        show (x.mem.filter fun y => decide (y.1 ≠ c.1)).map (·.1) = _
        rw [map_filter_fst x.mem (fun n => decide (n ≠ c.1)), h.o]
      | nil =>
        rw [ec] at hcl
        cases hw : x.wgroup.2 with
        | false =>
          rw [mr_no hm ec hw] at hc
          have := wg_false hw
          rw [show (x.wgroup.1, false).1.d.cut = x.wgroup.1.d.cut from rfl, this] at hc
          cases hc
        | true =>
          rw [mr_ok hm ec hw] at hc ⊢
          cases ew : x.wts with
          | nil =>
            rw [ms_nil hm' hcl.symm (by rw [← h.w]; exact ew)]
            rw [wg_nil ew] at hc ⊢
            exact mroom_sync f h hc
          | cons g rest =>
            rw [ms_pop hm' hcl.symm (by rw [← h.w]; exact ew)]
            cases hcc : (x.d.commit x.bs.epoch x.bs.fin g).cut with
            | true => rw [wgroup_cut ew hcc] at hw; cases hw
            | false =>
              have e1 := wgroup_ok ew hcc
              rw [e1] at hc ⊢
              exact mroom_sync f (m := { m with done := m.done ++ [g], waits := rest }) ⟨h.o, rfl, h.k⟩ hc
    · rw [mr_end hm]
      rw [ms_end (by rw [← h.k, ← hl]; exact hm)]
      exact h
theorem mroom_every : ∀ (f : Nat) (m : MS), (MS.mroom f m).done ++ (MS.mroom f m).waits = m.done ++ m.waits ∧ (MS.mroom f m).most = m.most ∧ (MS.mroom f m).reads = m.reads
  | 0, m => ⟨rfl, rfl, rfl⟩
  | f + 1, m => by
    unfold MS.mroom
    split
    · split
      · exact mroom_every f _
      · split
        · exact mroom_every f m
        · rename_i g rest ew
          obtain ⟨a, b, c⟩ := mroom_every f { m with done := m.done ++ [g], waits := rest }
          refine ⟨?_, b, c⟩
          rw [a, ew]
          show (m.done ++ [g]) ++ rest = _
          rw [List.append_assoc]
          rfl
    · exact ⟨rfl, rfl, rfl⟩
/-- with enough turns a room that stands has room -/
theorem mroom_room : ∀ (f : Nat) {x : RS}, 0 ≤ x.most → x.mem.length + x.wts.length < f → (RS.mroom f x).2 = true → ((RS.mroom f x).1.mem.length : Int) ≤ (RS.mroom f x).1.most
  | 0, x, _, h, _ => by omega
  | f + 1, x, h0, h, h2 => by
    by_cases hm : x.most < (x.mem.length : Int)
    · cases ec : x.clean with
      | cons c r =>
        rw [mr_go hm ec] at h2 ⊢
        refine mroom_room f (x := x.drop c.1) h0 ?_ h2
        have hcm : c ∈ x.mem := by
          have : c ∈ x.clean := by rw [ec]; exact List.mem_cons_self
          exact (List.mem_filter.mp this).1
        have hlt : (x.mem.filter fun y => decide (y.1 ≠ c.1)).length < x.mem.length := List.length_filter_lt_length_iff_exists.mpr ⟨c, hcm, by simp⟩
        show (x.mem.filter fun y => decide (y.1 ≠ c.1)).length + x.wts.length < f
        omega
      | nil =>
        cases hw : x.wgroup.2 with
        | false => rw [mr_no hm ec hw] at h2; cases h2
        | true =>
          rw [mr_ok hm ec hw] at h2 ⊢
          have hn : x.wts ≠ [] := clean_wts ec fun z => by rw [z] at hm; have : ((([] : List (Int × Page)).length : Nat) : Int) = 0 := rfl; omega
          obtain ⟨t1, t2, t3⟩ := wgroup_true hn hw
          exact mroom_room f (by rw [t2]; exact h0) (by rw [t1]; omega) h2
    · rw [mr_end hm]
      show (x.mem.length : Int) ≤ x.most
      omega
end K51

/-! KGM: what is so of a room through all its steps. -/
namespace K51
open Y
/-- every: all groups in their order, on the disk or waiting; sure: how many were on the disk for sure -/
structure RI (x : RS) (every : List BRows) (sure : Nat) : Prop where
  ex : ∃ bs e, LogOk (W x.d.sec) bs e ∧ sure ≤ bs.length ∧ bs <+: every ∧ (x.d.cut = false → bs ++ x.wts = every ∧ x.bs = ⟨1, 0, bs.length, pagesOf bs, e⟩)
  fit : ∀ g ∈ every, BFit g
theorem RI.wgroup {x : RS} {every : List BRows} {sure : Nat} (h : RI x every sure) (f : RFit x) : RI x.wgroup.1 every sure := by
  cases ew : x.wts with
  | nil => rw [wg_nil ew]; exact h
  | cons g rest =>
    obtain ⟨bs, e, l, s, p, u⟩ := h.ex
    cases hd : x.d.cut with
    | true =>
      have ec := commit_cut hd x.bs.epoch x.bs.fin g
      rw [wgroup_cut ew (by rw [ec]; exact hd)]
      refine ⟨⟨bs, e, ?_, s, p, fun z => ?_⟩, h.fit⟩
      · show LogOk (W (x.d.commit x.bs.epoch x.bs.fin g).sec) bs e
        rw [ec]; exact l
      · have z : (x.d.commit x.bs.epoch x.bs.fin g).cut = false := z
        rw [ec, hd] at z
        cases z
    | false =>
      obtain ⟨u1, u2⟩ := u hd
      rw [ew] at u1
      have hg : BFit g := h.fit g (by rw [← u1]; simp)
      have e1 : x.bs.epoch = 0 := by rw [u2]
      have e2 : x.bs.fin = e := by rw [u2]
      cases hc : (x.d.commit x.bs.epoch x.bs.fin g).cut with
      | true =>
        rw [wgroup_cut ew hc]
        rw [e1, e2] at hc
        rcases l.commit hd f.w0 hg with ⟨_, q⟩ | q
        · refine ⟨⟨bs, e, ?_, s, p, fun z => ?_⟩, h.fit⟩
          · show LogOk (W (x.d.commit x.bs.epoch x.bs.fin g).sec) bs e
            rw [e1, e2]; exact q
          · have z : (x.d.commit x.bs.epoch x.bs.fin g).cut = false := z
            rw [e1, e2, hc] at z
            cases z
        · refine ⟨⟨bs ++ [g], e + (parts (contOf 0 g) : Nat), ?_, by rw [List.length_append]; omega, ⟨rest, by rw [← u1, List.append_assoc]; rfl⟩, fun z => ?_⟩, h.fit⟩
          · show LogOk (W (x.d.commit x.bs.epoch x.bs.fin g).sec) (bs ++ [g]) _
            rw [e1, e2]; exact q
          · have z : (x.d.commit x.bs.epoch x.bs.fin g).cut = false := z
            rw [e1, e2, hc] at z
            cases z
      | false =>
        rw [wgroup_ok ew hc]
        rw [e1, e2] at hc
        rcases l.commit hd f.w0 hg with ⟨q, _⟩ | q
        · rw [q] at hc; cases hc
        · refine ⟨⟨bs ++ [g], e + (parts (contOf 0 g) : Nat), ?_, by rw [List.length_append]; omega, ⟨rest, by rw [← u1, List.append_assoc]; rfl⟩, fun _ => ⟨by rw [← u1]; show (bs ++ [g]) ++ rest = _; rw [List.append_assoc]; rfl, ?_⟩⟩, h.fit⟩
          · show LogOk (W (x.d.commit x.bs.epoch x.bs.fin g).sec) (bs ++ [g]) _
            rw [e1, e2]; exact q
          · show (if false = true then x.bs else { x.bs with fin := x.bs.fin + (parts (contOf x.bs.epoch g) : Nat), pages := takeR x.bs.pages g, many := x.bs.many + 1 }) = _
            rw [if_neg Bool.false_ne_true, u2]
            show BS.mk 1 0 ((bs.length : Int) + 1) (takeR (pagesOf bs) g) (e + (parts (contOf 0 g) : Nat)) = _
            rw [pagesOf_snoc, List.length_append]
            rfl
theorem RI.drop {x : RS} {every : List BRows} {sure : Nat} (h : RI x every sure) (n : Int) : RI (x.drop n) every sure := ⟨h.ex, h.fit⟩
theorem RFit.mroom : ∀ (f : Nat) {x : RS}, RFit x → RFit (RS.mroom f x).1
  | 0, x, h => h
  | f + 1, x, h => by
    by_cases hm : x.most < (x.mem.length : Int)
    · cases ec : x.clean with
      | cons c r => rw [mr_go hm ec]; exact RFit.mroom f (h.drop c.1)
      | nil =>
        cases hw : x.wgroup.2 with
        | false => rw [mr_no hm ec hw]; exact h.wgroup
        | true => rw [mr_ok hm ec hw]; exact RFit.mroom f h.wgroup
    · rw [mr_end hm]; exact h
theorem RI.mroom : ∀ (f : Nat) {x : RS} {every : List BRows} {sure : Nat}, RI x every sure → RFit x → RI (RS.mroom f x).1 every sure
  | 0, x, _, _, h, _ => h
  | f + 1, x, _, _, h, hf => by
    by_cases hm : x.most < (x.mem.length : Int)
    · cases ec : x.clean with
      | cons c r => rw [mr_go hm ec]; exact RI.mroom f (h.drop c.1) (hf.drop c.1)
      | nil =>
        cases hw : x.wgroup.2 with
        | false => rw [mr_no hm ec hw]; exact h.wgroup hf
        | true => rw [mr_ok hm ec hw]; exact RI.mroom f (h.wgroup hf) hf.wgroup
    · rw [mr_end hm]; exact h
/-- the memory's pages are those that were written last; what waits is in memory -/
structure RC (x : RS) (every : List BRows) : Prop where
  co : ∀ y ∈ x.mem, y.2 = cont every y.1
  wm : ∀ n, isW x.wts n = true → n ∈ x.mem.map (·.1)
theorem isW_cons (g : BRows) (rest : List BRows) (n : Int) : isW (g :: rest) n = (g.any (fun r => decide (r.1 = n)) || isW rest n) := rfl
theorem RC.wgroup {x : RS} {every : List BRows} (h : RC x every) : RC x.wgroup.1 every := by
  cases ew : x.wts with
  | nil => rw [wg_nil ew]; exact h
  | cons g rest =>
    cases hc : (x.d.commit x.bs.epoch x.bs.fin g).cut with
    | true => rw [wgroup_cut ew hc]; exact ⟨h.co, h.wm⟩
    | false =>
      rw [wgroup_ok ew hc]
      exact ⟨h.co, fun n hn => h.wm n (by rw [ew, isW_cons]; have hn : isW rest n = true := hn; rw [hn, Bool.or_true])⟩
theorem RC.drop {x : RS} {every : List BRows} (h : RC x every) {c : Int × Page} {r : List (Int × Page)} (ec : x.clean = c :: r) : RC (x.drop c.1) every := by
  refine ⟨fun y hy => h.co y (List.mem_filter.mp hy).1, fun n hn => ?_⟩
  have hc : c ∈ x.clean := by rw [ec]; exact List.mem_cons_self
  have hcw := (List.mem_filter.mp hc).2
  have hne : n ≠ c.1 := fun z => by
    have hn : isW x.wts n = true := hn
    rw [z] at hn
    rw [hn] at hcw
    cases hcw
  obtain ⟨y, hy, e⟩ := List.mem_map.mp (h.wm n hn)
  exact List.mem_map.mpr ⟨y, List.mem_filter.mpr ⟨hy, decide_eq_true (by rw [e]; exact hne)⟩, e⟩
theorem RC.mroom : ∀ (f : Nat) {x : RS} {every : List BRows}, RC x every → RC (RS.mroom f x).1 every
  | 0, x, _, h => h
  | f + 1, x, _, h => by
    by_cases hm : x.most < (x.mem.length : Int)
    · cases ec : x.clean with
      | cons c r => rw [mr_go hm ec]; exact RC.mroom f (h.drop ec)
      | nil =>
        cases hw : x.wgroup.2 with
        | false => rw [mr_no hm ec hw]; exact h.wgroup
        | true => rw [mr_ok hm ec hw]; exact RC.mroom f h.wgroup
    · rw [mr_end hm]; exact h
theorem mroom_same : ∀ (f : Nat) (x : RS), (RS.mroom f x).1.most = x.most ∧ (RS.mroom f x).1.reads = x.reads
  | 0, x => ⟨rfl, rfl⟩
  | f + 1, x => by
    have hwg : x.wgroup.1.most = x.most ∧ x.wgroup.1.reads = x.reads := by
      cases ew : x.wts with
      | nil => rw [wg_nil ew]; exact ⟨rfl, rfl⟩
      | cons g rest =>
        rw [wgroup_of ew]
        split <;> exact ⟨rfl, rfl⟩
    by_cases hm : x.most < (x.mem.length : Int)
    · cases ec : x.clean with
      | cons c r => rw [mr_go hm ec]; exact mroom_same f (x.drop c.1)
      | nil =>
        cases hw : x.wgroup.2 with
        | false => rw [mr_no hm ec hw]; exact hwg
        | true =>
          rw [mr_ok hm ec hw]
          obtain ⟨a, b⟩ := mroom_same f x.wgroup.1
          exact ⟨a.trans hwg.1, b.trans hwg.2⟩
    · rw [mr_end hm]; exact ⟨rfl, rfl⟩
theorem look_takeR : ∀ (rows : BRows) (s : List (Int × Page)) (n : Int), rows.any (fun r => decide (r.1 = n)) = false → look (takeR s rows) n = look s n
  | [], _, _, _ => rfl
  | r :: rows, s, n, h => by
    rw [List.any_cons, Bool.or_eq_false_iff] at h
    show look (takeR (put s r.1 r.2) rows) n = _
    rw [look_takeR rows _ n h.2, look_put, if_neg fun z => of_decide_eq_false h.1 z.symm]
theorem cont_app : ∀ (ws bs : List BRows) (n : Int), isW ws n = false → cont (bs ++ ws) n = cont bs n
  | [], bs, n, _ => by rw [List.append_nil]
  | g :: ws, bs, n, h => by
    rw [isW_cons, Bool.or_eq_false_iff] at h
    have e : bs ++ g :: ws = (bs ++ [g]) ++ ws := by rw [List.append_assoc]; rfl
    rw [e, cont_app ws (bs ++ [g]) n h.2]
    unfold cont
    rw [pagesOf_snoc, look_takeR g _ n h.1]
/-- a page that is read from the batches is the one that was written last -/
theorem page_read {x : RS} {every : List BRows} {sure : Nat} (h : RI x every sure) (hc : RC x every) (f : RFit x) (hd : x.d.cut = false) {n : Int} (hn : look x.mem n = none) : pageOf x.d.read x.bs.pages n = cont every n := by
  obtain ⟨bs, e, l, _, _, u⟩ := h.ex
  obtain ⟨u1, u2⟩ := u hd
  have hw : isW x.wts n = false := by
    cases hw : isW x.wts n with
    | false => rfl
    | true =>
      have := look_isSome.mpr (hc.wm n hw)
      rw [hn] at this
      cases this
  rw [read_W f.w0, u2, l.pageOf, ← u1, cont_app _ _ _ hw]
  rfl
end K51

/-! KHM: page, write, flush, a new begin: the room goes with the model, or the disk is cut off. -/
namespace K51
open Y
def Phi (x : RS) : Nat := x.d.sec.length + 57 * x.wts.length + (if x.d.cut = true then 0 else 57)
theorem phi_wgroup {x : RS} (h : RFit x) : Phi x.wgroup.1 ≤ Phi x := by
  cases ew : x.wts with
  | nil => rw [wg_nil ew]; exact Nat.le_refl _
  | cons g rest =>
    have hg := h.w64 g (by rw [ew]; exact List.mem_cons_self)
    have hph := h.ph
    obtain ⟨f, w0, sl⟩ := commit_fit h.fit h.w0 (by rw [ew, List.length_cons] at hph; omega) x.bs.epoch x.bs.fin hg.1 hg.2
    unfold Phi
    cases hd : x.d.cut with
    | true =>
      have ec := commit_cut hd x.bs.epoch x.bs.fin g
      rw [wgroup_cut ew (by rw [ec]; exact hd)]
      show (x.d.commit x.bs.epoch x.bs.fin g).sec.length + 57 * x.wts.length + (if (x.d.commit x.bs.epoch x.bs.fin g).cut = true then 0 else 57) ≤ _
      rw [ec, hd]
      exact Nat.le_refl _
    | false =>
      rw [if_neg Bool.false_ne_true]
      cases hc : (x.d.commit x.bs.epoch x.bs.fin g).cut with
      | true =>
        rw [wgroup_cut ew hc]
        show (x.d.commit x.bs.epoch x.bs.fin g).sec.length + 57 * x.wts.length + (if (x.d.commit x.bs.epoch x.bs.fin g).cut = true then 0 else 57) ≤ _
        rw [hc, if_pos rfl]
        omega
      | false =>
        rw [wgroup_ok ew hc]
        show (x.d.commit x.bs.epoch x.bs.fin g).sec.length + 57 * rest.length + (if (x.d.commit x.bs.epoch x.bs.fin g).cut = true then 0 else 57) ≤ _
        rw [hc, if_neg Bool.false_ne_true, ew, List.length_cons]
        omega
theorem phi_mroom : ∀ (f : Nat) {x : RS}, RFit x → Phi (RS.mroom f x).1 ≤ Phi x
  | 0, x, _ => Nat.le_refl _
  | f + 1, x, h => by
    by_cases hm : x.most < (x.mem.length : Int)
    · cases ec : x.clean with
      | cons c r => rw [mr_go hm ec]; exact phi_mroom f (h.drop c.1)
      | nil =>
        cases hw : x.wgroup.2 with
        | false => rw [mr_no hm ec hw]; exact phi_wgroup h
        | true => rw [mr_ok hm ec hw]; exact Nat.le_trans (phi_mroom f h.wgroup) (phi_wgroup h)
    · rw [mr_end hm]; exact Nat.le_refl _
/-- the room and the model, the disk not cut off -/
structure Rel (x : RS) (m : MS) : Prop where
  fit : RFit x
  ri : RI x (m.done ++ m.waits) m.done.length
  rc : RC x (m.done ++ m.waits)
  sy : Sy x m
  rd : x.reads = m.reads
  un : x.d.cut = false
  k0 : 0 ≤ x.most
  rm : (x.mem.length : Int) ≤ x.most
theorem Rel.base {x : RS} {m : MS} (h : Rel x m) : ∃ e, LogOk (W x.d.sec) m.done e ∧ x.bs = ⟨1, 0, m.done.length, pagesOf m.done, e⟩ := by
  obtain ⟨bs, e, l, _, _, u⟩ := h.ri.ex
  obtain ⟨u1, u2⟩ := u h.un
  rw [h.sy.w] at u1
  have : bs = m.done := List.append_cancel_right u1
  subst this
  exact ⟨e, l, u2⟩
/-- behind make_room -/
theorem rel_made {x : RS} {m : MS} {sure : Nat} (hf : RFit x) (hi : RI x (m.done ++ m.waits) sure) (hc : RC x (m.done ++ m.waits)) (hs : Sy x m) (hr : x.reads = m.reads) (hu : x.d.cut = false) (k0 : 0 ≤ x.most) (hsd : m.done.length ≤ sure ∨ True) :
    RFit x.made.1 ∧ RI x.made.1 (m.done ++ m.waits) sure ∧ x.made.2 = (!x.made.1.d.cut) ∧ Phi x.made.1 ≤ Phi x ∧ (x.made.1.d.cut = false → Rel x.made.1 m.made) := by
  have hl : x.mem.length = m.order.length := by rw [← hs.o, List.length_map]
  have hw : x.wts.length = m.waits.length := by rw [hs.w]
  have em : m.made = MS.mroom (x.mem.length + x.wts.length + 1) m := by unfold MS.made; rw [hl, hw]
  have hflag := mroom_flag (x.mem.length + x.wts.length + 1) hu
  refine ⟨RFit.mroom _ hf, RI.mroom _ hi hf, hflag, phi_mroom _ hf, fun hn => ?_⟩
  have hsy := mroom_sync (x.mem.length + x.wts.length + 1) hs hn
  rw [← em] at hsy
  obtain ⟨e1, e2, e3⟩ := mroom_every (x.mem.length + x.wts.length + 1) m
  rw [← em] at e1 e2 e3
  obtain ⟨s1, s2⟩ := mroom_same (x.mem.length + x.wts.length + 1) x
  have hri := RI.mroom (x.mem.length + x.wts.length + 1) hi hf
  have h2 : x.made.2 = true := by
    show (RS.mroom _ x).2 = true
    rw [hflag]
    have : (RS.mroom (x.mem.length + x.wts.length + 1) x).1.d.cut = false := hn
    rw [this]
    rfl
  have hroom := mroom_room (x.mem.length + x.wts.length + 1) k0 (by omega) h2
  have hri2 : RI x.made.1 (m.made.done ++ m.made.waits) sure := by rw [e1]; exact hri
  refine ⟨RFit.mroom _ hf, ?_, by rw [e1]; exact RC.mroom _ hc, hsy, s2.trans (hr.trans e3.symm), hn, by show 0 ≤ (RS.mroom _ x).1.most; rw [s1]; exact k0, hroom⟩
  obtain ⟨⟨bs, e, l, s, p, u⟩, hb⟩ := hri2
  obtain ⟨u1, u2⟩ := u hn
  have u1 : bs ++ (RS.mroom (x.mem.length + x.wts.length + 1) x).1.wts = m.made.done ++ m.made.waits := u1
  rw [hsy.w] at u1
  have : bs = m.made.done := List.append_cancel_right u1
  subst this
  exact ⟨⟨_, e, l, Nat.le_refl _, p, u⟩, hb⟩
/-! ### page -/
def MS.pg (m : MS) (n : Int) : MS := MS.made { m with order := useO m.order n, reads := m.reads + (if n ∈ m.order then 0 else 1) }
theorem made_id {m : MS} (h : (m.order.length : Int) ≤ m.most) : m.made = m := by
  unfold MS.made
  exact ms_end (by omega)
theorem useO_len {o : List Int} {n : Int} (nd : o.Nodup) (h : n ∈ o) : (useO o n).length = o.length := by
  unfold useO
  rw [List.length_append]
  have e : o.filter (fun y => decide (y ≠ n)) = o.erase n := by
    rw [nd.erase_eq_filter]
    congr 1
    funext y
    by_cases hy : y = n <;> simp [hy]
  rw [e, List.length_erase_of_mem h]
  have := List.length_pos_of_mem h
  show o.length - 1 + 1 = _
  omega
theorem rel_page {x : RS} {m : MS} (h : Rel x m) (n : Int) (hm : x.mem.length < 900) :
    RFit (x.page n).1 ∧ RI (x.page n).1 (m.done ++ m.waits) m.done.length ∧ Phi (x.page n).1 ≤ Phi x ∧ ((x.page n).1.d.cut = false → Rel (x.page n).1 (m.pg n) ∧ (x.page n).2 = cont (m.done ++ m.waits) n) := by
  have hkey : ∀ k, k ∈ m.order ↔ (look x.mem k).isSome = true := fun k => by rw [look_isSome, h.sy.o]
  cases el : look x.mem n with
  | some p =>
    have ep : x.page n = ({ x with mem := touch x.mem n }, p) := by unfold RS.page; rw [el]
    have hin : n ∈ m.order := (hkey n).mpr (by rw [el]; rfl)
    have et : touch x.mem n = x.mem.filter (fun y => decide (y.1 ≠ n)) ++ [(n, p)] := by unfold touch; rw [el]
    have nd : m.order.Nodup := by rw [← h.sy.o]; exact h.fit.nd
    have ul := useO_len nd hin
    have hol : x.mem.length = m.order.length := by rw [← h.sy.o, List.length_map]
    have epg : m.pg n = { m with order := useO m.order n, reads := m.reads + (if n ∈ m.order then 0 else 1) } := by
      unfold MS.pg
      refine made_id ?_
      show ((useO m.order n).length : Int) ≤ m.most
      rw [ul, ← hol, ← h.sy.k]
      exact h.rm
    rw [ep]
    refine ⟨h.fit.touch n, ⟨h.ri.ex, h.ri.fit⟩, Nat.le_refl _, fun hu => ?_⟩
    have hmem : (n, p) ∈ x.mem := look_some_mem el
    refine ⟨?_, h.rc.co _ hmem⟩
    rw [epg]
    refine ⟨h.fit.touch n, ⟨h.ri.ex, h.ri.fit⟩, ⟨fun y hy => ?_, fun k hk => ?_⟩, ⟨?_, h.sy.w, h.sy.k⟩, ?_, h.un, h.k0, ?_⟩
    · have hy : y ∈ touch x.mem n := hy
      rw [et] at hy
      rcases List.mem_append.mp hy with hy | hy
      · exact h.rc.co y (List.mem_filter.mp hy).1
      · simp at hy
        rw [hy]
        exact h.rc.co _ hmem
    · show k ∈ (touch x.mem n).map (·.1)
      rw [et, List.map_append]
      by_cases hkn : k = n
      · exact List.mem_append_right _ (by rw [hkn]; exact List.mem_singleton.mpr rfl)
      · refine List.mem_append_left _ ?_
        rw [map_filter_fst x.mem (fun y => decide (y ≠ n))]
        exact List.mem_filter.mpr ⟨h.rc.wm k hk, decide_eq_true hkn⟩
    · show (touch x.mem n).map (·.1) = useO m.order n
      rw [et, List.map_append, map_filter_fst x.mem (fun y => decide (y ≠ n)), h.sy.o]
      rfl
    · show x.reads = m.reads + (if n ∈ m.order then 0 else 1)
      rw [if_pos hin, h.rd, Int.add_zero]
    · show (((touch x.mem n).length : Nat) : Int) ≤ x.most
      have : (touch x.mem n).length = x.mem.length := by
        have e1 : (touch x.mem n).length = (useO m.order n).length := by
          rw [← List.length_map (f := (·.1)), et, List.map_append, map_filter_fst x.mem (fun y => decide (y ≠ n)), h.sy.o]
          rfl
        rw [e1, ul, hol]
      rw [this]
      exact h.rm
  | none =>
    have hin : n ∉ m.order := fun z => by have := (hkey n).mp z; rw [el] at this; cases this
    have hp := page_read h.ri h.rc h.fit h.un el
    have p64 := pageOf_64 h.fit.fit h.fit.p64 n
    have ep : x.page n = (({ x with reads := x.reads + 1, mem := x.mem ++ [(n, pageOf x.d.read x.bs.pages n)] } : RS).made.1, pageOf x.d.read x.bs.pages n) := by unfold RS.page; rw [el]
    rw [ep]
    rw [hp] at p64 ⊢
    have fit6 : RFit ({ x with reads := x.reads + 1, mem := x.mem ++ [(n, cont (m.done ++ m.waits) n)] } : RS) := by
      have z := h.fit.lay (r := (n, cont (m.done ++ m.waits) n)) p64 (by omega)
      rw [filter_none el] at z
      exact { z with }
    have epg : m.pg n = MS.made { m with order := m.order ++ [n], reads := m.reads + 1 } := by
      unfold MS.pg useO
      rw [if_neg hin]
      congr 2
      rw [List.filter_eq_self.mpr]
      intro y hy
      exact decide_eq_true fun z => hin (by rw [← z]; exact hy)
    obtain ⟨a, b, _, c, d⟩ := rel_made (x := ({ x with reads := x.reads + 1, mem := x.mem ++ [(n, cont (m.done ++ m.waits) n)] } : RS)) (m := { m with order := m.order ++ [n], reads := m.reads + 1 }) (sure := m.done.length) fit6 ⟨h.ri.ex, h.ri.fit⟩
      ⟨fun y hy => by
        rcases List.mem_append.mp hy with hy | hy
        · exact h.rc.co y hy
        · simp at hy
          rw [hy], fun k hk => by
        show k ∈ (x.mem ++ [(n, cont (m.done ++ m.waits) n)]).map (fun y => y.1)
        rw [List.map_append]
        exact List.mem_append_left _ (h.rc.wm k hk)⟩
      ⟨by show (x.mem ++ [(n, cont (m.done ++ m.waits) n)]).map (fun y => y.1) = m.order ++ [n]; rw [List.map_append, h.sy.o]; rfl, h.sy.w, h.sy.k⟩ (by show x.reads + 1 = m.reads + 1; rw [h.rd]) h.un h.k0 (.inr trivial)
    refine ⟨a, b, c, fun hu => ⟨?_, rfl⟩⟩
    rw [epg]
    exact d hu
end K51

/-! KIM: write, flush, a new begin. -/
namespace K51
open Y
def useAll (o : List Int) (ns : List Int) : List Int := ns.foldl useO o
def MS.wr (m : MS) (rows : BRows) : MS := MS.made { m with waits := m.waits ++ [rows], order := useAll m.order (rows.map (·.1)) }
theorem layIn_keys : ∀ (rows : BRows) (mem : List (Int × Page)), (layIn mem rows).map (·.1) = useAll (mem.map (·.1)) (rows.map (·.1))
  | [], _ => rfl
  | r :: rows, mem => by
    show (layIn (mem.filter (fun y => decide (y.1 ≠ r.1)) ++ [r]) rows).map (·.1) = useAll (useO (mem.map (·.1)) r.1) (rows.map (·.1))
    rw [layIn_keys rows]
    congr 1
    rw [List.map_append, map_filter_fst mem (fun y => decide (y ≠ r.1))]
    rfl
theorem useAll_mem : ∀ (ns o : List Int) (k : Int), k ∈ useAll o ns ↔ k ∈ o ∨ k ∈ ns
  | [], o, k => by simp [useAll]
  | n :: ns, o, k => by
    show k ∈ useAll (useO o n) ns ↔ _
    rw [useAll_mem ns]
    unfold useO
    rw [List.mem_append, List.mem_filter, List.mem_singleton, List.mem_cons]
    by_cases h : k = n
    · simp [h]
    · simp [h]
theorem layIn_cont {s : List (Int × Page)} : ∀ (rows : BRows) (mem : List (Int × Page)), (∀ y ∈ mem, y.2 = (look s y.1).getD zeros) → ∀ y ∈ layIn mem rows, y.2 = (look (takeR s rows) y.1).getD zeros := by
  intro rows
  induction rows generalizing s with
  | nil => intro mem h; exact h
  | cons r rows ih =>
    intro mem h
    refine ih (s := put s r.1 r.2) _ fun y hy => ?_
    rw [look_put]
    rcases List.mem_append.mp hy with hy | hy
    · obtain ⟨h1, h2⟩ := List.mem_filter.mp hy
      rw [if_neg (of_decide_eq_true h2)]
      exact h y h1
    · rw [List.mem_singleton] at hy
      rw [hy, if_pos rfl]
      rfl
theorem isW_snoc (ws : List BRows) (g : BRows) (n : Int) : isW (ws ++ [g]) n = (isW ws n || g.any (fun r => decide (r.1 = n))) := by
  unfold isW
  rw [List.any_append]
  simp
theorem pages_len : ∀ (gs : List BRows), (∀ g ∈ gs, BFit g) → (pagesOf gs).length ≤ 12 * gs.length := by
  have key : ∀ (gs : List BRows) (s : List (Int × Page)), (∀ g ∈ gs, BFit g) → (gs.foldl takeR s).length ≤ s.length + 12 * gs.length := by
    intro gs
    induction gs with
    | nil => intro s _; exact Nat.le_refl _
    | cons g gs ih =>
      intro s h
      have a := ih (takeR s g) fun z hz => h z (List.mem_cons_of_mem _ hz)
      have b := takeR_len g s
      have c := (h g List.mem_cons_self).few
      show (gs.foldl takeR (takeR s g)).length ≤ _
      rw [List.length_cons]
      omega
  intro gs h
  have := key gs [] h
  rw [List.length_nil] at this
  unfold pagesOf
  omega
theorem rel_write {x : RS} {m : MS} (h : Rel x m) {rows : BRows} (hr : BFit rows) (hm : x.mem.length + rows.length ≤ 900) (hev : (m.done ++ m.waits).length ≤ 500) (hph : Phi x ≤ 40000) :
    (x.wts.length < 1000 ∧ x.d.sec.length + 57 * (x.wts.length + 1) + (if x.d.cut = true then 0 else 57) ≤ 50000 ∧ x.bs.pages.length + 12 * (x.wts.length + 1) ≤ 100000) ∧
    (RFit (x.write rows).1 ∧ RI (x.write rows).1 ((m.done ++ m.waits) ++ [rows]) m.done.length ∧ (x.write rows).2 = (!(x.write rows).1.d.cut) ∧ Phi (x.write rows).1 ≤ Phi x + 57 ∧ ((x.write rows).1.d.cut = false → Rel (x.write rows).1 (m.wr rows))) := by
  obtain ⟨e, l, eb⟩ := h.base
  rw [List.length_append] at hev
  have hw : x.wts.length = m.waits.length := by rw [h.sy.w]
  have hpl : x.bs.pages.length ≤ 12 * m.done.length := by
    rw [eb]
    exact pages_len _ fun g hg => h.ri.fit g (List.mem_append_left _ hg)
  unfold Phi at hph
  have c1 : x.wts.length < 1000 := by omega
  have c2 : x.d.sec.length + 57 * (x.wts.length + 1) + (if x.d.cut = true then 0 else 57) ≤ 50000 := by omega
  have c3 : x.bs.pages.length + 12 * (x.wts.length + 1) ≤ 100000 := by omega
  refine ⟨⟨c1, c2, c3⟩, ?_⟩
  have fitA := h.fit.more ⟨hr.few, hr.h64⟩ c1 c2 c3
  have fitB := fitA.layAll hr.h64 (by show x.mem.length + rows.length ≤ 1000; omega) rows.length (Nat.le_refl _)
  rw [List.take_of_length_le (Nat.le_refl _)] at fitB
  have hri : RI ({ x with wts := x.wts ++ [rows], mem := layIn x.mem rows } : RS) ((m.done ++ m.waits) ++ [rows]) m.done.length := by
    obtain ⟨bs, e, l, s, p, u⟩ := h.ri.ex
    refine ⟨⟨bs, e, l, s, p.trans (List.prefix_append _ _), fun z => ?_⟩, fun g hg => ?_⟩
    · obtain ⟨u1, u2⟩ := u z
      refine ⟨?_, u2⟩
      show bs ++ (x.wts ++ [rows]) = _
      rw [← List.append_assoc, u1]
    · rcases List.mem_append.mp hg with hg | hg
      · exact h.ri.fit g hg
      · rw [List.mem_singleton] at hg
        rw [hg]
        exact hr
  have hrc : RC ({ x with wts := x.wts ++ [rows], mem := layIn x.mem rows } : RS) ((m.done ++ m.waits) ++ [rows]) := by
    refine ⟨fun y hy => ?_, fun k hk => ?_⟩
    · unfold cont
      rw [pagesOf_snoc]
      exact layIn_cont rows x.mem h.rc.co y hy
    · show k ∈ (layIn x.mem rows).map (·.1)
      rw [layIn_keys, useAll_mem]
      have hk : isW (x.wts ++ [rows]) k = true := hk
      rw [isW_snoc, Bool.or_eq_true] at hk
      rcases hk with hk | hk
      · exact .inl (h.rc.wm k hk)
      · obtain ⟨r, hr1, hr2⟩ := List.any_eq_true.mp hk
        exact .inr (List.mem_map.mpr ⟨r, hr1, of_decide_eq_true hr2⟩)
  have hsy : Sy ({ x with wts := x.wts ++ [rows], mem := layIn x.mem rows } : RS) { m with waits := m.waits ++ [rows], order := useAll m.order (rows.map (·.1)) } :=
    ⟨by show (layIn x.mem rows).map (·.1) = _; rw [layIn_keys, h.sy.o], by show x.wts ++ [rows] = m.waits ++ [rows]; rw [h.sy.w], h.sy.k⟩
  have eev : m.done ++ (m.waits ++ [rows]) = (m.done ++ m.waits) ++ [rows] := (List.append_assoc _ _ _).symm
  obtain ⟨a, b, c, d, f⟩ := rel_made (x := ({ x with wts := x.wts ++ [rows], mem := layIn x.mem rows } : RS)) (m := { m with waits := m.waits ++ [rows], order := useAll m.order (rows.map (·.1)) }) (sure := m.done.length) fitB (by rw [← eev] at hri; exact hri) (by rw [← eev] at hrc; exact hrc) hsy h.rd h.un h.k0 (.inr trivial)
  refine ⟨a, by rw [← eev]; exact b, c, ?_, f⟩
  refine Nat.le_trans d ?_
  unfold Phi
  show x.d.sec.length + 57 * (x.wts ++ [rows]).length + (if x.d.cut = true then 0 else 57) ≤ _
  rw [List.length_append]
  show x.d.sec.length + 57 * (x.wts.length + 1) + _ ≤ _
  omega
/-! ### flush -/
theorem fl_step {f : Nat} {x : RS} : RS.fl (f + 1) x = if x.wts = [] then (x, !x.d.cut) else if x.wgroup.2 = true then RS.fl f x.wgroup.1 else (x.wgroup.1, false) := rfl
theorem fl_all : ∀ (f : Nat) {x : RS} {every : List BRows} {sure : Nat}, RFit x → RI x every sure → RC x every → x.d.cut = false → x.wts.length < f →
    RFit (RS.fl f x).1 ∧ RI (RS.fl f x).1 every sure ∧ RC (RS.fl f x).1 every ∧ (RS.fl f x).2 = (!(RS.fl f x).1.d.cut) ∧ Phi (RS.fl f x).1 ≤ Phi x ∧ ((RS.fl f x).1.d.cut = false → (RS.fl f x).1.wts = [] ∧ (RS.fl f x).1.mem = x.mem ∧ (RS.fl f x).1.most = x.most ∧ (RS.fl f x).1.reads = x.reads)
  | 0, x, _, _, _, _, _, _, h => by omega
  | f + 1, x, every, sure, hf, hi, hc, hu, hl => by
    rw [fl_step]
    by_cases hn : x.wts = []
    · rw [if_pos hn]
      exact ⟨hf, hi, hc, rfl, Nat.le_refl _, fun _ => ⟨hn, rfl, rfl, rfl⟩⟩
    · rw [if_neg hn]
      cases hw : x.wgroup.2 with
      | false =>
        rw [if_neg Bool.false_ne_true]
        refine ⟨hf.wgroup, hi.wgroup hf, hc.wgroup, ?_, phi_wgroup hf, fun z => ?_⟩
        · show false = !x.wgroup.1.d.cut
          rw [wg_false hw]
          rfl
        · have z : x.wgroup.1.d.cut = false := z
          rw [wg_false hw] at z
          cases z
      | true =>
        rw [if_pos rfl]
        obtain ⟨t1, t2, t3⟩ := wgroup_true hn hw
        obtain ⟨a, b, c, d, e, g⟩ := fl_all f hf.wgroup (hi.wgroup hf) hc.wgroup (wg_true hu hw) (by omega)
        have hrd : x.wgroup.1.reads = x.reads := by
          cases ew : x.wts with
          | nil => exact absurd ew hn
          | cons q rest => rw [wgroup_of ew]; split <;> rfl
        refine ⟨a, b, c, d, Nat.le_trans e (phi_wgroup hf), fun z => ?_⟩
        obtain ⟨g1, g2, g3, g4⟩ := g z
        exact ⟨g1, g2.trans t1, g3.trans t2, g4.trans hrd⟩
def MS.fl (m : MS) : MS := { m with done := m.done ++ m.waits, waits := [] }
theorem rel_flush {x : RS} {m : MS} (h : Rel x m) :
    RFit x.flush.1 ∧ RI x.flush.1 (m.done ++ m.waits) m.done.length ∧ x.flush.2 = (!x.flush.1.d.cut) ∧ Phi x.flush.1 ≤ Phi x ∧ (x.flush.1.d.cut = false → Rel x.flush.1 m.fl) := by
  obtain ⟨a, b, c, d, e, g⟩ := fl_all (x.wts.length + 1) h.fit h.ri h.rc h.un (Nat.lt_succ_self _)
  refine ⟨a, b, d, e, fun z => ?_⟩
  obtain ⟨g1, g2, g3, g4⟩ := g z
  have eev : m.fl.done ++ m.fl.waits = m.done ++ m.waits := List.append_nil _
  refine ⟨a, ?_, by rw [eev]; exact c, ⟨by show (RS.fl _ x).1.mem.map (·.1) = m.order; rw [g2]; exact h.sy.o, g1, g3.trans h.sy.k⟩, g4.trans h.rd, z, by show 0 ≤ (RS.fl _ x).1.most; rw [g3]; exact h.k0, by show (((RS.fl _ x).1.mem.length : Nat) : Int) ≤ (RS.fl _ x).1.most; rw [g2, g3]; exact h.rm⟩
  obtain ⟨⟨bs, q, l, s, p, u⟩, hb⟩ := b
  obtain ⟨u1, u2⟩ := u z
  have u1 : bs ++ (RS.fl (x.wts.length + 1) x).1.wts = m.done ++ m.waits := u1
  rw [g1, List.append_nil] at u1
  rw [eev]
  refine ⟨⟨bs, q, l, ?_, p, u⟩, hb⟩
  show (m.done ++ m.waits).length ≤ _
  rw [u1]
  exact Nat.le_refl _
/-! ### a new begin -/
def MS.begun (most : Int) (bs : List BRows) : MS := { most := most, order := [], waits := [], done := bs, reads := 0 }
theorem rel_begun {d : DS} (hf : Fit d) (w0 : d.wai = []) (hu : d.cut = false) {bs : List BRows} {e : Int} (l : LogOk (W d.sec) bs e) (hb : ∀ g ∈ bs, BFit g) (hn : bs.length ≤ 500) (hs : d.sec.length ≤ 40000) {most : Int} (h0 : 0 ≤ most) :
    Rel (RS.begun d most bs e) (MS.begun most bs) := by
  have er := read_W w0
  have hr := l.noRoots
  have en := hr.newest
  have ebs : (RS.begun d most bs e).bs = ⟨1, 0, bs.length, pagesOf bs, e⟩ := by
    show BS.opened _ bs e = _
    rw [er, en]
    show BS.mk 1 0 (0 + (bs.length : Int)) (bs.foldl takeR []) e = _
    rw [Int.zero_add]
    rfl
  have ep : ∀ y ∈ pagesOf bs, y.2.length = 64 := by
    have key : ∀ (gs : List BRows) (s : List (Int × Page)), (∀ y ∈ s, y.2.length = 64) → (∀ g ∈ gs, BFit g) → ∀ y ∈ gs.foldl takeR s, y.2.length = 64 := by
      intro gs
      induction gs with
      | nil => intro s h _; exact h
      | cons g gs ih =>
        intro s h hg
        exact ih (takeR s g) (takeR_64 h (hg g List.mem_cons_self).h64) fun z hz => hg z (List.mem_cons_of_mem _ hz)
    exact key bs [] (fun y hy => by cases hy) hb
  have e0 : (MS.begun most bs).done ++ (MS.begun most bs).waits = bs := List.append_nil _
  refine ⟨⟨List.nodup_nil, Nat.zero_le _, (fun y hy => by cases hy), (fun g hg => by cases hg), Nat.zero_le _, hf, w0, ?_, ?_, by rw [ebs]; exact ep⟩, ?_, ⟨(fun y hy => by cases hy), (fun n hn => by cases hn)⟩, ⟨rfl, rfl, rfl⟩, rfl, hu, h0, h0⟩
  · show d.sec.length + 57 * 0 + (if d.cut = true then 0 else 57) ≤ 50000
    split <;> omega
  · rw [ebs]
    have := pages_len bs hb
    show (pagesOf bs).length + 12 * 0 ≤ 100000
    omega
  · rw [e0]
    exact ⟨⟨bs, e, l, Nat.le_refl _, List.prefix_refl _, fun _ => ⟨List.append_nil _, ebs⟩⟩, hb⟩
def RS.withD (x : RS) (d : DS) : RS := { x with d := d }
theorem rel_cutin {x : RS} {m : MS} (h : Rel x m) (k : Int) (rows : List (Int × Int)) (hr : rows.length ≤ 60000) : Rel (x.withD { x.d with left := some k, rows := rows }) m := by
  have hf := h.fit
  refine ⟨⟨hf.nd, hf.ml, hf.m64, hf.w64, hf.wl, ⟨hf.fit.nd, hf.fit.sz, hr, hf.fit.ls, hf.fit.lw, hf.fit.wz⟩, hf.w0, hf.ph, hf.pp, hf.p64⟩, ⟨h.ri.ex, h.ri.fit⟩, ⟨h.rc.co, h.rc.wm⟩, ⟨h.sy.o, h.sy.w, h.sy.k⟩, h.rd, h.un, h.k0, h.rm⟩
end K51

/-! KL1: the law's own model: use, pages. -/
namespace K51
open PySem PySem.Spec PyProof.Rows L2 Y
def md (ms : Int) (o w dn : Addr) (rd : Int) : List (Key × V) := [(Sum.inr "most", .int ms), (Sum.inr "order", .ref o), (Sum.inr "waits", .ref w), (Sum.inr "done", .ref dn), (Sum.inr "reads", .int rd)]
theorem vv_hit {κ : Type} [DecidableEq κ] {k : κ} {v : V} {r : List (κ × V)} : valV ((k, v) :: r) k = some v := by
  unfold valV
  simp
theorem vv_miss {κ : Type} [DecidableEq κ] {k g : κ} {v : V} {r : List (κ × V)} (h : g ≠ k) : valV ((g, v) :: r) k = valV r k := by
  unfold valV
  simp [h]
theorem inr_ne {x y : Str} (h : (x == y) = false) : (Sum.inr x : Key) ≠ Sum.inr y := fun z => by
  have := Sum.inr.inj z
  subst this
  simp at h
theorem putK_at {κ : Type} [DecidableEq κ] (k : κ) (v v' : V) (pre post : List (κ × V)) (h1 : ∀ p ∈ pre, p.1 ≠ k) (h2 : ∀ p ∈ post, p.1 ≠ k) : putK (pre ++ (k, v) :: post) k v' = pre ++ (k, v') :: post := by
  have hm : ∀ l : List (κ × V), (∀ p ∈ l, p.1 ≠ k) → l.map (fun kv => if kv.1 = k then (kv.1, v') else kv) = l := fun l h => by
    induction l with
    | nil => rfl
    | cons p l ih => rw [List.map_cons, if_neg (h p List.mem_cons_self), ih fun q hq => h q (List.mem_cons_of_mem _ hq)]
  unfold putK
  rw [if_pos (by rw [List.any_append, List.any_cons, decide_eq_true rfl, Bool.true_or, Bool.or_true]), List.map_append, List.map_cons, hm pre h1, hm post h2, if_pos rfl]
theorem all1 {κ : Type} {k : κ} {a : κ × V} {l : List (κ × V)} (h : a.1 ≠ k) (t : ∀ p ∈ l, p.1 ≠ k) : ∀ p ∈ a :: l, p.1 ≠ k := fun p hp => by
  rcases List.mem_cons.mp hp with e | e
  · rw [e]; exact h
  · exact t p e
theorem all0 {κ : Type} {k : κ} : ∀ p ∈ ([] : List (κ × V)), p.1 ≠ k := fun p hp => by cases hp
section
variable {ms : Int} {o w dn : Addr} {rd : Int}
theorem md_most : valV (md ms o w dn rd) (Sum.inr "most") = some (.int ms) := vv_hit
theorem md_order : valV (md ms o w dn rd) (Sum.inr "order") = some (.ref o) := (vv_miss (inr_ne (by decide +kernel))).trans vv_hit
theorem md_waits : valV (md ms o w dn rd) (Sum.inr "waits") = some (.ref w) := (vv_miss (inr_ne (by decide +kernel))).trans ((vv_miss (inr_ne (by decide +kernel))).trans vv_hit)
theorem md_done : valV (md ms o w dn rd) (Sum.inr "done") = some (.ref dn) := (vv_miss (inr_ne (by decide +kernel))).trans ((vv_miss (inr_ne (by decide +kernel))).trans ((vv_miss (inr_ne (by decide +kernel))).trans vv_hit))
theorem md_reads : valV (md ms o w dn rd) (Sum.inr "reads") = some (.int rd) := (vv_miss (inr_ne (by decide +kernel))).trans ((vv_miss (inr_ne (by decide +kernel))).trans ((vv_miss (inr_ne (by decide +kernel))).trans ((vv_miss (inr_ne (by decide +kernel))).trans vv_hit)))
theorem md_porder (o' : Addr) : putK (md ms o w dn rd) (Sum.inr "order") (.ref o') = md ms o' w dn rd := putK_at (Sum.inr "order" : Key) (.ref o) (.ref o') [(Sum.inr "most", .int ms)] [(Sum.inr "waits", .ref w), (Sum.inr "done", .ref dn), (Sum.inr "reads", .int rd)] (all1 (inr_ne (by decide +kernel)) all0) (all1 (inr_ne (by decide +kernel)) (all1 (inr_ne (by decide +kernel)) (all1 (inr_ne (by decide +kernel)) all0)))
theorem md_pwaits (w' : Addr) : putK (md ms o w dn rd) (Sum.inr "waits") (.ref w') = md ms o w' dn rd := putK_at (Sum.inr "waits" : Key) (.ref w) (.ref w') [(Sum.inr "most", .int ms), (Sum.inr "order", .ref o)] [(Sum.inr "done", .ref dn), (Sum.inr "reads", .int rd)] (all1 (inr_ne (by decide +kernel)) (all1 (inr_ne (by decide +kernel)) all0)) (all1 (inr_ne (by decide +kernel)) (all1 (inr_ne (by decide +kernel)) all0))
theorem md_pdone (d' : Addr) : putK (md ms o w dn rd) (Sum.inr "done") (.ref d') = md ms o w d' rd := putK_at (Sum.inr "done" : Key) (.ref dn) (.ref d') [(Sum.inr "most", .int ms), (Sum.inr "order", .ref o), (Sum.inr "waits", .ref w)] [(Sum.inr "reads", .int rd)] (all1 (inr_ne (by decide +kernel)) (all1 (inr_ne (by decide +kernel)) (all1 (inr_ne (by decide +kernel)) all0))) (all1 (inr_ne (by decide +kernel)) all0)
theorem md_preads (z : Int) : putK (md ms o w dn rd) (Sum.inr "reads") (.int z) = md ms o w dn z := putK_at (Sum.inr "reads" : Key) (.int rd) (.int z) [(Sum.inr "most", .int ms), (Sum.inr "order", .ref o), (Sum.inr "waits", .ref w), (Sum.inr "done", .ref dn)] [] (all1 (inr_ne (by decide +kernel)) (all1 (inr_ne (by decide +kernel)) (all1 (inr_ne (by decide +kernel)) (all1 (inr_ne (by decide +kernel)) all0)))) all0
end
/-- the model's dict at a, its lists at o, w, dn -/
structure MdAt (G H : Hp) (a o w dn : Addr) (m : MS) : Prop where
  dk : H a = some (.dK (md m.most o w dn m.reads))
  od : H o = some (rowI m.order)
  wa : LstAt (rL rSec) G H w m.waits
  de : LstAt (rL rSec) G H dn m.done
  ga : G a = none
  go : G o = none
  gw : G w = none
  gd : G dn = none
  now : o ≠ w
  nod : o ≠ dn
  nwd : w ≠ dn
def MOwn (a o w dn : Addr) : Addr → Prop := fun b => b = a ∨ b = o ∨ b = w ∨ b = dn
section
variable {G H G' H' : Hp} {a o w dn : Addr} {m : MS}
theorem MdAt.stp {O : Addr → Prop} (h : MdAt G H a o w dn m) (e : Stp O G H G' H') (n : ∀ b, MOwn a o w dn b → ¬ O b) : MdAt G' H' a o w dn m := by
  obtain ⟨ws, h3, p3⟩ := h.wa
  obtain ⟨ds, h4, p4⟩ := h.de
  exact { h with
    dk := e.kp _ _ h.dk (n _ (.inl rfl))
    od := e.kp _ _ h.od (n _ (.inr (.inl rfl)))
    wa := ⟨ws, e.kp _ _ h3 (n _ (.inr (.inr (.inl rfl)))), mRow.l.ps e.gg p3⟩
    de := ⟨ds, e.kp _ _ h4 (n _ (.inr (.inr (.inr rfl)))), mRow.l.ps e.gg p4⟩
    ga := e.nw _ (ne_none h.dk) h.ga
    go := e.nw _ (ne_none h.od) h.go
    gw := e.nw _ (ne_none h3) h.gw
    gd := e.nw _ (ne_none h4) h.gd }
theorem MdAt.apart (h : MdAt G H a o w dn m) : a ≠ o ∧ a ≠ w ∧ a ≠ dn := by
  obtain ⟨ws, h3, _⟩ := h.wa
  obtain ⟨ds, h4, _⟩ := h.de
  exact ⟨ne_of h.dk h.od fun z => (nomatch z), ne_of h.dk h3 fun z => (nomatch z), ne_of h.dk h4 fun z => nomatch z⟩
/-- the dict is written -/
theorem MdAt.setD (h : MdAt G H a o w dn m) {o' w' dn' : Addr} {m' : MS} (e : upd H a (.dK (md m'.most o' w' dn' m'.reads)) = H') (ho : H o' = some (rowI m'.order)) (hw : LstAt (rL rSec) G H w' m'.waits) (hd : LstAt (rL rSec) G H dn' m'.done)
    (go : G o' = none) (gw : G w' = none) (gd : G dn' = none) (n1 : o' ≠ w') (n2 : o' ≠ dn') (n3 : w' ≠ dn') : MdAt G H' a o' w' dn' m' := by
  obtain ⟨ws, h3, p3⟩ := hw
  obtain ⟨ds, h4, p4⟩ := hd
  have k : ∀ {b : Addr} {xs : List V}, H b = some (.lst xs) → H' b = some (.lst xs) := fun {b xs} hb => by
    rw [← e, upd_ne (ne_of hb h.dk fun z => nomatch z)]
    exact hb
  exact ⟨by rw [← e]; exact upd_same, k ho, ⟨ws, k h3, p3⟩, ⟨ds, k h4, p4⟩, h.ga, go, gw, gd, n1, n2, n3⟩
end
section
variable {P : Program} {w : World} {K : PySem.W.Frag} {mg : Str → Option Value} {base : Heap} {R C B : Addr} {tS : Tok}
theorem inV_ints (n : Int) (xs : List Int) : inV (.int n) (xs.map V.int) = decide (n ∈ xs) := by
  unfold inV
  rw [List.any_map]
  induction xs with
  | nil => rfl
  | cons x xs ih =>
    rw [List.any_cons, ih]
    show (eqV (.int x) (.int n) || decide (n ∈ xs)) = _
    have : eqV (.int x) (.int n) = decide (x = n) := by
      simp only [eqV]
      rfl
    rw [this]
    by_cases h : x = n
    · subst h; simp
    · have h' : ¬ n = x := fun z => h z.symm
      simp [h, h']
def spUse : Sp := fun vs H Q _ => ∃ (G : Hp) (a o wa dn : Addr) (m : MS) (n : Int), vs = [.ref a, .int n] ∧ Same G H ∧ MdAt G H a o wa dn m ∧ m.order.length ≤ 1000 ∧
  ∀ o' G' H', Stp (fun b => b = a) G H G' H' → MdAt G' H' a o' wa dn { m with order := useO m.order n } → H o' = none → Q (.bl (decide (n ∈ m.order))) H'
abbrev s__law_use : Stmt := top 24
theorem sc__law_use : FnScope ["model", "number", "there", "one"] ["model", "number"] (defScope s__law_use) := ⟨rfl, rfl, rfl, by decide +kernel, rfl, by decide +kernel, by decide +kernel⟩
theorem ok_use {f : Addr} {fd : FuncData} (F : Fun K "_law_use" "_law_use" s__law_use f fd) : FnOk P w K mg base CX0 1 f fd ["model", "number"] spUse := by
  refine F.ok sc__law_use (fun vs H Q E h => ?_) (fun cdv A0 outer st H vs Q E hr h => ?_)
  · obtain ⟨G, a, o, wa, dn, m, n, rfl, _⟩ := h
    rfl
  · obtain ⟨G, a, o, wa, dn, m, n, rfl, gh, D, ol, k⟩ := h
    have nd := sc__law_use.nd
    have hu := hu_of hr
    refine ⟨_, (pss_cons (ps_set (i := 2) nd rfl (Or.inl rfl) (pe_cmpR (op_in_seqK (K := K) rfl) (pv 1) (pe_dget hu (pv 0) pe_str (fun _ _ => rfl)) rfl))
    (pss_cons (ps_dput hu (pv 0) pe_str (pe_op op_cat (pe_lc (own := [("one", 3)]) rfl nd (pi_listK (K := K) rfl (pe_dget hu (pv 0) pe_str (fun _ _ => rfl))) (blkOk_by (own := [("one", 3)]) (N := ["model", "number", "there", "one"]) (sc := defScope s__law_use) (by decide +kernel)) (fun _ _ _ _ _ => (pg_name (i := 3) nd rfl (Or.inl rfl))) (fun _ _ _ _ _ => (pts_one (pt_cmpR op_ne (pv 3) (pv 1) (nomark _)))) (fun _ _ _ _ _ => (pv 3))) (pe_lst (pa_cons (pv 1) pa_nil))) rfl)
    (pss_one (ps_ret (pv 2))))), ?_⟩
    have gO : ∀ {H1 : Hp}, H1 a = some (.dK (md m.most o wa dn m.reads)) → DGet H1 a (.str "order") (some (.ref o)) := fun {H1} e => by
      have z := DGet.k (k := Sum.inr "order") e
      rw [md_order] at z
      exact z
    have fl : (m.order.map V.int).all flatV = true := by
      rw [List.all_eq_true]
      intro y hy
      obtain ⟨z, _, rfl⟩ := List.mem_map.mp hy
      rfl
    refine ⟨_, rfl, _, rfl, a, _, rfl, gO D.dk, o, _, rfl, .inl (SqL.of D.od), rfl, fl, ?_⟩
    rw [if_neg Bool.false_ne_true, inV_ints]
    refine ⟨_, rfl, a, _, rfl, gO D.dk, o, rfl, ⟨_, SqL.of D.od⟩, fun L nL => ?_⟩
    obtain ⟨s1, f1, k1, g1, z1⟩ := own_of (o := .lst []) (Stp.refl (O := O0) gh) nL rfl
    refine lc_list (K := K) (a := o) (xs := m.order.map V.int) (fun i H2 => Stp O0 G H G H2 ∧ H2 L = some (rowI ((m.order.take i).filter fun y => decide (y ≠ n)))) ⟨s1, f1⟩ (fun i H2 _ ⟨s2, _⟩ => SqL.of (s2.kp _ _ D.od fun z => z)) ?_ ?_
    · rintro i y H2 hi ⟨s2, f2⟩
      obtain ⟨z, hz, rfl⟩ : ∃ z, m.order[i]? = some z ∧ y = V.int z := by
        rw [List.getElem?_map] at hi
        cases e : m.order[i]? with
        | none => rw [e] at hi; cases hi
        | some z => rw [e] at hi; exact ⟨z, rfl, (Option.some.inj hi).symm⟩
      have hi2 := (List.getElem?_eq_some_iff.mp hz).1
      have hfl := List.length_filter_le (fun y => decide (y ≠ n)) (m.order.take i)
      rw [List.length_take] at hfl
      refine ⟨rfl, _, rfl, _, rfl, rfl, _, rfl, if_nint (fun e => ?_) (fun e => ?_)⟩
      · refine ⟨_, rfl, _, f2, by rw [List.length_map, sizeLine_eq]; omega, ?_⟩
        generalize e3 : upd H2 L _ = H3
        obtain ⟨s3, f3, k3⟩ := wr_of s2 f2 g1 (.inr z1) e3
        refine ⟨s3, ?_⟩
        rw [f3, List.take_add_one, hz, List.filter_append]
        have : (some z).toList.filter (fun y => decide (y ≠ n)) = [z] := by simp [e]
        rw [this, rowI, List.map_append]
        rfl
      · refine ⟨s2, ?_⟩
        rw [f2, List.take_add_one, hz, List.filter_append]
        have : (some z).toList.filter (fun y => decide (y ≠ n)) = [] := by simp [e]
        rw [this, List.append_nil]
    · rintro H2 ⟨s2, f2⟩
      rw [List.length_map, List.take_of_length_le (Nat.le_refl _)] at f2
      have hfl := List.length_filter_le (fun y => decide (y ≠ n)) m.order
      refine ⟨_, rfl, (by show 1 ≤ sizeLine; decide), fun p3 n3 => ?_⟩
      generalize e3 : upd H2 p3 _ = H3
      obtain ⟨s3, f3, k3, g3, z3⟩ := own_of s2 n3 e3
      refine ⟨L, p3, _, _, rfl, rfl, k3 _ _ f2, f3, by rw [List.length_map, sizeLine_eq]; show _ + 1 ≤ _; omega, fun o' no' => ?_⟩
      generalize e4 : upd H3 o' _ = H4
      obtain ⟨s4, f4, k4, g4, z4⟩ := own_of s3 no' e4
      have fo4 : H4 o' = some (rowI (useO m.order n)) := by
        rw [f4]
        unfold useO
        rw [rowI, List.map_append]
        rfl
      have D4 := D.stp s4 fun _ _ z => z
      refine ⟨_, rfl, a, _, rfl, DPut.k (k := Sum.inr "order") D4.dk (by show 5 < sizeLine; decide), ?_⟩
      rw [md_porder]
      generalize e5 : upd H4 a _ = H5
      obtain ⟨s5, f5, k5⟩ := wr_of (O := fun b => b = a) (s4.mono fun _ z => z.elim) D4.dk D4.ga (.inl rfl) e5
      obtain ⟨ws, h3, _⟩ := D.wa
      obtain ⟨ds, h4, _⟩ := D.de
      have D5 : MdAt G H5 a o' wa dn { m with order := useO m.order n } := D4.setD (m' := { m with order := useO m.order n }) e5 fo4 D4.wa D4.de g4 D4.gw D4.gd (ne_of_none h3 z4).symm (ne_of_none h4 z4).symm D4.nwd
      exact ⟨_, rfl, k o' G H5 s5 D5 z4⟩
theorem mem_pages (gs : List BRows) (n : Int) : n ∈ (pagesOf gs).map (·.1) ↔ isW gs n = true := by
  rw [← look_isSome]
  have key : ∀ (gs : List BRows) (s : List (Int × Page)), (look (gs.foldl takeR s) n).isSome = ((look s n).isSome || isW gs n) := by
    intro gs
    induction gs with
    | nil => intro s; rw [show isW [] n = false from rfl, Bool.or_false]; rfl
    | cons g gs ih =>
      intro s
      show (look (gs.foldl takeR (takeR s g)) n).isSome = _
      rw [ih, isW_cons]
      have k2 : ∀ (g : BRows) (s : List (Int × Page)), (look (takeR s g) n).isSome = ((look s n).isSome || g.any (fun r => decide (r.1 = n))) := by
        intro g
        induction g with
        | nil => intro s; rw [List.any_nil, Bool.or_false]; rfl
        | cons r g ih2 =>
          intro s
          show (look (takeR (put s r.1 r.2) g) n).isSome = _
          rw [ih2, look_put, List.any_cons]
          by_cases h : n = r.1
          · rw [if_pos h, decide_eq_true h.symm]
            simp
          · rw [if_neg h, decide_eq_false fun z => h z.symm, Bool.false_or]
      rw [k2, Bool.or_assoc]
  unfold pagesOf
  rw [key gs [], show (look ([] : List (Int × Page)) n).isSome = false from rfl, Bool.false_or]
def spPages : Sp := fun vs H Q _ => ∃ (G : Hp) (a : Addr) (gs : List BRows), vs = [.ref a] ∧ Same G H ∧ LstAt (rL rSec) G H a gs ∧ (∀ g ∈ gs, BFit g) ∧ gs.length ≤ 1000 ∧
  ∀ q kvs G' H', Stp O0 G H G' H' → H q = none → G' q = none → H' q = some (.dK kvs) → DRel (rL rI) G' kvs (pagesOf gs) → Q (.ref q) H'
abbrev s__law_pages : Stmt := top 26
theorem sc__law_pages : FnScope ["groups", "pages", "group", "number", "octets"] ["groups"] (defScope s__law_pages) := ⟨rfl, rfl, rfl, by decide +kernel, rfl, by decide +kernel, by decide +kernel⟩
theorem ok_pages {f : Addr} {fd : FuncData} (F : Fun K "_law_pages" "_law_pages" s__law_pages f fd) : FnOk P w K mg base CX0 1 f fd ["groups"] spPages := by
  refine F.ok sc__law_pages (fun vs H Q E h => ?_) (fun cdv A0 outer st H vs Q E hr h => ?_)
  · obtain ⟨G, a, gs, rfl, _⟩ := h
    rfl
  · obtain ⟨G, a, gs, rfl, gh, ⟨us, ha, pu⟩, hb, hl, k⟩ := h
    have nd := sc__law_pages.nd
    have hu := hu_of hr
    refine ⟨_, (pss_cons (ps_set (i := 1) nd rfl (Or.inl rfl) pe_dnewK)
    (pss_cons (ps_for PassesOwn.never rfl (pi_listK (K := K) rfl (pv 0)) (pg_name (i := 2) nd rfl (Or.inl rfl))
    (pss_one (ps_for PassesOwn.never rfl (pi_listK (K := K) rfl (pv 2)) (pg_tupK (K := K) (n := 2) rfl rfl (pgs_cons (pg_name (i := 3) nd rfl (Or.inl rfl)) (pgs_cons (pg_name (i := 4) nd rfl (Or.inl rfl)) pgs_nil)))
    (pss_one (ps_dput hu (pv 1) (pv 3) (pv 4) rfl)))))
    (pss_one (ps_ret (pv 1))))), ?_⟩
    intro q nq
    generalize e1 : upd H q _ = H1
    obtain ⟨s1, f1, k1, g1, z1⟩ := own_of (Stp.refl (O := O0) gh) nq e1
    have lus := pd_len pu
    have qa : a ≠ q := ne_of_none ha nq
    refine ⟨_, rfl, a, rfl, ⟨_, SqL.of (k1 _ _ ha)⟩, for_list (K := K) (a := a) (xs := us)
      (fun i σ H2 => (∃ y2 y3 y4, σ = [some (.ref a), some (.ref q), y2, y3, y4]) ∧ Stp O0 G H G H2 ∧ ∃ kvs, H2 q = some (.dK kvs) ∧ DRel (rL rI) G kvs (pagesOf (gs.take i)))
      ⟨⟨_, _, _, rfl⟩, s1, [], f1, .nil⟩ (fun i σ H2 _ ⟨_, s2, _⟩ => SqL.of (s2.kp _ _ ha fun z => z)) ?_ ?_⟩
    · rintro i y σ H2 hi ⟨⟨y2, y3, y4, rfl⟩, s2, kvs, f2, r2⟩
      obtain ⟨g, hg, c, vs, rfl, hc, pv⟩ := pd_get pu hi
      have hi2 := (List.getElem?_eq_some_iff.mp hi).1
      have hgb := hb g (List.mem_of_getElem? hg)
      have hpl := pages_len (gs.take i) fun z hz => hb z (List.mem_of_mem_take hz)
      rw [List.length_take] at hpl
      refine ⟨_, rfl, c, rfl, ⟨_, SqL.of (s2.gh _ _ hc)⟩, for_list (K := K) (a := c) (xs := vs)
        (fun j σ H3 => (∃ y3 y4, σ = [some (.ref a), some (.ref q), some (.ref c), y3, y4]) ∧ Stp O0 G H G H3 ∧ ∃ kvs, H3 q = some (.dK kvs) ∧ DRel (rL rI) G kvs (takeR (pagesOf (gs.take i)) (g.take j)))
        ⟨⟨_, _, rfl⟩, s2, kvs, f2, r2⟩ (fun j σ H3 _ ⟨_, s3, _⟩ => SqL.of (s3.gh _ _ hc)) ?_ ?_⟩
      · rintro j y σ H3 hj ⟨⟨y3, y4, rfl⟩, s3, kvs3, f3, r3⟩
        obtain ⟨r, hr', t, u, c0, rfl, ht, hu', hc'⟩ := pd_get pv hj
        cases hu'
        have htl := takeR_len (g.take j) (pagesOf (gs.take i))
        rw [List.length_take] at htl
        have hk3 := pd_len r3
        have hfew := hgb.few
        refine g_pair (s3.gh _ _ ht) ⟨_, rfl, _, rfl, _, rfl, q, _, rfl, DPut.k (k := Sum.inl r.1) f3 (by rw [sizeLine_eq]; omega), ?_⟩
        generalize e4 : upd H3 q _ = H4
        obtain ⟨s4, f4, k4⟩ := wr_of s3 f3 g1 (.inr z1) e4
        refine ⟨⟨_, _, rfl⟩, s4, _, f4, ?_⟩
        rw [takeR_snoc _ hr']
        exact r3.put hc'
      · rintro σ H3 ⟨⟨y3, y4, rfl⟩, s3, kvs3, f3, r3⟩
        rw [pd_len pv, List.take_of_length_le (Nat.le_refl _)] at r3
        refine ⟨⟨_, _, _, rfl⟩, s3, kvs3, f3, ?_⟩
        rw [List.take_add_one, hg]
        show DRel (rL rI) G kvs3 (pagesOf (gs.take i ++ [g]))
        rw [pagesOf_snoc]
        exact r3
    · rintro σ H2 ⟨⟨y2, y3, y4, rfl⟩, s2, kvs, f2, r2⟩
      rw [lus, List.take_of_length_le (Nat.le_refl _)] at r2
      exact ⟨_, rfl, k q kvs G H2 s2 z1 g1 f2 r2⟩
end
end K51

/-! KL2: the law's own model: make_room, begun. -/
namespace K51
open PySem PySem.Spec PyProof.Rows L2 Y
theorem erase_at : ∀ {ns : List Int} {c : Int}, ns.Nodup → c ∈ ns → ∃ j : Nat, ns[j]? = some c ∧ (∀ m : Nat, m < j → ns[m]? ≠ some c) ∧ ns.eraseIdx j = ns.filter fun y => decide (y ≠ c)
  | [], _, _, h => by cases h
  | x :: ns, c, nd, h => by
    rw [List.nodup_cons] at nd
    by_cases hx : x = c
    · subst hx
      refine ⟨0, rfl, fun m hm => by omega, ?_⟩
      rw [List.filter_cons_of_neg (by simp)]
      show ns = _
      rw [List.filter_eq_self.mpr]
      intro y hy
      exact decide_eq_true fun e => nd.1 (by rw [← e]; exact hy)
    · obtain ⟨j, h1, h2, h3⟩ := erase_at nd.2 (by rcases List.mem_cons.mp h with e | e; exact absurd e.symm hx; exact e)
      refine ⟨j + 1, h1, fun m hm => ?_, by rw [List.filter_cons_of_pos (by simpa using hx), List.eraseIdx_cons_succ, h3]⟩
      cases m with
      | zero => exact fun z => hx (Option.some.inj z)
      | succ m => exact h2 m (by omega)
def LOwn (o w dn : Addr) : Addr → Prop := fun b => b = o ∨ b = w ∨ b = dn
section
variable {G H G' H' : Hp} {a o w dn : Addr} {m : MS}
theorem MdAt.setO (h : MdAt G H a o w dn m) {xs : List Int} (e : upd H o (rowI xs) = H') : MdAt G H' a o w dn { m with order := xs } := by
  obtain ⟨ws, h3, p3⟩ := h.wa
  obtain ⟨ds, h4, p4⟩ := h.de
  exact { h with
    dk := by rw [← e, upd_ne h.apart.1]; exact h.dk
    od := by rw [← e]; exact upd_same
    wa := ⟨ws, by rw [← e, upd_ne h.now.symm]; exact h3, p3⟩
    de := ⟨ds, by rw [← e, upd_ne h.nod.symm]; exact h4, p4⟩ }
theorem MdAt.setW (h : MdAt G H a o w dn m) {vs : List V} {gs : List BRows} (e : upd H w (.lst vs) = H') (p : Paired (rL rSec G) vs gs) : MdAt G H' a o w dn { m with waits := gs } := by
  obtain ⟨ws, h3, p3⟩ := h.wa
  obtain ⟨ds, h4, p4⟩ := h.de
  exact { h with
    dk := by rw [← e, upd_ne h.apart.2.1]; exact h.dk
    od := by rw [← e, upd_ne h.now]; exact h.od
    wa := ⟨vs, by rw [← e]; exact upd_same, p⟩
    de := ⟨ds, by rw [← e, upd_ne h.nwd.symm]; exact h4, p4⟩ }
theorem MdAt.setE (h : MdAt G H a o w dn m) {vs : List V} {gs : List BRows} (e : upd H dn (.lst vs) = H') (p : Paired (rL rSec G) vs gs) : MdAt G H' a o w dn { m with done := gs } := by
  obtain ⟨ws, h3, p3⟩ := h.wa
  obtain ⟨ds, h4, p4⟩ := h.de
  exact { h with
    dk := by rw [← e, upd_ne h.apart.2.2]; exact h.dk
    od := by rw [← e, upd_ne h.nod]; exact h.od
    wa := ⟨ws, by rw [← e, upd_ne h.nwd]; exact h3, p3⟩
    de := ⟨vs, by rw [← e]; exact upd_same, p⟩ }
end
section
variable {P : Program} {w : World} {K : PySem.W.Frag} {mg : Str → Option Value} {base : Heap} {R C B : Addr} {tS : Tok}
structure MFit (m : MS) : Prop where
  nd : m.order.Nodup
  ol : m.order.length ≤ 1000
  wl : m.done.length + m.waits.length ≤ 1000
  k0 : 0 ≤ m.most
  wb : ∀ g ∈ m.done ++ m.waits, BFit g
def spLMR : Sp := fun vs H Q _ => ∃ (G : Hp) (a o wa dn : Addr) (m : MS), vs = [.ref a] ∧ Same G H ∧ MdAt G H a o wa dn m ∧ MFit m ∧
  ∀ G' H', Stp (LOwn o wa dn) G H G' H' → MdAt G' H' a o wa dn m.made → Q .non H'
abbrev s__law_make_room : Stmt := top 25
theorem sc__law_make_room : FnScope ["model", "waiting", "clean", "number"] ["model"] (defScope s__law_make_room) := ⟨rfl, rfl, rfl, by decide +kernel, rfl, by decide +kernel, by decide +kernel⟩
theorem ok_lmr {f : Addr} {fd : FuncData} (F : Fun K "_law_make_room" "_law_make_room" s__law_make_room f fd) (T : Txt K mg C tS) (L__law_pages : FnC P w K mg base "_law_pages" 1 ["groups"] spPages) : FnOk P w K mg base CX0 2 f fd ["model"] spLMR := by
  refine F.ok sc__law_make_room (fun vs H Q E h => ?_) (fun cdv A0 outer st H vs Q E hr h => ?_)
  · obtain ⟨G, a, o, wa, dn, m, rfl, _⟩ := h
    rfl
  · obtain ⟨G, a, o, wa, dn, m, rfl, gh, D, mf, k⟩ := h
    have nd := sc__law_make_room.nd
    have hu := hu_of hr
    refine ⟨_, (pss_one (ps_while PassesOwn.never (pt_cmpR op_gt (pe_callB (call_len_seqK (K := K) rfl) (by rfl) T.b_len (by decide +kernel) (pa_cons (pe_dget hu (pv 0) pe_str (fun _ _ => rfl)) pa_nil)) (pe_dget hu (pv 0) pe_str (fun _ _ => rfl)) (nomark _))
    (pss_cons (ps_set (i := 1) nd rfl (Or.inr rfl) (pe_callB (call_sortedDA rfl) (by rfl) T.b_sorted (by decide +kernel) (pa_cons (pe_fnc L__law_pages (hr.mono (by decide)) rfl (pa_cons (pe_dget hu (pv 0) pe_str (fun _ _ => rfl)) pa_nil)) pa_nil)))
    (pss_cons (ps_setLc (i := 2) (own := [("number", 3)]) rfl nd rfl rfl (sw_true rfl rfl rfl (by decide +kernel)) (pi_listK (K := K) rfl (pe_dget hu (pv 0) pe_str (fun _ _ => rfl))) (blkOk_by (own := [("number", 3)]) (N := ["model", "waiting", "clean", "number"]) (sc := defScope s__law_make_room) (by decide +kernel)) (fun _ _ _ _ _ => (pg_name (i := 3) nd rfl (Or.inl rfl))) (fun _ _ _ _ _ => (pts_one (pt_cmpR (op_notIn_seqK (K := K) rfl) (pv 3) (pv 1) rfl))) (fun _ _ _ _ _ => (pv 3)))
    (pss_one (ps_if (pt_cmpR op_gt (pe_callB (call_len_seqK (K := K) rfl) (by rfl) T.b_len (by decide +kernel) (pa_cons (pv 2) pa_nil)) pe_int (nomark _))
    (pss_one (ps_expr (pe_bmK (K := K) rfl PySem.F.plainAttrs_list PySem.F.slot_list_remove PySem.F.type_list_remove mt_remove (pe_dget hu (pv 0) pe_str (fun _ _ => rfl)) (pa_cons (pe_ix (ix_listK (K := K) rfl) (pv 2) pe_int (fun _ _ => rfl)) pa_nil))))
    (pss_one (ps_expr (pe_bmK (K := K) rfl PySem.F.plainAttrs_list PySem.F.slot_list_append PySem.F.type_list_append mt_append (pe_dget hu (pv 0) pe_str (fun _ _ => rfl)) (pa_cons (pe_bmK (K := K) rfl PySem.F.plainAttrs_list PySem.F.slot_list_pop PySem.F.type_list_pop mt_popAt (pe_dget hu (pv 0) pe_str (fun _ _ => rfl)) (pa_cons pe_int pa_nil)) pa_nil)))))))))), ?_⟩
    have gO : ∀ {H1 : Hp} {ms rd : Int}, H1 a = some (.dK (md ms o wa dn rd)) → DGet H1 a (.str "order") (some (.ref o)) := fun {H1 ms rd} e => by
      have z := DGet.k (k := Sum.inr "order") e
      rw [md_order] at z
      exact z
    have gM : ∀ {H1 : Hp} {ms rd : Int}, H1 a = some (.dK (md ms o wa dn rd)) → DGet H1 a (.str "most") (some (.int ms)) := fun {H1 ms rd} e => by
      have z := DGet.k (k := Sum.inr "most") e
      rw [md_most] at z
      exact z
    have gW : ∀ {H1 : Hp} {ms rd : Int}, H1 a = some (.dK (md ms o wa dn rd)) → DGet H1 a (.str "waits") (some (.ref wa)) := fun {H1 ms rd} e => by
      have z := DGet.k (k := Sum.inr "waits") e
      rw [md_waits] at z
      exact z
    have gD : ∀ {H1 : Hp} {ms rd : Int}, H1 a = some (.dK (md ms o wa dn rd)) → DGet H1 a (.str "done") (some (.ref dn)) := fun {H1 ms rd} e => by
      have z := DGet.k (k := Sum.inr "done") e
      rw [md_done] at z
      exact z
    refine ⟨fun mm σ H1 => ∃ (m1 : MS) (G1 : Hp) (y1 y2 y3 : Option V), σ = [some (.ref a), y1, y2, y3] ∧ mm = m1.order.length + m1.waits.length ∧ Stp (LOwn o wa dn) G H G1 H1 ∧ MdAt G1 H1 a o wa dn m1 ∧ MFit m1 ∧
      ∃ f1, mm + 1 ≤ f1 ∧ MS.mroom f1 m1 = m.made, ⟨_, m, G, _, _, _, rfl, rfl, Stp.refl gh, D, mf, _, Nat.le_refl _, rfl⟩, ?_⟩
    rintro mm σ H1 ⟨m1, G1, y1, y2, y3, rfl, rfl, s1, D1, mf1, f1, hf1, ef1⟩
    obtain ⟨f2, rfl⟩ : ∃ f2, f1 = f2 + 1 := ⟨f1 - 1, by omega⟩
    obtain ⟨ws, hw, pw⟩ := id D1.wa
    obtain ⟨ds, hd, pd⟩ := id D1.de
    refine ⟨_, rfl, a, _, rfl, gO D1.dk, o, _, rfl, .inl (SqL.of D1.od), _, rfl, a, _, rfl, gM D1.dk, _, _, rfl, rfl, _, rfl, if_dec (fun hgt => ?_) (fun hle => ?_)⟩
    · rw [List.length_map] at hgt
      refine ⟨fun σ' H' => ∃ m', m' < m1.order.length + m1.waits.length ∧ _, fun σ' H' z => z, ?_⟩
      have wb1 : ∀ g ∈ m1.waits, BFit g := fun g hg => mf1.wb g (List.mem_append_right _ hg)
      have wl1 := mf1.wl
      have ol1 := mf1.ol
      refine ⟨_, rfl, a, _, rfl, gW D1.dk, G1, wa, m1.waits, rfl, s1.gh, D1.wa, wb1, by omega, fun q2 kvs2 G2 H2 s2 n2 g2 f2' r2 => ?_⟩
      have hpl := pages_len m1.waits wb1
      have D2 := D1.stp s2 fun _ _ z => z
      have s12 := s1.trans s2 fun _ z => z.elim
      refine ⟨q2, kvs2, _, rfl, .inl f2', r2.keys, by rw [List.length_map]; omega, fun ys p3 pm asc n3 => ?_⟩
      have hin : ∀ n : Int, n ∈ ys ↔ isW m1.waits n = true := fun n => by rw [pm.mem_iff, mem_pages]
      generalize e3 : upd H2 p3 _ = H3
      obtain ⟨s3, f3, k3, g3, z3⟩ := own_of s12 n3 e3
      have s23 : Stp O0 G2 H2 G2 H3 := (own_of (Stp.refl (O := O0) s12.gh) n3 e3).1
      have D3 := D2.stp s23 fun _ _ z => z
      have fly : (ys.map V.int).all flatV = true := by
        rw [List.all_eq_true]
        intro y hy
        obtain ⟨z, _, rfl⟩ := List.mem_map.mp hy
        rfl
      refine ⟨_, rfl, a, _, rfl, gO D3.dk, o, rfl, ⟨_, SqL.of D3.od⟩, fun L nL => ?_⟩
      obtain ⟨s4, f4, k4, g4, z4⟩ := own_of (o := .lst []) (Stp.refl (O := O0) s3.gh) nL rfl
      refine lc_list (K := K) (a := o) (xs := m1.order.map V.int) (fun i H4 => Stp O0 G2 H3 G2 H4 ∧ H4 L = some (rowI ((m1.order.take i).filter fun n => !(isW m1.waits n)))) ⟨s4, f4⟩ (fun i H4 _ ⟨s5, _⟩ => SqL.of (s5.kp _ _ D3.od fun z => z)) ?_ ?_
      · rintro i y H4 hi ⟨s5, f5⟩
        obtain ⟨z, hz, rfl⟩ : ∃ z, m1.order[i]? = some z ∧ y = V.int z := by
          rw [List.getElem?_map] at hi
          cases e : m1.order[i]? with
          | none => rw [e] at hi; cases hi
          | some z => rw [e] at hi; exact ⟨z, rfl, (Option.some.inj hi).symm⟩
        have hi2 := (List.getElem?_eq_some_iff.mp hz).1
        have hfl := List.length_filter_le (fun n => !(isW m1.waits n)) (m1.order.take i)
        rw [List.length_take] at hfl
        refine ⟨rfl, _, rfl, _, rfl, p3, _, rfl, .inl (SqL.of (s5.kp _ _ f3 fun z => z)), rfl, fly, _, rfl, ?_⟩
        rw [if_pos rfl, inV_ints]
        have edec : decide (z ∈ ys) = isW m1.waits z := by
          cases hw : isW m1.waits z with
          | true => exact decide_eq_true ((hin z).mpr hw)
          | false => exact decide_eq_false fun q => by rw [(hin z).mp q] at hw; cases hw
        rw [edec]
        refine if_nbool (fun e => ?_) (fun e => ?_)
        · refine ⟨_, rfl, _, f5, by rw [List.length_map, sizeLine_eq]; omega, ?_⟩
          generalize e6 : upd H4 L _ = H6
          obtain ⟨s6, f6, k6⟩ := wr_of s5 f5 g4 (.inr z4) e6
          refine ⟨s6, ?_⟩
          rw [f6, List.take_add_one, hz, List.filter_append]
          have : (some z).toList.filter (fun n => !(isW m1.waits n)) = [z] := by simp [e]
          rw [this, rowI, List.map_append]
          rfl
        · refine ⟨s5, ?_⟩
          rw [f5, List.take_add_one, hz, List.filter_append]
          have : (some z).toList.filter (fun n => !(isW m1.waits n)) = [] := by simp [e]
          rw [this, List.append_nil]
      · rintro H4 ⟨s5, f5⟩
        rw [List.length_map, List.take_of_length_le (Nat.le_refl _)] at f5
        have D5 := D3.stp s5 fun _ _ z => z
        have s15 := s3.trans s5 fun _ z => z.elim
        obtain ⟨ws5, hw5, pw5⟩ := id D5.wa
        obtain ⟨ds5, hd5, pd5⟩ := id D5.de
        cases ec : m1.order.filter (fun n => !(isW m1.waits n)) with
        | cons c rest =>
          rw [ec] at f5
          have hcm : c ∈ m1.order := by
            have : c ∈ m1.order.filter (fun n => !(isW m1.waits n)) := by rw [ec]; exact List.mem_cons_self
            exact (List.mem_filter.mp this).1
          obtain ⟨j, j1, j2, j3⟩ := erase_at mf1.nd hcm
          refine ⟨_, rfl, L, _, rfl, .inl (SqL.of f5), _, _, rfl, rfl, _, rfl, if_dec (fun _ => ?_) (fun z => absurd (by rw [List.length_map, List.length_cons]; omega) z)⟩
          refine ⟨_, rfl, a, _, rfl, gO D5.dk, .inl ⟨rfl, _, SqL.of D5.od⟩, _, rfl, L, _, _, _, rfl, rfl, SqL.of f5, at_of (j := 0) rfl rfl, o, m1.order, c, j, rfl, rfl, D5.od, j1, j2, ?_⟩
          rw [j3]
          generalize e6 : upd H4 o _ = H6
          obtain ⟨s6, f6, k6⟩ := wr_of s15 D5.od D5.go (.inl (.inl rfl)) e6
          have D6 := D5.setO e6
          have hlt : (m1.order.filter fun y => decide (y ≠ c)).length < m1.order.length := List.length_filter_lt_length_iff_exists.mpr ⟨c, hcm, by simp⟩
          rw [ms_go hgt ec] at ef1
          exact ⟨_, by show (m1.order.filter fun y => decide (y ≠ c)).length + m1.waits.length < _; omega, { m1 with order := m1.order.filter fun y => decide (y ≠ c) }, G2, _, _, _, rfl, rfl, s6, D6, ⟨mf1.nd.sublist List.filter_sublist, by show (m1.order.filter fun y => decide (y ≠ c)).length ≤ 1000; omega, mf1.wl, mf1.k0, mf1.wb⟩, f2,
            by show (m1.order.filter fun y => decide (y ≠ c)).length + m1.waits.length + 1 ≤ _; omega, ef1⟩
        | nil =>
          rw [ec] at f5
          refine ⟨_, rfl, L, _, rfl, .inl (SqL.of f5), _, _, rfl, rfl, _, rfl, if_dec (fun z => absurd z (by show ¬ (0 : Int) < ((0 : Nat) : Int); decide)) (fun _ => ?_)⟩
          cases ew : m1.waits with
          | nil =>
            exfalso
            rw [ew] at ec
            have hk0 := mf1.k0
            cases ho : m1.order with
            | nil => rw [ho] at hgt; have : ((([] : List Int).length : Nat) : Int) = 0 := rfl; omega
            | cons x xs => rw [ho, List.filter_cons_of_pos rfl] at ec; cases ec
          | cons g rest =>
            rw [ms_pop hgt ec ew] at ef1
            have pw5' := pw5
            rw [ew] at pw5'
            obtain ⟨v0, ws', rfl, rv0, pw6⟩ : ∃ v0 ws', ws5 = v0 :: ws' ∧ rL rSec G2 v0 g ∧ Paired (rL rSec G2) ws' rest := by
              cases pw5' with
              | cons r t => exact ⟨_, _, rfl, r, t⟩
            have lds := pd_len pd5
            rw [ew, List.length_cons] at wl1
            refine ⟨_, rfl, a, _, rfl, gD D5.dk, .inl ⟨rfl, _, SqL.of hd5⟩, _, rfl, a, _, rfl, gW D5.dk, .inl ⟨rfl, _, SqL.of hw5⟩, wa, _, 0, 0, _, rfl, rfl, hw5, by decide, by decide, (ixN_seq (i := 0) (j := 0) (by unfold ixN; rw [if_pos (by decide), if_pos (by rw [List.length_cons]; omega)]; rfl)).1, rfl, ?_⟩
            generalize e6 : upd H4 wa _ = H6
            obtain ⟨s6, f6, k6⟩ := wr_of s15 hw5 D5.gw (.inl (.inr (.inl rfl))) e6
            have D6 := D5.setW (gs := rest) e6 pw6
            obtain ⟨ds6, hd6, pd6⟩ := id D6.de
            have lds6 := pd_len pd6
            have lds6 : ds6.length = m1.done.length := lds6
            refine ⟨dn, ds6, _, rfl, rfl, hd6, by rw [sizeLine_eq]; omega, ?_⟩
            generalize e7 : upd H6 dn _ = H7
            obtain ⟨s7, f7, k7⟩ := wr_of s6 hd6 D6.gd (.inl (.inr (.inr rfl))) e7
            have D7 := D6.setE (gs := m1.done ++ [g]) e7 (pd_snoc pd6 rv0)
            refine ⟨_, by show m1.order.length + rest.length < _; rw [List.length_cons]; omega, { m1 with done := m1.done ++ [g], waits := rest }, G2, _, _, _, rfl, rfl, s7, D7, ⟨mf1.nd, mf1.ol, ?_, mf1.k0, ?_⟩, f2, by show m1.order.length + rest.length + 1 ≤ _; rw [ew, List.length_cons] at hf1; omega, ef1⟩
            · show (m1.done ++ [g]).length + rest.length ≤ 1000
              rw [List.length_append]
              show m1.done.length + 1 + rest.length ≤ _
              omega
            · intro g' hg'
              refine mf1.wb g' ?_
              rw [ew]
              have hg' : g' ∈ (m1.done ++ [g]) ++ rest := hg'
              rw [List.append_assoc] at hg'
              exact hg'
    · rw [List.length_map] at hle
      rw [ms_end hle] at ef1
      exact k G1 H1 s1 (by rw [← ef1]; exact D1)
end
end K51

/-! KL3: a room and a model begun. -/
namespace K51
open PySem PySem.Spec PyProof.Rows L2 Y
theorem putK_new {κ : Type} [DecidableEq κ] {k : κ} {v : V} {l : List (κ × V)} (h : ∀ p ∈ l, p.1 ≠ k) : putK l k v = l ++ [(k, v)] := by
  unfold putK
  rw [if_neg]
  intro z
  obtain ⟨p, hp, e⟩ := List.any_eq_true.mp z
  exact h p hp (of_decide_eq_true e)
theorem md_merge (ms : Int) (o w dn : Addr) (rd : Int) : mergeK [] (md ms o w dn rd) = md ms o w dn rd := by
  unfold mergeK md
  simp only [List.foldl_cons, List.foldl_nil]
  rw [putK_new (l := []) all0]
  simp only [List.nil_append, List.cons_append]
  rw [putK_new (k := (Sum.inr "order" : Key)) (all1 (inr_ne (by decide +kernel)) all0)]
  simp only [List.nil_append, List.cons_append]
  rw [putK_new (k := (Sum.inr "waits" : Key)) (all1 (inr_ne (by decide +kernel)) (all1 (inr_ne (by decide +kernel)) all0))]
  simp only [List.nil_append, List.cons_append]
  rw [putK_new (k := (Sum.inr "done" : Key)) (all1 (inr_ne (by decide +kernel)) (all1 (inr_ne (by decide +kernel)) (all1 (inr_ne (by decide +kernel)) all0)))]
  simp only [List.nil_append, List.cons_append]
  rw [putK_new (k := (Sum.inr "reads" : Key)) (all1 (inr_ne (by decide +kernel)) (all1 (inr_ne (by decide +kernel)) (all1 (inr_ne (by decide +kernel)) (all1 (inr_ne (by decide +kernel)) all0))))]
  simp only [List.nil_append, List.cons_append]
section
variable {P : Program} {w : World} {K : PySem.W.Frag} {mg : Str → Option Value} {base : Heap} {R C B : Addr} {tS : Tok}
def spBegun (R B C : Addr) : Sp := fun vs H Q _ => ∃ (G : Hp) (p s wl : Addr) (d : DS) (ms : Int) (dl : Addr) (gs : List BRows) (e : Int), vs = [.ref p, .int ms, .ref dl] ∧ Same G H ∧ DiskAt C G H p s wl d ∧ Fit d ∧ NoRoots d.read ∧ LogIs d.read 0 0 gs e ∧ rowsSum gs ≤ 1000000 ∧ LstAt (rL rSec) G H dl gs ∧
  ∀ t (A : RA) a o wa dn G' H', Stp O0 G H G' H' → H' t = some (.tup [.ref A.r, .ref a]) → A.p = p → A.s = s → RoomAt R B C G' H' A wl (RS.begun d ms gs e) → MdAt G' H' a o wa dn (MS.begun ms gs) → (∀ b, ROwn A wl b → DOwn p s wl b ∨ H b = none) → (∀ b, MOwn a o wa dn b → H b = none) → (∀ b, MOwn a o wa dn b → ¬ ROwn A wl b) → Q (.ref t) H'
abbrev s__law_begun : Stmt := top 27
theorem sc__law_begun : FnScope ["disk", "most", "done"] ["disk", "most", "done"] (defScope s__law_begun) := ⟨rfl, rfl, rfl, by decide +kernel, rfl, by decide +kernel, by decide +kernel⟩
theorem ok_begun {f : Addr} {fd : FuncData} (F : Fun K "_law_begun" "_law_begun" s__law_begun f fd) (T : Txt K mg C tS) (L_c_Room : CsC P w K mg base "Room" R 7 ["self", "disk", "most"] (spInitR R B C NoRoots)) : FnOk P w K mg base CX0 9 f fd ["disk", "most", "done"] (spBegun R B C) := by
  refine F.ok sc__law_begun (fun vs H Q E h => ?_) (fun cdv A0 outer st H vs Q E hr h => ?_)
  · obtain ⟨G, p, s, wl, d, ms, dl, gs, e, rfl, _⟩ := h
    rfl
  · obtain ⟨G, p, s, wl, d, ms, dl, gs, e, rfl, gh, Dk, fit, nr, lg0, sz, ⟨us, hdl, pu⟩, k⟩ := h
    have nd := sc__law_begun.nd
    have hu := hu_of hr
    refine ⟨_, (pss_one (ps_ret (pe_tup (pa_cons (pe_mkc L_c_Room (hr.mono (by decide)) rfl (pa_cons (pv 0) (pa_cons (pv 1) pa_nil))) (pa_cons (pe_disp (pps_cons pe_str (pv 1) (pps_cons pe_str (pe_lst pa_nil) (pps_cons pe_str (pe_lst pa_nil) (pps_cons pe_str (pe_callTy (call_list_ofK (K := K) rfl) (by rfl) T.b_list (by decide +kernel) (pa_cons (pv 2) pa_nil)) (pps_cons pe_str pe_int pps_nil))))) (by rfl) (by rfl) (fun z => by cases z) (by decide)) pa_nil))))), ?_⟩
    refine ⟨_, rfl, _, rfl, fun r dx n1 ndx nrd => ?_⟩
    generalize e1 : upd H dx _ = H1
    obtain ⟨s1, f1, k1, g1, z1⟩ := own_of (Stp.refl (O := O0) gh) ndx e1
    have nr1 : H1 r = none := by rw [← e1, upd_ne nrd.symm]; exact n1
    generalize e2 : upd H1 r _ = H2
    obtain ⟨s2, f2, k2, g2, z2⟩ := own_of s1 nr1 e2
    have Dk2 := Dk.stp s2 fun _ _ z => z
    have enw := nr.newest
    refine ⟨G, r, dx, p, s, wl, d, ms, gs, e, rfl, s2.gh, f2, g2, Dk2, fit.rd, nr, by rw [enw]; exact lg0, sz, fun b m q pg G3 H3 s3 D3 nb nm nq npg => ⟨rfl, ?_⟩⟩
    have s23 : Stp O0 G H G3 H3 := s2.trans s3 fun c hc => .inr (by rw [hc]; exact z2)
    have hdl3 := s23.kp _ _ hdl fun z => z
    intro a na
    generalize e4 : upd H3 a _ = H4
    obtain ⟨s4, f4, k4, g4, z4⟩ := own_of s23 na e4
    refine ⟨_, rfl, (by show 0 ≤ sizeLine; decide), fun o no => ?_⟩
    generalize e5 : upd H4 o _ = H5
    obtain ⟨s5, f5, k5, g5, z5⟩ := own_of s4 no e5
    refine ⟨(by show 0 ≤ sizeLine; decide), fun wa nwa => ?_⟩
    generalize e6 : upd H5 wa _ = H6
    obtain ⟨s6, f6, k6, g6, z6⟩ := own_of s5 nwa e6
    refine ⟨_, rfl, dl, _, rfl, .inl (SqL.of (k6 _ _ (k5 _ _ (k4 _ _ hdl3)))), fun dn ndn => ?_⟩
    generalize e7 : upd H6 dn _ = H7
    obtain ⟨s7, f7, k7, g7, z7⟩ := own_of s6 ndn e7
    have fa7 := k7 _ _ (k6 _ _ (k5 _ _ f4))
    refine ⟨fa7, md ms o wa dn 0, rfl, (by show 5 ≤ 15; decide), ?_⟩
    rw [md_merge]
    generalize e8 : upd H7 a _ = H8
    obtain ⟨s8, f8, k8⟩ := wr_of s7 fa7 g4 (.inr z4) e8
    refine ⟨(by show 2 ≤ sizeLine; decide), fun t nt => ?_⟩
    generalize e9 : upd H8 t _ = H9
    obtain ⟨s9, f9, k9, g9, z9⟩ := own_of s8 nt e9
    -- all that is tracked at H3 stands at H9
    have nal : ∀ {c : Addr} {u : HO}, H3 c = some u → H9 c = some u := fun {c u} hc => k9 _ _ (k8 _ _ (ne_of_none hc na) (k7 _ _ (k6 _ _ (k5 _ _ (k4 _ _ hc)))))
    have s39 : Stp O0 G3 H3 G3 H9 := ⟨Same.refl _, s9.gh, fun c u hc _ => nal hc, fun _ _ e => e, fun c hc => by
      cases e : H3 c with
      | none => exact absurd e hc
      | some u => rw [nal e]; exact fun z => nomatch z⟩
    have D9 := D3.stp s39 fun _ _ z => z
    have noa : o ≠ a := (ne_of_none f4 no).symm
    have nwaa : wa ≠ a := (ne_of_none (k5 _ _ f4) nwa).symm
    have ndna : dn ≠ a := (ne_of_none (k6 _ _ (k5 _ _ f4)) ndn).symm
    have now : o ≠ wa := ne_of_none f5 nwa
    have nod : o ≠ dn := ne_of_none (k6 _ _ f5) ndn
    have nwd : wa ≠ dn := ne_of_none f6 ndn
    have M9 : MdAt G3 H9 a o wa dn (MS.begun ms gs) := ⟨k9 _ _ f8, k9 _ _ (k8 _ _ noa (k7 _ _ (k6 _ _ f5))), ⟨[], k9 _ _ (k8 _ _ nwaa (k7 _ _ f6)), .nil⟩, ⟨us, k9 _ _ (k8 _ _ ndna f7), mRow.l.ps s23.gg pu⟩, g4, g5, g6, g7, now, nod, nwd⟩
    have hne : ∀ {c : Addr}, ROwn ⟨r, b, m, q, p, pg, s⟩ wl c → H3 c ≠ none := fun {c} hc z => D3.off z hc
    refine k t ⟨r, b, m, q, p, pg, s⟩ a o wa dn G3 H9 s9 f9 rfl rfl D9 M9 (fun c hc => ?_) (fun c hc => ?_) (fun c hc hr => ?_)
    · have back : ∀ {c : Addr}, H2 c = none → H c = none := fun {c} h => s2.fr h
      rcases hc with z | z | z | (z | z)
      · rw [z]; exact .inr z2
      · rw [z]; exact .inr (back nm)
      · rw [z]; exact .inr (back nq)
      · exact .inl z
      · rcases z with z | z
        · rw [z]; exact .inr (back nb)
        · rw [z]; exact .inr (back npg)
    · rcases hc with z | z | z | z <;> rw [z]
      · exact z4
      · exact z5
      · exact z6
      · exact z7
    · have h3c := hne hr
      have n3a : H3 a = none := na
      have n3 : ∀ {c : Addr}, H4 c = none → H3 c = none := fun {c} h => by
        cases e : H3 c with
        | none => rfl
        | some u => rw [k4 _ _ e] at h; cases h
      rcases hc with z | z | z | z <;> rw [z] at h3c
      · exact h3c na
      · exact h3c (n3 no)
      · refine h3c (n3 ?_)
        cases e : H4 wa with
        | none => rfl
        | some u => rw [k5 _ _ e] at nwa; cases nwa
      · refine h3c (n3 ?_)
        cases e : H4 dn with
        | none => rfl
        | some u => rw [k6 _ _ (k5 _ _ e)] at ndn; cases ndn
end
end K51

/-! KL4: what stands between two statements of the law. -/
namespace K51
open PySem PySem.Spec PyProof.Rows L2 Y
structure LR (R B C : Addr) (G H : Hp) (s c : Addr) (A : RA) (wl : Addr) (x : RS) (a o wa dn : Addr) (m : MS) : Prop where
  gh : Same G H
  st : StAt G H s c
  rm : RoomAt R B C G H A wl x
  md : MdAt G H a o wa dn m
  sm : ∀ b, MOwn a o wa dn b → ¬ ROwn A wl b
  ss : ∀ b, (b = s ∨ b = c) → ¬ ROwn A wl b
  s2 : ∀ b, (b = s ∨ b = c) → ¬ MOwn a o wa dn b
def AOwn (s c : Addr) (A : RA) (wl a o wa dn : Addr) : Addr → Prop := fun b => (b = s ∨ b = c) ∨ ROwn A wl b ∨ MOwn a o wa dn b
section
variable {R B C : Addr} {G H G' H' : Hp} {s c : Addr} {A : RA} {wl : Addr} {x : RS} {a o wa dn : Addr} {m : MS}
theorem MdAt.off (h : MdAt G H a o wa dn m) {q : Addr} (n : H q = none) : ¬ MOwn a o wa dn q := fun z => by
  obtain ⟨ws, h3, _⟩ := h.wa
  obtain ⟨ds, h4, _⟩ := h.de
  rcases z with z | z | z | z <;> rw [z] at n
  · rw [h.dk] at n; cases n
  · rw [h.od] at n; cases n
  · rw [h3] at n; cases n
  · rw [h4] at n; cases n
theorem StAt.off (h : StAt G H s c) {q : Addr} (n : H q = none) : ¬ (q = s ∨ q = c) := fun z => by
  obtain ⟨k, cells, h1, h2, _⟩ := h.ex
  rcases z with z | z <;> rw [z] at n
  · rw [h1] at n; cases n
  · rw [h2] at n; cases n
theorem LR.off (h : LR R B C G H s c A wl x a o wa dn m) {q : Addr} (n : H q = none) : ¬ AOwn s c A wl a o wa dn q := fun z => by
  rcases z with z | z | z
  · exact h.st.off n z
  · exact h.rm.off n z
  · exact h.md.off n z
theorem LR.dat (h : LR R B C G H s c A wl x a o wa dn m) {q : Addr} {u : HO} (n : G q = some u) : ¬ AOwn s c A wl a o wa dn q := fun z => by
  rcases z with (z | z) | (z | z | z | ((z | z | z) | (z | z))) | (z | z | z | z) <;> rw [z] at n
  · rw [h.st.gs] at n; cases n
  · rw [h.st.gc] at n; cases n
  · rw [h.rm.gr] at n; cases n
  · rw [h.rm.gm] at n; cases n
  · rw [h.rm.gq] at n; cases n
  · rw [h.rm.dk.gp] at n; cases n
  · rw [h.rm.dk.gs] at n; cases n
  · rw [h.rm.dk.gw] at n; cases n
  · rw [h.rm.ba.gb] at n; cases n
  · rw [h.rm.ba.gp] at n; cases n
  · rw [h.md.ga] at n; cases n
  · rw [h.md.go] at n; cases n
  · rw [h.md.gw] at n; cases n
  · rw [h.md.gd] at n; cases n
theorem LR.al {O : Addr → Prop} (h : LR R B C G H s c A wl x a o wa dn m) (t : Stp O G H G' H') (no : ∀ b, AOwn s c A wl a o wa dn b → ¬ O b) : LR R B C G' H' s c A wl x a o wa dn m :=
  ⟨t.gh, h.st.stp t (no _ (.inl (.inl rfl))) (no _ (.inl (.inr rfl))), h.rm.stp t fun b hb => no b (.inr (.inl hb)), h.md.stp t fun b hb => no b (.inr (.inr hb)), h.sm, h.ss, h.s2⟩
theorem LR.al0 (h : LR R B C G H s c A wl x a o wa dn m) (t : Stp O0 G H G' H') : LR R B C G' H' s c A wl x a o wa dn m := h.al t fun _ _ z => z
theorem LR.tk (h : LR R B C G H s c A wl x a o wa dn m) (t : Stp (fun b => b = s ∨ b = c) G H G' H') (st : StAt G' H' s c) : LR R B C G' H' s c A wl x a o wa dn m :=
  ⟨t.gh, st, h.rm.stp t fun b hb z => h.ss b z hb, h.md.stp t fun b hb z => h.s2 b z hb, h.sm, h.ss, h.s2⟩
theorem LR.ro (h : LR R B C G H s c A wl x a o wa dn m) (t : Stp (ROwn A wl) G H G' H') {w' : Addr} {x' : RS} (rm : RoomAt R B C G' H' A w' x') (n : w' = wl ∨ H w' = none) : LR R B C G' H' s c A w' x' a o wa dn m := by
  have k : ∀ b, ROwn A w' b → ROwn A wl b ∨ H b = none := fun b hb => ROwn.tr n hb
  refine ⟨t.gh, h.st.stp t (h.ss _ (.inl rfl)) (h.ss _ (.inr rfl)), rm, h.md.stp t h.sm, fun b hb z => ?_, fun b hb z => ?_, h.s2⟩
  · rcases k b z with q | q
    · exact h.sm b hb q
    · exact h.md.off q hb
  · rcases k b z with q | q
    · exact h.ss b hb q
    · exact h.st.off q hb
theorem LR.mo (h : LR R B C G H s c A wl x a o wa dn m) (t : Stp (MOwn a o wa dn) G H G' H') {o' wa' dn' : Addr} {m' : MS} (md : MdAt G' H' a o' wa' dn' m') (n1 : o' = o ∨ H o' = none) (n2 : wa' = wa ∨ H wa' = none) (n3 : dn' = dn ∨ H dn' = none) : LR R B C G' H' s c A wl x a o' wa' dn' m' := by
  have k : ∀ b, MOwn a o' wa' dn' b → MOwn a o wa dn b ∨ H b = none := fun b hb => by
    rcases hb with z | z | z | z
    · exact .inl (.inl z)
    · rcases n1 with e | e
      · exact .inl (.inr (.inl (z.trans e)))
      · exact .inr (by rw [z]; exact e)
    · rcases n2 with e | e
      · exact .inl (.inr (.inr (.inl (z.trans e))))
      · exact .inr (by rw [z]; exact e)
    · rcases n3 with e | e
      · exact .inl (.inr (.inr (.inr (z.trans e))))
      · exact .inr (by rw [z]; exact e)
  refine ⟨t.gh, h.st.stp t (h.s2 _ (.inl rfl)) (h.s2 _ (.inr rfl)), h.rm.stp t fun b hb z => h.sm b z hb, md, fun b hb z => ?_, h.ss, fun b hb z => ?_⟩
  · rcases k b hb with q | q
    · exact h.sm b q z
    · exact h.rm.off q z
  · rcases k b z with q | q
    · exact h.s2 b hb q
    · exact h.st.off q hb
end
/-- the frame's values at a turn -/
def sig (sc s p r a : Addr) (ys : List (Option V)) : L2.St := some (.ref sc) :: some (.ref s) :: some (.ref p) :: some (.ref r) :: some (.ref a) :: ys
/-- what stands at a turn's head -/
def Hd (R B C sc s c : Addr) (n : Nat) (σ : L2.St) (H : Hp) : Prop := ∃ (G : Hp) (A : RA) (wl : Addr) (x : RS) (a o wa dn : Addr) (m : MS) (y5 y6 y7 y8 y9 y10 y11 y12 y13 y14 y15 y16 y17 y18 y19 : Option V),
  σ = sig sc s A.p A.r a [y5, y6, y7, y8, y9, y10, y11, y12, y13, y14, y15, y16, y17, y18, y19] ∧ LR R B C G H s c A wl x a o wa dn m ∧ Rel x m ∧ Phi x ≤ 57 + 114 * n ∧ (m.done ++ m.waits).length ≤ n ∧ x.most ≤ 5
/-- behind the cut that may be asked for -/
def Hd1 (R B C sc s c : Addr) (n : Nat) (σ : L2.St) (H : Hp) : Prop := ∃ (G : Hp) (A : RA) (wl : Addr) (x : RS) (a o wa dn : Addr) (m : MS) (kind number : Int) (y5 y9 y10 y11 y12 y13 y14 y15 y16 y17 y18 y19 : Option V),
  σ = sig sc s A.p A.r a [y5, some (.int m.done.length), some (.int kind), some (.int number), y9, y10, y11, y12, y13, y14, y15, y16, y17, y18, y19] ∧ LR R B C G H s c A wl x a o wa dn m ∧ Rel x m ∧ Phi x ≤ 57 + 114 * n ∧ (m.done ++ m.waits).length ≤ n ∧ x.most ≤ 5 ∧ 0 ≤ number ∧ number < 8
/-- behind the order -/
def Hd2 (R B C sc s c : Addr) (n : Nat) (σ : L2.St) (H : Hp) : Prop := ∃ (G : Hp) (A : RA) (wl : Addr) (x : RS) (a o wa dn : Addr) (m : MS) (sure : Nat) (kind : Int) (y5 y8 y9 y10 y11 y12 y13 y14 y15 y16 y17 y18 y19 : Option V),
  σ = sig sc s A.p A.r a [y5, some (.int sure), some (.int kind), y8, y9, y10, y11, y12, y13, y14, y15, y16, y17, y18, y19] ∧ LR R B C G H s c A wl x a o wa dn m ∧ RFit x ∧ RI x (m.done ++ m.waits) sure ∧ (x.d.cut = false → Rel x m) ∧ Phi x ≤ 57 + 114 * n + 57 ∧ (m.done ++ m.waits).length ≤ n + 1 ∧ x.most ≤ 5
/-- behind the reopening -/
def Hd3 (R B C sc s c : Addr) (n : Nat) (σ : L2.St) (H : Hp) : Prop := Hd R B C sc s c (n + 1) σ H
section
variable {P : Program} {w : World} {K : PySem.W.Frag} {mg : Str → Option Value} {base : Heap} {R C B : Addr} {tS : Tok}
/-- Disk(disk.synced()) -/
theorem again_rd {G H : Hp} {sc s c : Addr} {A : RA} {wl : Addr} {x : RS} {a : Addr} {ys : List (Option V)} {Q : VK} (gh : Same G H) (rm : RoomAt R B C G H A wl x) (fit : Fit x.d)
    (k : ∀ p2 ds2 wl2 G3 H3, Stp O0 G H G3 H3 → DiskAt C G3 H3 p2 ds2 wl2 x.d.again → H p2 = none → H ds2 = none → H wl2 = none → Q (.ref p2) H3) :
    tMake C (spInit C) [] E0 (tCons (tMeth C "synced" (spSynced C) [] E0 (tVar 2) tNil) tNil) (sig sc s A.p A.r a ys) H Q := by
  obtain ⟨dxp, rlp, hp, _⟩ := id rm.dk.ob
  refine ⟨_, rfl, A.p, dxp, _, rfl, hp, df_no (by decide +kernel) (by decide +kernel) (by decide +kernel) (by decide +kernel) (by decide +kernel), G, A.p, A.s, wl, x.d, rfl, gh, rm.dk, fit, fun q us H1 t1 nq fq pq => fun p2 dx2 np ndx nex => ?_⟩
  have kx : ∀ b o, H1 b = some o → (upd (upd H1 dx2 (.own p2)) p2 (.ins C dx2 [])) b = some o := fun b o e => by rw [upd_ne (ne_of_none e np), upd_ne (ne_of_none e ndx)]; exact e
  have tl := told_le x.d.sec
  have fsz := fit.sz
  refine ⟨G, p2, dx2, q, us, told x.d.sec, rfl, fun b o e => kx b o (t1.gh b o e), upd_same, gn_of t1.gh np, kx _ _ fq, pd_mono (fun v x z => by
    obtain ⟨t', c', e1, a1, a2, _⟩ := z
    exact ⟨t', _, _, e1, kx _ _ a1, rfl, rLI_of (kx _ _ a2)⟩) pq, by omega, fun ds2 wl2 G3 H3 t3 D3 z3 z4 => ⟨rfl, ?_⟩⟩
  have back : ∀ {b : Addr}, (upd (upd H1 dx2 (.own p2)) p2 (.ins C dx2 [])) b = none → H b = none := fun {b} hb => by
    cases e : H b with
    | none => rfl
    | some u => rw [kx b u (t1.kp _ _ e fun z => z)] at hb; cases hb
  have hp2 : H p2 = none := t1.fr np
  have sAll : Stp O0 G H G3 H3 := ⟨t3.gg, t3.gh, fun b o e _ => t3.kp b o (kx b o (t1.kp _ _ e fun z => z)) (ne_of_none (t1.kp _ _ e fun z => z) np), fun b hb hg => t3.nw b (fun z => hb (back z)) hg, fun b hb => t3.al b fun z => hb (back z)⟩
  exact k p2 ds2 wl2 G3 H3 sAll D3 hp2 (back z3) (back z4)
theorem tMake_one {C : Addr} {sp : Sp} {dvs : List V} {E : XK} {t : TE} {σ : L2.St} {H : Hp} {Q : VK} (h : t σ H fun v H1 => ∀ x dx, H1 x = none → H1 dx = none → dx ≠ x → sp (.ref x :: ([v] ++ dvs)) (upd (upd H1 dx (.own x)) x (.ins C dx [])) (fun v H2 => v = .non ∧ Q (.ref x) H2) E) :
    tMake C sp dvs E (tCons t tNil) σ H Q := h
theorem tCons_one {t : TE} {σ : L2.St} {H : Hp} {F : List V → Hp → Prop} (h : t σ H fun v H1 => F [v] H1) : tCons t tNil σ H F := h
theorem tTup_cons {te : TE} {ts : TA} {σ : L2.St} {H : Hp} {Q : VK} (h : te σ H fun v H1 => ts σ H1 fun vs H2 => (v :: vs).length ≤ sizeLine ∧ ∀ p, H2 p = none → Q (.ref p) (upd H2 p (.tup (v :: vs)))) : tTup (tCons te ts) σ H Q := h
theorem tFld_of {K : PySem.W.Frag} {t : TE} {f : Str} {σ : L2.St} {H : Hp} {Q : VK} (h : t σ H fun x H1 => ∃ a C dx fs v, x = .ref a ∧ H1 a = some (.ins C dx fs) ∧ Cls K C ∧ NoAttr K C f ∧ fs.lookup f = some v ∧ Q v H1) : tFld K t f σ H Q := h
theorem tAsg_of {te : TE} {g : TG} {D : Ends} {σ : L2.St} {H : Hp} (h : te σ H fun x H1 => g x σ H1 D.nx) : tAsg te g D σ H := h
theorem tSeq_of {t u : TS} {D : Ends} {σ : L2.St} {H : Hp} (h : t { D with nx := u D } σ H) : tSeq t u D σ H := h
/-- Batches(Disk(disk.synced())) -/
theorem batches_rd {G H : Hp} {sc s c : Addr} {A : RA} {wl : Addr} {x : RS} {a : Addr} {ys : List (Option V)} {Q : VK} {bs : List BRows} {e : Int} (gh : Same G H) (rm : RoomAt R B C G H A wl x) (fit : Fit x.d) (l : LogOk (W x.d.sec) bs e) (hsz : rowsSum bs ≤ 1000000)
    (k : ∀ b p2 pg ds2 wl2 G4 H4, Stp O0 G H G4 H4 → BatAt B G4 H4 b p2 pg ⟨1, 0, bs.length, pagesOf bs, e⟩ → DiskAt C G4 H4 p2 ds2 wl2 x.d.again → H b = none → Q (.ref b) H4) :
    tMake B (spInitB B C NoRoots) [.non] E0 (tCons (tMake C (spInit C) [] E0 (tCons (tMeth C "synced" (spSynced C) [] E0 (tVar 2) tNil) tNil)) tNil) (sig sc s A.p A.r a ys) H Q := by
  refine tMake_one (again_rd (c := c) gh rm fit fun p2 ds2 wl2 G3 H3 s3 D3 n1 n2 n3 => ?_)
  intro b db nb ndb nbd
  generalize e1 : upd H3 db _ = H4
  obtain ⟨t4, f4, k4, g4, z4⟩ := own_of s3 ndb e1
  have nb4 : H4 b = none := by rw [← e1, upd_ne nbd.symm]; exact nb
  generalize e2 : upd H4 b _ = H5
  obtain ⟨t5, f5, k5, g5, z5⟩ := own_of t4 nb4 e2
  have s35 : Stp O0 G3 H3 G3 H5 := (own_of (own_of (Stp.refl (O := O0) s3.gh) ndb e1).1 nb4 e2).1
  have D5 := D3.stp s35 fun _ _ z => z
  have la := l.again fit
  have er : x.d.again.read = W x.d.again.sec := read_W rfl
  have hn := la.noRoots.newest
  refine ⟨G3, b, db, p2, ds2, wl2, x.d.again, bs, e, rfl, t5.gh, f5, g5, D5, fit.again.rd, by rw [er]; exact la.noRoots, by rw [er, hn]; exact la.log, hsz, fun pg G6 H6 s6 B6 npg => ⟨rfl, ?_⟩⟩
  rw [er, hn] at B6
  have eb : BS.opened (⟨1, 0, 0, [], 0⟩ : BS) bs e = ⟨1, 0, bs.length, pagesOf bs, e⟩ := by
    show BS.mk 1 0 (0 + (bs.length : Int)) (bs.foldl takeR []) e = _
    rw [Int.zero_add]
    rfl
  rw [eb] at B6
  have D6 := D5.stp s6 fun c' hc' z => by
    obtain ⟨dxp, rlp, h1, _⟩ := D3.ob
    obtain ⟨kvs, h2, _⟩ := D3.sec
    obtain ⟨ws, h3, _⟩ := D3.wai
    rcases hc' with q | q | q <;> rw [q] at z <;> rw [z] at *
    · rw [nb] at h1; cases h1
    · rw [nb] at h2; cases h2
    · rw [nb] at h3; cases h3
  exact k b p2 pg ds2 wl2 G6 H6 (t5.trans s6 fun c' hc' => .inr (by rw [hc']; exact z5)) B6 D6 z5
theorem or_split {cc : Bool} {i j : Int} {X1 X2 T : Prop} (hA : (cc = true ∨ i = j) → X1) (hB : cc = false → i ≠ j → X2) (mk : (if decide (V.int i = V.int j) = true then X1 else X2) → T) : if cc = true then (if true = true then X1 else X2) else T := by
  cases cc with
  | true => exact iteT (iteT (hA (.inl rfl)))
  | false => exact iteF (mk (if_int (fun h => hA (.inr h)) (fun h => hB rfl h)))
def spLaw (K : PySem.W.Frag) : Sp := fun vs H Q _ => ∃ (a : Addr) (ns : List Int), vs = [.ref a] ∧ SqL K H a (ns.map V.int) ∧ ∀ H', Q (.bl true) H'
abbrev s_law : Stmt := top 28
theorem sc_law : FnScope ["script", "state", "disk", "room", "model", "turn", "sure", "kind", "number", "due", "told", "here", "pages", "numbers", "group", "one", "every", "many", "k", "octets"] ["script"] (defScope s_law) := ⟨rfl, rfl, rfl, by decide +kernel, rfl, by decide +kernel, by decide +kernel⟩
theorem ok_law {f : Addr} {fd : FuncData} (F : Fun K "law" "law" s_law f fd) (T : Txt K mg C tS) (TB : Cls K B ∧ NoAttr K B "many") (TR : Cls K R ∧ NoAttr K R "reads")
    (L__law_state : FnC P w K mg base "_law_state" 1 ["script"] (spState K)) (L__law_take : FnC P w K mg base "_law_take" 1 ["state", "most"] spTake)
    (L__law_use : FnC P w K mg base "_law_use" 1 ["model", "number"] spUse) (L__law_make_room : FnC P w K mg base "_law_make_room" 2 ["model"] spLMR) (L__law_pages : FnC P w K mg base "_law_pages" 1 ["groups"] spPages) (L__law_begun : FnC P w K mg base "_law_begun" 9 ["disk", "most", "done"] (spBegun R B C))
    (L_c_Disk : CsC P w K mg base "Disk" C 1 ["self", "sectors"] (spInit C)) (L_Disk_cut_in : MtC P w K mg base C "cut_in" 1 ["self", "many", "rows"] (spCutIn C)) (L_Disk_synced : MtC P w K mg base C "synced" 1 ["self"] (spSynced C))
    (L_c_Batches : CsD P w K mg base "Batches" B 5 ["self", "disk", "bend"] [.non] (spInitB B C NoRoots)) (L_Batches_page : MtC P w K mg base B "page" 3 ["self", "number"] (spPageB B C))
    (L_Room_page : MtC P w K mg base R "page" 8 ["self", "number"] (spPageR R B C)) (L_Room_write : MtC P w K mg base R "write" 8 ["self", "rows"] (spWriteR R B C)) (L_Room_flush : MtC P w K mg base R "flush" 7 ["self"] (spFlushR R B C)) :
    FnOk P w K mg base CX0 10 f fd ["script"] (spLaw K) := by
  refine F.ok sc_law (fun vs H Q E h => ?_) (fun cdv A0 outer st H vs Q E hr h => ?_)
  · obtain ⟨a, ns, rfl, _⟩ := h
    rfl
  · obtain ⟨sc, ns, rfl, ha, k⟩ := h
    have nd := sc_law.nd
    have hu := hu_of hr
    refine ⟨_, (pss_cons (ps_set (i := 1) nd rfl (Or.inr rfl) (pe_fnc L__law_state (hr.mono (by decide)) rfl (pa_cons (pv 0) pa_nil)))
    (pss_cons (ps_set (i := 2) nd rfl (Or.inl rfl) (pe_mkc L_c_Disk (hr.mono (by decide)) rfl (pa_cons (pe_lst pa_nil) pa_nil)))
    (C8.pss_cut (ps_asg (pe_fnc L__law_begun (hr.mono (by decide)) rfl (pa_cons (pv 2) (pa_cons (pe_op op_add pe_int (pe_fnc L__law_take (hr.mono (by decide)) rfl (pa_cons (pv 1) (pa_cons pe_int pa_nil)))) (pa_cons (pe_lst pa_nil) pa_nil)))) (pg_tupK (K := K) (n := 2) rfl rfl (pgs_cons (pg_name (i := 3) nd rfl (Or.inl rfl)) (pgs_cons (pg_name (i := 4) nd rfl (Or.inl rfl)) pgs_nil))))
    (pss_cons (ps_for PassesOwn.never rfl (pi_range1 rfl T.b_range (pa_cons (pe_op op_add pe_int (pe_fnc L__law_take (hr.mono (by decide)) rfl (pa_cons (pv 1) (pa_cons pe_int pa_nil)))) pa_nil)) (pg_name (i := 5) nd rfl (Or.inl rfl))
    (pss_cons (ps_set (i := 6) nd rfl (Or.inl rfl) (pe_callB (call_len_seqK (K := K) rfl) (by rfl) T.b_len (by decide +kernel) (pa_cons (pe_dget hu (pv 4) pe_str (fun _ _ => rfl)) pa_nil)))
    (pss_cons (ps_par (i := 7) (j := 8) rfl nd rfl rfl (by decide) rfl rfl (pa_cons (pe_fnc L__law_take (hr.mono (by decide)) rfl (pa_cons (pv 1) (pa_cons pe_int pa_nil))) (pa_cons (pe_fnc L__law_take (hr.mono (by decide)) rfl (pa_cons (pv 1) (pa_cons pe_int pa_nil))) pa_nil)) rfl)
    (C8.pss_cut (ps_if (pt_cmpR op_eq (pv 7) pe_int (nomark _))
    (pss_one (ps_expr (pe_mtc (pv 2) L_Disk_cut_in (hr.mono (by decide)) (pa_cons (pe_op op_add pe_int (pe_fnc L__law_take (hr.mono (by decide)) rfl (pa_cons (pv 1) (pa_cons pe_int pa_nil)))) (pa_cons (pe_lc (own := [("k", 18)]) rfl nd (pi_range1 rfl T.b_range (pa_cons (pe_fnc L__law_take (hr.mono (by decide)) rfl (pa_cons (pv 1) (pa_cons pe_int pa_nil))) pa_nil)) (blkOk_by (own := [("k", 18)]) (N := ["script", "state", "disk", "room", "model", "turn", "sure", "kind", "number", "due", "told", "here", "pages", "numbers", "group", "one", "every", "many", "k", "octets"]) (sc := defScope s_law) (by decide +kernel)) (fun _ _ _ _ _ => (pg_name (i := 18) nd rfl (Or.inl rfl))) (fun _ _ _ _ _ => pts_nil) (fun _ _ _ _ _ => (pe_tup (pa_cons pe_int (pa_cons (pe_fnc L__law_take (hr.mono (by decide)) rfl (pa_cons (pv 1) (pa_cons pe_int pa_nil))) pa_nil))))) pa_nil)))))
    pss_nil)
    (C8.pss_cut (ps_if (pt_cmpR op_lt (pv 7) pe_int (nomark _))
    (pss_cons (ps_dput hu (pv 4) pe_str (pe_op op_add (pe_dget hu (pv 4) pe_str (fun _ _ => rfl)) (pe_callTy call_int1 (by rfl) T.b_int (by decide +kernel) (pa_cons (pe_not (pe_fnc L__law_use (hr.mono (by decide)) rfl (pa_cons (pv 4) (pa_cons (pv 8) pa_nil)))) pa_nil))) rfl)
    (pss_cons (ps_expr (pe_fnc L__law_make_room (hr.mono (by decide)) rfl (pa_cons (pv 4) pa_nil)))
    (pss_cons (ps_set (i := 9) nd rfl (Or.inl rfl) (pe_dget2 hu (pe_fnc L__law_pages (hr.mono (by decide)) rfl (pa_cons (pe_op op_cat (pe_dget hu (pv 4) pe_str (fun _ _ => rfl)) (pe_dget hu (pv 4) pe_str (fun _ _ => rfl))) pa_nil)) (pv 8) (pe_op op_rep (pe_lst (pa_cons pe_int pa_nil)) pe_int) ⟨rfl, rfl, rfl, rfl⟩))
    (pss_cons (ps_set (i := 10) nd rfl (Or.inl rfl) (pe_mtc (pv 3) L_Room_page (hr.mono (by decide)) (pa_cons (pv 8) pa_nil)))
    (C8.pss_cut (ps_if (PW.pt (pw_and (pt_not (pt_val (pe_fldK (K := K) rfl (pv 2) rfl))) (pw_and1 (PW.pt (pw_or (pt_cmpR (op_neDK (K := K) rfl hr.units) (pv 10) (pv 9) (nomark _)) (pw_or1 (pt_cmpR op_ne (pe_fldK (K := K) rfl (pv 3) rfl) (pe_dget hu (pv 4) pe_str (fun _ _ => rfl)) (nomark _))))))))
    (pss_one (ps_ret pe_bl))
    pss_nil)
    (pss_one (ps_asg pe_int (pg_sub (pv 10) pe_int set_list))))))))
    (pss_one (ps_if (pt_cmpR op_lt (pv 7) pe_int (nomark _))
    (pss_cons (ps_set (i := 13) nd rfl (Or.inl rfl) (pe_callB (cr_sortedSetK (w := w) rfl rfl) (by rfl) T.b_sorted (by decide +kernel) (pa_cons (pe_callTy (cr_setIK (K := K) (w := w) rfl rfl rfl) (by rfl) T.b_set (by decide +kernel) (pa_cons (pe_lc (own := [("k", 18)]) rfl nd (pi_range1 rfl T.b_range (pa_cons (pe_op op_add pe_int (pe_fnc L__law_take (hr.mono (by decide)) rfl (pa_cons (pv 1) (pa_cons pe_int pa_nil)))) pa_nil)) (blkOk_by (own := [("k", 18)]) (N := ["script", "state", "disk", "room", "model", "turn", "sure", "kind", "number", "due", "told", "here", "pages", "numbers", "group", "one", "every", "many", "k", "octets"]) (sc := defScope s_law) (by decide +kernel)) (fun _ _ _ _ _ => (pg_name (i := 18) nd rfl (Or.inl rfl))) (fun _ _ _ _ _ => pts_nil) (fun _ _ _ _ _ => (pe_fnc L__law_take (hr.mono (by decide)) rfl (pa_cons (pv 1) (pa_cons pe_int pa_nil))))) pa_nil)) pa_nil)))
    (pss_cons (ps_setLc (i := 14) (own := [("one", 15)]) rfl nd rfl rfl (sw_true rfl rfl rfl (by decide +kernel)) (pi_listK (K := K) rfl (pv 13)) (blkOk_by (own := [("one", 15)]) (N := ["script", "state", "disk", "room", "model", "turn", "sure", "kind", "number", "due", "told", "here", "pages", "numbers", "group", "one", "every", "many", "k", "octets"]) (sc := defScope s_law) (by decide +kernel)) (fun _ _ _ _ _ => (pg_name (i := 15) nd rfl (Or.inl rfl))) (fun _ _ _ _ _ => pts_nil) (fun _ _ _ _ _ => (pe_tup (pa_cons (pv 15) (pa_cons (pe_op op_rep (pe_lst (pa_cons (pe_fnc L__law_take (hr.mono (by decide)) rfl (pa_cons (pv 1) (pa_cons pe_int pa_nil))) pa_nil)) pe_int) pa_nil)))))
    (pss_cons (ps_expr (pe_bmK (K := K) rfl PySem.F.plainAttrs_list PySem.F.slot_list_append PySem.F.type_list_append mt_append (pe_dget hu (pv 4) pe_str (fun _ _ => rfl)) (pa_cons (pe_lc (own := [("one", 15), ("octets", 19)]) rfl nd (pi_listK (K := K) rfl (pv 14)) (blkOk_by (own := [("one", 15), ("octets", 19)]) (N := ["script", "state", "disk", "room", "model", "turn", "sure", "kind", "number", "due", "told", "here", "pages", "numbers", "group", "one", "every", "many", "k", "octets"]) (sc := defScope s_law) (by decide +kernel)) (fun _ _ _ _ _ => (pg_tupK (K := K) (n := 2) rfl rfl (pgs_cons (pg_name (i := 15) nd rfl (Or.inl rfl)) (pgs_cons (pg_name (i := 19) nd rfl (Or.inl rfl)) pgs_nil)))) (fun _ _ _ _ _ => pts_nil) (fun _ _ _ _ _ => (pe_tup (pa_cons (pv 15) (pa_cons (pe_callTy (call_list_ofK (K := K) rfl) (by rfl) T.b_list (by decide +kernel) (pa_cons (pv 19) pa_nil)) pa_nil))))) pa_nil)))
    (pss_cons (ps_for PassesOwn.never rfl (pi_listK (K := K) rfl (pv 13)) (pg_name (i := 15) nd rfl (Or.inl rfl))
    (pss_one (ps_expr (pe_fnc L__law_use (hr.mono (by decide)) rfl (pa_cons (pv 4) (pa_cons (pv 15) pa_nil))))))
    (pss_cons (ps_expr (pe_fnc L__law_make_room (hr.mono (by decide)) rfl (pa_cons (pv 4) pa_nil)))
    (pss_cons (ps_if (pt_cmpR op_eq (pe_mtc (pv 3) L_Room_write (hr.mono (by decide)) (pa_cons (pv 14) pa_nil)) (pe_fldK (K := K) rfl (pv 2) rfl) (nomark _))
    (pss_one (ps_ret pe_bl))
    pss_nil)
    (pss_one (ps_asg pe_int (pg_sub (pe_ix (ix_tupK (K := K) rfl) (pe_ix (ix_listK (K := K) rfl) (pv 14) pe_int (fun _ _ => rfl)) pe_int (fun _ _ => rfl)) pe_int set_list)))))))))
    (pss_one (ps_if (pt_cmpR op_eq (pv 7) pe_int (nomark _))
    (pss_cons (ps_if (pt_cmpR op_eq (pe_mtc0 (pv 3) L_Room_flush (hr.mono (by decide))) (pe_fldK (K := K) rfl (pv 2) rfl) (nomark _))
    (pss_one (ps_ret pe_bl))
    pss_nil)
    (pss_one (ps_asg (pe_tup (pa_cons (pe_op op_cat (pe_dget hu (pv 4) pe_str (fun _ _ => rfl)) (pe_dget hu (pv 4) pe_str (fun _ _ => rfl))) (pa_cons (pe_lst pa_nil) pa_nil))) (pg_tupK (K := K) (n := 2) rfl rfl (pgs_cons (pg_sub (pv 4) pe_str (set_dict hu)) (pgs_cons (pg_sub (pv 4) pe_str (set_dict hu)) pgs_nil))))))
    pss_nil)))))
    (C8.pss_cut (ps_if (PW.pt (pw_or (pt_val (pe_fldK (K := K) rfl (pv 2) rfl)) (pw_or1 (pt_cmpR op_eq (pv 7) pe_int (nomark _)))))
    (pss_cons (ps_par (i := 16) (j := 17) rfl nd rfl rfl (by decide) rfl rfl (pa_cons (pe_op op_cat (pe_dget hu (pv 4) pe_str (fun _ _ => rfl)) (pe_dget hu (pv 4) pe_str (fun _ _ => rfl))) (pa_cons (pe_fldK (K := K) rfl (pe_mkd L_c_Batches (hr.mono (by decide)) rfl (pa_cons (pe_mkc L_c_Disk (hr.mono (by decide)) rfl (pa_cons (pe_mtc0 (pv 2) L_Disk_synced (hr.mono (by decide))) pa_nil)) pa_nil)) rfl) pa_nil)) rfl)
    (C8.pss_cut (ps_if (PW.pt (pw_or (PW.pt (pw_and (pt_not (pt_val (pe_fldK (K := K) rfl (pv 2) rfl))) (pw_and1 (pt_cmpR op_ne (pv 17) (pe_callB (call_len_seqK (K := K) rfl) (by rfl) T.b_len (by decide +kernel) (pa_cons (pe_dget hu (pv 4) pe_str (fun _ _ => rfl)) pa_nil)) (nomark _))))) (pw_or1 (pt_not (pt_chain op_le op_le (pv 6) (pv 17) (pe_callB (call_len_seqK (K := K) rfl) (by rfl) T.b_len (by decide +kernel) (pa_cons (pv 16) pa_nil)))))))
    (pss_one (ps_ret pe_bl))
    pss_nil)
    (pss_cons (ps_set (i := 2) nd rfl (Or.inl rfl) (pe_mkc L_c_Disk (hr.mono (by decide)) rfl (pa_cons (pe_mtc0 (pv 2) L_Disk_synced (hr.mono (by decide))) pa_nil)))
    (pss_one (ps_asg (pe_fnc L__law_begun (hr.mono (by decide)) rfl (pa_cons (pv 2) (pa_cons (pe_op op_add pe_int (pe_fnc L__law_take (hr.mono (by decide)) rfl (pa_cons (pv 1) (pa_cons pe_int pa_nil)))) (pa_cons (pe_slice (sl_listK (K := K) rfl) (pv 16) po_none (po_some (pv 17))) pa_nil)))) (pg_tupK (K := K) (n := 2) rfl rfl (pgs_cons (pg_name (i := 3) nd rfl (Or.inl rfl)) (pgs_cons (pg_name (i := 4) nd rfl (Or.inl rfl)) pgs_nil))))))))
    pss_nil)
    (pss_cons (ps_asg (pe_tup (pa_cons (pe_mkd L_c_Batches (hr.mono (by decide)) rfl (pa_cons (pe_mkc L_c_Disk (hr.mono (by decide)) rfl (pa_cons (pe_mtc0 (pv 2) L_Disk_synced (hr.mono (by decide))) pa_nil)) pa_nil)) (pa_cons (pe_fnc L__law_pages (hr.mono (by decide)) rfl (pa_cons (pe_dget hu (pv 4) pe_str (fun _ _ => rfl)) pa_nil)) pa_nil))) (pg_tupK (K := K) (n := 2) rfl rfl (pgs_cons (pg_name (i := 11) nd rfl (Or.inr rfl)) (pgs_cons (pg_name (i := 12) nd rfl (Or.inr rfl)) pgs_nil))))
    (pss_one (ps_if (PW.pt (pw_or (pt_cmpR op_ne (pe_fldK (K := K) rfl (pv 11) rfl) (pe_callB (call_len_seqK (K := K) rfl) (by rfl) T.b_len (by decide +kernel) (pa_cons (pe_dget hu (pv 4) pe_str (fun _ _ => rfl)) pa_nil)) (nomark _)) (pw_or1 (pt_cmpR (op_neDK (K := K) rfl hr.units) (pe_lc (own := [("one", 15)]) rfl nd (pi_range1 rfl T.b_range (pa_cons pe_int pa_nil)) (blkOk_by (own := [("one", 15)]) (N := ["script", "state", "disk", "room", "model", "turn", "sure", "kind", "number", "due", "told", "here", "pages", "numbers", "group", "one", "every", "many", "k", "octets"]) (sc := defScope s_law) (by decide +kernel)) (fun _ _ _ _ _ => (pg_name (i := 15) nd rfl (Or.inl rfl))) (fun _ _ _ _ _ => pts_nil) (fun _ _ _ _ _ => (pe_mtc (pv 11) L_Batches_page (hr.mono (by decide)) (pa_cons (pv 15) pa_nil)))) (pe_lc (own := [("one", 15)]) rfl nd (pi_range1 rfl T.b_range (pa_cons pe_int pa_nil)) (blkOk_by (own := [("one", 15)]) (N := ["script", "state", "disk", "room", "model", "turn", "sure", "kind", "number", "due", "told", "here", "pages", "numbers", "group", "one", "every", "many", "k", "octets"]) (sc := defScope s_law) (by decide +kernel)) (fun _ _ _ _ _ => (pg_name (i := 15) nd rfl (Or.inl rfl))) (fun _ _ _ _ _ => pts_nil) (fun _ _ _ _ _ => (pe_dget2 hu (pv 12) (pv 15) (pe_op op_rep (pe_lst (pa_cons pe_int pa_nil)) pe_int) ⟨rfl, rfl, rfl, rfl⟩))) (nomark _)))))
    (pss_one (ps_ret pe_bl))
    pss_nil)))))))))
    (pss_one (ps_ret pe_bl)))))), ?_⟩
    have gh : Same (fun _ => none) H := fun b o e => by cases e
    refine ⟨_, rfl, _, sc, ns, rfl, gh, ha, fun s c H1 s1 S1 z1 z2 => ?_⟩
    refine ⟨(by show 0 ≤ sizeLine; decide), fun q0 n0 => ?_⟩
    generalize e2 : upd H1 q0 _ = H2
    obtain ⟨s2, f2, k2, g2, z2'⟩ := own_of (Stp.refl (O := O0) s1.gh) n0 e2
    have S2 := S1.stp s2 (fun z => z) fun z => z
    refine fun p dx np ndx nex => ?_
    have kx : ∀ b o, H2 b = some o → (upd (upd H2 dx (.own p)) p (.ins C dx [])) b = some o := fun b o e => by rw [upd_ne (ne_of_none e np), upd_ne (ne_of_none e ndx)]; exact e
    refine ⟨_, p, dx, q0, [], [], rfl, fun b o e => kx b o (s2.gh b o e), upd_same, gn_of s2.gh np, kx _ _ f2, .nil, Nat.zero_le _, fun ds wl G3 H3 t3 D3 z3 z4 => ⟨rfl, ?_⟩⟩
    have k3 : Same H2 H3 := fun b o e => t3.kp b o (kx b o e) (ne_of_none e np)
    have S3 : StAt G3 H3 s c := by
      obtain ⟨n, cells, h1, h2, r⟩ := S2.ex
      exact ⟨⟨n, cells, k3 _ _ h1, k3 _ _ h2, r⟩, t3.nw _ (ne_none (kx _ _ h1)) S2.gs, t3.nw _ (ne_none (kx _ _ h2)) S2.gc, S2.ne⟩
    have fit0 : Fit (⟨ofRows [], [], none, [], false⟩ : DS) := ⟨List.nodup_nil, by decide, by decide, (fun x hx => by cases hx), (fun x hx => by cases hx), by decide⟩
    have offD : ∀ b, DOwn p ds wl b → ¬ (b = s ∨ b = c) := fun b hb hz => by
      have h0 : H2 b ≠ none := by
        obtain ⟨n, cells, h1, h2, _⟩ := S2.ex
        rcases hz with z | z
        · rw [z]; exact ne_none h1
        · rw [z]; exact ne_none h2
      rcases hb with z | z | z
      · rw [z] at h0; exact h0 np
      · rw [z] at h0
        cases e : H2 ds with
        | none => exact h0 e
        | some u => rw [kx _ _ e] at z3; cases z3
      · rw [z] at h0
        cases e : H2 wl with
        | none => exact h0 e
        | some u => rw [kx _ _ e] at z4; cases z4
    -- the first room
    refine ⟨Hd R B C sc s c 0, ?_, ?_⟩
    · refine ⟨_, rfl, _, rfl, G3, s, c, 5, rfl, t3.gh, S3, by decide, by decide, fun r4 H4 r0 r1 t4 S4 => ?_⟩
      have D4 := D3.stp t4 offD
      refine ⟨_, _, rfl, rfl, (by show 0 ≤ sizeLine; decide), fun q5 n5 => ?_⟩
      generalize e5 : upd H4 q5 _ = H5
      obtain ⟨s5, f5, k5, g5, z5⟩ := own_of (Stp.refl (O := O0) t4.gh) n5 e5
      have D5 := D4.stp s5 fun _ _ z => z
      have S5 := S4.stp s5 (fun z => z) fun z => z
      have er : (⟨ofRows [], [], none, [], false⟩ : DS).read = W [] := read_W rfl
      refine ⟨G3, p, ds, wl, _, 1 + r4, q5, [], 0, rfl, s5.gh, D5, fit0, by rw [er]; exact LogOk.nil.noRoots, by rw [er]; exact LogOk.nil.log, by decide, ⟨[], f5, .nil⟩, fun t A a o wa dn G6 H6 t6 ht eA1 eA2 R6 M6 nR nM sMR => ?_⟩
      have S6 := S5.stp t6 (fun z => z) fun z => z
      have h5s : ∀ b, (b = s ∨ b = c) → H5 b ≠ none := fun b hb z => S5.off z hb
      refine g_pair ht ⟨G6, A, wl, _, a, o, wa, dn, _, _, _, _, _, _, _, _, _, _, _, _, _, _, _, _, by rw [← eA1]; rfl, ⟨t6.gh, S6, R6, M6, sMR, fun b hb z => ?_, fun b hb z => h5s b hb (nM b z)⟩, rel_begun fit0 rfl rfl LogOk.nil (fun g hg => by cases hg) (by decide) (by decide) (by omega), (by show 0 + 57 * 0 + 57 ≤ 57 + 114 * 0; decide), Nat.le_refl 0, by show 1 + r4 ≤ 5; omega⟩
      rcases nR b z with q | q
      · exact offD b q hb
      · exact h5s b hb q
    · rintro σ H4 hd0
      clear S1 s1 S2 s2 S3 D3 fit0 offD t3 k3 kx
      obtain ⟨G4, A, wl4, x4, a, o, wa, dn, m4, y5, y6, y7, y8, y9, y10, y11, y12, y13, y14, y15, y16, y17, y18, y19, rfl, L4, rel4, ph4, ev4, mo4⟩ := hd0
      refine ⟨_, rfl, G4, s, c, 52, rfl, L4.gh, L4.st, by decide, by decide, fun r5 H5 r50 r51 t5 S5 => ?_⟩
      have L5 := L4.tk t5 S5
      refine ⟨_, _, rfl, rfl, 8 + r5, rfl, by omega, by omega, for_range (n := (8 + r5).toNat) (fun i σ H => Hd R B C sc s c i σ H) ⟨G4, A, wl4, x4, a, o, wa, dn, m4, _, _, _, _, _, _, _, _, _, _, _, _, _, _, _, rfl, L5, rel4, ph4, ev4, mo4⟩ ?_ ?_⟩
      · rintro n σ H hn ⟨G, A, wl, x, a, o, wa, dn, m, y5, y6, y7, y8, y9, y10, y11, y12, y13, y14, y15, y16, y17, y18, y19, rfl, L, rel, ph, ev, mo⟩
        have hn60 : n < 60 := by omega
        have gD : ∀ {H1 : Hp} {o wa dn : Addr} {ms rd : Int}, H1 a = some (.dK (md ms o wa dn rd)) → DGet H1 a (.str "done") (some (.ref dn)) := fun {H1 o wa dn ms rd} e => by
          have z := DGet.k (k := Sum.inr "done") e
          rw [md_done] at z
          exact z
        obtain ⟨ds1, hd1, pd1⟩ := id L.md.de
        refine ⟨_, rfl, a, _, rfl, gD L.md.dk, dn, _, rfl, .inl (SqL.of hd1), ?_⟩
        rw [pd_len pd1]
        refine ⟨_, rfl, G, s, c, 12, rfl, L.gh, L.st, by decide, by decide, fun kind H1 k0 k1 t1 S1 => ?_⟩
        have L1 := L.tk t1 S1
        refine ⟨_, rfl, G, s, c, 8, rfl, L1.gh, S1, by decide, by decide, fun number H2 n0 n1 t2 S2 => ⟨_, _, rfl, ?_⟩⟩
        have L2' := L1.tk t2 S2
        refine ⟨fun σ H => Hd1 R B C sc s c n σ H, ?_, ?_⟩
        · -- a cut is asked for
          refine ⟨_, rfl, rfl, _, rfl, if_int (fun e11 => ?_) (fun e11 => ?_)⟩
          · obtain ⟨dxp, rlp, hp, _⟩ := id L2'.rm.dk.ob
            refine ⟨_, rfl, A.p, dxp, _, rfl, hp, df_no (by decide +kernel) (by decide +kernel) (by decide +kernel) (by decide +kernel) (by decide +kernel), _, rfl, G, s, c, 40, rfl, L2'.gh, L2'.st, by decide, by decide, fun u H3 u0 u1 t3 S3 => ⟨_, _, rfl, rfl, ?_⟩⟩
            have L3 := L2'.tk t3 S3
            refine ⟨_, rfl, G, s, c, 30, rfl, L3.gh, L3.st, by decide, by decide, fun mk H4 mk0 mk1 t4 S4 => ?_⟩
            have L4' := L3.tk t4 S4
            refine ⟨mk, rfl, by omega, by omega, fun Dm nDm => ?_⟩
            have off := L4'.off nDm
            have offSC : ¬ (Dm = s ∨ Dm = c) := fun z => off (.inl z)
            obtain ⟨t5, f5, _, g5, _⟩ := own_of (o := .lst []) (Stp.refl (O := O0) L4'.gh) nDm rfl
            refine lc_range (lo := 0) (n := mk.toNat) (fun j H' => ∃ G' acc ms, LR R B C G' H' s c A wl x a o wa dn m ∧ H' Dm = some (.lst acc) ∧ Paired (rP rI rI G') acc ms ∧ ms.length = j ∧ G' Dm = none)
              ⟨G, [], [], L4'.al0 t5, f5, .nil, rfl, g5⟩ ?_ ?_
            · rintro j H5 hj ⟨G5, acc, ms, W5, f5, p5, l5, g5⟩
              refine ⟨rfl, g_yes ⟨_, rfl, G5, s, c, 18, rfl, W5.gh, W5.st, by decide, by decide, fun v H7 v0 v1 t7 S7 => ⟨(by show 2 ≤ sizeLine; decide), fun t nt => ?_⟩⟩⟩
              have W7 := W5.tk t7 S7
              have f7 := t7.kp _ _ f5 offSC
              generalize e8 : upd H7 t _ = H8
              obtain ⟨G8, t8, f8, gg8, k8, gk8⟩ := data_of (Stp.refl (O := O0) W7.gh) nt e8
              have W8 := W7.al0 t8
              have nDt : Dm ≠ t := ne_of_none f7 nt
              have gD8 : G8 Dm = none := by rw [gk8 Dm nDt]; exact g5
              refine ⟨acc, k8 _ _ f7, by have := pd_len p5; rw [sizeLine_eq]; omega, ?_⟩
              generalize e9 : upd H8 Dm _ = H9
              obtain ⟨t9, f9, k9⟩ := wr_of (Stp.refl (O := fun b => b = Dm) W8.gh) (k8 _ _ f7) gD8 (.inl rfl) e9
              exact ⟨G8, _, ms ++ [(0, v)], W8.al t9 fun b hb z => off (z ▸ hb), f9, pd_snoc ((mI.p mI).ps gg8 p5) ⟨t, _, _, rfl, f8, rfl, rfl⟩, by rw [List.length_append, l5]; rfl, gD8⟩
            · rintro H5 ⟨G5, acc, ms, W5, fD, pD, lD, gD⟩
              refine ⟨G5, A.p, A.s, wl, x.d, _, Dm, ms, rfl, W5.gh, W5.rm.dk, ⟨acc, fD, pD⟩, fun G6 H6 s6 D6 => ?_⟩
              have ec : x.d.cutIn (1 + u) ms = { x.d with left := some (1 + u), rows := ms } := by
                unfold DS.cutIn
                rw [if_neg (by rw [rel.un]; exact Bool.false_ne_true)]
              rw [ec] at D6
              have R6 : RoomAt R B C G6 H6 A wl (x.withD { x.d with left := some (1 + u), rows := ms }) := W5.rm.comm (s6.mono fun _ z => .inl z) D6 (W5.rm.ba.stp s6 fun b hb z => W5.rm.sep b z hb) (.inl rfl)
              have L6 := W5.ro (s6.mono fun _ z => .inr (.inr (.inr (.inl z)))) R6 (.inl rfl)
              exact ⟨G6, A, wl, _, a, o, wa, dn, m, kind, number, _, _, _, _, _, _, _, _, _, _, _, _, rfl, L6, rel_cutin rel _ _ (by omega), ph, ev, mo, n0, n1⟩
          · exact ⟨G, A, wl, x, a, o, wa, dn, m, kind, number, _, _, _, _, _, _, _, _, _, _, _, _, rfl, L2', rel, ph, ev, mo, n0, n1⟩
        · clear rel ph ev mo L L1 L2' S1 S2 t1 t2 hd1 pd1 gD
          rintro σ H3 ⟨G, A, wl, x, a, o, wa, dn, m, kind, number, y5, y9, y10, y11, y12, y13, y14, y15, y16, y17, y18, y19, rfl, L, rel, ph, ev, mo, n0, n1⟩
          refine ⟨fun σ H => Hd2 R B C sc s c n σ H, ?_, ?_⟩
          · have gg : ∀ {H1 : Hp} {o wa dn : Addr} {ms rd : Int}, H1 a = some (.dK (md ms o wa dn rd)) → DGet H1 a (.str "reads") (some (.int rd)) ∧ DGet H1 a (.str "done") (some (.ref dn)) ∧ DGet H1 a (.str "waits") (some (.ref wa)) := fun {H1 o wa dn ms rd} e => by
              have z1 := DGet.k (k := Sum.inr "reads") e
              have z2 := DGet.k (k := Sum.inr "done") e
              have z3 := DGet.k (k := Sum.inr "waits") e
              rw [md_reads] at z1
              rw [md_done] at z2
              rw [md_waits] at z3
              exact ⟨z1, z2, z3⟩
            have hml : x.mem.length ≤ 5 := by have := rel.rm; omega
            have hol : m.order.length = x.mem.length := by rw [← rel.sy.o, List.length_map]
            have hond : m.order.Nodup := by rw [← rel.sy.o]; exact rel.fit.nd
            have hmk : 0 ≤ m.most := by rw [← rel.sy.k]; exact rel.k0
            have ev' := ev
            rw [List.length_append] at ev'
            refine ⟨_, rfl, _, _, rfl, rfl, _, rfl, if_dec (fun k5 => ?_) (fun k5 => ?_)⟩
            · -- a page is read
              refine ⟨_, rfl, a, _, rfl, (gg L.md.dk).1, _, rfl, _, rfl, G, a, o, wa, dn, m, number, rfl, L.gh, L.md, by omega, fun o1 G4 H4 s4 D4 no1 => ?_⟩
              have L4' := L.mo (s4.mono fun _ z => .inl z) D4 (.inr no1) (.inl rfl) (.inl rfl)
              refine ⟨_, rfl, .inr ⟨_, rfl, _, _, rfl, rfl, _, rfl, a, _, rfl, DPut.k (k := Sum.inr "reads") D4.dk (by show 5 < sizeLine; decide), ?_⟩⟩
              rw [md_preads]
              generalize e5 : upd H4 a _ = H5
              have ers : m.reads + (if (!decide (number ∈ m.order)) = true then 1 else 0) = m.reads + (if number ∈ m.order then 0 else 1) := by
                by_cases hn : number ∈ m.order <;> simp [hn]
              obtain ⟨t5, f5, k5'⟩ := wr_of (O := fun b => b = a) (Stp.refl L4'.gh) D4.dk D4.ga (.inl rfl) e5
              have D5 : MdAt G4 H5 a o1 wa dn { m with order := useO m.order number, reads := m.reads + (if number ∈ m.order then 0 else 1) } :=
                D4.setD (m' := { m with order := useO m.order number, reads := m.reads + (if number ∈ m.order then 0 else 1) }) (by rw [← e5, ers]) D4.od D4.wa D4.de D4.go D4.gw D4.gd D4.now D4.nod D4.nwd
              have L5' := L4'.mo (t5.mono fun _ z => .inl z) D5 (.inl rfl) (.inl rfl) (.inl rfl)
              have und : (useO m.order number).Nodup := by
                unfold useO
                refine List.nodup_append.mpr ⟨hond.sublist List.filter_sublist, by simp, fun p hp q hq => ?_⟩
                simp at hq
                subst hq
                exact of_decide_eq_true (List.mem_filter.mp hp).2
              have ulen : (useO m.order number).length ≤ 1000 := by
                unfold useO
                have := List.length_filter_le (fun y => decide (y ≠ number)) m.order
                rw [List.length_append]
                show _ + 1 ≤ _
                omega
              refine ⟨_, rfl, G4, a, o1, wa, dn, _, rfl, L5'.gh, D5, ⟨und, ulen, by show m.done.length + m.waits.length ≤ 1000; omega, hmk, rel.ri.fit⟩, fun G6 H6 s6 D6 => ?_⟩
              have L6' := L5'.mo (s6.mono fun _ z => .inr z) D6 (.inl rfl) (.inl rfl) (.inl rfl)
              have epg : MS.made { m with order := useO m.order number, reads := m.reads + (if number ∈ m.order then 0 else 1) } = m.pg number := rfl
              rw [epg] at D6 L6'
              have eev : (m.pg number).done ++ (m.pg number).waits = m.done ++ m.waits := (mroom_every _ _).1
              obtain ⟨fitP, riP, phP, relP⟩ := rel_page rel number (by omega)
              obtain ⟨ds6, hd6, pd6⟩ := id D6.de
              obtain ⟨ws6, hw6, pw6⟩ := id D6.wa
              have lds := pd_len pd6
              have lws := pd_len pw6
              have eevl := congrArg List.length eev
              rw [List.length_append, List.length_append] at eevl
              refine ⟨_, rfl, a, _, rfl, (gg D6.dk).2.1, _, rfl, a, _, rfl, (gg D6.dk).2.2, dn, wa, _, _, rfl, rfl, hd6, hw6, by rw [sizeLine_eq]; omega, fun q7 n7 => ?_⟩
              generalize e7 : upd H6 q7 _ = H7
              obtain ⟨t7, f7, _, _, _⟩ := own_of (Stp.refl (O := O0) L6'.gh) n7 e7
              have L7 := L6'.al0 t7
              refine ⟨G6, q7, m.done ++ m.waits, rfl, t7.gh, ⟨_, f7, by rw [← eev]; exact pd_app pd6 pw6⟩, rel.ri.fit, by rw [List.length_append]; omega, fun q8 kvs G8 H8 t8 n8 g8 f8 r8 => ?_⟩
              have L8 := L7.al0 t8
              refine ⟨q8, rfl, .inl ⟨kvs, .inl f8⟩, _, rfl, (by show 1 ≤ sizeLine; decide), fun q9 n9 => ?_⟩
              generalize e9 : upd H8 q9 _ = H9
              obtain ⟨t9, f9, k9, _, _⟩ := own_of (Stp.refl (O := O0) t8.gh) n9 e9
              refine ⟨q9, 64, _, rfl, rfl, f9, by decide, by decide, (by show 1 * 64 ≤ sizeLine; decide), fun q10 n10 => ?_⟩
              generalize e10 : upd H9 q10 _ = H10
              obtain ⟨t10, f10, k10, _, _⟩ := own_of t9 n10 e10
              have fz : H10 q10 = some (rowI zeros) := f10
              have L9 := L8.al0 t9
              have L10 := L8.al0 t10
              have hdue : ∃ oo c9, DGet H10 q8 (.int number) oo ∧ oo.getD (.ref q10) = .ref c9 ∧ H10 c9 = some (rowI (cont (m.done ++ m.waits) number)) ∧ ¬ AOwn s c A wl a o1 wa dn c9 := by
                have g := DGet.k (k := Sum.inl number) (k10 _ _ (k9 _ _ f8))
                cases el : look (pagesOf (m.done ++ m.waits)) number with
                | none =>
                  rw [r8.look_none el] at g
                  refine ⟨none, q10, g, rfl, ?_, L9.off n10⟩
                  unfold cont
                  rw [el]
                  exact fz
                | some pp =>
                  obtain ⟨v, hv, rv⟩ := r8.look_some el
                  obtain ⟨c9, rfl, hc9⟩ := rLI rv
                  rw [hv] at g
                  refine ⟨_, c9, g, rfl, ?_, L8.dat hc9⟩
                  unfold cont
                  rw [el]
                  exact L10.gh _ _ hc9
              obtain ⟨oo, c9, gdue, edue, fdue, odue⟩ := hdue
              refine ⟨oo, gdue, ?_⟩
              rw [edue]
              obtain ⟨dxr, hr10⟩ := id L10.rm.ob
              refine ⟨_, rfl, A.r, dxr, _, rfl, hr10, rf_no (by decide +kernel) (by decide +kernel) (by decide +kernel) (by decide +kernel) (by decide +kernel), _, rfl, G8, A, wl, x, number, rfl, L10.gh, L10.rm, rel.fit, rel.k0, by omega, fun q11 w11 G11 H11 t11 R11 hw11 fit11 n11 g11 f11 off11 => ?_⟩
              have L11 := L10.ro t11 R11 hw11
              have fdue11 := t11.kp _ _ fdue fun z => odue (.inr (.inl z))
              obtain ⟨dxp, rlp, hp11, _⟩ := id R11.dk.ob
              obtain ⟨dxr11, hr11⟩ := id R11.ob
              have mo11 : (x.page number).1.most ≤ 5 := by
                unfold RS.page
                cases look x.mem number with
                | some p => exact mo
                | none => show (RS.mroom _ _).1.most ≤ 5; rw [(mroom_same _ _).1]; exact mo
              have fin : ∀ H12, Stp (fun b => b = q11) G11 H11 G11 H12 → Hd2 R B C sc s c n (sig sc s A.p A.r a [y5, some (.int m.done.length), some (.int kind), some (.int number), some (.ref c9), some (.ref q11), y11, y12, y13, y14, y15, y16, y17, y18, y19]) H12 := fun H12 t12 => by
                refine ⟨G11, A, w11, (x.page number).1, a, o1, wa, dn, m.pg number, m.done.length, kind, _, _, _, _, _, _, _, _, _, _, _, _, _, rfl, L11.al t12 fun b hb z => ?_, fit11, by rw [eev]; exact riP, fun z => (relP z).1, by omega, by rw [eev]; omega, mo11⟩
                rw [z] at hb
                rcases hb with z | z | z
                · exact L10.st.off n11 z
                · exact off11 z
                · exact L10.md.off n11 z
              refine ⟨fun σ H12 => σ = sig sc s A.p A.r a [y5, some (.int m.done.length), some (.int kind), some (.int number), some (.ref c9), some (.ref q11), y11, y12, y13, y14, y15, y16, y17, y18, y19] ∧ H12 = H11, ?_, ?_⟩
              · refine ⟨_, rfl, A.p, C, dxp, _, _, rfl, hp11, T.cl, T.n5, df_cut, _, rfl, if_nbool (fun hc => ?_) (fun hc => ?_)⟩
                · have eT := (relP hc).2
                  have eR := (relP hc).1.rd
                  refine ⟨_, rfl, _, rfl, _, _, dp_ints f11, dp_ints fdue11, shaped_ints _, shaped_ints _, _, rfl, ?_⟩
                  rw [eqv_ints]
                  refine if_nbool (fun e => absurd eT (of_decide_eq_false e)) (fun _ => ?_)
                  exact ⟨_, rfl, A.r, R, dxr11, _, _, rfl, hr11, TR.1, TR.2, rf_reads, _, rfl, a, _, rfl, (gg L11.md.dk).1, rfl, _, rfl, if_nint (fun e => absurd eR e) (fun _ => ⟨rfl, rfl⟩)⟩
                · exact iteF ⟨rfl, rfl⟩
              · rintro σ H12 ⟨rfl, rfl⟩
                have tl : (x.page number).2.length = 64 := by
                  unfold RS.page
                  cases el : look x.mem number with
                  | some p => exact look_mem64 rel.fit.m64 el
                  | none => exact pageOf_64 rel.fit.fit rel.fit.p64 number
                refine ⟨_, rfl, q11, _, 0, 0, rfl, rfl, f11, ?_, ?_⟩
                · unfold ixN
                  rw [if_pos (by decide), if_pos (by rw [List.length_map, tl]; decide)]
                  rfl
                generalize e13 : upd H12 q11 _ = H13
                exact fin H13 (wr_of (Stp.refl (O := fun b => b = q11) L11.gh) f11 g11 (.inl rfl) e13).1
            · refine ⟨_, rfl, _, _, rfl, rfl, _, rfl, if_dec (fun k9 => ?_) (fun k9 => ?_)⟩
              · -- a group is written
                refine ⟨_, rfl, G, s, c, 3, rfl, L.gh, L.st, by decide, by decide, fun u H4 u0 u1 t4 S4 => ⟨_, _, rfl, rfl, ?_⟩⟩
                have L4' := L.tk t4 S4
                refine ⟨_, rfl, by omega, by omega, fun D1 nD1 => ?_⟩
                have offD1 := L4'.off nD1
                obtain ⟨t5, f5, _, g5, _⟩ := own_of (o := .lst []) (Stp.refl (O := O0) L4'.gh) nD1 rfl
                refine lc_range (lo := 0) (n := (1 + u).toNat) (fun j H' => ∃ ns : List Int, LR R B C G H' s c A wl x a o wa dn m ∧ H' D1 = some (rowI ns) ∧ ns.length = j ∧ ∀ k ∈ ns, 0 ≤ k ∧ k < 8) ⟨[], L4'.al0 t5, f5, rfl, fun k hk => by cases hk⟩ ?_ ?_
                · rintro j H5 hj ⟨ns, W5, f5, l5, b5⟩
                  refine ⟨rfl, g_yes ⟨_, rfl, G, s, c, 8, rfl, W5.gh, W5.st, by decide, by decide, fun v H6 v0 v1 t6 S6 => ?_⟩⟩
                  have W6 := W5.tk t6 S6
                  have f6 := t6.kp _ _ f5 fun z => offD1 (.inl z)
                  refine ⟨_, f6, by rw [List.length_map, sizeLine_eq]; omega, ?_⟩
                  generalize e7 : upd H6 D1 _ = H7
                  obtain ⟨t7, f7, k7⟩ := wr_of (Stp.refl (O := fun b => b = D1) W6.gh) f6 g5 (.inl rfl) e7
                  refine ⟨ns ++ [v], W6.al t7 (fun b hb z => offD1 (z ▸ hb)), by rw [f7, rowI, List.map_append]; rfl, by rw [List.length_append, l5]; rfl, fun k hk => ?_⟩
                  rcases List.mem_append.mp hk with hk | hk
                  · exact b5 k hk
                  · rw [List.mem_singleton] at hk
                    subst hk
                    exact ⟨v0, v1⟩
                rintro H5 ⟨ns, W5, f5, l5, b5⟩
                refine ⟨D1, ns, rfl, SqL.of f5, by omega, fun S1 c1 nS1 hc1 => ?_⟩
                generalize e6 : upd H5 S1 _ = H6
                obtain ⟨t6, f6, k6, g6, _⟩ := own_of (Stp.refl (O := O0) W5.gh) nS1 e6
                have W6 := W5.al0 t6
                refine ⟨S1, _, c1, rfl, f6, by omega, fun nums N2 asc hmem hlen nN2 => ?_⟩
                have hmem' : ∀ k, k ∈ nums ↔ k ∈ ns := fun k => by rw [hmem k]; exact decide_eq_true_iff
                generalize e7 : upd H6 N2 _ = H7
                obtain ⟨t7, f7, k7, g7, _⟩ := own_of (Stp.refl (O := O0) W6.gh) nN2 e7
                have W7 := W6.al0 t7
                have offN2 := W6.off nN2
                have hnl : nums.length ≤ 3 := by omega
                have hn8 : ∀ k ∈ nums, 0 ≤ k ∧ k < 8 := fun k hk => b5 k ((hmem' k).mp hk)
                have hn0 : 0 < nums.length := by
                  cases hz : nums with
                  | cons _ _ => rw [List.length_cons]; omega
                  | nil =>
                    cases hns : ns with
                    | nil => rw [hns] at l5; have : (0 : Nat) = (1 + u).toNat := l5; omega
                    | cons y r =>
                      have : y ∈ nums := (hmem' y).mpr (by rw [hns]; exact List.mem_cons_self)
                      rw [hz] at this
                      cases this
                refine ⟨_, rfl, N2, rfl, ⟨_, SqL.of f7⟩, fun D3 nD3 => ?_⟩
                have offD3 := W7.off nD3
                have nND : N2 ≠ D3 := ne_of_none f7 nD3
                obtain ⟨t8, f8, k8, g8, _⟩ := own_of (o := .lst []) (Stp.refl (O := O0) W7.gh) nD3 rfl
                refine lc_list (K := K) (a := N2) (xs := nums.map V.int) (fun i H8 => ∃ acc rows, LR R B C G H8 s c A wl x a o wa dn m ∧ H8 N2 = some (rowI nums) ∧ H8 D3 = some (.lst acc) ∧ rows.map (fun r : Int × Page => r.1) = nums.take i ∧ (∀ r ∈ rows, r.2.length = 64) ∧
                    Paired (fun v (r : Int × Page) => ∃ t c', v = V.ref t ∧ H8 t = some (.tup [.int r.1, .ref c']) ∧ H8 c' = some (rowI r.2) ∧ ¬ AOwn s c A wl a o wa dn t ∧ ¬ AOwn s c A wl a o wa dn c' ∧ t ≠ D3 ∧ c' ≠ D3 ∧ G t = none ∧ G c' = none) acc rows)
                  ⟨[], [], W7.al0 t8, k8 _ _ f7, f8, rfl, (fun r hr => by cases hr), .nil⟩ (fun i H8 _ ⟨_, _, _, z, _⟩ => SqL.of z) ?_ ?_
                · rintro i y H8 hi ⟨acc, rows, W8, fN8, fD8, em8, l64, p8⟩
                  obtain ⟨one, hone, rfl⟩ : ∃ z, nums[i]? = some z ∧ y = V.int z := by
                    rw [List.getElem?_map] at hi
                    cases e : nums[i]? with
                    | none => rw [e] at hi; cases hi
                    | some z => rw [e] at hi; exact ⟨z, rfl, (Option.some.inj hi).symm⟩
                  have hi2 := (List.getElem?_eq_some_iff.mp hone).1
                  refine ⟨rfl, g_yes ⟨_, rfl, _, rfl, G, s, c, 256, rfl, W8.gh, W8.st, by decide, by decide, fun v H9 v0 v1 t9 S9 => ⟨(by show 1 ≤ sizeLine; decide), fun q10 n10 => ?_⟩⟩⟩
                  have W9 := W8.tk t9 S9
                  have fN9 := t9.kp _ _ fN8 fun z => offN2 (.inl z)
                  have fD9 := t9.kp _ _ fD8 fun z => offD3 (.inl z)
                  generalize e10 : upd H9 q10 _ = H10
                  obtain ⟨t10, f10, k10, g10, _⟩ := own_of (Stp.refl (O := O0) W9.gh) n10 e10
                  refine ⟨q10, 64, _, rfl, rfl, f10, by decide, by decide, (by show 1 * 64 ≤ sizeLine; decide), fun q11 n11 => ?_⟩
                  generalize e11 : upd H10 q11 _ = H11
                  obtain ⟨t11, f11, k11, g11, z11⟩ := own_of t10 n11 e11
                  refine ⟨(by show 2 ≤ sizeLine; decide), fun tt ntt => ?_⟩
                  generalize e12 : upd H11 tt _ = H12
                  obtain ⟨t12, f12, k12, g12, z12⟩ := own_of t11 ntt e12
                  have W12 := W9.al0 t12
                  have kk : ∀ {b : Addr} {u : HO}, H9 b = some u → H12 b = some u := fun hb => k12 _ _ (k11 _ _ (k10 _ _ hb))
                  have f11v : H11 q11 = some (rowI (List.replicate 64 v)) := f11
                  have hlen := pd_len p8
                  have hrl : rows.length = (nums.take i).length := by rw [← em8, List.length_map]
                  rw [List.length_take] at hrl
                  refine ⟨acc, kk fD9, by rw [sizeLine_eq]; omega, ?_⟩
                  generalize e13 : upd H12 D3 _ = H13
                  obtain ⟨t13, f13, k13⟩ := wr_of (Stp.refl (O := fun b => b = D3) W12.gh) (kk fD9) g8 (.inl rfl) e13
                  have nq11 : q11 ≠ D3 := (ne_of_none (k10 _ _ fD9) n11).symm
                  have ntD : tt ≠ D3 := (ne_of_none (k11 _ _ (k10 _ _ fD9)) ntt).symm
                  refine ⟨_, rows ++ [(one, List.replicate 64 v)], W12.al t13 (fun b hb z => offD3 (z ▸ hb)), k13 _ _ nND (kk fN9), f13, ?_, fun r hr => ?_, pd_snoc (pd_mono (fun v' r z => ?_) p8) ⟨tt, q11, rfl, k13 _ _ ntD f12, k13 _ _ nq11 (k12 _ _ f11v), W9.off z12, W9.off z11, ntD, nq11, g12, g11⟩⟩
                  · rw [List.map_append, em8, List.take_add_one, hone]
                    rfl
                  · rcases List.mem_append.mp hr with hr | hr
                    · exact l64 r hr
                    · rw [List.mem_singleton] at hr
                      rw [hr]
                      exact List.length_replicate
                  · obtain ⟨t', c', e1, a1, a2, a3, a4, a5, a6, a7, a8⟩ := z
                    exact ⟨t', c', e1, k13 _ _ a5 (kk (t9.kp _ _ a1 fun z => a3 (.inl z))), k13 _ _ a6 (kk (t9.kp _ _ a2 fun z => a4 (.inl z))), a3, a4, a5, a6, a7, a8⟩
                rintro H8 ⟨acc, rows, W8, fN8, fD8, em8, l64, p8⟩
                rw [List.length_map, List.take_of_length_le (Nat.le_refl _)] at em8
                have hrl : rows.length = nums.length := by rw [← em8, List.length_map]
                have bf : BFit rows := ⟨l64, fun r hr => by
                    have := hn8 r.1 (by rw [← em8]; exact List.mem_map_of_mem hr)
                    omega, by unfold rising; rw [em8]; exact asc, by omega⟩
                -- the model's own copy
                obtain ⟨ws8, hw8, pw8⟩ := id W8.md.wa
                refine ⟨_, rfl, a, _, rfl, (gg W8.md.dk).2.2, .inl ⟨rfl, _, SqL.of hw8⟩, _, rfl, D3, rfl, ⟨_, SqL.of fD8⟩, fun D5 nD5 => ?_⟩
                obtain ⟨t9, f9, k9, g9, z9⟩ := own_of (o := .lst []) (Stp.refl (O := O0) W8.gh) nD5 rfl
                have lacc := pd_len p8
                refine lc_list (K := K) (a := D3) (xs := acc) (fun i H9 => ∃ G9 acc2, Stp O0 G H8 G9 H9 ∧ H9 D5 = some (.lst acc2) ∧ G9 D5 = none ∧ acc2.length ≤ i ∧ Paired (rSec G9) acc2 (rows.take i)) ⟨G, [], t9, f9, g9, Nat.le_refl _, .nil⟩ (fun i H9 _ ⟨_, _, s9, _⟩ => SqL.of (s9.kp _ _ fD8 fun z => z)) ?_ ?_
                · rintro i y H9 hi ⟨G9, acc2, s9, f9, g9, l9, p9⟩
                  obtain ⟨r, hr', t', c', rfl, ht, hc, _⟩ := pd_get p8 hi
                  have hi2 := (List.getElem?_eq_some_iff.mp hi).1
                  refine g_pair (s9.kp _ _ ht fun z => z) ⟨rfl, g_yes ⟨_, rfl, _, rfl, c', _, rfl, .inl (SqL.of (s9.kp _ _ hc fun z => z)), fun q nq => ?_⟩⟩
                  generalize e10 : upd H9 q _ = H10
                  obtain ⟨G10, s10, f10, gg10, k10, gk10⟩ := data_of s9 nq e10
                  refine ⟨(by show 2 ≤ sizeLine; decide), fun t2 nt2 => ?_⟩
                  generalize e11 : upd H10 t2 _ = H11
                  obtain ⟨G11, s11, f11, gg11, k11, gk11⟩ := data_of s10 nt2 e11
                  have fD11 := k11 _ _ (k10 _ _ f9)
                  have gD11 : G11 D5 = none := by rw [gk11 D5 (ne_of_none (k10 _ _ f9) nt2), gk10 D5 (ne_of_none f9 nq)]; exact g9
                  refine ⟨acc2, fD11, by rw [sizeLine_eq]; omega, ?_⟩
                  generalize e12 : upd H11 D5 _ = H12
                  obtain ⟨s12, f12, k12⟩ := wr_of s11 fD11 gD11 (.inr z9) e12
                  refine ⟨G11, _, s12, f12, gD11, by rw [List.length_append]; exact Nat.succ_le_succ l9, ?_⟩
                  rw [List.take_add_one, hr']
                  exact pd_snoc (mRow.ps (gg10.trans gg11) p9) ⟨t2, _, _, rfl, f11, rfl, rLI_of (gg11 _ _ f10)⟩
                rintro H9 ⟨G9, acc2, s9, f9, g9, l9, p9⟩
                rw [lacc, List.take_of_length_le (Nat.le_refl _)] at p9
                obtain ⟨G10, s10, f10, gg10, gk10⟩ := pub_of s9 f9 g9 z9
                have W10 := W8.al0 s10
                obtain ⟨ws10, hw10, pw10⟩ := id W10.md.wa
                have lws10 := pd_len pw10
                refine ⟨wa, ws10, _, rfl, rfl, hw10, by rw [sizeLine_eq]; omega, ?_⟩
                generalize e11 : upd H9 wa _ = H11
                obtain ⟨t11, f11, k11⟩ := wr_of (Stp.refl (O := MOwn a o wa dn) W10.gh) hw10 W10.md.gw (.inl (.inr (.inr (.inl rfl)))) e11
                have W11 := W10.mo t11 (W10.md.setW (gs := m.waits ++ [rows]) e11 (pd_snoc pw10 ⟨D5, _, rfl, f10, mRow.ps gg10 p9⟩)) (.inl rfl) (.inl rfl) (.inl rfl)
                -- what is kept from H8 on
                have keep11 : ∀ b v, H8 b = some v → ¬ AOwn s c A wl a o wa dn b → H11 b = some v := fun b v hb hn => t11.kp _ _ (s10.kp _ _ hb fun z => z) fun z => hn (.inr (.inr z))
                have gkeep : ∀ b, H8 b ≠ none → ¬ AOwn s c A wl a o wa dn b → G b = none → G10 b = none := fun b h1 _ h2 => s10.nw b h1 h2
                have fN11 := keep11 _ _ fN8 offN2
                have ek : ∀ i : Nat, useAll m.order (nums.take (i + 1)) = match nums[i]? with | some k => useO (useAll m.order (nums.take i)) k | none => useAll m.order (nums.take i) := fun i => by
                  rw [List.take_add_one]
                  cases nums[i]? with
                  | none => rw [show (none : Option Int).toList = [] from rfl, List.append_nil]
                  | some k => unfold useAll; rw [List.foldl_append]; rfl
                have ul : ∀ (ns : List Int) (o : List Int), (useAll o ns).length ≤ o.length + ns.length := fun ns => by
                  induction ns with
                  | nil => intro o; exact Nat.le_refl _
                  | cons k ns ih =>
                    intro o
                    have h1 := ih (useO o k)
                    have h2 : (useO o k).length ≤ o.length + 1 := by
                      unfold useO
                      rw [List.length_append]
                      have := List.length_filter_le (fun y => decide (y ≠ k)) o
                      show _ + 1 ≤ _
                      omega
                    show (useAll (useO o k) ns).length ≤ _
                    rw [List.length_cons]
                    omega
                refine ⟨_, rfl, N2, rfl, ⟨_, SqL.of fN11⟩, for_list (K := K) (a := N2) (xs := nums.map V.int)
                  (fun i σ H12 => (∃ y15, σ = sig sc s A.p A.r a [y5, some (.int m.done.length), some (.int kind), some (.int number), y9, y10, y11, y12, some (.ref N2), some (.ref D3), y15, y16, y17, y18, y19]) ∧
                    ∃ G12 o2, LR R B C G12 H12 s c A wl x a o2 wa dn { m with waits := m.waits ++ [rows], order := useAll m.order (nums.take i) } ∧ (∀ b v, H8 b = some v → ¬ AOwn s c A wl a o wa dn b → H12 b = some v) ∧ (∀ b, H8 b ≠ none → ¬ AOwn s c A wl a o wa dn b → G b = none → G12 b = none) ∧ (∀ b, H8 b ≠ none → H12 b ≠ none) ∧ (o2 = o ∨ H8 o2 = none))
                  ⟨⟨_, rfl⟩, G10, o, W11, keep11, gkeep, (fun b hb => t11.al _ (s10.al _ hb)), .inl rfl⟩ (fun i σ H12 _ ⟨_, _, _, _, z, _⟩ => SqL.of (z _ _ fN8 offN2)) ?_ ?_⟩
                · rintro i y σ H12 hi ⟨⟨y15', rfl⟩, G12, o2, W12, kp12, gk12, al12, of12⟩
                  obtain ⟨one, hone, rfl⟩ : ∃ z, nums[i]? = some z ∧ y = V.int z := by
                    rw [List.getElem?_map] at hi
                    cases e : nums[i]? with
                    | none => rw [e] at hi; cases hi
                    | some z => rw [e] at hi; exact ⟨z, rfl, (Option.some.inj hi).symm⟩
                  have hul := ul (nums.take i) m.order
                  rw [List.length_take] at hul
                  refine ⟨_, rfl, _, rfl, G12, a, o2, wa, dn, _, one, rfl, W12.gh, W12.md, by show (useAll m.order (nums.take i)).length ≤ 1000; omega, fun o3 G13 H13 s13 D13 no3 => ?_⟩
                  have W13 := W12.mo (s13.mono fun _ z => .inl z) D13 (.inr no3) (.inl rfl) (.inl rfl)
                  have ek' : useAll m.order (nums.take (i + 1)) = useO (useAll m.order (nums.take i)) one := by rw [ek i, hone]
                  refine ⟨⟨_, rfl⟩, G13, o3, by rw [ek']; exact W13, fun b v hb hn => s13.kp _ _ (kp12 b v hb hn) fun z => hn (.inr (.inr (.inl z))), fun b hb hn hg => s13.nw b (fun z => ?_) (gk12 b hb hn hg), fun b hb => s13.al b (al12 b hb), .inr (by cases e8 : H8 o3 with | none => rfl | some v => exact absurd no3 (al12 o3 (ne_none e8)))⟩
                  obtain ⟨v, hv⟩ := Option.ne_none_iff_exists'.mp hb
                  rw [kp12 b v hv hn] at z
                  cases z
                · rintro σ H12 ⟨⟨y15', rfl⟩, G12, o2, W12, kp12, gk12, al12, of12⟩
                  rw [List.length_map, List.take_of_length_le (Nat.le_refl _)] at W12
                  have D12 := W12.md
                  have hull := ul nums m.order
                  have eord : useAll m.order nums = useAll m.order (rows.map (·.1)) := by rw [em8]
                  have eall : (m.done ++ (m.waits ++ [rows])) = (m.done ++ m.waits) ++ [rows] := (List.append_assoc _ _ _).symm
                  have und : ∀ (ns : List Int) (q : List Int), q.Nodup → (useAll q ns).Nodup := fun ns => by
                    induction ns with
                    | nil => intro q hq; exact hq
                    | cons k ns ih =>
                      intro q hq
                      refine ih (useO q k) ?_
                      unfold useO
                      refine List.nodup_append.mpr ⟨hq.sublist List.filter_sublist, by simp, fun p1 hp1 q1 hq1 => ?_⟩
                      simp at hq1
                      subst hq1
                      exact of_decide_eq_true (List.mem_filter.mp hp1).2
                  have mf12 : MFit { m with waits := m.waits ++ [rows], order := useAll m.order nums } := ⟨und _ _ hond, by show (useAll m.order nums).length ≤ 1000; omega, by show m.done.length + (m.waits ++ [rows]).length ≤ 1000; rw [List.length_append]; show m.done.length + (m.waits.length + 1) ≤ 1000; omega, hmk, fun g hg => by
                    have hg : g ∈ m.done ++ (m.waits ++ [rows]) := hg
                    rw [eall] at hg
                    rcases List.mem_append.mp hg with hg | hg
                    · exact rel.ri.fit g hg
                    · rw [List.mem_singleton] at hg
                      rw [hg]
                      exact bf⟩
                  refine ⟨_, rfl, G12, a, o2, wa, dn, _, rfl, W12.gh, D12, mf12, fun G13 H13 s13 D13 => ?_⟩
                  have W13 := W12.mo (s13.mono fun _ z => .inr z) D13 (.inl rfl) (.inl rfl) (.inl rfl)
                  have emw : MS.made { m with waits := m.waits ++ [rows], order := useAll m.order nums } = m.wr rows := by
                    unfold MS.wr
                    rw [eord]
                  rw [emw] at W13
                  have kp13 : ∀ b v, H8 b = some v → ¬ AOwn s c A wl a o wa dn b → G b = none → H13 b = some v ∧ G13 b = none := fun b v hb hn hg => by
                    have h12 := kp12 b v hb hn
                    have nm : ¬ LOwn o2 wa dn b := fun z => by
                      have h12' := h12
                      rcases z with z | z | z
                      · rcases of12 with e | e
                        · exact hn (.inr (.inr (.inr (.inl (z.trans e)))))
                        · rw [z, e] at hb; cases hb
                      · exact hn (.inr (.inr (.inr (.inr (.inl z)))))
                      · exact hn (.inr (.inr (.inr (.inr (.inr z)))))
                    exact ⟨s13.kp _ _ h12 nm, s13.nw b (ne_none h12) (gk12 b (ne_none hb) hn hg)⟩
                  have p13 : LstAt rSec H13 H13 D3 rows := ⟨acc, (kp13 D3 _ fD8 offD3 g8).1, pd_mono (fun v' r z => by
                    obtain ⟨t', c', e1, a1, a2, a3, a4, a5, a6, a7, a8⟩ := z
                    exact ⟨t', _, _, e1, (kp13 _ _ a1 a3 a7).1, rfl, rLI_of (kp13 _ _ a2 a4 a8).1⟩) p8⟩
                  obtain ⟨⟨c1', c2', c3'⟩, fitW, riW, flW, phW, relW⟩ := rel_write rel bf (by omega) (by rw [List.length_append]; omega) (by omega)
                  obtain ⟨dxr, hr13⟩ := id W13.rm.ob
                  refine ⟨_, rfl, A.r, dxr, _, rfl, hr13, rf_no (by decide +kernel) (by decide +kernel) (by decide +kernel) (by decide +kernel) (by decide +kernel), _, rfl, G13, A, wl, x, D3, rows, rfl, W13.gh, W13.rm, rel.fit, rel.k0, by omega, p13, ⟨bf.few, bf.h64⟩, c1', c2', c3', fun w14 G14 H14 s14 R14 hw14 fit14 => ?_⟩
                  have W14 := W13.ro s14 R14 hw14
                  obtain ⟨dxp, rlp, hp14, _⟩ := id R14.dk.ob
                  refine ⟨_, rfl, A.p, C, dxp, _, _, rfl, hp14, T.cl, T.n5, df_cut, rfl, _, rfl, ?_⟩
                  rw [decide_eq_false (fun z => by
                    have z := V.bl.inj z
                    rw [flW] at z
                    cases hcc : (x.write rows).1.d.cut <;> rw [hcc] at z <;> cases z)]
                  refine iteF ?_
                  obtain ⟨v0, hv0⟩ : ∃ v, acc[0]? = some v := ⟨_, List.getElem?_eq_getElem (by omega)⟩
                  obtain ⟨r0, hr0, t0, c0, rfl, a1, a2, a3, a4, a5, a6, a7, a8⟩ := pd_get p8 hv0
                  have kp14 : ∀ b v, H8 b = some v → ¬ AOwn s c A wl a o wa dn b → G b = none → H14 b = some v ∧ G14 b = none := fun b v hb hn hg => by
                    obtain ⟨h1, h2⟩ := kp13 b v hb hn hg
                    exact ⟨s14.kp _ _ h1 fun z => hn (.inr (.inl z)), s14.nw b (ne_none h1) h2⟩
                  have fD14 := (kp14 D3 _ fD8 offD3 g8).1
                  have ft14 := (kp14 t0 _ a1 a3 a7).1
                  obtain ⟨fc14, gc14⟩ := kp14 c0 _ a2 a4 a8
                  have r064 := l64 r0 (List.mem_of_getElem? hr0)
                  refine ⟨_, rfl, D3, _, _, _, rfl, rfl, SqL.of fD14, at_of (j := 0) rfl hv0, t0, _, _, _, rfl, rfl, SqT.of ft14, at_of (j := 1) rfl rfl, c0, _, 0, 0, rfl, rfl, fc14, ?_, ?_⟩
                  · unfold ixN
                    rw [if_pos (by decide), if_pos (by rw [List.length_map, r064]; decide)]
                    rfl
                  generalize e15 : upd H14 c0 _ = H15
                  obtain ⟨t15, f15, k15⟩ := wr_of (Stp.refl (O := fun b => b = c0) W14.gh) fc14 gc14 (.inl rfl) e15
                  have offc : ¬ AOwn s c A w14 a o2 wa dn c0 := fun z => by
                    rcases z with z | z | z
                    · exact a4 (.inl z)
                    · rcases ROwn.tr hw14 z with q | q
                      · exact a4 (.inr (.inl q))
                      · rw [(kp13 c0 _ a2 a4 a8).1] at q; cases q
                    · rcases z with z | z | z | z
                      · exact a4 (.inr (.inr (.inl z)))
                      · rcases of12 with e | e
                        · exact a4 (.inr (.inr (.inr (.inl (z.trans e)))))
                        · rw [z, e] at a2; cases a2
                      · exact a4 (.inr (.inr (.inr (.inr (.inl z)))))
                      · exact a4 (.inr (.inr (.inr (.inr (.inr z)))))
                  have W15 := W14.al t15 fun b hb z => offc (z ▸ hb)
                  have eevw : (m.wr rows).done ++ (m.wr rows).waits = (m.done ++ m.waits) ++ [rows] := ((mroom_every _ _).1).trans eall
                  have mow : (x.write rows).1.most ≤ 5 := by
                    have := (mroom_same ((layIn x.mem rows).length + (x.wts ++ [rows]).length + 1) { x with wts := x.wts ++ [rows], mem := layIn x.mem rows }).1
                    show (RS.mroom _ _).1.most ≤ 5
                    rw [this]
                    exact mo
                  exact ⟨G14, A, w14, (x.write rows).1, a, o2, wa, dn, m.wr rows, m.done.length, kind, _, _, _, _, _, _, _, _, _, _, _, _, _, rfl, W15, fitW, by rw [eevw]; exact riW, relW, by omega, by rw [eevw, List.length_append, List.length_append]; show _ + 1 ≤ n + 1; omega, mow⟩
              · obtain ⟨dxr, hr3⟩ := id L.rm.ob
                refine ⟨_, rfl, rfl, _, rfl, if_int (fun k9' => ?_) (fun _ => ?_)⟩
                · refine ⟨_, rfl, A.r, dxr, _, rfl, hr3, rf_no (by decide +kernel) (by decide +kernel) (by decide +kernel) (by decide +kernel) (by decide +kernel), G, A, wl, x, rfl, L.gh, L.rm, rel.fit, fun w4 G4 H4 s4 R4 hw4 fit4 => ?_⟩
                  obtain ⟨fitF, riF, flF, phF, relF⟩ := rel_flush rel
                  have L4' := L.ro s4 R4 hw4
                  obtain ⟨dxp, rlp, hp4, _⟩ := id R4.dk.ob
                  refine ⟨_, rfl, A.p, C, dxp, _, _, rfl, hp4, T.cl, T.n5, df_cut, rfl, _, rfl, ?_⟩
                  rw [decide_eq_false (fun z => by
                    have z := V.bl.inj z
                    rw [flF] at z
                    cases hcc : x.flush.1.d.cut <;> rw [hcc] at z <;> cases z)]
                  refine iteF ?_
                  obtain ⟨ds4, hd4, pd4⟩ := id L4'.md.de
                  obtain ⟨ws4, hw4', pw4⟩ := id L4'.md.wa
                  have lds := pd_len pd4
                  have lws := pd_len pw4
                  refine ⟨_, rfl, a, _, rfl, (gg L4'.md.dk).2.1, _, rfl, a, _, rfl, (gg L4'.md.dk).2.2, dn, wa, _, _, rfl, rfl, hd4, hw4', by rw [sizeLine_eq]; omega, fun q5 n5 => ?_⟩
                  generalize e5 : upd H4 q5 _ = H5
                  obtain ⟨t5, f5, k5', g5, _⟩ := own_of (Stp.refl (O := O0) L4'.gh) n5 e5
                  refine ⟨(by show 0 ≤ sizeLine; decide), fun q6 n6 => ?_⟩
                  generalize e6 : upd H5 q6 _ = H6
                  obtain ⟨t6, f6, k6', g6, z6⟩ := own_of t5 n6 e6
                  refine ⟨(by show 2 ≤ sizeLine; decide), fun t7 nt7 => ?_⟩
                  generalize e7 : upd H6 t7 _ = H7
                  obtain ⟨s7, f7, k7', g7, _⟩ := own_of t6 nt7 e7
                  have L7 := L4'.al0 s7
                  have f57 := k7' _ _ (k6' _ _ f5)
                  have f67 := k7' _ _ f6
                  have D7 := L7.md
                  have n56 : q5 ≠ q6 := ne_of_none f5 n6
                  obtain ⟨ds7, hd7, pd7⟩ := id D7.de
                  obtain ⟨ws7, hw7, pw7⟩ := id D7.wa
                  have old5 : ∀ {b : Addr} {v : HO}, H4 b = some v → b ≠ q5 ∧ b ≠ q6 := fun hb => ⟨ne_of_none hb n5, ne_of_none (k5' _ _ hb) n6⟩
                  refine g_pair f7 ⟨_, rfl, a, _, rfl, DPut.k (k := Sum.inr "done") D7.dk (by show 5 < sizeLine; decide), ?_⟩
                  rw [md_pdone]
                  generalize e8 : upd H7 a _ = H8
                  obtain ⟨t8, f8, k8⟩ := wr_of (O := MOwn a o wa dn) (s7.mono fun _ z => z.elim) D7.dk D7.ga (.inl (.inl rfl)) e8
                  have D8 : MdAt G4 H8 a o wa q5 { m with done := m.done ++ m.waits } := D7.setD (m' := { m with done := m.done ++ m.waits }) e8 D7.od D7.wa ⟨_, f57, pd_app pd4 pw4⟩ D7.go D7.gw g5 D7.now (old5 L4'.md.od).1 (old5 hw4').1
                  have na5 : q5 ≠ a := (ne_of_none L4'.md.dk n5).symm
                  have na6 : q6 ≠ a := (ne_of_none (k5' _ _ L4'.md.dk) n6).symm
                  refine ⟨_, rfl, a, _, rfl, DPut.k (k := Sum.inr "waits") D8.dk (by show 5 < sizeLine; decide), ?_⟩
                  rw [md_pwaits]
                  generalize e9 : upd H8 a _ = H9
                  obtain ⟨t9, f9, k9'⟩ := wr_of t8 D8.dk D8.ga (.inl (.inl rfl)) e9
                  have D9 : MdAt G4 H9 a o q6 q5 m.fl := D8.setD (m' := m.fl) e9 D8.od ⟨[], k8 _ _ na6 f67, .nil⟩ D8.de D8.go g6 g5 (old5 L4'.md.od).2 (old5 L4'.md.od).1 n56.symm
                  have L9 := L4'.mo t9 D9 (.inl rfl) (.inr z6) (.inr n5)
                  have efl : m.fl.done ++ m.fl.waits = m.done ++ m.waits := List.append_nil _
                  have mof : x.flush.1.most ≤ 5 := by
                    have key : ∀ (f : Nat) (y : RS), (RS.fl f y).1.most = y.most := fun f => by
                      induction f with
                      | zero => intro y; rfl
                      | succ f ih =>
                        intro y
                        have hwg : y.wgroup.1.most = y.most := by
                          cases ew : y.wts with
                          | nil => rw [wg_nil ew]
                          | cons g rest => rw [wgroup_of ew]; split <;> rfl
                        rw [fl_step]
                        split
                        · rfl
                        · split
                          · rw [ih, hwg]
                          · exact hwg
                    show (RS.fl _ x).1.most ≤ 5
                    rw [key]
                    exact mo
                  exact ⟨G4, A, w4, x.flush.1, a, o, q6, q5, m.fl, m.done.length, kind, _, _, _, _, _, _, _, _, _, _, _, _, _, rfl, L9, fitF, by rw [efl]; exact riF, relF, by omega, by rw [efl]; omega, mof⟩
                · exact ⟨G, A, wl, x, a, o, wa, dn, m, m.done.length, kind, _, _, _, _, _, _, _, _, _, _, _, _, _, rfl, L, rel.fit, rel.ri, fun _ => rel, by omega, by omega, mo⟩
          · clear rel ph ev mo L
            rintro σ H4 ⟨G, A, wl, x, a, o, wa, dn, m, sure, kind, y5, y8, y9, y10, y11, y12, y13, y14, y15, y16, y17, y18, y19, rfl, L, fit, ri, rel, ph, ev, mo⟩
            refine ⟨fun σ H => Hd R B C sc s c (n + 1) σ H, ?_, ?_⟩
            · obtain ⟨bs, e, l, hsu, hpre, hun⟩ := id ri.ex
              obtain ⟨dxp, rlp, hp5, _⟩ := id L.rm.dk.ob
              have ev' := ev
              rw [List.length_append] at ev'
              refine ⟨_, rfl, A.p, C, dxp, _, _, rfl, hp5, T.cl, T.n5, df_cut, _, rfl, or_split (fun hor => ?_) (fun h1 h2 => ?_) (fun z => ⟨_, rfl, rfl, _, rfl, z⟩)⟩
              · have gg : ∀ {H1 : Hp} {o wa dn : Addr} {ms rd : Int}, H1 a = some (.dK (md ms o wa dn rd)) → DGet H1 a (.str "done") (some (.ref dn)) ∧ DGet H1 a (.str "waits") (some (.ref wa)) := fun {H1 o wa dn ms rd} e => by
                  have z2 := DGet.k (k := Sum.inr "done") e
                  have z3 := DGet.k (k := Sum.inr "waits") e
                  rw [md_done] at z2
                  rw [md_waits] at z3
                  exact ⟨z2, z3⟩
                obtain ⟨ds4, hd4, pd4⟩ := id L.md.de
                obtain ⟨ws4, hw4, pw4⟩ := id L.md.wa
                have lds := pd_len pd4
                have lws := pd_len pw4
                have hbl : bs.length ≤ n + 1 := Nat.le_trans hpre.length_le ev
                have hbf : ∀ g ∈ bs, BFit g := fun g hg => ri.fit g (hpre.subset hg)
                have hrs : rowsSum bs ≤ 1000000 := by
                  have key : ∀ gs : List BRows, (∀ g ∈ gs, BFit g) → rowsSum gs ≤ 12 * gs.length := fun gs => by
                    induction gs with
                    | nil => intro _; exact Nat.le_refl _
                    | cons g gs ih =>
                      intro h
                      have h1 := ih fun z hz => h z (List.mem_cons_of_mem _ hz)
                      have h2 := (h g List.mem_cons_self).few
                      unfold rowsSum at h1 ⊢
                      rw [List.map_cons, List.sum_cons, List.length_cons]
                      omega
                  have := key bs hbf
                  omega
                refine ⟨_, rfl, a, _, rfl, (gg L.md.dk).1, _, rfl, a, _, rfl, (gg L.md.dk).2, dn, wa, _, _, rfl, rfl, hd4, hw4, by rw [sizeLine_eq]; omega, fun q5 n5 => ?_⟩
                generalize e5 : upd H4 q5 _ = H5
                obtain ⟨t5, f5, k5, g5, _⟩ := own_of (Stp.refl (O := O0) L.gh) n5 e5
                have L5 := L.al0 t5
                refine tCons_one (tFld_of (batches_rd (c := c) L5.gh L5.rm fit.fit l hrs fun b p2 pg ds2 wl2 G6 H6 s6 B6 D6 nb => ?_))
                obtain ⟨dxb, hb6⟩ := id B6.ob
                have L6 := L5.al0 s6
                refine ⟨b, B, dxb, _, _, rfl, hb6, TB.1, TB.2, bf_many, _, _, rfl, ?_⟩
                obtain ⟨dxp6, rlp6, hp6, _⟩ := id L6.rm.dk.ob
                obtain ⟨ds6, hd6, pd6⟩ := id L6.md.de
                have lds6 := pd_len pd6
                have f56 := s6.kp _ _ f5 fun z => z
                have lev := congrArg List.length (List.map_append (f := id) (l₁ := ds4) (l₂ := ws4))
                have hle := hpre.length_le
                rw [List.length_append] at hle
                refine ⟨fun σ H => σ = sig sc s A.p A.r a [y5, some (.int sure), some (.int kind), y8, y9, y10, y11, y12, y13, y14, y15, some (.ref q5), some (.int bs.length), y18, y19] ∧ H = H6, ?_, ?_⟩
                · have chain : True := trivial
                  refine ⟨_, rfl, A.p, C, dxp6, _, _, rfl, hp6, T.cl, T.n5, df_cut, _, rfl, if_nbool (fun hc => ?_) (fun hc => iteF ?_)⟩
                  · have eb : bs = m.done := by
                      obtain ⟨u1, _⟩ := hun hc
                      rw [(rel hc).sy.w] at u1
                      exact List.append_cancel_right u1
                    refine ⟨_, rfl, _, rfl, a, _, rfl, (gg L6.md.dk).1, dn, _, rfl, .inl (SqL.of hd6), rfl, _, rfl, if_nint (fun e => absurd (by rw [lds6, eb]) e) (fun _ => ?_)⟩
                    refine ⟨_, rfl, _, rfl, _, _, rfl, rfl, _, rfl, if_dec (fun _ => ?_) (fun z => absurd (Int.ofNat_le.mpr hsu) z)⟩
                    refine ⟨_, rfl, q5, _, rfl, .inl (SqL.of f56), _, _, rfl, rfl, _, rfl, if_nbool (fun z => absurd (by rw [List.length_append, lds, lws]; exact Int.ofNat_le.mpr hle) (of_decide_eq_false z)) (fun _ => ⟨rfl, rfl⟩)⟩
                  · refine ⟨_, rfl, _, rfl, _, _, rfl, rfl, _, rfl, if_dec (fun _ => ?_) (fun z => absurd (Int.ofNat_le.mpr hsu) z)⟩
                    refine ⟨_, rfl, q5, _, rfl, .inl (SqL.of f56), _, _, rfl, rfl, _, rfl, if_nbool (fun z => absurd (by rw [List.length_append, lds, lws]; exact Int.ofNat_le.mpr hle) (of_decide_eq_false z)) (fun _ => ⟨rfl, rfl⟩)⟩
                · rintro σ H7 ⟨rfl, rfl⟩
                  refine tSeq_of (tAsg_of (again_rd (c := c) L6.gh L6.rm fit.fit fun p2 ds2 wl2 G8 H8 s8 D8 m1 m2 m3 => ?_))
                  have L8 := L6.al0 s8
                  have f58 := s8.kp _ _ f56 fun z => z
                  have offp : ∀ b, DOwn p2 ds2 wl2 b → ¬ (b = s ∨ b = c) := fun b hb hz => by
                    have hs := fun z => L6.st.off (q := b) z hz
                    rcases hb with q | q | q <;> rw [q] at hs
                    · exact hs m1
                    · exact hs m2
                    · exact hs m3
                  refine ⟨_, rfl, _, rfl, G8, s, c, 5, rfl, L8.gh, L8.st, by decide, by decide, fun u H9 u0 u1 t9 S9 => ⟨_, _, rfl, rfl, ?_⟩⟩
                  have D9 := D8.stp t9 offp
                  have offq5 : ¬ (q5 = s ∨ q5 = c) := fun z => L.st.off n5 z
                  have f59 := t9.kp _ _ f58 offq5
                  refine ⟨_, rfl, _, rfl, _, rfl, q5, _, rfl, SqL.of f59, fun q10 n10 => ?_⟩
                  rw [cut_to]
                  generalize e10 : upd H9 q10 _ = H10
                  obtain ⟨s10, f10, k10, g10, z10⟩ := own_of (Stp.refl (O := O0) t9.gh) n10 e10
                  have D10 := D9.stp s10 fun _ _ z => z
                  have S10 := S9.stp s10 (fun z => z) fun z => z
                  have epre : (m.done ++ m.waits).take bs.length = bs := (List.prefix_iff_eq_take.mp hpre).symm
                  have pbs : Paired (rL rSec G8) ((ds4 ++ ws4).take bs.length) bs := by
                    have := pd_take bs.length (mRow.l.ps (s6.gg.trans s8.gg) (pd_app pd4 pw4))
                    rw [epre] at this
                    exact this
                  have la := l.again fit.fit
                  have er : x.d.again.read = W x.d.again.sec := read_W rfl
                  have al := again_len x.d
                  have phx : x.d.sec.length ≤ Phi x := by unfold Phi; omega
                  refine ⟨G8, p2, ds2, wl2, x.d.again, 1 + u, q10, bs, e, rfl, s10.gh, D10, fit.fit.again, by rw [er]; exact la.noRoots, by rw [er]; exact la.log, hrs, ⟨_, f10, pbs⟩, fun t A2 a2 o2 wa2 dn2 G11 H11 s11 ht eA1 eA2 R11 M11 nR nM sMR => ?_⟩
                  have S11 := S10.stp s11 (fun z => z) fun z => z
                  refine g_pair ht ⟨G11, A2, wl2, _, a2, o2, wa2, dn2, _, _, _, _, _, _, _, _, _, _, _, _, _, _, _, _, by rw [← eA1]; rfl, ⟨s11.gh, S11, R11, M11, sMR, fun b hb z => ?_, fun b hb z => S10.off (nM b z) hb⟩, rel_begun fit.fit.again rfl rfl la hbf (by omega) (by omega) (by omega), ?_, ?_, by show 1 + u ≤ 5; omega⟩
                  · rcases nR b z with q | q
                    · exact offp b q hb
                    · exact S10.off q hb
                  · show x.d.again.sec.length + 57 * 0 + 57 ≤ 57 + 114 * (n + 1)
                    omega
                  · show (bs ++ []).length ≤ n + 1
                    rw [List.append_nil]
                    exact hbl
              · exact ⟨G, A, wl, x, a, o, wa, dn, m, _, _, _, _, _, _, _, _, _, _, _, _, _, _, _, rfl, L, rel h1, by omega, ev, mo⟩
            · clear rel ph ev fit ri L
              rintro σ H5 ⟨G, A, wl, x, a, o, wa, dn, m, y5, y6, y7, y8, y9, y10, y11, y12, y13, y14, y15, y16, y17, y18, y19, rfl, L, rel, ph, ev, mo⟩
              obtain ⟨e, l, eb⟩ := rel.base
              have hbf : ∀ g ∈ m.done, BFit g := fun g hg => rel.ri.fit g (List.mem_append_left _ hg)
              have evl := ev
              rw [List.length_append] at evl
              have hrs : rowsSum m.done ≤ 1000000 := by
                have key : ∀ gs : List BRows, (∀ g ∈ gs, BFit g) → rowsSum gs ≤ 12 * gs.length := fun gs => by
                  induction gs with
                  | nil => intro _; exact Nat.le_refl _
                  | cons g gs ih =>
                    intro h
                    have h1 := ih fun z hz => h z (List.mem_cons_of_mem _ hz)
                    have h2 := (h g List.mem_cons_self).few
                    unfold rowsSum at h1 ⊢
                    rw [List.map_cons, List.sum_cons, List.length_cons]
                    omega
                have := key m.done hbf
                omega
              have gD : ∀ {H1 : Hp} {o wa dn : Addr} {ms rd : Int}, H1 a = some (.dK (md ms o wa dn rd)) → DGet H1 a (.str "done") (some (.ref dn)) := fun {H1 o wa dn ms rd} e => by
                have z := DGet.k (k := Sum.inr "done") e
                rw [md_done] at z
                exact z
              refine tSeq_of (tAsg_of (tTup_cons (batches_rd (c := c) L.gh L.rm rel.fit.fit l hrs fun b p2 pg ds2 wl2 G6 H6 s6 B6 D6 nb => ?_)))
              have L6 := L.al0 s6
              refine ⟨_, rfl, a, _, rfl, gD L6.md.dk, G6, dn, m.done, rfl, s6.gh, L6.md.de, hbf, by omega, fun q7 kvs G7 H7 s7 n7 g7 f7 r7 => ?_⟩
              refine ⟨(by show 2 ≤ sizeLine; decide), fun t nt => ?_⟩
              generalize e8 : upd H7 t _ = H8
              obtain ⟨t8, f8, k8, g8, z8⟩ := own_of (Stp.refl (O := O0) s7.gh) nt e8
              have s68 : Stp O0 G6 H6 G7 H8 := s7.trans t8 fun _ z => z.elim
              have L8 := (L6.al0 s7).al0 t8
              have B8 := B6.stp s68 fun _ _ z => z
              have D8 := D6.stp s68 fun _ _ z => z
              have f78 := k8 _ _ f7
              refine g_pair f8 ?_
              obtain ⟨dxb, hb8⟩ := id B8.ob
              obtain ⟨ds8, hd8, pd8⟩ := id L8.md.de
              have nbf := @bf_no p2 1 0 (m.done.length : Int) pg e "page" (by decide +kernel) (by decide +kernel) (by decide +kernel) (by decide +kernel) (by decide +kernel) (by decide +kernel) (by decide +kernel)
              have er : x.d.again.read = W x.d.again.sec := read_W rfl
              have la := l.again rel.fit.fit
              have p64 : ∀ y ∈ pagesOf m.done, y.2.length = 64 := by
                have := rel.fit.p64
                rw [eb] at this
                exact this
              have ec : ∀ k : Int, pageOf x.d.again.read (pagesOf m.done) k = cont m.done k := fun k => by rw [er, la.pageOf]; rfl
              refine ⟨_, rfl, b, B, dxb, _, _, rfl, hb8, TB.1, TB.2, bf_many, _, rfl, a, _, rfl, gD L8.md.dk, dn, _, rfl, .inl (SqL.of hd8), rfl, _, rfl, if_nint (fun e => absurd (by rw [pd_len pd8]) e) (fun _ => ?_)⟩
              refine ⟨8, rfl, by decide, by decide, fun D1 nD1 => ?_⟩
              obtain ⟨t9, f9, _, g9, z9⟩ := own_of (o := .lst []) (Stp.refl (O := O0) L8.gh) nD1 rfl
              refine lc_range (lo := 0) (n := 8) (fun j H' => ∃ G' acc, Stp O0 G7 H8 G' H' ∧ H' D1 = some (.lst acc) ∧ G' D1 = none ∧ acc.length = j ∧ Paired (rL rI G') acc ((List.range j).map fun i : Nat => cont m.done i)) ⟨G7, [], t9, f9, g9, rfl, .nil⟩ ?_ ?_
              · rintro j H9 hj ⟨G9, acc, s9, f9, g9, l9, p9⟩
                have B9 := B8.stp s9 fun _ _ z => z
                have D9 := D8.stp s9 fun _ _ z => z
                refine ⟨rfl, g_yes ⟨_, rfl, b, dxb, _, rfl, s9.kp _ _ hb8 (fun z => z), nbf, _, rfl, G9, b, p2, pg, ds2, wl2, _, _, _, rfl, s9.gh, B9, D9, rel.fit.fit.again.rd, (fun y hy => by rw [p64 y hy]; decide), fun q10 G10 H10 s10 n10 g10 f10 => ?_⟩⟩
                rw [ec] at f10
                have s90 := s9.trans s10 fun _ z => z.elim
                have zq : H8 q10 = none := s9.fr n10
                obtain ⟨G11, s11, f11, gg11, gk11⟩ := pub_of s90 f10 g10 zq
                have fD10 := s10.kp _ _ f9 fun z => z
                have gD10 : G11 D1 = none := by rw [gk11 D1 (ne_of_none f9 n10)]; exact s10.nw _ (ne_none f9) g9
                refine ⟨acc, fD10, by rw [l9, sizeLine_eq]; omega, ?_⟩
                generalize e12 : upd H10 D1 _ = H12
                obtain ⟨s12, f12, k12⟩ := wr_of s11 fD10 gD10 (.inr z9) e12
                refine ⟨G11, _, s12, f12, gD10, by rw [List.length_append, l9]; rfl, ?_⟩
                rw [List.range_succ, List.map_append]
                refine pd_snoc (mI.l.ps (s10.gg.trans gg11) p9) (rLI_of ?_)
                have ej : (0 : Int) + (j : Int) = (j : Int) := Int.zero_add _
                rw [ej] at f11
                exact f11
              rintro H9 ⟨G9, acc, s9, f9, g9, l9, p9⟩
              refine ⟨8, rfl, by decide, by decide, fun D2 nD2 => ?_⟩
              obtain ⟨t10, f10, k10, g10, z10⟩ := own_of (o := .lst []) s9 nD2 rfl
              refine lc_range (lo := 0) (n := 8) (fun j H' => ∃ G' acc2, Stp O0 G7 H8 G' H' ∧ (Same G9 G' ∧ H' D1 = some (.lst acc) ∧ G' D1 = none) ∧ H' D2 = some (.lst acc2) ∧ G' D2 = none ∧ acc2.length = j ∧ Paired (rL rI G') acc2 ((List.range j).map fun i : Nat => cont m.done i)) ⟨G9, [], t10, ⟨Same.refl _, k10 _ _ f9, g9⟩, f10, g10, rfl, .nil⟩ ?_ ?_
              · rintro j HA hj ⟨GA, acc2, sA, sA9, fA, gA, lA, pA⟩
                refine ⟨rfl, g_yes ?_⟩
                refine ⟨_, rfl, q7, rfl, .inl ⟨kvs, .inl (sA.kp _ _ f78 fun z => z)⟩, _, rfl, (by show 1 ≤ sizeLine; decide), fun qa na => ?_⟩
                generalize eB : upd HA qa _ = HB
                obtain ⟨tB, fB, kB, gB, zB⟩ := own_of sA na eB
                refine ⟨qa, 64, _, rfl, rfl, fB, by decide, by decide, (by show 1 * 64 ≤ sizeLine; decide), fun qb nqb => ?_⟩
                generalize eC : upd HB qb _ = HC
                obtain ⟨GC, tC, fC, ggC, kC, gkC⟩ := data_of tB nqb eC
                have fz : GC qb = some (rowI zeros) := fC
                have fAC := kC _ _ (kB _ _ fA)
                have gAC : GC D2 = none := by rw [gkC D2 (ne_of_none (kB _ _ fA) nqb)]; exact gA
                have ej : (0 : Int) + (j : Int) = (j : Int) := Int.zero_add _
                have hdue : ∃ oo c9, DGet HC q7 (.int (0 + (j : Int))) oo ∧ oo.getD (.ref qb) = .ref c9 ∧ GC c9 = some (rowI (cont m.done j)) := by
                  have g := DGet.k (k := Sum.inl (0 + (j : Int))) (tC.kp _ _ f78 fun z => z)
                  cases el : look (pagesOf m.done) (0 + (j : Int)) with
                  | none =>
                    rw [r7.look_none el] at g
                    refine ⟨none, qb, g, rfl, ?_⟩
                    unfold cont
                    rw [← ej, el]
                    exact fz
                  | some pp =>
                    obtain ⟨v, hv, rv⟩ := r7.look_some el
                    obtain ⟨c9, rfl, hc9⟩ := rLI rv
                    rw [hv] at g
                    refine ⟨_, c9, g, rfl, ?_⟩
                    unfold cont
                    rw [← ej, el]
                    exact tC.gg _ _ hc9
                obtain ⟨oo, c9, gdue, edue, fdue⟩ := hdue
                refine ⟨oo, gdue, ?_⟩
                rw [edue]
                refine ⟨acc2, fAC, by rw [lA, sizeLine_eq]; omega, ?_⟩
                generalize eD : upd HC D2 _ = HD
                obtain ⟨tD, fD, kD⟩ := wr_of tC fAC gAC (.inr (s9.fr nD2)) eD
                have nD12 : D1 ≠ D2 := ne_of_none f9 nD2
                have s9C : Same G9 GC ∧ HD D1 = some (.lst acc) ∧ GC D1 = none := ⟨sA9.1.trans ggC, kD _ _ nD12 (kC _ _ (kB _ _ sA9.2.1)), by rw [gkC D1 (ne_of_none (kB _ _ sA9.2.1) nqb)]; exact sA9.2.2⟩
                refine ⟨GC, _, tD, s9C, fD, gAC, by rw [List.length_append, lA]; rfl, ?_⟩
                rw [List.range_succ, List.map_append]
                exact pd_snoc (mI.l.ps ggC pA) (rLI_of fdue)
              rintro HA ⟨GA, acc2, sA, sA9, fA, gA, lA, pA⟩
              obtain ⟨gg9, f9A, g9A⟩ := sA9
              have p9A := mI.l.ps gg9 p9
              obtain ⟨GB, sB, fB, ggB, gkB⟩ := pub_of sA f9A g9A z9
              have nD12 : D2 ≠ D1 := (ne_of_none f9 nD2).symm
              obtain ⟨GC, sC, fC, ggC, gkC⟩ := pub_of sB fA (by rw [gkB D2 nD12]; exact gA) (s9.fr nD2)
              have LC := L8.al0 sC
              have r1 : rL (rL rI) GC (.ref D1) ((List.range 8).map fun i : Nat => cont m.done i) := ⟨D1, acc, rfl, ggC _ _ fB, mI.l.ps (ggB.trans ggC) p9A⟩
              have r2 : rL (rL rI) GC (.ref D2) ((List.range 8).map fun i : Nat => cont m.done i) := ⟨D2, acc2, rfl, fC, mI.l.ps (ggB.trans ggC) pA⟩
              refine ⟨_, _, eI.l.l.dp sC.gh r1, eI.l.l.dp sC.gh r2, eI.l.l.shaped (by decide) (fun _ _ _ _ => trivial), eI.l.l.shaped (by decide) (fun _ _ _ _ => trivial), _, rfl, ?_⟩
              rw [eI.l.l.refl (fun _ _ _ _ => trivial)]
              exact iteF ⟨GC, A, wl, x, a, o, wa, dn, m, _, _, _, _, _, _, _, _, _, _, _, _, _, _, _, rfl, LC, rel, ph, ev, mo⟩
      · rintro σ H _
        exact k H
end
end K51

/-! the end: what the top has written; the law. -/
namespace K51
open PySem PySem.Spec PyProof.Rows L2 Y
theorem all_mk {l : PySem.W.OpenLaw} {w : World} {K : PySem.W.Frag} {h : Heap} {mg : Str → Option Value} {fa C B R f1 f2 f3 f4 f5 f6 f7 f8 f9 f10 f11 f12 f13 f14 f15 f16 f17 f18 f19 f20 f21 f22 f23 f24 f25 f26 f27 f28 f29 f30 f31 f32 f33 f34 f35 f36 f37 f38 : Addr} {tS tP tR tW tH : Tok} {T15 : Addr} {ocT15 : Value} {odT15 : Option Addr} {nT15 : Nat} {slT15 : Array (Option Value)} (X : K.In h) (G : h.Ns mainGlobals mg) (hfa : mg "law" = some (.ref fa))
    {od1 an1 od2 an2 od3 an3 od4 an4 od5 an5 od6 an6 od7 an7 od8 an8 od9 an9 od10 an10 od11 an11 od12 an12 od13 an13 od14 an14 od15 an15 od16 an16 od17 an17 od18 an18 od19 an19 od20 an20 od21 an21 od22 an22 od23 an23 od24 an24 od25 an25 od26 an26 od27 an27 od28 an28 od29 an29 od30 an30 od31 an31 od32 an32 od33 an33 od34 an34 od35 an35 od36 an36 od37 an37 od38 an38 : Option Addr} {sl1 sl2 sl3 sl4 sl5 sl6 sl7 sl8 sl9 sl10 sl11 sl12 sl13 sl14 sl15 sl16 sl17 sl18 sl19 sl20 sl21 sl22 sl23 sl24 sl25 sl26 sl27 sl28 sl29 sl30 sl31 sl32 sl33 sl34 sl35 sl36 sl37 sl38 : Array (Option Value)} {oc1 kV1 dc1 pm1 cd1 ct1 oc2 kV2 dc2 pm2 cd2 ct2 oc3 kV3 dc3 pm3 cd3 ct3 oc4 kV4 dc4 pm4 cd4 ct4 oc5 kV5 dc5 pm5 cd5 ct5 oc6 kV6 dc6 pm6 cd6 ct6 oc7 kV7 dc7 pm7 cd7 ct7 oc8 kV8 dc8 pm8 cd8 ct8 oc9 kV9 dc9 pm9 cd9 ct9 oc10 kV10 dc10 pm10 cd10 ct10 oc11 kV11 dc11 pm11 cd11 ct11 oc12 kV12 dc12 pm12 cd12 ct12 oc13 kV13 dc13 pm13 cd13 ct13 oc14 kV14 dc14 pm14 cd14 ct14 oc15 kV15 dc15 pm15 cd15 ct15 oc16 kV16 dc16 pm16 cd16 ct16 oc17 kV17 dc17 pm17 cd17 ct17 oc18 kV18 dc18 pm18 cd18 ct18 oc19 kV19 dc19 pm19 cd19 ct19 oc20 kV20 dc20 pm20 cd20 ct20 oc21 kV21 dc21 pm21 cd21 ct21 oc22 kV22 dc22 pm22 cd22 ct22 oc23 kV23 dc23 pm23 cd23 ct23 oc24 kV24 dc24 pm24 cd24 ct24 oc25 kV25 dc25 pm25 cd25 ct25 oc26 kV26 dc26 pm26 cd26 ct26 oc27 kV27 dc27 pm27 cd27 ct27 oc28 kV28 dc28 pm28 cd28 ct28 oc29 kV29 dc29 pm29 cd29 ct29 oc30 kV30 dc30 pm30 cd30 ct30 oc31 kV31 dc31 pm31 cd31 ct31 oc32 kV32 dc32 pm32 cd32 ct32 oc33 kV33 dc33 pm33 cd33 ct33 oc34 kV34 dc34 pm34 cd34 ct34 oc35 kV35 dc35 pm35 cd35 ct35 oc36 kV36 dc36 pm36 cd36 ct36 oc37 kV37 dc37 pm37 cd37 ct37 oc38 kV38 dc38 pm38 cd38 ct38 : Value}
    (aCC : PySem.W.nsIn K mainGlobals "Disk" = some (some (.ref C)))
    (aCB : PySem.W.nsIn K mainGlobals "Batches" = some (some (.ref B)))
    (aCR : PySem.W.nsIn K mainGlobals "Room" = some (some (.ref R)))
    (a1 : PySem.W.nsIn K mainGlobals "_law_state" = some (some (.ref f1)))
    (l1 : K.lookup f1 = some ⟨oc1, od1, .func (PySem.W.fnOf "_law_state" "_law_state" (defArgs s__law_state) (defBody s__law_state) (defScope s__law_state) .none kV1 dc1 pm1 an1 cd1 ct1), sl1⟩)
    (c1 : PySem.W.codeIn K cd1 "_law_state" = true)
    (k1 : PySem.W.keepIn K (.ref f1) = true)
    (a2 : PySem.W.nsIn K mainGlobals "_law_take" = some (some (.ref f2)))
    (l2 : K.lookup f2 = some ⟨oc2, od2, .func (PySem.W.fnOf "_law_take" "_law_take" (defArgs s__law_take) (defBody s__law_take) (defScope s__law_take) .none kV2 dc2 pm2 an2 cd2 ct2), sl2⟩)
    (c2 : PySem.W.codeIn K cd2 "_law_take" = true)
    (k2 : PySem.W.keepIn K (.ref f2) = true)
    (a3 : PySem.W.nsIn K mainGlobals "_law_use" = some (some (.ref f3)))
    (l3 : K.lookup f3 = some ⟨oc3, od3, .func (PySem.W.fnOf "_law_use" "_law_use" (defArgs s__law_use) (defBody s__law_use) (defScope s__law_use) .none kV3 dc3 pm3 an3 cd3 ct3), sl3⟩)
    (c3 : PySem.W.codeIn K cd3 "_law_use" = true)
    (k3 : PySem.W.keepIn K (.ref f3) = true)
    (a4 : PySem.W.nsIn K mainGlobals "_law_pages" = some (some (.ref f4)))
    (l4 : K.lookup f4 = some ⟨oc4, od4, .func (PySem.W.fnOf "_law_pages" "_law_pages" (defArgs s__law_pages) (defBody s__law_pages) (defScope s__law_pages) .none kV4 dc4 pm4 an4 cd4 ct4), sl4⟩)
    (c4 : PySem.W.codeIn K cd4 "_law_pages" = true)
    (k4 : PySem.W.keepIn K (.ref f4) = true)
    (a5 : PySem.W.nsIn K mainGlobals "_law_make_room" = some (some (.ref f5)))
    (l5 : K.lookup f5 = some ⟨oc5, od5, .func (PySem.W.fnOf "_law_make_room" "_law_make_room" (defArgs s__law_make_room) (defBody s__law_make_room) (defScope s__law_make_room) .none kV5 dc5 pm5 an5 cd5 ct5), sl5⟩)
    (c5 : PySem.W.codeIn K cd5 "_law_make_room" = true)
    (k5 : PySem.W.keepIn K (.ref f5) = true)
    (a6 : PySem.W.nsIn K mainGlobals "of_four" = some (some (.ref f6)))
    (l6 : K.lookup f6 = some ⟨oc6, od6, .func (PySem.W.fnOf "of_four" "of_four" (defArgs s_of_four) (defBody s_of_four) (defScope s_of_four) .none kV6 dc6 pm6 an6 cd6 ct6), sl6⟩)
    (c6 : PySem.W.codeIn K cd6 "of_four" = true)
    (k6 : PySem.W.keepIn K (.ref f6) = true)
    (a7 : PySem.W.findIn K (.ref C) "whole" = some (some (.ref f7)))
    (i7 : PySem.W.isFn K (.ref f7) = true)
    (l7 : K.lookup f7 = some ⟨oc7, od7, .func (PySem.W.fnOf "whole" "Disk.whole" (defArgs s_Disk_whole) (defBody s_Disk_whole) (defScope s_Disk_whole) .none kV7 dc7 pm7 an7 cd7 ct7), sl7⟩)
    (c7 : PySem.W.codeIn K cd7 "Disk.whole" = true)
    (k7 : PySem.W.keepIn K (.ref f7) = true)
    (a8 : PySem.W.findIn K (.ref C) "read" = some (some (.ref f8)))
    (i8 : PySem.W.isFn K (.ref f8) = true)
    (l8 : K.lookup f8 = some ⟨oc8, od8, .func (PySem.W.fnOf "read" "Disk.read" (defArgs s_Disk_read) (defBody s_Disk_read) (defScope s_Disk_read) .none kV8 dc8 pm8 an8 cd8 ct8), sl8⟩)
    (c8 : PySem.W.codeIn K cd8 "Disk.read" = true)
    (k8 : PySem.W.keepIn K (.ref f8) = true)
    (a9 : PySem.W.nsIn K mainGlobals "root_at" = some (some (.ref f9)))
    (l9 : K.lookup f9 = some ⟨oc9, od9, .func (PySem.W.fnOf "root_at" "root_at" (defArgs s_root_at) (defBody s_root_at) (defScope s_root_at) .none kV9 dc9 pm9 an9 cd9 ct9), sl9⟩)
    (c9 : PySem.W.codeIn K cd9 "root_at" = true)
    (k9 : PySem.W.keepIn K (.ref f9) = true)
    (a10 : PySem.W.nsIn K mainGlobals "newest_root" = some (some (.ref f10)))
    (l10 : K.lookup f10 = some ⟨oc10, od10, .func (PySem.W.fnOf "newest_root" "newest_root" (defArgs s_newest_root) (defBody s_newest_root) (defScope s_newest_root) .none kV10 dc10 pm10 an10 cd10 ct10), sl10⟩)
    (c10 : PySem.W.codeIn K cd10 "newest_root" = true)
    (k10 : PySem.W.keepIn K (.ref f10) = true)
    (a11 : PySem.W.nsIn K mainGlobals "log_sector" = some (some (.ref f11)))
    (l11 : K.lookup f11 = some ⟨oc11, od11, .func (PySem.W.fnOf "log_sector" "log_sector" (defArgs s_log_sector) (defBody s_log_sector) (defScope s_log_sector) .none kV11 dc11 pm11 an11 cd11 ct11), sl11⟩)
    (c11 : PySem.W.codeIn K cd11 "log_sector" = true)
    (k11 : PySem.W.keepIn K (.ref f11) = true)
    (a12 : PySem.W.nsIn K mainGlobals "batch_at" = some (some (.ref f12)))
    (l12 : K.lookup f12 = some ⟨oc12, od12, .func (PySem.W.fnOf "batch_at" "batch_at" (defArgs s_batch_at) (defBody s_batch_at) (defScope s_batch_at) .none kV12 dc12 pm12 an12 cd12 ct12), sl12⟩)
    (c12 : PySem.W.codeIn K cd12 "batch_at" = true)
    (k12 : PySem.W.keepIn K (.ref f12) = true)
    (a13 : PySem.W.findIn K (.ref B) "take" = some (some (.ref f13)))
    (i13 : PySem.W.isFn K (.ref f13) = true)
    (l13 : K.lookup f13 = some ⟨oc13, od13, .func (PySem.W.fnOf "take" "Batches.take" (defArgs s_Batches_take) (defBody s_Batches_take) (defScope s_Batches_take) .none kV13 dc13 pm13 an13 cd13 ct13), sl13⟩)
    (c13 : PySem.W.codeIn K cd13 "Batches.take" = true)
    (k13 : PySem.W.keepIn K (.ref f13) = true)
    (a14 : PySem.W.findIn K (.ref B) "open_log" = some (some (.ref f14)))
    (i14 : PySem.W.isFn K (.ref f14) = true)
    (l14 : K.lookup f14 = some ⟨oc14, od14, .func (PySem.W.fnOf "open_log" "Batches.open_log" (defArgs s_Batches_open_log) (defBody s_Batches_open_log) (defScope s_Batches_open_log) .none kV14 dc14 pm14 an14 cd14 ct14), sl14⟩)
    (c14 : PySem.W.codeIn K cd14 "Batches.open_log" = true)
    (k14 : PySem.W.keepIn K (.ref f14) = true)
    (a15 : PySem.W.findIn K (.ref B) "__init__" = some (some (.ref f15)))
    (i15 : PySem.W.isFn K (.ref f15) = true)
    (l15 : K.lookup f15 = some ⟨oc15, od15, .func (PySem.W.fnOf "__init__" "Batches.__init__" (defArgs s_Batches_init) (defBody s_Batches_init) (defScope s_Batches_init) (.ref T15) kV15 dc15 pm15 an15 cd15 ct15), sl15⟩)
    (c15 : PySem.W.codeIn K cd15 "Batches.__init__" = true)
    (k15 : PySem.W.keepIn K (.ref f15) = true)
    (d15 : K.lookup T15 = some ⟨ocT15, odT15, .seq #[Value.none] nT15, slT15⟩)
    (a16 : PySem.W.findIn K (.ref R) "__init__" = some (some (.ref f16)))
    (i16 : PySem.W.isFn K (.ref f16) = true)
    (l16 : K.lookup f16 = some ⟨oc16, od16, .func (PySem.W.fnOf "__init__" "Room.__init__" (defArgs s_Room_init) (defBody s_Room_init) (defScope s_Room_init) .none kV16 dc16 pm16 an16 cd16 ct16), sl16⟩)
    (c16 : PySem.W.codeIn K cd16 "Room.__init__" = true)
    (k16 : PySem.W.keepIn K (.ref f16) = true)
    (a17 : PySem.W.nsIn K mainGlobals "_law_begun" = some (some (.ref f17)))
    (l17 : K.lookup f17 = some ⟨oc17, od17, .func (PySem.W.fnOf "_law_begun" "_law_begun" (defArgs s__law_begun) (defBody s__law_begun) (defScope s__law_begun) .none kV17 dc17 pm17 an17 cd17 ct17), sl17⟩)
    (c17 : PySem.W.codeIn K cd17 "_law_begun" = true)
    (k17 : PySem.W.keepIn K (.ref f17) = true)
    (a18 : PySem.W.findIn K (.ref C) "__init__" = some (some (.ref f18)))
    (i18 : PySem.W.isFn K (.ref f18) = true)
    (l18 : K.lookup f18 = some ⟨oc18, od18, .func (PySem.W.fnOf "__init__" "Disk.__init__" (defArgs s_Disk_init) (defBody s_Disk_init) (defScope s_Disk_init) .none kV18 dc18 pm18 an18 cd18 ct18), sl18⟩)
    (c18 : PySem.W.codeIn K cd18 "Disk.__init__" = true)
    (k18 : PySem.W.keepIn K (.ref f18) = true)
    (a19 : PySem.W.findIn K (.ref C) "cut_in" = some (some (.ref f19)))
    (i19 : PySem.W.isFn K (.ref f19) = true)
    (l19 : K.lookup f19 = some ⟨oc19, od19, .func (PySem.W.fnOf "cut_in" "Disk.cut_in" (defArgs s_Disk_cut_in) (defBody s_Disk_cut_in) (defScope s_Disk_cut_in) .none kV19 dc19 pm19 an19 cd19 ct19), sl19⟩)
    (c19 : PySem.W.codeIn K cd19 "Disk.cut_in" = true)
    (k19 : PySem.W.keepIn K (.ref f19) = true)
    (a20 : PySem.W.findIn K (.ref C) "synced" = some (some (.ref f20)))
    (i20 : PySem.W.isFn K (.ref f20) = true)
    (l20 : K.lookup f20 = some ⟨oc20, od20, .func (PySem.W.fnOf "synced" "Disk.synced" (defArgs s_Disk_synced) (defBody s_Disk_synced) (defScope s_Disk_synced) .none kV20 dc20 pm20 an20 cd20 ct20), sl20⟩)
    (c20 : PySem.W.codeIn K cd20 "Disk.synced" = true)
    (k20 : PySem.W.keepIn K (.ref f20) = true)
    (a21 : PySem.W.nsIn K mainGlobals "home_sector" = some (some (.ref f21)))
    (l21 : K.lookup f21 = some ⟨oc21, od21, .func (PySem.W.fnOf "home_sector" "home_sector" (defArgs s_home_sector) (defBody s_home_sector) (defScope s_home_sector) .none kV21 dc21 pm21 an21 cd21 ct21), sl21⟩)
    (c21 : PySem.W.codeIn K cd21 "home_sector" = true)
    (k21 : PySem.W.keepIn K (.ref f21) = true)
    (a22 : PySem.W.findIn K (.ref B) "page" = some (some (.ref f22)))
    (i22 : PySem.W.isFn K (.ref f22) = true)
    (l22 : K.lookup f22 = some ⟨oc22, od22, .func (PySem.W.fnOf "page" "Batches.page" (defArgs s_Batches_page) (defBody s_Batches_page) (defScope s_Batches_page) .none kV22 dc22 pm22 an22 cd22 ct22), sl22⟩)
    (c22 : PySem.W.codeIn K cd22 "Batches.page" = true)
    (k22 : PySem.W.keepIn K (.ref f22) = true)
    (a23 : PySem.W.findIn K (.ref R) "found" = some (some (.ref f23)))
    (i23 : PySem.W.isFn K (.ref f23) = true)
    (l23 : K.lookup f23 = some ⟨oc23, od23, .func (PySem.W.fnOf "found" "Room.found" (defArgs s_Room_found) (defBody s_Room_found) (defScope s_Room_found) .none kV23 dc23 pm23 an23 cd23 ct23), sl23⟩)
    (c23 : PySem.W.codeIn K cd23 "Room.found" = true)
    (k23 : PySem.W.keepIn K (.ref f23) = true)
    (a24 : PySem.W.findIn K (.ref R) "is_waiting" = some (some (.ref f24)))
    (i24 : PySem.W.isFn K (.ref f24) = true)
    (l24 : K.lookup f24 = some ⟨oc24, od24, .func (PySem.W.fnOf "is_waiting" "Room.is_waiting" (defArgs s_Room_is_waiting) (defBody s_Room_is_waiting) (defScope s_Room_is_waiting) .none kV24 dc24 pm24 an24 cd24 ct24), sl24⟩)
    (c24 : PySem.W.codeIn K cd24 "Room.is_waiting" = true)
    (k24 : PySem.W.keepIn K (.ref f24) = true)
    (a25 : PySem.W.nsIn K mainGlobals "four" = some (some (.ref f25)))
    (l25 : K.lookup f25 = some ⟨oc25, od25, .func (PySem.W.fnOf "four" "four" (defArgs s_four) (defBody s_four) (defScope s_four) .none kV25 dc25 pm25 an25 cd25 ct25), sl25⟩)
    (c25 : PySem.W.codeIn K cd25 "four" = true)
    (k25 : PySem.W.keepIn K (.ref f25) = true)
    (a26 : PySem.W.nsIn K mainGlobals "content_of" = some (some (.ref f26)))
    (l26 : K.lookup f26 = some ⟨oc26, od26, .func (PySem.W.fnOf "content_of" "content_of" (defArgs s_content_of) (defBody s_content_of) (defScope s_content_of) .none kV26 dc26 pm26 an26 cd26 ct26), sl26⟩)
    (c26 : PySem.W.codeIn K cd26 "content_of" = true)
    (k26 : PySem.W.keepIn K (.ref f26) = true)
    (a27 : PySem.W.nsIn K mainGlobals "log_sectors" = some (some (.ref f27)))
    (l27 : K.lookup f27 = some ⟨oc27, od27, .func (PySem.W.fnOf "log_sectors" "log_sectors" (defArgs s_log_sectors) (defBody s_log_sectors) (defScope s_log_sectors) .none kV27 dc27 pm27 an27 cd27 ct27), sl27⟩)
    (c27 : PySem.W.codeIn K cd27 "log_sectors" = true)
    (k27 : PySem.W.keepIn K (.ref f27) = true)
    (a28 : PySem.W.findIn K (.ref C) "crash" = some (some (.ref f28)))
    (i28 : PySem.W.isFn K (.ref f28) = true)
    (l28 : K.lookup f28 = some ⟨oc28, od28, .func (PySem.W.fnOf "crash" "Disk.crash" (defArgs s_Disk_crash) (defBody s_Disk_crash) (defScope s_Disk_crash) .none kV28 dc28 pm28 an28 cd28 ct28), sl28⟩)
    (c28 : PySem.W.codeIn K cd28 "Disk.crash" = true)
    (k28 : PySem.W.keepIn K (.ref f28) = true)
    (a29 : PySem.W.findIn K (.ref C) "counts" = some (some (.ref f29)))
    (i29 : PySem.W.isFn K (.ref f29) = true)
    (l29 : K.lookup f29 = some ⟨oc29, od29, .func (PySem.W.fnOf "counts" "Disk.counts" (defArgs s_Disk_counts) (defBody s_Disk_counts) (defScope s_Disk_counts) .none kV29 dc29 pm29 an29 cd29 ct29), sl29⟩)
    (c29 : PySem.W.codeIn K cd29 "Disk.counts" = true)
    (k29 : PySem.W.keepIn K (.ref f29) = true)
    (a30 : PySem.W.findIn K (.ref C) "write" = some (some (.ref f30)))
    (i30 : PySem.W.isFn K (.ref f30) = true)
    (l30 : K.lookup f30 = some ⟨oc30, od30, .func (PySem.W.fnOf "write" "Disk.write" (defArgs s_Disk_write) (defBody s_Disk_write) (defScope s_Disk_write) .none kV30 dc30 pm30 an30 cd30 ct30), sl30⟩)
    (c30 : PySem.W.codeIn K cd30 "Disk.write" = true)
    (k30 : PySem.W.keepIn K (.ref f30) = true)
    (a31 : PySem.W.findIn K (.ref C) "sync" = some (some (.ref f31)))
    (i31 : PySem.W.isFn K (.ref f31) = true)
    (l31 : K.lookup f31 = some ⟨oc31, od31, .func (PySem.W.fnOf "sync" "Disk.sync" (defArgs s_Disk_sync) (defBody s_Disk_sync) (defScope s_Disk_sync) .none kV31 dc31 pm31 an31 cd31 ct31), sl31⟩)
    (c31 : PySem.W.codeIn K cd31 "Disk.sync" = true)
    (k31 : PySem.W.keepIn K (.ref f31) = true)
    (a32 : PySem.W.findIn K (.ref B) "commit" = some (some (.ref f32)))
    (i32 : PySem.W.isFn K (.ref f32) = true)
    (l32 : K.lookup f32 = some ⟨oc32, od32, .func (PySem.W.fnOf "commit" "Batches.commit" (defArgs s_Batches_commit) (defBody s_Batches_commit) (defScope s_Batches_commit) .none kV32 dc32 pm32 an32 cd32 ct32), sl32⟩)
    (c32 : PySem.W.codeIn K cd32 "Batches.commit" = true)
    (k32 : PySem.W.keepIn K (.ref f32) = true)
    (a33 : PySem.W.findIn K (.ref R) "write_group" = some (some (.ref f33)))
    (i33 : PySem.W.isFn K (.ref f33) = true)
    (l33 : K.lookup f33 = some ⟨oc33, od33, .func (PySem.W.fnOf "write_group" "Room.write_group" (defArgs s_Room_write_group) (defBody s_Room_write_group) (defScope s_Room_write_group) .none kV33 dc33 pm33 an33 cd33 ct33), sl33⟩)
    (c33 : PySem.W.codeIn K cd33 "Room.write_group" = true)
    (k33 : PySem.W.keepIn K (.ref f33) = true)
    (a34 : PySem.W.findIn K (.ref R) "make_room" = some (some (.ref f34)))
    (i34 : PySem.W.isFn K (.ref f34) = true)
    (l34 : K.lookup f34 = some ⟨oc34, od34, .func (PySem.W.fnOf "make_room" "Room.make_room" (defArgs s_Room_make_room) (defBody s_Room_make_room) (defScope s_Room_make_room) .none kV34 dc34 pm34 an34 cd34 ct34), sl34⟩)
    (c34 : PySem.W.codeIn K cd34 "Room.make_room" = true)
    (k34 : PySem.W.keepIn K (.ref f34) = true)
    (a35 : PySem.W.findIn K (.ref R) "page" = some (some (.ref f35)))
    (i35 : PySem.W.isFn K (.ref f35) = true)
    (l35 : K.lookup f35 = some ⟨oc35, od35, .func (PySem.W.fnOf "page" "Room.page" (defArgs s_Room_page) (defBody s_Room_page) (defScope s_Room_page) .none kV35 dc35 pm35 an35 cd35 ct35), sl35⟩)
    (c35 : PySem.W.codeIn K cd35 "Room.page" = true)
    (k35 : PySem.W.keepIn K (.ref f35) = true)
    (a36 : PySem.W.findIn K (.ref R) "write" = some (some (.ref f36)))
    (i36 : PySem.W.isFn K (.ref f36) = true)
    (l36 : K.lookup f36 = some ⟨oc36, od36, .func (PySem.W.fnOf "write" "Room.write" (defArgs s_Room_write) (defBody s_Room_write) (defScope s_Room_write) .none kV36 dc36 pm36 an36 cd36 ct36), sl36⟩)
    (c36 : PySem.W.codeIn K cd36 "Room.write" = true)
    (k36 : PySem.W.keepIn K (.ref f36) = true)
    (a37 : PySem.W.findIn K (.ref R) "flush" = some (some (.ref f37)))
    (i37 : PySem.W.isFn K (.ref f37) = true)
    (l37 : K.lookup f37 = some ⟨oc37, od37, .func (PySem.W.fnOf "flush" "Room.flush" (defArgs s_Room_flush) (defBody s_Room_flush) (defScope s_Room_flush) .none kV37 dc37 pm37 an37 cd37 ct37), sl37⟩)
    (c37 : PySem.W.codeIn K cd37 "Room.flush" = true)
    (k37 : PySem.W.keepIn K (.ref f37) = true)
    (a38 : PySem.W.nsIn K mainGlobals "law" = some (some (.ref f38)))
    (l38 : K.lookup f38 = some ⟨oc38, od38, .func (PySem.W.fnOf "law" "law" (defArgs s_law) (defBody s_law) (defScope s_law) .none kV38 dc38 pm38 an38 cd38 ct38), sl38⟩)
    (c38 : PySem.W.codeIn K cd38 "law" = true)
    (k38 : PySem.W.keepIn K (.ref f38) = true)
    (pgC : PySem.W.plainGet K C Str.empty = true)
    (hdC : PySem.W.hasDictIn K C = true)
    (poC : PySem.W.plainOver K C = true)
    (saC : PySem.W.findIn K (.ref C) "__setattr__" = some (some (.builtin "object.__setattr__")))
    (mkC : PySem.W.makesIn K C = true)
    (kcC : PySem.W.keepIn K (.ref C) = true)
    (nC_is_cut : PySem.W.findIn K (.ref C) "is_cut" = some none)
    (nC_sectors : PySem.W.findIn K (.ref C) "sectors" = some none)
    (nC_waiting : PySem.W.findIn K (.ref C) "waiting" = some none)
    (nC_left : PySem.W.findIn K (.ref C) "left" = some none)
    (nC_rows : PySem.W.findIn K (.ref C) "rows" = some none)
    (pgB : PySem.W.plainGet K B Str.empty = true)
    (hdB : PySem.W.hasDictIn K B = true)
    (poB : PySem.W.plainOver K B = true)
    (saB : PySem.W.findIn K (.ref B) "__setattr__" = some (some (.builtin "object.__setattr__")))
    (mkB : PySem.W.makesIn K B = true)
    (kcB : PySem.W.keepIn K (.ref B) = true)
    (nB_disk : PySem.W.findIn K (.ref B) "disk" = some none)
    (nB_many : PySem.W.findIn K (.ref B) "many" = some none)
    (nB_bend : PySem.W.findIn K (.ref B) "bend" = some none)
    (nB_place : PySem.W.findIn K (.ref B) "place" = some none)
    (nB_epoch : PySem.W.findIn K (.ref B) "epoch" = some none)
    (nB_pages : PySem.W.findIn K (.ref B) "pages" = some none)
    (nB_end : PySem.W.findIn K (.ref B) "end" = some none)
    (pgR : PySem.W.plainGet K R Str.empty = true)
    (hdR : PySem.W.hasDictIn K R = true)
    (poR : PySem.W.plainOver K R = true)
    (saR : PySem.W.findIn K (.ref R) "__setattr__" = some (some (.builtin "object.__setattr__")))
    (mkR : PySem.W.makesIn K R = true)
    (kcR : PySem.W.keepIn K (.ref R) = true)
    (nR_reads : PySem.W.findIn K (.ref R) "reads" = some none)
    (nR_batches : PySem.W.findIn K (.ref R) "batches" = some none)
    (nR_most : PySem.W.findIn K (.ref R) "most" = some none)
    (nR_memory : PySem.W.findIn K (.ref R) "memory" = some none)
    (nR_waits : PySem.W.findIn K (.ref R) "waits" = some none)
    (z_SECTOR : PySem.W.nsIn K mainGlobals "SECTOR" = some (some (.int 16 tS)))
    (z_PAGE : PySem.W.nsIn K mainGlobals "PAGE" = some (some (.int 64 tP)))
    (z_ROOM : PySem.W.nsIn K mainGlobals "ROOM" = some (some (.int 15 tR)))
    (z_ROW : PySem.W.nsIn K mainGlobals "ROW" = some (some (.int 68 tW)))
    (z_HEAD : PySem.W.nsIn K mainGlobals "HEAD" = some (some (.int 8 tH)))
    (b_list : PySem.W.nsIn K mainGlobals "list" = some none)
    (b_len : PySem.W.nsIn K mainGlobals "len" = some none)
    (b_min : PySem.W.nsIn K mainGlobals "min" = some none)
    (b_max : PySem.W.nsIn K mainGlobals "max" = some none)
    (b_sorted : PySem.W.nsIn K mainGlobals "sorted" = some none)
    (b_set : PySem.W.nsIn K mainGlobals "set" = some none)
    (b_zip : PySem.W.nsIn K mainGlobals "zip" = some none)
    (b_range : PySem.W.nsIn K mainGlobals "range" = some none)
    (b_abs : PySem.W.nsIn K mainGlobals "abs" = some none)
    (b_int : PySem.W.nsIn K mainGlobals "int" = some none)
    (b_dict : PySem.W.nsIn K mainGlobals "dict" = some none)
    (b_enumerate : PySem.W.nsIn K mainGlobals "enumerate" = some none)
    (b_any : PySem.W.nsIn K mainGlobals "any" = some none)
    : ∃ fd : FuncData, (∀ (s : Shared) (v : Value), BindsTo s fd ⟨[v], []⟩ [("script", v)]) ∧ ∀ base : Heap, K.In base → base.Ns mainGlobals mg → FnOk l.prog w K mg base CX0 10 fa fd ["script"] (spLaw K) := by
  have e := hfa.symm.trans (PySem.W.mg_of X G a38)
  cases e
  have T_Txt : Txt K mg C tS := ⟨⟨pgC, hdC, poC, saC⟩, nC_sectors, nC_waiting, nC_left, nC_rows, nC_is_cut, PySem.W.mg_of X G z_SECTOR, PySem.W.mg_none_of X G b_list, PySem.W.mg_none_of X G b_len, PySem.W.mg_none_of X G b_min, PySem.W.mg_none_of X G b_max, PySem.W.mg_none_of X G b_sorted, PySem.W.mg_none_of X G b_set, PySem.W.mg_none_of X G b_zip, PySem.W.mg_none_of X G b_range, PySem.W.mg_none_of X G b_abs, PySem.W.mg_none_of X G b_int, PySem.W.mg_none_of X G b_dict⟩
  have T_TxB : TxB K mg B tP tR tW tH := ⟨⟨pgB, hdB, poB, saB⟩, nB_disk, nB_bend, nB_place, nB_epoch, nB_many, nB_pages, nB_end, PySem.W.mg_of X G z_PAGE, PySem.W.mg_of X G z_ROOM, PySem.W.mg_of X G z_ROW, PySem.W.mg_of X G z_HEAD, PySem.W.mg_none_of X G b_list, PySem.W.mg_none_of X G b_len, PySem.W.mg_none_of X G b_max, PySem.W.mg_none_of X G b_range, PySem.W.mg_none_of X G b_enumerate⟩
  have T_TxR : TxR K mg R := ⟨⟨pgR, hdR, poR, saR⟩, nR_batches, nR_most, nR_memory, nR_waits, nR_reads, PySem.W.mg_none_of X G b_list, PySem.W.mg_none_of X G b_len, PySem.W.mg_none_of X G b_any⟩
  have F1 := fun_mk (st := s__law_state) l1 c1 k1
  have B1 := F1.binds (ps := ["script"]) fun _ _ _ _ _ _ us hl => match us, hl with | [_], _ => rfl
  have F2 := fun_mk (st := s__law_take) l2 c2 k2
  have B2 := F2.binds (ps := ["state", "most"]) fun _ _ _ _ _ _ us hl => match us, hl with | [_, _], _ => rfl
  have F3 := fun_mk (st := s__law_use) l3 c3 k3
  have B3 := F3.binds (ps := ["model", "number"]) fun _ _ _ _ _ _ us hl => match us, hl with | [_, _], _ => rfl
  have F4 := fun_mk (st := s__law_pages) l4 c4 k4
  have B4 := F4.binds (ps := ["groups"]) fun _ _ _ _ _ _ us hl => match us, hl with | [_], _ => rfl
  have F5 := fun_mk (st := s__law_make_room) l5 c5 k5
  have B5 := F5.binds (ps := ["model"]) fun _ _ _ _ _ _ us hl => match us, hl with | [_], _ => rfl
  have F6 := fun_mk (st := s_of_four) l6 c6 k6
  have B6 := F6.binds (ps := ["octets"]) fun _ _ _ _ _ _ us hl => match us, hl with | [_], _ => rfl
  have F7 := fun_mk (st := s_Disk_whole) l7 c7 k7
  have B7 := F7.binds (ps := ["self", "number"]) fun _ _ _ _ _ _ us hl => match us, hl with | [_, _], _ => rfl
  have F8 := fun_mk (st := s_Disk_read) l8 c8 k8
  have B8 := F8.binds (ps := ["self", "number"]) fun _ _ _ _ _ _ us hl => match us, hl with | [_, _], _ => rfl
  have F9 := fun_mk (st := s_root_at) l9 c9 k9
  have B9 := F9.binds (ps := ["disk", "place"]) fun _ _ _ _ _ _ us hl => match us, hl with | [_, _], _ => rfl
  have F10 := fun_mk (st := s_newest_root) l10 c10 k10
  have B10 := F10.binds (ps := ["disk"]) fun _ _ _ _ _ _ us hl => match us, hl with | [_], _ => rfl
  have F11 := fun_mk (st := s_log_sector) l11 c11 k11
  have B11 := F11.binds (ps := ["place"]) fun _ _ _ _ _ _ us hl => match us, hl with | [_], _ => rfl
  have F12 := fun_mk (st := s_batch_at) l12 c12 k12
  have B12 := F12.binds (ps := ["disk", "place", "epoch"]) fun _ _ _ _ _ _ us hl => match us, hl with | [_, _, _], _ => rfl
  have F13 := fun_mk (st := s_Batches_take) l13 c13 k13
  have B13 := F13.binds (ps := ["self", "rows"]) fun _ _ _ _ _ _ us hl => match us, hl with | [_, _], _ => rfl
  have F14 := fun_mk (st := s_Batches_open_log) l14 c14 k14
  have B14 := F14.binds (ps := ["self"]) fun _ _ _ _ _ _ us hl => match us, hl with | [_], _ => rfl
  have F15 : FunD K "__init__" "Batches.__init__" (defArgs s_Batches_init) (defBody s_Batches_init) (defScope s_Batches_init) [.non] [] f15 _ := ⟨⟨oc15, od15, _, kV15, dc15, pm15, an15, cd15, ct15, sl15, rfl, l15, c15, .inr ⟨by simp, T15, _, [Value.none], nT15, rfl, d15, rfl, .cons rfl (.nil)⟩, .inl rfl⟩, k15⟩
  obtain ⟨ds15, vd15, B15⟩ := F15.binds1 (ps := ["self", "disk", "bend"]) 2 0 (by simp) rfl fun _ _ _ _ _ _ _ us its hu hi => match us, its, hu, hi with | [_, _], [_], _, _ => ⟨_, rfl, rfl⟩
  have F16 := fun_mk (st := s_Room_init) l16 c16 k16
  have B16 := F16.binds (ps := ["self", "disk", "most"]) fun _ _ _ _ _ _ us hl => match us, hl with | [_, _, _], _ => rfl
  have F17 := fun_mk (st := s__law_begun) l17 c17 k17
  have B17 := F17.binds (ps := ["disk", "most", "done"]) fun _ _ _ _ _ _ us hl => match us, hl with | [_, _, _], _ => rfl
  have F18 := fun_mk (st := s_Disk_init) l18 c18 k18
  have B18 := F18.binds (ps := ["self", "sectors"]) fun _ _ _ _ _ _ us hl => match us, hl with | [_, _], _ => rfl
  have F19 := fun_mk (st := s_Disk_cut_in) l19 c19 k19
  have B19 := F19.binds (ps := ["self", "many", "rows"]) fun _ _ _ _ _ _ us hl => match us, hl with | [_, _, _], _ => rfl
  have F20 := fun_mk (st := s_Disk_synced) l20 c20 k20
  have B20 := F20.binds (ps := ["self"]) fun _ _ _ _ _ _ us hl => match us, hl with | [_], _ => rfl
  have F21 := fun_mk (st := s_home_sector) l21 c21 k21
  have B21 := F21.binds (ps := ["page", "part"]) fun _ _ _ _ _ _ us hl => match us, hl with | [_, _], _ => rfl
  have F22 := fun_mk (st := s_Batches_page) l22 c22 k22
  have B22 := F22.binds (ps := ["self", "number"]) fun _ _ _ _ _ _ us hl => match us, hl with | [_, _], _ => rfl
  have F23 := fun_mk (st := s_Room_found) l23 c23 k23
  have B23 := F23.binds (ps := ["self", "number"]) fun _ _ _ _ _ _ us hl => match us, hl with | [_, _], _ => rfl
  have F24 := fun_mk (st := s_Room_is_waiting) l24 c24 k24
  have B24 := F24.binds (ps := ["self", "number"]) fun _ _ _ _ _ _ us hl => match us, hl with | [_, _], _ => rfl
  have F25 := fun_mk (st := s_four) l25 c25 k25
  have B25 := F25.binds (ps := ["number"]) fun _ _ _ _ _ _ us hl => match us, hl with | [_], _ => rfl
  have F26 := fun_mk (st := s_content_of) l26 c26 k26
  have B26 := F26.binds (ps := ["epoch", "rows"]) fun _ _ _ _ _ _ us hl => match us, hl with | [_, _], _ => rfl
  have F27 := fun_mk (st := s_log_sectors) l27 c27 k27
  have B27 := F27.binds (ps := ["content"]) fun _ _ _ _ _ _ us hl => match us, hl with | [_], _ => rfl
  have F28 := fun_mk (st := s_Disk_crash) l28 c28 k28
  have B28 := F28.binds (ps := ["self", "rows"]) fun _ _ _ _ _ _ us hl => match us, hl with | [_, _], _ => rfl
  have F29 := fun_mk (st := s_Disk_counts) l29 c29 k29
  have B29 := F29.binds (ps := ["self"]) fun _ _ _ _ _ _ us hl => match us, hl with | [_], _ => rfl
  have F30 := fun_mk (st := s_Disk_write) l30 c30 k30
  have B30 := F30.binds (ps := ["self", "number", "content"]) fun _ _ _ _ _ _ us hl => match us, hl with | [_, _, _], _ => rfl
  have F31 := fun_mk (st := s_Disk_sync) l31 c31 k31
  have B31 := F31.binds (ps := ["self"]) fun _ _ _ _ _ _ us hl => match us, hl with | [_], _ => rfl
  have F32 := fun_mk (st := s_Batches_commit) l32 c32 k32
  have B32 := F32.binds (ps := ["self", "rows"]) fun _ _ _ _ _ _ us hl => match us, hl with | [_, _], _ => rfl
  have F33 := fun_mk (st := s_Room_write_group) l33 c33 k33
  have B33 := F33.binds (ps := ["self"]) fun _ _ _ _ _ _ us hl => match us, hl with | [_], _ => rfl
  have F34 := fun_mk (st := s_Room_make_room) l34 c34 k34
  have B34 := F34.binds (ps := ["self"]) fun _ _ _ _ _ _ us hl => match us, hl with | [_], _ => rfl
  have F35 := fun_mk (st := s_Room_page) l35 c35 k35
  have B35 := F35.binds (ps := ["self", "number"]) fun _ _ _ _ _ _ us hl => match us, hl with | [_, _], _ => rfl
  have F36 := fun_mk (st := s_Room_write) l36 c36 k36
  have B36 := F36.binds (ps := ["self", "rows"]) fun _ _ _ _ _ _ us hl => match us, hl with | [_, _], _ => rfl
  have F37 := fun_mk (st := s_Room_flush) l37 c37 k37
  have B37 := F37.binds (ps := ["self"]) fun _ _ _ _ _ _ us hl => match us, hl with | [_], _ => rfl
  have F38 := fun_mk (st := s_law) l38 c38 k38
  refine ⟨PySem.W.fnOf "law" "law" (defArgs s_law) (defBody s_law) (defScope s_law) .none kV38 dc38 pm38 an38 cd38 ct38, fun s v => .of_eq rfl, fun base _ _ => ?_⟩
  have L__law_state : FnC l.prog w K mg base "_law_state" 1 ["script"] (spState K) := ⟨⟨_, _, ok_state (P := l.prog) (w := w) (base := base) F1 T_Txt, PySem.W.mg_of X G a1, k1, B1⟩⟩
  have L__law_take : FnC l.prog w K mg base "_law_take" 1 ["state", "most"] (spTake) := ⟨⟨_, _, ok_take (P := l.prog) (w := w) (base := base) F2 T_Txt, PySem.W.mg_of X G a2, k2, B2⟩⟩
  have L__law_use : FnC l.prog w K mg base "_law_use" 1 ["model", "number"] (spUse) := ⟨⟨_, _, ok_use (P := l.prog) (w := w) (base := base) F3 , PySem.W.mg_of X G a3, k3, B3⟩⟩
  have L__law_pages : FnC l.prog w K mg base "_law_pages" 1 ["groups"] (spPages) := ⟨⟨_, _, ok_pages (P := l.prog) (w := w) (base := base) F4 , PySem.W.mg_of X G a4, k4, B4⟩⟩
  have L__law_make_room : FnC l.prog w K mg base "_law_make_room" 2 ["model"] (spLMR) := ⟨⟨_, _, ok_lmr (P := l.prog) (w := w) (base := base) F5 T_Txt L__law_pages, PySem.W.mg_of X G a5, k5, B5⟩⟩
  have L_of_four : FnC l.prog w K mg base "of_four" 1 ["octets"] (spOfFour) := ⟨⟨_, _, ok_of_four (P := l.prog) (w := w) (base := base) F6 , PySem.W.mg_of X G a6, k6, B6⟩⟩
  have L_Disk_whole : MtC l.prog w K mg base C "whole" 1 ["self", "number"] (spWhole C) := ⟨⟨_, _, ok_whole (P := l.prog) (w := w) (base := base) F7 T_Txt, ⟨a7, i7, k7⟩, B7⟩, ⟨pgC, hdC, poC, saC⟩⟩
  have L_Disk_read : MtC l.prog w K mg base C "read" 2 ["self", "number"] (spRead C) := ⟨⟨_, _, ok_read (P := l.prog) (w := w) (base := base) F8 T_Txt L_Disk_whole, ⟨a8, i8, k8⟩, B8⟩, ⟨pgC, hdC, poC, saC⟩⟩
  have L_root_at : FnC l.prog w K mg base "root_at" 3 ["disk", "place"] (spRootAt C) := ⟨⟨_, _, ok_root (P := l.prog) (w := w) (base := base) F9 L_of_four L_Disk_read, PySem.W.mg_of X G a9, k9, B9⟩⟩
  have L_newest_root : FnC l.prog w K mg base "newest_root" 4 ["disk"] (spNewest C NoRoots) := ⟨⟨_, _, ok_newest (P := l.prog) (w := w) (base := base) F10 T_TxB L_root_at, PySem.W.mg_of X G a10, k10, B10⟩⟩
  have L_log_sector : FnC l.prog w K mg base "log_sector" 1 ["place"] (spLogS) := ⟨⟨_, _, ok_logS (P := l.prog) (w := w) (base := base) F11 , PySem.W.mg_of X G a11, k11, B11⟩⟩
  have L_batch_at : FnC l.prog w K mg base "batch_at" 3 ["disk", "place", "epoch"] (spBatchAt C) := ⟨⟨_, _, ok_batch (P := l.prog) (w := w) (base := base) F12 T_TxB L_of_four L_log_sector L_Disk_read, PySem.W.mg_of X G a12, k12, B12⟩⟩
  have L_Batches_take : MtC l.prog w K mg base B "take" 1 ["self", "rows"] (spTakeB B) := ⟨⟨_, _, ok_takeB (P := l.prog) (w := w) (base := base) F13 T_TxB, ⟨a13, i13, k13⟩, B13⟩, ⟨pgB, hdB, poB, saB⟩⟩
  have L_Batches_open_log : MtC l.prog w K mg base B "open_log" 4 ["self"] (spOpen B C) := ⟨⟨_, _, ok_open (P := l.prog) (w := w) (base := base) F14 T_TxB L_batch_at L_Batches_take, ⟨a14, i14, k14⟩, B14⟩, ⟨pgB, hdB, poB, saB⟩⟩
  have L_c_Batches : CsD l.prog w K mg base "Batches" B 5 ["self", "disk", "bend"] [.non] (spInitB B C NoRoots) := ⟨⟨_, _, _, ok_initB (P := l.prog) (w := w) (base := base) F15.x T_TxB L_newest_root L_Batches_open_log, ⟨mkB, a15, i15, kcB⟩, B15, vd15⟩, PySem.W.mg_of X G aCB⟩
  have L_c_Room : CsC l.prog w K mg base "Room" R 7 ["self", "disk", "most"] (spInitR R B C NoRoots) := ⟨⟨_, _, ok_initR (P := l.prog) (w := w) (base := base) F16 T_TxR L_c_Batches, ⟨mkR, a16, i16, kcR⟩, B16⟩, PySem.W.mg_of X G aCR⟩
  have L__law_begun : FnC l.prog w K mg base "_law_begun" 9 ["disk", "most", "done"] (spBegun R B C) := ⟨⟨_, _, ok_begun (P := l.prog) (w := w) (base := base) F17 T_Txt L_c_Room, PySem.W.mg_of X G a17, k17, B17⟩⟩
  have L_c_Disk : CsC l.prog w K mg base "Disk" C 1 ["self", "sectors"] (spInit C) := ⟨⟨_, _, ok_init (P := l.prog) (w := w) (base := base) F18 T_Txt, ⟨mkC, a18, i18, kcC⟩, B18⟩, PySem.W.mg_of X G aCC⟩
  have L_Disk_cut_in : MtC l.prog w K mg base C "cut_in" 1 ["self", "many", "rows"] (spCutIn C) := ⟨⟨_, _, ok_cut_in (P := l.prog) (w := w) (base := base) F19 T_Txt, ⟨a19, i19, k19⟩, B19⟩, ⟨pgC, hdC, poC, saC⟩⟩
  have L_Disk_synced : MtC l.prog w K mg base C "synced" 1 ["self"] (spSynced C) := ⟨⟨_, _, ok_synced (P := l.prog) (w := w) (base := base) F20 T_Txt, ⟨a20, i20, k20⟩, B20⟩, ⟨pgC, hdC, poC, saC⟩⟩
  have L_home_sector : FnC l.prog w K mg base "home_sector" 1 ["page", "part"] (spHome) := ⟨⟨_, _, ok_home (P := l.prog) (w := w) (base := base) F21 , PySem.W.mg_of X G a21, k21, B21⟩⟩
  have L_Batches_page : MtC l.prog w K mg base B "page" 3 ["self", "number"] (spPageB B C) := ⟨⟨_, _, ok_pageB (P := l.prog) (w := w) (base := base) F22 T_TxB L_home_sector L_Disk_read, ⟨a22, i22, k22⟩, B22⟩, ⟨pgB, hdB, poB, saB⟩⟩
  have L_Room_found : MtC l.prog w K mg base R "found" 1 ["self", "number"] (spFound R B C) := ⟨⟨_, _, ok_found (P := l.prog) (w := w) (base := base) F23 T_TxR, ⟨a23, i23, k23⟩, B23⟩, ⟨pgR, hdR, poR, saR⟩⟩
  have L_Room_is_waiting : MtC l.prog w K mg base R "is_waiting" 1 ["self", "number"] (spIsW R B C) := ⟨⟨_, _, ok_isW (P := l.prog) (w := w) (base := base) F24 T_TxR, ⟨a24, i24, k24⟩, B24⟩, ⟨pgR, hdR, poR, saR⟩⟩
  have L_four : FnC l.prog w K mg base "four" 1 ["number"] (spFour) := ⟨⟨_, _, ok_four (P := l.prog) (w := w) (base := base) F25 , PySem.W.mg_of X G a25, k25, B25⟩⟩
  have L_content_of : FnC l.prog w K mg base "content_of" 2 ["epoch", "rows"] (spContent) := ⟨⟨_, _, ok_content (P := l.prog) (w := w) (base := base) F26 T_TxB L_four, PySem.W.mg_of X G a26, k26, B26⟩⟩
  have L_log_sectors : FnC l.prog w K mg base "log_sectors" 1 ["content"] (spLogSecs) := ⟨⟨_, _, ok_logSecs (P := l.prog) (w := w) (base := base) F27 T_TxB, PySem.W.mg_of X G a27, k27, B27⟩⟩
  have L_Disk_crash : MtC l.prog w K mg base C "crash" 2 ["self", "rows"] (spCrash C) := ⟨⟨_, _, ok_crash (P := l.prog) (w := w) (base := base) F28 T_Txt L_Disk_whole, ⟨a28, i28, k28⟩, B28⟩, ⟨pgC, hdC, poC, saC⟩⟩
  have L_Disk_counts : MtC l.prog w K mg base C "counts" 3 ["self"] (spCounts C) := ⟨⟨_, _, ok_counts (P := l.prog) (w := w) (base := base) F29 T_Txt L_Disk_crash, ⟨a29, i29, k29⟩, B29⟩, ⟨pgC, hdC, poC, saC⟩⟩
  have L_Disk_write : MtC l.prog w K mg base C "write" 4 ["self", "number", "content"] (spWrite C) := ⟨⟨_, _, ok_write (P := l.prog) (w := w) (base := base) F30 T_Txt L_Disk_counts, ⟨a30, i30, k30⟩, B30⟩, ⟨pgC, hdC, poC, saC⟩⟩
  have L_Disk_sync : MtC l.prog w K mg base C "sync" 4 ["self"] (spSync C) := ⟨⟨_, _, ok_sync (P := l.prog) (w := w) (base := base) F31 T_Txt L_Disk_counts, ⟨a31, i31, k31⟩, B31⟩, ⟨pgC, hdC, poC, saC⟩⟩
  have L_Batches_commit : MtC l.prog w K mg base B "commit" 5 ["self", "rows"] (spCommit B C) := ⟨⟨_, _, ok_commit (P := l.prog) (w := w) (base := base) F32 T_TxB ⟨⟨pgC, hdC, poC, saC⟩, nC_is_cut⟩ L_content_of L_log_sectors L_log_sector L_Disk_write L_Disk_sync L_Batches_take, ⟨a32, i32, k32⟩, B32⟩, ⟨pgB, hdB, poB, saB⟩⟩
  have L_Room_write_group : MtC l.prog w K mg base R "write_group" 6 ["self"] (spWGroup R B C) := ⟨⟨_, _, ok_wgroup (P := l.prog) (w := w) (base := base) F33 T_TxR L_Batches_commit, ⟨a33, i33, k33⟩, B33⟩, ⟨pgR, hdR, poR, saR⟩⟩
  have L_Room_make_room : MtC l.prog w K mg base R "make_room" 7 ["self"] (spMRoom R B C) := ⟨⟨_, _, ok_mroom (P := l.prog) (w := w) (base := base) F34 T_TxR L_Room_is_waiting L_Room_write_group, ⟨a34, i34, k34⟩, B34⟩, ⟨pgR, hdR, poR, saR⟩⟩
  have L_Room_page : MtC l.prog w K mg base R "page" 8 ["self", "number"] (spPageR R B C) := ⟨⟨_, _, ok_pageR (P := l.prog) (w := w) (base := base) F35 T_TxR L_Room_found L_Batches_page L_Room_make_room, ⟨a35, i35, k35⟩, B35⟩, ⟨pgR, hdR, poR, saR⟩⟩
  have L_Room_write : MtC l.prog w K mg base R "write" 8 ["self", "rows"] (spWriteR R B C) := ⟨⟨_, _, ok_writeR (P := l.prog) (w := w) (base := base) F36 T_TxR L_Room_found L_Room_make_room, ⟨a36, i36, k36⟩, B36⟩, ⟨pgR, hdR, poR, saR⟩⟩
  have L_Room_flush : MtC l.prog w K mg base R "flush" 7 ["self"] (spFlushR R B C) := ⟨⟨_, _, ok_flushR (P := l.prog) (w := w) (base := base) F37 T_TxR ⟨⟨pgB, hdB, poB, saB⟩, nB_disk⟩ ⟨⟨pgC, hdC, poC, saC⟩, nC_is_cut⟩ L_Room_write_group, ⟨a37, i37, k37⟩, B37⟩, ⟨pgR, hdR, poR, saR⟩⟩
  exact ok_law F38 T_Txt ⟨⟨pgB, hdB, poB, saB⟩, nB_many⟩ ⟨⟨pgR, hdR, poR, saR⟩, nR_reads⟩ L__law_state L__law_take L__law_use L__law_make_room L__law_pages L__law_begun L_c_Disk L_Disk_cut_in L_Disk_synced L_c_Batches L_Batches_page L_Room_page L_Room_write L_Room_flush
theorem walk {l : PySem.W.OpenLaw} {q : Program} {loose : List Str} {XP : (Str → Option Value) → Heap → Prop} {YP : World → Heap → Prop} {d : DefRec} {K : Params → PySem.W.Frag} (hn : l.most = some 63) (hdf : d.params.defaults = [])
    (hY : ∀ (w : World) (h : Heap), YP w h → (K w.params).In h)
    (F : ∀ (w : World) (mg : Str → Option Value) (fa : Addr) (h : Heap), (K w.params).In h → h.Ns mainGlobals mg → mg d.name = some (.ref fa) →
      ∃ fd : FuncData, (∀ (s : Shared) (u : Value), BindsTo s fd ⟨[u], []⟩ [("script", u)]) ∧ ∀ base : Heap, (K w.params).In base → base.Ns mainGlobals mg → FnOk l.prog w (K w.params) mg base CX0 10 fa fd ["script"] (spLaw (K w.params))) :
    PySem.W.WalkO q loose XP YP l.row.toRowW d [] (fun f vs => PySem.call f vs) :=
  L2.walk_of (n := 63) (k := 10) (x := "script") (CX := fun _ => CX0) (sp := fun w => spLaw (K w.params)) hn (by decide) hdf ⟨rfl, by decide, by decide⟩ hY F (fun _ _ a ns hl _ hS => ⟨a, ns, rfl, hS, fun _ => rfl⟩) fun _ _ _ _ _ z => z
end K51
open PySem PySem.W PyProof.Rows
set_option maxRecDepth 100000 in
set_option maxHeartbeats 0 in
theorem PySem.Challenge.cw_stonestairs_k68_whole_pages_in_memory_holds : PySem.Challenge.rw_stonestairs_k68_whole_pages_in_memory.Holds := by
  w_on; o_law; k_headL; (case hw => w_witness2)
  k_fill
  refine K51.walk (l := PySem.Challenge.rw_stonestairs_k68_whole_pages_in_memory) rfl rfl (fun w h Y => PySem.W.kIn_of Y) ?F
  case F =>
    intro w mg fa h KX G hmg
    refine' K51.all_mk KX G hmg ?aCC ?aCB ?aCR ?a1 ?l1 ?c1 ?k1 ?a2 ?l2 ?c2 ?k2 ?a3 ?l3 ?c3 ?k3 ?a4 ?l4 ?c4 ?k4 ?a5 ?l5 ?c5 ?k5 ?a6 ?l6 ?c6 ?k6 ?a7 ?i7 ?l7 ?c7 ?k7 ?a8 ?i8 ?l8 ?c8 ?k8 ?a9 ?l9 ?c9 ?k9 ?a10 ?l10 ?c10 ?k10 ?a11 ?l11 ?c11 ?k11 ?a12 ?l12 ?c12 ?k12 ?a13 ?i13 ?l13 ?c13 ?k13 ?a14 ?i14 ?l14 ?c14 ?k14 ?a15 ?i15 ?l15 ?c15 ?k15 ?d15 ?a16 ?i16 ?l16 ?c16 ?k16 ?a17 ?l17 ?c17 ?k17 ?a18 ?i18 ?l18 ?c18 ?k18 ?a19 ?i19 ?l19 ?c19 ?k19 ?a20 ?i20 ?l20 ?c20 ?k20 ?a21 ?l21 ?c21 ?k21 ?a22 ?i22 ?l22 ?c22 ?k22 ?a23 ?i23 ?l23 ?c23 ?k23 ?a24 ?i24 ?l24 ?c24 ?k24 ?a25 ?l25 ?c25 ?k25 ?a26 ?l26 ?c26 ?k26 ?a27 ?l27 ?c27 ?k27 ?a28 ?i28 ?l28 ?c28 ?k28 ?a29 ?i29 ?l29 ?c29 ?k29 ?a30 ?i30 ?l30 ?c30 ?k30 ?a31 ?i31 ?l31 ?c31 ?k31 ?a32 ?i32 ?l32 ?c32 ?k32 ?a33 ?i33 ?l33 ?c33 ?k33 ?a34 ?i34 ?l34 ?c34 ?k34 ?a35 ?i35 ?l35 ?c35 ?k35 ?a36 ?i36 ?l36 ?c36 ?k36 ?a37 ?i37 ?l37 ?c37 ?k37 ?a38 ?l38 ?c38 ?k38 ?pgC ?hdC ?poC ?saC ?mkC ?kcC ?nC_is_cut ?nC_sectors ?nC_waiting ?nC_left ?nC_rows ?pgB ?hdB ?poB ?saB ?mkB ?kcB ?nB_disk ?nB_many ?nB_bend ?nB_place ?nB_epoch ?nB_pages ?nB_end ?pgR ?hdR ?poR ?saR ?mkR ?kcR ?nR_reads ?nR_batches ?nR_most ?nR_memory ?nR_waits ?z_SECTOR ?z_PAGE ?z_ROOM ?z_ROW ?z_HEAD ?b_list ?b_len ?b_min ?b_max ?b_sorted ?b_set ?b_zip ?b_range ?b_abs ?b_int ?b_dict ?b_enumerate ?b_any
    (case aCC => k_is)
    (case aCB => k_is)
    (case aCR => k_is)
    (case a1 => k_is)
    (case l1 => k_is)
    (case c1 => k_is)
    (case k1 => k_is)
    (case a2 => k_is)
    (case l2 => k_is)
    (case c2 => k_is)
    (case k2 => k_is)
    (case a3 => k_is)
    (case l3 => k_is)
    (case c3 => k_is)
    (case k3 => k_is)
    (case a4 => k_is)
    (case l4 => k_is)
    (case c4 => k_is)
    (case k4 => k_is)
    (case a5 => k_is)
    (case l5 => k_is)
    (case c5 => k_is)
    (case k5 => k_is)
    (case a6 => k_is)
    (case l6 => k_is)
    (case c6 => k_is)
    (case k6 => k_is)
    (case a7 => k_is)
    (case i7 => k_is)
    (case l7 => k_is)
    (case c7 => k_is)
    (case k7 => k_is)
    (case a8 => k_is)
    (case i8 => k_is)
    (case l8 => k_is)
    (case c8 => k_is)
    (case k8 => k_is)
    (case a9 => k_is)
    (case l9 => k_is)
    (case c9 => k_is)
    (case k9 => k_is)
    (case a10 => k_is)
    (case l10 => k_is)
    (case c10 => k_is)
    (case k10 => k_is)
    (case a11 => k_is)
    (case l11 => k_is)
    (case c11 => k_is)
    (case k11 => k_is)
    (case a12 => k_is)
    (case l12 => k_is)
    (case c12 => k_is)
    (case k12 => k_is)
    (case a13 => k_is)
    (case i13 => k_is)
    (case l13 => k_is)
    (case c13 => k_is)
    (case k13 => k_is)
    (case a14 => k_is)
    (case i14 => k_is)
    (case l14 => k_is)
    (case c14 => k_is)
    (case k14 => k_is)
    (case a15 => k_is)
    (case i15 => k_is)
    (case l15 => k_is)
    (case c15 => k_is)
    (case k15 => k_is)
    (case d15 => k_is)
    (case a16 => k_is)
    (case i16 => k_is)
    (case l16 => k_is)
    (case c16 => k_is)
    (case k16 => k_is)
    (case a17 => k_is)
    (case l17 => k_is)
    (case c17 => k_is)
    (case k17 => k_is)
    (case a18 => k_is)
    (case i18 => k_is)
    (case l18 => k_is)
    (case c18 => k_is)
    (case k18 => k_is)
    (case a19 => k_is)
    (case i19 => k_is)
    (case l19 => k_is)
    (case c19 => k_is)
    (case k19 => k_is)
    (case a20 => k_is)
    (case i20 => k_is)
    (case l20 => k_is)
    (case c20 => k_is)
    (case k20 => k_is)
    (case a21 => k_is)
    (case l21 => k_is)
    (case c21 => k_is)
    (case k21 => k_is)
    (case a22 => k_is)
    (case i22 => k_is)
    (case l22 => k_is)
    (case c22 => k_is)
    (case k22 => k_is)
    (case a23 => k_is)
    (case i23 => k_is)
    (case l23 => k_is)
    (case c23 => k_is)
    (case k23 => k_is)
    (case a24 => k_is)
    (case i24 => k_is)
    (case l24 => k_is)
    (case c24 => k_is)
    (case k24 => k_is)
    (case a25 => k_is)
    (case l25 => k_is)
    (case c25 => k_is)
    (case k25 => k_is)
    (case a26 => k_is)
    (case l26 => k_is)
    (case c26 => k_is)
    (case k26 => k_is)
    (case a27 => k_is)
    (case l27 => k_is)
    (case c27 => k_is)
    (case k27 => k_is)
    (case a28 => k_is)
    (case i28 => k_is)
    (case l28 => k_is)
    (case c28 => k_is)
    (case k28 => k_is)
    (case a29 => k_is)
    (case i29 => k_is)
    (case l29 => k_is)
    (case c29 => k_is)
    (case k29 => k_is)
    (case a30 => k_is)
    (case i30 => k_is)
    (case l30 => k_is)
    (case c30 => k_is)
    (case k30 => k_is)
    (case a31 => k_is)
    (case i31 => k_is)
    (case l31 => k_is)
    (case c31 => k_is)
    (case k31 => k_is)
    (case a32 => k_is)
    (case i32 => k_is)
    (case l32 => k_is)
    (case c32 => k_is)
    (case k32 => k_is)
    (case a33 => k_is)
    (case i33 => k_is)
    (case l33 => k_is)
    (case c33 => k_is)
    (case k33 => k_is)
    (case a34 => k_is)
    (case i34 => k_is)
    (case l34 => k_is)
    (case c34 => k_is)
    (case k34 => k_is)
    (case a35 => k_is)
    (case i35 => k_is)
    (case l35 => k_is)
    (case c35 => k_is)
    (case k35 => k_is)
    (case a36 => k_is)
    (case i36 => k_is)
    (case l36 => k_is)
    (case c36 => k_is)
    (case k36 => k_is)
    (case a37 => k_is)
    (case i37 => k_is)
    (case l37 => k_is)
    (case c37 => k_is)
    (case k37 => k_is)
    (case a38 => k_is)
    (case l38 => k_is)
    (case c38 => k_is)
    (case k38 => k_is)
    (case pgC => k_is)
    (case hdC => k_is)
    (case poC => k_is)
    (case saC => k_is)
    (case mkC => k_is)
    (case kcC => k_is)
    (case nC_is_cut => k_is)
    (case nC_sectors => k_is)
    (case nC_waiting => k_is)
    (case nC_left => k_is)
    (case nC_rows => k_is)
    (case pgB => k_is)
    (case hdB => k_is)
    (case poB => k_is)
    (case saB => k_is)
    (case mkB => k_is)
    (case kcB => k_is)
    (case nB_disk => k_is)
    (case nB_many => k_is)
    (case nB_bend => k_is)
    (case nB_place => k_is)
    (case nB_epoch => k_is)
    (case nB_pages => k_is)
    (case nB_end => k_is)
    (case pgR => k_is)
    (case hdR => k_is)
    (case poR => k_is)
    (case saR => k_is)
    (case mkR => k_is)
    (case kcR => k_is)
    (case nR_reads => k_is)
    (case nR_batches => k_is)
    (case nR_most => k_is)
    (case nR_memory => k_is)
    (case nR_waits => k_is)
    (case z_SECTOR => k_is)
    (case z_PAGE => k_is)
    (case z_ROOM => k_is)
    (case z_ROW => k_is)
    (case z_HEAD => k_is)
    (case b_list => k_is)
    (case b_len => k_is)
    (case b_min => k_is)
    (case b_max => k_is)
    (case b_sorted => k_is)
    (case b_set => k_is)
    (case b_zip => k_is)
    (case b_range => k_is)
    (case b_abs => k_is)
    (case b_int => k_is)
    (case b_dict => k_is)
    (case b_enumerate => k_is)
    (case b_any => k_is)
#print axioms PySem.Challenge.cw_stonestairs_k68_whole_pages_in_memory_holds

