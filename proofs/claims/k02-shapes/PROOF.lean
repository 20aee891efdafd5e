import PyProof.Rows.All
import Wide.All
import OpenK.AllK
import Wide.FinOn
import HandS.ForMost
import HandS.SortInts
import HandS.Strs
import HandS.SetFor
import HandS.DictComp
import HandS.More
import HandS.Wide
import HandS.Flow
import HandS.Conv
import HandS.Codes
import HandS.Defaults
import KE.DataFind
import PyProof.AssignAttr
import PyProof.ReprRoads
import KE.DatumOrd
import HandS.DictTup
import KE.KSortKey
import HandS.SortKw
import KE.KeyNested
import KE.KDictPairs
import KE.KDictCopyH
import HandS.Small
import HandS.Deep
import HandS.IsInst
import HandS.TupAny
import HandS.Style
import KE.DataCmp
import KE.DataIsa
import HandS.TupLen
import KE.SortData
import PySem.Challenge.RW_stonestairs_k02_shapes_of_tables
import PyProof.ReprBulk
import PyProof.Rows.RegStrFacts
import KE.OsRunLaw
set_option maxHeartbeats 4000000
set_option Elab.async false
set_option linter.all false
set_option maxRecDepth 100000
/-! YBase: data over a heap that only grows (G), owned objects beside it (H), callees in one word, readings in short. -/
namespace Y
open PySem PySem.Spec PyProof.Rows L2

/-! ### pairs of lists -/
section
variable {α β γ : Type} {F : α → β → Prop}
theorem pd_len {xs : List α} {ys : List β} (h : Paired F xs ys) : xs.length = ys.length := Paired.length h
theorem pd_get : ∀ {xs : List α} {ys : List β}, Paired F xs ys → ∀ {i : Nat} {x : α}, xs[i]? = some x → ∃ y, ys[i]? = some y ∧ F x y
  | _, _, .nil, i, x, e => by simp at e
  | _, _, .cons r _, 0, x, e => by simp at e; subst e; exact ⟨_, rfl, r⟩
  | _, _, .cons _ t, i + 1, x, e => by
    have ⟨y, h1, h2⟩ := pd_get t (i := i) (x := x) (by simpa using e)
    exact ⟨y, by simpa using h1, h2⟩
theorem pd_get' : ∀ {xs : List α} {ys : List β}, Paired F xs ys → ∀ {i : Nat} {y : β}, ys[i]? = some y → ∃ x, xs[i]? = some x ∧ F x y
  | _, _, .nil, i, x, e => by simp at e
  | _, _, .cons r _, 0, x, e => by simp at e; subst e; exact ⟨_, rfl, r⟩
  | _, _, .cons _ t, i + 1, x, e => by
    have ⟨y, h1, h2⟩ := pd_get' t (i := i) (y := x) (by simpa using e)
    exact ⟨y, by simpa using h1, h2⟩
theorem pd_mono {F' : α → β → Prop} (h : ∀ a b, F a b → F' a b) : ∀ {xs : List α} {ys : List β}, Paired F xs ys → Paired F' xs ys
  | _, _, .nil => .nil
  | _, _, .cons r t => .cons (h _ _ r) (pd_mono h t)
theorem pd_app : ∀ {xs : List α} {ys : List β} {us : List α} {ws : List β}, Paired F xs ys → Paired F us ws → Paired F (xs ++ us) (ys ++ ws)
  | _, _, _, _, .nil, s => s
  | _, _, _, _, .cons r t, s => .cons r (pd_app t s)
theorem pd_snoc {xs : List α} {ys : List β} {u : α} {w : β} (h : Paired F xs ys) (k : F u w) : Paired F (xs ++ [u]) (ys ++ [w]) := pd_app h (.cons k .nil)
theorem pd_take (n : Nat) : ∀ {xs : List α} {ys : List β}, Paired F xs ys → Paired F (xs.take n) (ys.take n) := by
  induction n with
  | zero => intro xs ys _; exact .nil
  | succ n ih =>
    intro xs ys h
    cases h with
    | nil => exact .nil
    | cons r t => exact .cons r (ih t)
theorem pd_drop (n : Nat) : ∀ {xs : List α} {ys : List β}, Paired F xs ys → Paired F (xs.drop n) (ys.drop n) := by
  induction n with
  | zero => intro xs ys h; exact h
  | succ n ih =>
    intro xs ys h
    cases h with
    | nil => exact .nil
    | cons r t => exact ih t
theorem pd_map (f : γ → α) (g : γ → β) (h : ∀ c, F (f c) (g c)) : ∀ l : List γ, Paired F (l.map f) (l.map g)
  | [] => .nil
  | c :: l => .cons (h c) (pd_map f g h l)
end

/-! ### data: what a value stands for, over a heap that only grows -/
abbrev Rp (α : Type) := Hp → V → α → Prop
/-- what is so stays so -/
def Mn {α : Type} (r : Rp α) : Prop := ∀ (G G' : Hp) (v : V) (x : α), Same G G' → r G v x → r G' v x
def rI : Rp Int := fun _ v x => v = .int x
def rT : Rp Str := fun _ v x => v = .str x
def rB : Rp Bool := fun _ v x => v = .bl x
def rP {α β : Type} (r : Rp α) (s : Rp β) : Rp (α × β) := fun G v x => ∃ a u w, v = .ref a ∧ G a = some (.tup [u, w]) ∧ r G u x.1 ∧ s G w x.2
def rL {α : Type} (r : Rp α) : Rp (List α) := fun G v xs => ∃ a vs, v = .ref a ∧ G a = some (.lst vs) ∧ Paired (r G) vs xs
def rO {α : Type} (r : Rp α) : Rp (Option α) := fun G v x => match x with
  | none => v = .non
  | some y => r G v y
theorem mI : Mn rI := fun _ _ _ _ _ h => h
theorem mT : Mn rT := fun _ _ _ _ _ h => h
theorem mB : Mn rB := fun _ _ _ _ _ h => h
theorem Mn.p {α β : Type} {r : Rp α} {s : Rp β} (hr : Mn r) (hs : Mn s) : Mn (rP r s) := fun _ _ _ _ e ⟨a, u, w, e1, e2, h1, h2⟩ => ⟨a, u, w, e1, e _ _ e2, hr _ _ _ _ e h1, hs _ _ _ _ e h2⟩
theorem Mn.l {α : Type} {r : Rp α} (hr : Mn r) : Mn (rL r) := fun _ _ _ _ e ⟨a, vs, e1, e2, h⟩ => ⟨a, vs, e1, e _ _ e2, pd_mono (fun _ _ q => hr _ _ _ _ e q) h⟩
theorem Mn.o {α : Type} {r : Rp α} (hr : Mn r) : Mn (rO r) := fun _ _ _ x e h => match x, h with
  | none, h => h
  | some _, h => hr _ _ _ _ e h
theorem Mn.ps {α : Type} {r : Rp α} (hr : Mn r) {G G' : Hp} {vs : List V} {xs : List α} (e : Same G G') (h : Paired (r G) vs xs) : Paired (r G') vs xs := pd_mono (fun _ _ q => hr _ _ _ _ e q) h
theorem rI_map {vs : List V} {xs : List Int} {G : Hp} : Paired (rI G) vs xs → vs = xs.map V.int
  | .nil => rfl
  | .cons r t => by rw [List.map_cons, ← rI_map t]; exact congrArg (· :: _) r
theorem rI_of (G : Hp) : ∀ xs : List Int, Paired (rI G) (xs.map V.int) xs
  | [] => .nil
  | x :: xs => .cons rfl (rI_of G xs)
theorem rLI {G : Hp} {v : V} {xs : List Int} (h : rL rI G v xs) : ∃ a, v = .ref a ∧ G a = some (.lst (xs.map V.int)) := by
  obtain ⟨a, vs, e, h, p⟩ := h
  rw [rI_map p] at h
  exact ⟨a, e, h⟩
theorem rLI_of {G : Hp} {a : Addr} {xs : List Int} (h : G a = some (.lst (xs.map V.int))) : rL rI G (.ref a) xs := ⟨a, _, rfl, h, rI_of G xs⟩

/-! ### data as the library's trees, for == -/
structure En {α : Type} (r : Rp α) (enc : α → PyData) (ok : α → Prop) (n : Nat) : Prop where
  dp : ∀ {K : PySem.W.Frag} {G H : Hp} {v : V} {x : α}, Same G H → r G v x → Dp K H v (enc x)
  lay : ∀ x, ok x → (enc x).canLay0 = true
  dep : ∀ x, (enc x).depth ≤ n
theorem En.shaped {α : Type} {r : Rp α} {enc : α → PyData} {ok : α → Prop} {n : Nat} (e : En r enc ok n) (hn : n ≤ 64) {x : α} (h : ok x) : SeqAt.shaped (enc x) = true := by
  unfold SeqAt.shaped
  rw [e.lay x h, decide_eq_true (Nat.le_trans (e.dep x) hn)]
  rfl
theorem En.refl {α : Type} {r : Rp α} {enc : α → PyData} {ok : α → Prop} {n : Nat} (e : En r enc ok n) {x : α} (h : ok x) : PyData.eqv (enc x) (enc x) = true := SeqAt.eqv_refl _ (e.lay x h)
theorem eI : En rI PyData.int (fun _ => True) 0 := ⟨fun _ h => by cases h; exact .int _, fun _ _ => rfl, fun _ => Nat.le_refl _⟩
theorem eT : En rT PyData.str (fun x => PyData.strOk x = true) 0 := ⟨fun _ h => by cases h; exact .str _, fun _ h => h, fun _ => Nat.le_refl _⟩
theorem dpAll_of {α : Type} {r : Rp α} {enc : α → PyData} {ok : α → Prop} {n : Nat} (e : En r enc ok n) {K : PySem.W.Frag} {G H : Hp} (s : Same G H) : ∀ {vs : List V} {xs : List α}, Paired (r G) vs xs → DpAll K H vs (xs.map enc)
  | _, _, .nil => .nil
  | _, _, .cons h t => .cons (e.dp s h) (dpAll_of e s t)
theorem layAll_of {α : Type} {enc : α → PyData} {ok : α → Prop} (h : ∀ x, ok x → (enc x).canLay0 = true) : ∀ xs : List α, (∀ x ∈ xs, ok x) → PyData.canLayAll0 (xs.map enc) = true
  | [], _ => rfl
  | x :: xs, q => by
    rw [List.map_cons, PyData.canLayAll0, h x (q x List.mem_cons_self), layAll_of h xs fun y hy => q y (List.mem_cons_of_mem _ hy)]
    rfl
theorem depAll_of {α : Type} {enc : α → PyData} {n : Nat} (h : ∀ x, (enc x).depth ≤ n) : ∀ xs : List α, PyData.depthAll (xs.map enc) ≤ n
  | [] => Nat.zero_le _
  | x :: xs => by
    rw [List.map_cons, PyData.depthAll]
    exact Nat.max_le.mpr ⟨h x, depAll_of h xs⟩
theorem En.l {α : Type} {r : Rp α} {enc : α → PyData} {ok : α → Prop} {n : Nat} (e : En r enc ok n) : En (rL r) (fun xs => .list (xs.map enc)) (fun xs => ∀ x ∈ xs, ok x) (n + 1) :=
  ⟨fun s ⟨a, vs, e1, h, p⟩ => by subst e1; exact .lst (SqL.of (s _ _ h)) (dpAll_of e s p), fun xs h => by rw [PyData.canLay0]; exact layAll_of e.lay xs h, fun xs => by
    rw [PyData.depth]
    exact Nat.succ_le_succ (depAll_of e.dep xs)⟩
theorem En.p {α β : Type} {r : Rp α} {s : Rp β} {f : α → PyData} {g : β → PyData} {ok : α → Prop} {ok' : β → Prop} {n m : Nat} (e : En r f ok n) (e' : En s g ok' m) :
    En (rP r s) (fun x => .tuple [f x.1, g x.2]) (fun x => ok x.1 ∧ ok' x.2) (max n m + 1) :=
  ⟨fun q ⟨a, u, w, e1, h, h1, h2⟩ => by subst e1; exact .tup (SqT.of (q _ _ h)) (.cons (e.dp q h1) (.cons (e'.dp q h2) .nil)), fun x h => by
    simp only [PyData.canLay0, PyData.canLayAll0, e.lay _ h.1, e'.lay _ h.2, Bool.and_true], fun x => by
    have h1 := e.dep x.1
    have h2 := e'.dep x.2
    simp only [PyData.depth, PyData.depthAll]
    omega⟩

theorem eqvAll_ints : ∀ (xs ys : List Int), PyData.eqvAll (xs.map PyData.int) (ys.map PyData.int) = decide (xs = ys)
  | [], [] => rfl
  | [], _ :: _ => rfl
  | _ :: _, [] => rfl
  | x :: xs, y :: ys => by
    rw [List.map_cons, List.map_cons, PyData.eqvAll, eqvAll_ints xs ys, PyData.eqv]
    by_cases h : x = y
    · subst h
      by_cases h2 : xs = ys <;> simp [h2]
    · simp [h]
theorem eqv_ints (xs ys : List Int) : PyData.eqv (.list (xs.map PyData.int)) (.list (ys.map PyData.int)) = decide (xs = ys) := by
  rw [PyData.eqv]
  exact eqvAll_ints xs ys
theorem dp_ints {K : PySem.W.Frag} {H : Hp} {a : Addr} {xs : List Int} (h : H a = some (.lst (xs.map V.int))) : Dp K H (.ref a) (.list (xs.map PyData.int)) := eI.l.dp (Same.refl H) (rLI_of h)
theorem shaped_ints (xs : List Int) : SeqAt.shaped (.list (xs.map PyData.int)) = true := eI.l.shaped (by decide) fun _ _ => trivial

/-! ### a step of the world: G the data (it only grows), H all that is tracked; O what may be written -/
structure Stp (O : Addr → Prop) (G H G' H' : Hp) : Prop where
  gg : Same G G'
  gh : Same G' H'
  kp : ∀ b o, H b = some o → ¬ O b → H' b = some o
  nw : ∀ b, H b ≠ none → G b = none → G' b = none
  al : ∀ b, H b ≠ none → H' b ≠ none
section
variable {O : Addr → Prop} {G H G' H' G1 H1 : Hp} {p a : Addr} {o o' : HO}
theorem ne_none {H : Hp} {b : Addr} {o : HO} (h : H b = some o) : H b ≠ none := by rw [h]; exact fun e => nomatch e
theorem fresh_ne {H : Hp} {b c : Addr} (h : H b ≠ none) (n : H c = none) : b ≠ c := fun e => h (by rw [e]; exact n)
theorem Stp.refl (h : Same G H) : Stp O G H G H := ⟨Same.refl _, h, fun _ _ e _ => e, fun _ _ e => e, fun _ e => e⟩
theorem Stp.fr (s : Stp O G H G' H') {b : Addr} (n : H' b = none) : H b = none := by
  cases e : H b with
  | none => rfl
  | some o => exact absurd n (s.al b (ne_none e))
theorem Stp.own (s : Stp O G H G' H') (n : H' p = none) : Stp O G H G' (upd H' p o) :=
  ⟨s.gg, fun b u e => by rw [upd_ne (fresh_ne (ne_none (s.gh b u e)) n)]; exact s.gh b u e, fun b u e q => by rw [upd_ne (fresh_ne (s.al b (ne_none e)) n)]; exact s.kp b u e q, s.nw, fun b e => by rw [upd_ne (fresh_ne (s.al b e) n)]; exact s.al b e⟩
theorem Stp.data (s : Stp O G H G' H') (n : H' p = none) : Stp O G H (upd G' p o) (upd H' p o) := by
  have gn : G' p = none := by
    cases e : G' p with
    | none => rfl
    | some u => rw [s.gh p u e] at n; cases n
  refine ⟨fun b u e => ?_, fun b u e => ?_, (s.own n).kp, fun b e q => ?_, (s.own n).al⟩
  · have h := s.gg b u e
    rw [upd_ne (fresh_ne (ne_none h) gn)]
    exact h
  · by_cases hb : b = p
    · subst hb
      rw [upd_same] at e ⊢
      exact e
    · rw [upd_ne hb] at e ⊢
      exact s.gh b u e
  · rw [upd_ne (fresh_ne (s.al b e) n)]
    exact s.nw b e q
/-- an object of one's own is written -/
theorem Stp.wr (s : Stp O G H G' H') (hp : H' p = some o') (g : G' p = none) (m : O p ∨ H p = none) : Stp O G H G' (upd H' p o) := by
  refine ⟨s.gg, fun b u e => ?_, fun b u e q => ?_, s.nw, fun b e => ?_⟩
  · rw [upd_ne (fresh_ne (ne_none e) g)]
    exact s.gh b u e
  · have hb : b ≠ p := fun z => by
      subst z
      rcases m with m | m
      · exact q m
      · rw [m] at e; cases e
    rw [upd_ne hb]
    exact s.kp b u e q
  · by_cases hb : b = p
    · subst hb
      rw [upd_same]
      exact fun z => nomatch z
    · rw [upd_ne hb]
      exact s.al b e
/-- an object of one's own, new since the begin, becomes data -/
theorem Stp.pub (s : Stp O G H G' H') (hp : H' p = some o) (g : G' p = none) (n : H p = none) : Stp O G H (upd G' p o) H' := by
  refine ⟨fun b u e => ?_, fun b u e => ?_, s.kp, fun b e q => ?_, s.al⟩
  · have h := s.gg b u e
    rw [upd_ne (fresh_ne (ne_none h) g)]
    exact h
  · by_cases hb : b = p
    · subst hb
      rw [upd_same] at e
      rw [← e]
      exact hp
    · rw [upd_ne hb] at e
      exact s.gh b u e
  · rw [upd_ne (fresh_ne e n)]
    exact s.nw b e q
theorem Stp.trans {O' : Addr → Prop} (s : Stp O G H G' H') (t : Stp O' G' H' G1 H1) (m : ∀ b, O' b → O b ∨ H b = none) : Stp O G H G1 H1 :=
  ⟨s.gg.trans t.gg, t.gh, fun b u e q => t.kp b u (s.kp b u e q) fun z => (m b z).elim q fun y => (by rw [y] at e; cases e), fun b e q => t.nw b (s.al b e) (s.nw b e q), fun b e => t.al b (s.al b e)⟩
theorem Stp.mono {O' : Addr → Prop} (s : Stp O G H G' H') (m : ∀ b, O b → O' b) : Stp O' G H G' H' := ⟨s.gg, s.gh, fun b u e q => s.kp b u e fun z => q (m b z), s.nw, s.al⟩
/-- what is not data and new stays no data -/
theorem gn_of (h : Same G H) (n : H p = none) : G p = none := by
  cases e : G p with
  | none => rfl
  | some u => rw [h p u e] at n; cases n
end
/-! ### the same, a heap named by its equation -/
section
variable {O : Addr → Prop} {G H G0 H0 H1 : Hp} {p : Addr} {o o' : HO}
theorem own_of (s : Stp O G0 H0 G H) (n : H p = none) (e : upd H p o = H1) : Stp O G0 H0 G H1 ∧ H1 p = some o ∧ Same H H1 ∧ G p = none ∧ H0 p = none := by
  subst e
  exact ⟨s.own n, upd_same, fun b u q => by rw [upd_ne (fresh_ne (ne_none q) n)]; exact q, gn_of s.gh n, s.fr n⟩
theorem wr_of (s : Stp O G0 H0 G H) (hp : H p = some o') (g : G p = none) (m : O p ∨ H0 p = none) (e : upd H p o = H1) : Stp O G0 H0 G H1 ∧ H1 p = some o ∧ ∀ b u, b ≠ p → H b = some u → H1 b = some u := by
  subst e
  exact ⟨s.wr hp g m, upd_same, fun b u hb q => by rw [upd_ne hb]; exact q⟩
theorem data_of (s : Stp O G0 H0 G H) (n : H p = none) (e : upd H p o = H1) : ∃ G1, Stp O G0 H0 G1 H1 ∧ G1 p = some o ∧ Same G G1 ∧ Same H H1 ∧ (∀ b, b ≠ p → G1 b = G b) := by
  subst e
  refine ⟨_, s.data n, upd_same, fun b u q => ?_, fun b u q => by rw [upd_ne (fresh_ne (ne_none q) n)]; exact q, fun b hb => upd_ne hb⟩
  rw [upd_ne (fresh_ne (ne_none (s.gh b u q)) n)]
  exact q
theorem pub_of (s : Stp O G0 H0 G H) (hp : H p = some o) (g : G p = none) (n : H0 p = none) : ∃ G1, Stp O G0 H0 G1 H ∧ G1 p = some o ∧ Same G G1 ∧ (∀ b, b ≠ p → G1 b = G b) :=
  ⟨_, s.pub hp g n, upd_same, fun b u q => by rw [upd_ne (fresh_ne (ne_none q) g)]; exact q, fun b hb => upd_ne hb⟩
end
abbrev O0 : Addr → Prop := fun _ => False

/-! ### callees in one word -/
section
variable (P : Program) (w : World) (K : PySem.W.Frag) (mg : Str → Option Value) (base : Heap)
structure FnC (x : Str) (k : Nat) (ps : List Str) (sp : Sp) : Prop where
  ex : ∃ (f : Addr) (fd : FuncData), FnOk P w K mg base CX0 k f fd ps sp ∧ mg x = some (.ref f) ∧ PySem.W.keepIn K (.ref f) = true ∧ Binds K fd ps []
structure MtC (C : Addr) (m : Str) (k : Nat) (ps : List Str) (sp : Sp) : Prop where
  ex : ∃ (f : Addr) (fd : FuncData), FnOk P w K mg base CX0 k f fd ps sp ∧ Meth K C m f ∧ Binds K fd ps []
  cl : Cls K C
structure CsC (x : Str) (C : Addr) (k : Nat) (ps : List Str) (sp : Sp) : Prop where
  ex : ∃ (f : Addr) (fd : FuncData), FnOk P w K mg base CX0 k f fd ps sp ∧ Mk K C f ∧ Binds K fd ps []
  mg : mg x = some (.ref C)
end
section
variable {X : Cx} {k : Nat} {C : Addr} {ps : List Str} {sp : Sp} {x m : Str} {p pos apos : Pos} {e o : Expr} {es : List Expr} {ta : TE} {t : TA}
theorem pe_fnc (L : FnC X.prog X.w X.K X.mg X.base x k ps sp) (hr : Room k X.A) (hg : Gl X x) (ha : PA X (e :: es) t)
    (hdb : (x == ("__debug__" : Str)) = false := by decide) (he : starEach (e :: es) X.env = (false, eval e X.env) :: starEach es X.env := by rfl) (hpl : (backTo pos (starEach es X.env)).any (·.1) = false := by rfl) :
    PE X (.Call (.Name x p) (e :: es) [] pos) (tCall sp [] E0 t) := by
  obtain ⟨f, fd, F, h1, h2, h3⟩ := L.ex
  exact pe_call F hr hg h1 h2 h3 .nil pass0 ha hdb he hpl
theorem pe_fnc0 (L : FnC X.prog X.w X.K X.mg X.base x k ps sp) (hr : Room k X.A) (hg : Gl X x)
    (hdb : (x == ("__debug__" : Str)) = false := by decide) : PE X (.Call (.Name x p) [] [] pos) (tCall sp [] E0 tNil) := by
  obtain ⟨f, fd, F, h1, h2, h3⟩ := L.ex
  exact pe_call0 F hr hg h1 h2 h3 .nil pass0 hdb
theorem pe_mtc {pl : Sem Bool} (he : PE X o ta) (L : MtC X.prog X.w X.K X.mg X.base C m k ps sp) (hr : Room k X.A) (ha : PA X (e :: es) t)
    (hst : starEach (e :: es) X.env = (false, eval e X.env) :: starEach es X.env := by rfl) (hpl : (backTo pos (starEach es X.env)).any (·.1) = false := by rfl)
    (ht : eval (.Call (.Attribute o m apos) (e :: es) [] pos) X.env = (do
      let ov ← eval o X.env
      standAt apos.atName
      let (f, first) ← holding [ov] (getMethod ov m pl)
      callWith pos f first (backTo pos (starEach (e :: es) X.env)) (backToKw pos (keywordEach [] X.env))) := by rfl) :
    PE X (.Call (.Attribute o m apos) (e :: es) [] pos) (tMeth C m sp [] E0 ta t) := by
  obtain ⟨f, fd, F, h1, h3⟩ := L.ex
  exact pe_meth he L.cl h1 F hr h3 .nil pass0 ha hst hpl ht
theorem pe_mtc0 {pl : Sem Bool} (he : PE X o ta) (L : MtC X.prog X.w X.K X.mg X.base C m k ps sp) (hr : Room k X.A)
    (ht : eval (.Call (.Attribute o m apos) [] [] pos) X.env = (do
      let ov ← eval o X.env
      standAt apos.atName
      let (f, first) ← holding [ov] (getMethod ov m pl)
      callWith pos f first (backTo pos (starEach [] X.env)) (backToKw pos (keywordEach [] X.env))) := by rfl) :
    PE X (.Call (.Attribute o m apos) [] [] pos) (tMeth C m sp [] E0 ta tNil) := by
  obtain ⟨f, fd, F, h1, h3⟩ := L.ex
  exact pe_meth0 he L.cl h1 F hr h3 .nil pass0 ht
theorem pe_mkc (L : CsC X.prog X.w X.K X.mg X.base x C k ps sp) (hr : Room (k + 1) X.A) (hg : Gl X x) (ha : PA X (e :: es) t)
    (hdb : (x == ("__debug__" : Str)) = false := by decide) (he : starEach (e :: es) X.env = (false, eval e X.env) :: starEach es X.env := by rfl) (hpl : (backTo pos (starEach es X.env)).any (·.1) = false := by rfl) :
    PE X (.Call (.Name x p) (e :: es) [] pos) (tMake C sp [] E0 t) := by
  obtain ⟨f, fd, F, h1, h3⟩ := L.ex
  exact pe_make h1 F hr hg L.mg h3 .nil pass0 ha hdb he hpl
theorem pe_mkc0 (L : CsC X.prog X.w X.K X.mg X.base x C k ps sp) (hr : Room (k + 1) X.A) (hg : Gl X x)
    (hdb : (x == ("__debug__" : Str)) = false := by decide) : PE X (.Call (.Name x p) [] [] pos) (tMake C sp [] E0 tNil) := by
  obtain ⟨f, fd, F, h1, h3⟩ := L.ex
  exact pe_make0 h1 F hr hg L.mg h3 .nil pass0 hdb
end

/-! ### rules with the written part named (for the blocks of comprehensions) -/
section
variable {X : Cx} {K : PySem.W.Frag}
theorem ix_listK (h : X.K = K) : IxR X (rIxL K) := by subst h; exact ix_list
theorem ix_tupK (h : X.K = K) : IxR X (rIxT K) := by subst h; exact ix_tup
theorem sl_listK (h : X.K = K) : SlR X (rSlL K) := by subst h; exact sl_list
theorem sl_tupK (h : X.K = K) : SlR X (rSlT K) := by subst h; exact sl_tup
def rListOf (K : PySem.W.Frag) : List V → Hp → VK → Prop := fun xs H Q => ∃ p ys, xs = [.ref p] ∧ (SqL K H p ys ∨ SqT K H p ys) ∧ ∀ l, H l = none → Q (.ref l) (upd H l (.lst ys))
theorem call_list_ofK (h : X.K = K) : CallR X (.type "list") (rListOf K) := by subst h; exact call_list_of
def rTupleOf (K : PySem.W.Frag) : List V → Hp → VK → Prop := fun xs H Q => ∃ p ys, xs = [.ref p] ∧ ((SqL K H p ys ∧ ∀ l, H l = none → Q (.ref l) (upd H l (.tup ys))) ∨ (SqT K H p ys ∧ Q (.ref p) H))
theorem call_tuple_ofK (h : X.K = K) : CallR X (.type "tuple") (rTupleOf K) := by subst h; exact call_tuple_of
def rLenSeq (K : PySem.W.Frag) : List V → Hp → VK → Prop := fun xs H Q => ∃ p ys, xs = [.ref p] ∧ (SqL K H p ys ∨ SqT K H p ys) ∧ Q (.int ys.length) H
theorem call_len_seqK (h : X.K = K) : CallR X (.builtin "len") (rLenSeq K) := by subst h; exact call_len_seq
theorem op_eqDK (h : X.K = K) (hu : X.A.units + 64 < cLine) : OpR X (compareOp .Eq) (rEqD K) := by subst h; exact op_eqD hu
theorem op_neDK (h : X.K = K) (hu : X.A.units + 64 < cLine) : OpR X (compareOp .NotEq) (rNeD K) := by subst h; exact op_neD hu
theorem op_in_seqK (h : X.K = K) : OpR X (compareOp .In) (rIn K false) := by subst h; exact op_in_seq
theorem op_notIn_seqK (h : X.K = K) : OpR X (compareOp .NotIn) (rIn K true) := by subst h; exact op_notIn_seq
theorem op_catTK (h : X.K = K) : OpR X (binaryOp .Add) (rCatT K) := by subst h; exact op_catT
theorem cr_sumK (h : X.K = K) (hc : X.calm = true) : CallR X (.builtin "sum") (rSum K) := by subst h; exact cr_sum hc
theorem cr_maxK (h : X.K = K) (hc : X.calm = true) : CallR X (.builtin "max") (rMax K) := by subst h; exact cr_max hc
theorem cr_minK (h : X.K = K) (hc : X.calm = true) : CallR X (.builtin "min") (rMin K) := by subst h; exact cr_min hc
theorem cr_anyK (h : X.K = K) (hc : X.calm = true) : CallR X (.builtin "any") (rAny K) := by subst h; exact cr_any hc
theorem cr_allK (h : X.K = K) (hc : X.calm = true) : CallR X (.builtin "all") (rAll K) := by subst h; exact cr_all hc
theorem cr_sortedIK (h : X.K = K) : CallR X (.builtin "sorted") (rSortedI K) := by subst h; exact cr_sortedI
theorem cr_sortedSetK {w : World} (h : X.w = w) (hc : X.calm = true) : CallR X (.builtin "sorted") (rSortedSet w) := by subst h; exact cr_sortedSet hc
theorem mt_indexK (h : X.K = K) : MtR X "list.index" (rIndex K) := by subst h; exact mt_index
variable {o e : Expr} {es : List Expr} {to te : TE} {t : TA} {name f : Str} {apos cpos pos : Pos} {T id : String} {r : V → List V → Hp → VK → Prop} {tg : Expr}
theorem pe_fldK (h : X.K = K) (he : PE X e te) (hb : attributeBase e f X.env (eval e X.env) = eval e X.env) : PE X (.Attribute e f pos) (tFld K te f) := by subst h; exact pe_fld he hb
theorem pe_bm0K (h : X.K = K) (pa : PlainAttrs T) (slot : Slot T name id) (hty : typeOf (.builtin id) = pure (.type "method_descriptor")) (hm : MtR X id r) (ho : PE X o to)
    (hbase : attributeBase o name X.env (eval o X.env) = eval o X.env := by rfl) (hline : (apos.endLine == cpos.line) = true := by rfl) : PE X (.Call (.Attribute o name apos) [] [] cpos) (tBM0 K T r to) := by
  subst h
  exact pe_bm0 pa slot hty hm ho hbase hline
theorem pe_bmK (h : X.K = K) (pa : PlainAttrs T) (slot : Slot T name id) (hty : typeOf (.builtin id) = pure (.type "method_descriptor")) (hm : MtR X id r) (ho : PE X o to) (ha : PA X (e :: es) t)
    (hbase : attributeBase o name X.env (eval o X.env) = eval o X.env := by rfl)
    (hfew : ((backTo cpos (starEach (e :: es) X.env)).all (fun x => !x.1) && (backToKw cpos (keywordEach [] X.env)).all (fun x => x.1.isSome)
      && decide ((e :: es).length + ([] : List Keyword).length + (if ([] : List Keyword).isEmpty then 0 else 1) < 30)) = true := by rfl)
    (hline : (apos.endLine == cpos.line) = true := by rfl) (hs : starEach (e :: es) X.env = (false, eval e X.env) :: starEach es X.env := by rfl) (hplain : (backTo cpos (starEach es X.env)).any (·.1) = false := by rfl) :
    PE X (.Call (.Attribute o name apos) (e :: es) [] cpos) (tBM K T r to t) := by
  subst h
  exact pe_bm pa slot hty hm ho ha hbase hfew hline hs hplain
theorem pi_listK (h : X.K = K) (hl : PE X e te) : PI X tg e (iList K te) := by subst h; exact pi_list hl
theorem pi_tupK (h : X.K = K) (hl : PE X e te) : PI X tg e (iTup K te) := by subst h; exact pi_tup hl
theorem ps_fldK {value : Expr} {tv : TE} {pos' : Pos} (h : X.K = K) (ha : PE X o to) (hv : PE X value tv) (hs : swapsWith value (some (.Attribute o f pos')) pos.line X.env = pure false) : PS X (.Assign [.Attribute o f pos'] value pos) (sFld K to tv f) := by
  subst h
  exact ps_fld ha hv hs
theorem pt_truthK {a : Expr} {ta : TE} (h : X.K = K) (ha : PE X a ta) (he : ∀ whole, isTrue a X.env whole = (do let v ← whole; standAt a.pos; holding [v] (truthy v))) : PT X a (fun σ H Q => ta σ H fun x H1 => ∃ k, TruV K x H1 k ∧ Q k H1) := by
  subst h
  exact pt_truth ha he
end
section
variable {X : Cx} {pos : Pos}
/-- a tuple as a target, the written part named -/
theorem pg_tupK {K : PySem.W.Frag} {es : List Expr} {k : Nat} {t : TGs} {n : Nat} (hK : X.K = K) (hc : X.calm = true) (h : PGs X es t)
    (hn : (assignEach es X.env).length = n := by rfl) (hst : (assignEach es X.env).findIdx? (·.1) = none := by rfl) : PG X (.Tuple es k pos) (gTup K n t) := by
  subst hK
  exact pg_tup hc h hn hst
end
/-! ### an instance's attributes as a written list -/
theorem lk_hit {f : Str} {v : V} {r : List (Str × V)} : List.lookup f ((f, v) :: r) = some v := by simp [List.lookup]
theorem lk_miss {f g : Str} {v : V} {r : List (Str × V)} (h : (f == g) = false) : List.lookup f ((g, v) :: r) = List.lookup f r := by simp [List.lookup, h]
theorem pf_nil {f : Str} {v : V} : putF f v [] = [(f, v)] := rfl
theorem pf_hit {f : Str} {v u : V} {r : List (Str × V)} : putF f v ((f, u) :: r) = (f, v) :: r := by
  show (if f = f then _ else _) = _
  rw [if_pos rfl]
theorem pf_miss {f g : Str} {v u : V} {r : List (Str × V)} (h : (f == g) = false) : putF f v ((g, u) :: r) = (g, u) :: putF f v r := by
  show (if g = f then _ else _) = _
  rw [if_neg]
  intro e
  subst e
  simp at h

/-! ### readings in short -/
section
variable {K : PySem.W.Frag} {σ : L2.St} {H : Hp} {Q : VK} {v x : V} {i : Nat} {ta tb : TE} {t u : TS} {D : Ends}
theorem g_var (h : σ[i]? = some (some v)) (k : Q v H) : tVar i σ H Q := ⟨v, h, k⟩
theorem g_pair {a : Addr} {u w : V} {tu tw : TG} {Q : L2.St → Hp → Prop} (h : H a = some (.tup [u, w])) (k : tu u σ H fun σ' H' => tw w σ' H' Q) : gTup K 2 (gCons tu (gCons tw gNil)) (.ref a) σ H Q :=
  ⟨a, _, rfl, SqT.of h, rfl, u, _, rfl, by
    show tu u σ H fun σ' H' => ∃ v r, [w] = v :: r ∧ tw v σ' H' fun σ' H' => r = [] ∧ Q σ' H'
    have e : (fun σ' H' => tw w σ' H' Q) = (fun σ' H' => ∃ v r, [w] = v :: r ∧ tw v σ' H' fun σ' H' => r = [] ∧ Q σ' H') := by
      funext σ' H'
      apply propext
      constructor
      · intro q
        refine ⟨w, [], rfl, ?_⟩
        have e2 : (fun σ' H' => ([] : List V) = [] ∧ Q σ' H') = Q := by
          funext a b
          simp
        rw [e2]
        exact q
      · rintro ⟨v, r, e, q⟩
        injection e with e1 e2
        subst e1
        subst e2
        have e2 : (fun σ' H' => ([] : List V) = [] ∧ Q σ' H') = Q := by
          funext a b
          simp
        rw [e2] at q
        exact q
    rw [← e]
    exact k⟩
theorem g_yes {A B : Hp → Prop} (h : A H) : tYes σ H fun b H3 => if b = true then A H3 else B H3 := h
theorem if_int {i j : Int} {A B : Prop} (h1 : i = j → A) (h2 : i ≠ j → B) : if decide (V.int i = V.int j) = true then A else B := by
  by_cases e : i = j
  · rw [if_pos (decide_eq_true (by rw [e]))]
    exact h1 e
  · rw [if_neg (by rw [decide_eq_false (fun z => e (V.int.inj z))]; exact Bool.false_ne_true)]
    exact h2 e
theorem if_dec {c A B : Prop} [Decidable c] (h1 : c → A) (h2 : ¬ c → B) : if decide c = true then A else B := by
  by_cases e : c
  · rw [if_pos (decide_eq_true e)]
    exact h1 e
  · rw [if_neg (by rw [decide_eq_false e]; exact Bool.false_ne_true)]
    exact h2 e
theorem if_bool {b : Bool} {A B : Prop} (h1 : b = true → A) (h2 : b = false → B) : if b = true then A else B := by
  cases b
  · rw [if_neg Bool.false_ne_true]
    exact h2 rfl
  · rw [if_pos rfl]
    exact h1 rfl
theorem if_nbool {b : Bool} {A B : Prop} (h1 : b = false → A) (h2 : b = true → B) : if (!b) = true then A else B := by
  cases b
  · exact h1 rfl
  · exact h2 rfl
/-- a list at an address, its items data -/
def LstAt {α : Type} (r : Rp α) (G H : Hp) (a : Addr) (xs : List α) : Prop := ∃ vs, H a = some (.lst vs) ∧ Paired (r G) vs xs
/-- a loop over zip of two lists -/
theorem for_zipM {K : PySem.W.Frag} {a b : Addr} {xs ys : List V} {g : TG} {tb : TS} {D : Ends} {σ : L2.St} {H : Hp} (Pv : Nat → L2.St → Hp → Prop) (h0 : Pv 0 σ H) (hq : ∀ i σ H, Pv i σ H → SqL K H a xs ∧ SqL K H b ys)
    (hs : ∀ (i : Nat) (x y : V) (T : Addr) (σ : L2.St) (H : Hp), xs[i]? = some x → ys[i]? = some y → Pv i σ H → H T = none → g (.ref T) σ (upd H T (.tup [x, y])) fun σ2 H2 => tb { D with nx := Pv (i + 1), ct := Pv (i + 1), bk := D.nx } σ2 H2)
    (hd : ∀ σ H, Pv (min xs.length ys.length) σ H → D.nx σ H) :
    ∃ W : Nat → Nat → L2.St → Hp → Prop, (∃ m, W 0 m σ H) ∧ ∀ i m σ H, W i m σ H →
      ((Itz K a b).stop i H ∧ D.nx σ H) ∨ ((Itz K a b).go i H ∧ ∃ N : L2.St → Hp → Prop, (∀ σ' H', N σ' H' → ∃ m', m' < m ∧ W (i + 1) m' σ' H') ∧ ∀ v H', (Itz K a b).yld i H v H' → g v σ H' fun σ2 H2 => tb { D with nx := N, ct := N, bk := D.nx } σ2 H2) := by
  refine ⟨fun i m σ H => m = min xs.length ys.length - i ∧ i ≤ min xs.length ys.length ∧ Pv i σ H, ⟨_, rfl, Nat.zero_le _, h0⟩, ?_⟩
  rintro i m σ H ⟨rfl, hi, p⟩
  obtain ⟨qx, qy⟩ := hq i σ H p
  by_cases hlt : i < min xs.length ys.length
  · have l1 : i < xs.length := by omega
    have l2 : i < ys.length := by omega
    refine .inr ⟨⟨xs, ys, _, _, qx, qy, List.getElem?_eq_getElem l1, List.getElem?_eq_getElem l2⟩, Pv (i + 1), fun σ' H' p' => ⟨_, by omega, rfl, by omega, p'⟩, fun v H' y => ?_⟩
    obtain ⟨T, x', y', rfl, hT, rfl, f1, f2⟩ := y
    exact hs i x' y' T σ H (f1 xs qx) (f2 ys qy) p hT
  · have e : i = min xs.length ys.length := by omega
    subst e
    exact .inl ⟨⟨xs, ys, qx, qy, by omega⟩, hd σ H p⟩
/-- a dict comprehension over a list -/
theorem dc_list {K : PySem.W.Frag} {a : Addr} {xs : List V} {g : TG} {tt : TT} {tk tv : TE} {vs : List Nat} {σ : L2.St} {H1 : Hp} {D : Addr} {Qd : Hp → Prop} (Pv : Nat → Hp → Prop) (h0 : Pv 0 (upd H1 D (.dK []))) (hl : ∀ i H, i ≤ xs.length → Pv i H → SqL K H a xs)
    (hs : ∀ i x H, xs[i]? = some x → Pv i H → g x (wipe σ vs) H fun σ2 H2 => wipe σ2 vs = wipe σ vs ∧ tt σ2 H2 fun b H3 =>
      if b = true then tk σ2 H3 fun y H4 => tv σ2 H4 fun z H5 => ∃ kvs k, y = kV k ∧ H5 D = some (.dK kvs) ∧ kvs.length < sizeLine ∧ Pv (i + 1) (upd H5 D (.dK (putK kvs k z))) else Pv (i + 1) H3) (hd : ∀ H, Pv xs.length H → Qd H) :
    ∃ W : Nat → Nat → Hp → Prop, (∃ m, W 0 m (upd H1 D (.dK []))) ∧ ∀ i m H, W i m H →
      ((Itl K a).stop i H ∧ Qd H) ∨ ((Itl K a).go i H ∧ ∃ Nx : Hp → Prop, (∀ H', Nx H' → ∃ m', m' < m ∧ W (i + 1) m' H') ∧ ∀ x H', (Itl K a).yld i H x H' → g x (wipe σ vs) H' fun σ2 H2 => wipe σ2 vs = wipe σ vs ∧ tt σ2 H2 fun b H3 =>
        if b = true then tk σ2 H3 fun y H4 => tv σ2 H4 fun z H5 => ∃ kvs k, y = kV k ∧ H5 D = some (.dK kvs) ∧ kvs.length < sizeLine ∧ Nx (upd H5 D (.dK (putK kvs k z))) else Nx H3) := by
  refine ⟨fun i m H => m = xs.length - i ∧ i ≤ xs.length ∧ Pv i H, ⟨_, rfl, Nat.zero_le _, h0⟩, ?_⟩
  rintro i m H ⟨rfl, hi, p⟩
  have q := hl i H hi p
  by_cases hlt : i < xs.length
  · refine .inr ⟨⟨xs, _, q, List.getElem?_eq_getElem hlt⟩, Pv (i + 1), fun H' p' => ⟨_, by omega, rfl, hlt, p'⟩, fun x H' y => ?_⟩
    obtain ⟨e, y⟩ := y
    subst e
    exact hs i x _ (y xs q) p
  · have e : i = xs.length := by omega
    subst e
    exact .inl ⟨⟨xs, q, Nat.le_refl _⟩, hd H p⟩
end
end Y

/-! YSet: set(a list of ints), sorted of it. -/
namespace Y
open PySem PySem.Spec PyProof.Rows L2
section
variable {P : Program} {w : World} {A : Around} {E : Value → Shared → Prop} {s : Shared}
set_option maxHeartbeats 3200000 in
theorem set_of_list {l : Addr} {items : Array Value} (ns : List Int) {Q : Value → Shared → Prop} (hh : A.handled = none) (hl : s.heap.IsList l items) (hit : IntsAre items.toList ns) (hb : ns.length + 1 < scanBound)
    (h : ∀ (h' : Heap) (tk c : Nat), SetR w h' s.heap.objs.size (fun j => decide (j ∈ ns)) c → c ≤ ns.length → (∀ b o, s.heap.get? b = some o → h'.get? b = some o) → Q (.ref s.heap.objs.size) { s with heap := h', toks := tk }) :
    wpAny (model P w) A (call (.type "set") [.ref l]) Q E s := by
  have len : items.size = ns.length := by
    have q := IntsAre.length hit
    rwa [Array.length_toList] at q
  obtain ⟨c, tl, hmro⟩ := F.called_set.mro
  have hmade := F.called_set.made
  have hsub := F.called_set.sub
  refine wpAny_call (codeAny_of_tree ?_)
  show wpAny _ _ (callAny (.type "set") _) _ _ _
  refine wpAny_pure ⟨Code.quiet_builtin _ (by decide +kernel), codeAny_builtin F.entry_type_call ?_⟩
  rw [Around.under_plain (weight_type_call_type "set" [.ref l] []) rfl]
  have h1 := F.called_set.notType
  have h2 := F.called_set.canCreate
  have hct := F.typeCall_set_1 (.ref l)
  repeat (any_goals (first | assumption | wp_step))
  let o0 : Obj := { cls := .type "set", dict := none, data := .set #[] 0 (.fresh 0 0 (!w.params.followText "set-order")) }
  refine codeAny_mono (code_set_led1 (.ref l) (E := E) (Q₁ := fun obj t => obj = .ref s.heap.objs.size ∧ t = { s with heap := s.heap.push o0 }) ⟨rfl, rfl⟩) fun r t hr => ?_
  cases r with
  | error e => exact hr
  | ok fl =>
    cases fl with
    | ret obj =>
      obtain ⟨rfl, rfl⟩ := hr
      have hS : (s.heap.push o0).get? s.heap.objs.size = some o0 := Heap.get?_push_size _ rfl
      have hT : Shared.TypeIs { s with heap := s.heap.push o0 } (.ref s.heap.objs.size) "set" := ⟨_, hS, rfl⟩
      have hli := F.called_set.init.lookup
      have hbi := F.called_set.init.bind (.ref s.heap.objs.size)
      repeat (any_goals (first | assumption | wp_step))
      refine codeAny_mono (codeAny_call_builtin (R := wants (fun r t => r = .none ∧ ∃ h' tk c, t = { s with heap := h', toks := tk } ∧ SetR w h' s.heap.objs.size (fun j => decide (j ∈ ns)) c ∧ c ≤ ns.length ∧
          (∀ b o, s.heap.get? b = some o → h'.get? b = some o)) E) F.called_set.init.plain F.entry_set_init (check_set_init_1 hT ?_)) fun r₂ t₂ hr₂ => ?_
      · obtain ⟨ol, hol, hcl, nl, hdl⟩ := hl
        obtain ⟨ocls, odict, odata, oslots⟩ := ol
        simp only at hcl hdl
        subst hcl; subst hdl
        have hol' : (s.heap.push o0).get? l = some { cls := .type "list", dict := odict, data := .seq items nl, slots := oslots } := Heap.get?_push_of_some _ hol
        have hsls := F.sub_list_set
        have hslf := F.sub_list_frozenset
        have hne : (Value.type "list" == Value.type "dict") = false := by decide
        have hl1 : (s.heap.push o0).IsList l items := ⟨_, hol', rfl, nl, rfl⟩
        unfold Builtin.«set.__init__» noKeywords Builtin.Frozenset.updateFrom
        generalize hPI : pyIter = PI
        wp_walk
        subst hPI
        refine wpAny_pyIter_list hl1 ?_
        refine wpAny_bind (wpAny_runValue ?_)
        have hlS : l < s.heap.objs.size := Heap.lt_size hol
        have hh3 : A.in1.in1.in1.handled = none := by simp [hh]
        have hneI : l ≠ (s.heap.push o0).objs.size := by
          rw [Heap.size_push]; exact Nat.ne_of_lt (Nat.lt_succ_of_lt hlS)
        have hSf : s.heap.objs.size ∉ [(s.heap.push o0).objs.size, l] := by
          rw [Heap.size_push]; simp only [List.mem_cons, List.mem_singleton, List.not_mem_nil, or_false, not_or]
          exact ⟨Nat.ne_of_lt (Nat.lt_succ_self _), Nat.ne_of_gt hlS⟩
        have hval : ∀ (i : Nat) (v : Value), items[i]? = some v → ∃ k t, ns[i]? = some k ∧ v = .int k t := fun i v hv => by
          have hi : i < ns.length := by rw [← len]; exact (Array.getElem?_eq_some_iff.mp hv).1
          obtain ⟨t, e⟩ := PyProof.Rows.IntsAre.int_at hit i v (by rw [Array.getElem?_toList]; exact hv)
          refine ⟨ns[i], t, List.getElem?_eq_getElem hi, ?_⟩
          rw [e, List.getD_eq_getElem?_getD, List.getElem?_eq_getElem hi] <;> rfl
        refine set_update_ints ((Walks.list hh3 _ l hneI items).toS) s.heap.objs.size
          hSf ns len hb hval (items.size - 0) 0 _ (by omega) (Nat.zero_le _)
          ⟨⟨_, Heap.get?_push_size _ rfl, rfl, rfl⟩, (hl1.push _)⟩ ?hS0 ?hR
        case hS0 =>
          have hget : ((s.heap.push o0).push { cls := .type "list_iterator", data := .fields #[.ref l, .int 0 0] }).get? s.heap.objs.size = some o0 := Heap.get?_push_of_some _ hS
          exact ⟨0, Nat.le_refl 0, setR_new_at hget⟩
        case hR =>
          intro s' c' hm hc' hS'
          obtain ⟨h', g2, d', tk', os'⟩ := s'
          have eg : g2 = s.gens := hm.gens
          have ed : d' = s.drawn := hm.drawn
          have eo : os' = s.os := hm.os
          subst eg; subst ed; subst eo
          show wpAny _ _ _ _ _ _
          refine wpAny_pure ?_
          show wpAny _ _ (ret Value.none) _ _ _
          rw [len] at hc'
          refine wpAny_pure ⟨rfl, h', tk', c', rfl, hS', hc', fun b o e => ?_⟩
          have hb0 : b < s.heap.objs.size := Heap.lt_size e
          have hb1 : b ≠ s.heap.objs.size := Nat.ne_of_lt hb0
          have hb2 : b ≠ (s.heap.push o0).objs.size := by
            rw [Heap.size_push]; exact Nat.ne_of_lt (Nat.lt_succ_of_lt hb0)
          exact hm.heap b o (by simp only [List.mem_cons, List.mem_singleton, List.not_mem_nil, or_false, not_or]; exact ⟨hb1, hb2⟩) (Heap.get?_push_of_some _ (Heap.get?_push_of_some _ e))
      · cases r₂ with
        | error e => exact hr₂
        | ok fl₂ =>
          cases fl₂ with
          | ret r =>
            obtain ⟨rfl, h', tk, c', rfl, hS', hc', hk'⟩ := hr₂
            repeat (any_goals (first | assumption | wp_step))
            exact h _ _ _ hS' hc' hk'
          | _ => exact hr₂.elim
    | _ => exact hr.elim
end
section
variable {X : Cx}
/-- set(xs), xs a list of ints -/
def rSetI (K : PySem.W.Frag) (w : World) : List V → Hp → VK → Prop := fun vs H Q => ∃ (l : Addr) (ns : List Int), vs = [V.ref l] ∧ SqL K H l (ns.map V.int) ∧ ns.length ≤ 4000 ∧
  ∀ p c, H p = none → c ≤ ns.length → Q (.ref p) (upd H p (SetO w p (fun j => decide (j ∈ ns)) c))
theorem cr_setI (hc : X.calm = true) : CallR X (.type "set") (rSetI X.K X.w) := by
  intro pins s σ H vs us Q I r h
  obtain ⟨l, ns, rfl, hq, hn, q⟩ := h
  obtain ⟨u, rfl, ru⟩ := vals1 r
  cases ru
  obtain ⟨its, rv, p, hz⟩ := I.list hq
  refine set_of_list (items := its.toArray) ns (I.ok.hd hc) p.isList (by simpa using Vals.ints rv) (by unfold scanBound; omega) fun h' tk c R hc' hk => ?_
  have n := I.fresh
  exact ⟨.ref s.heap.objs.size, _, I.laid (o := SetO X.w s.heap.objs.size (fun j => decide (j ∈ ns)) c) hk (Nat.le_refl _) (setO_new R), rfl, q _ c n hc'⟩
theorem cr_setIK {K : PySem.W.Frag} {w : World} (h : X.K = K) (hw : X.w = w) (hc : X.calm = true) : CallR X (.type "set") (rSetI K w) := by
  subst h hw
  exact cr_setI hc
end
end Y


/-! YMath: ascending numbers, dicts as pairs: plain Lean. -/
namespace Y
/-! ### ascending numbers, each once -/
def insU (x : Int) : List Int → List Int
  | [] => [x]
  | y :: r => if x < y then x :: y :: r else if x = y then y :: r else y :: insU x r
def nums (xs : List Int) : List Int := xs.foldr insU []
theorem mem_insU (x k : Int) : ∀ l : List Int, k ∈ insU x l ↔ k = x ∨ k ∈ l
  | [] => by simp [insU]
  | y :: r => by
    unfold insU
    split
    · simp
    · split
      · rename_i h; subst h; simp
      · have ih := mem_insU x k r
        simp only [List.mem_cons, ih]
        constructor
        · rintro (h | h | h) <;> simp [h]
        · rintro (h | h | h) <;> simp [h]
theorem mem_nums (k : Int) : ∀ xs : List Int, k ∈ nums xs ↔ k ∈ xs
  | [] => by simp [nums]
  | x :: xs => by
    show k ∈ insU x (nums xs) ↔ _
    rw [mem_insU, mem_nums k xs, List.mem_cons]
theorem asc_insU (x : Int) : ∀ l : List Int, l.Pairwise (· < ·) → (insU x l).Pairwise (· < ·)
  | [], _ => by simp [insU]
  | y :: r, h => by
    have ⟨h1, h2⟩ := List.pairwise_cons.mp h
    unfold insU
    split
    · rename_i hx
      refine List.pairwise_cons.mpr ⟨fun z hz => ?_, h⟩
      rcases List.mem_cons.mp hz with e | e
      · omega
      · have := h1 z e; omega
    · split
      · exact h
      · refine List.pairwise_cons.mpr ⟨fun z hz => ?_, asc_insU x r h2⟩
        rcases (mem_insU x z r).mp hz with e | e
        · omega
        · exact h1 z e
theorem asc_nums : ∀ xs : List Int, (nums xs).Pairwise (· < ·)
  | [] => List.Pairwise.nil
  | x :: xs => asc_insU x _ (asc_nums xs)
/-- two ascending lists with the same members are one -/
theorem asc_same : ∀ {a b : List Int}, a.Pairwise (· < ·) → b.Pairwise (· < ·) → (∀ k, k ∈ a ↔ k ∈ b) → a = b
  | [], [], _, _, _ => rfl
  | [], y :: b, _, _, h => absurd ((h y).mpr (by simp)) (by simp)
  | x :: a, [], _, _, h => absurd ((h x).mp (by simp)) (by simp)
  | x :: a, y :: b, ha, hb, h => by
    have ⟨a1, a2⟩ := List.pairwise_cons.mp ha
    have ⟨b1, b2⟩ := List.pairwise_cons.mp hb
    have e : x = y := by
      rcases List.mem_cons.mp ((h x).mp (by simp)) with e | e
      · exact e
      · rcases List.mem_cons.mp ((h y).mpr (by simp)) with e' | e'
        · exact e'.symm
        · have := a1 y e'
          have := b1 x e
          omega
    subst e
    have t : a = b := asc_same a2 b2 fun k => by
      have q := h k
      constructor
      · intro hk
        rcases List.mem_cons.mp (q.mp (List.mem_cons_of_mem _ hk)) with e | e
        · have := a1 k hk; omega
        · exact e
      · intro hk
        rcases List.mem_cons.mp (q.mpr (List.mem_cons_of_mem _ hk)) with e | e
        · have := b1 k hk; omega
        · exact e
    rw [t]
theorem le_nums_len : ∀ xs : List Int, (nums xs).length ≤ xs.length
  | [] => Nat.le_refl _
  | x :: xs => by
    have h : ∀ l : List Int, (insU x l).length ≤ l.length + 1 := by
      intro l
      induction l with
      | nil => exact Nat.le_refl _
      | cons y r ih =>
        unfold insU
        split
        · simp
        · split
          · simp
          · simp only [List.length_cons]; omega
    have := h (nums xs)
    have := le_nums_len xs
    show (insU x (nums xs)).length ≤ _
    simp only [List.length_cons]
    omega

/-! ### dicts as pairs -/
section
variable {β : Type}
def look (ds : List (Int × β)) (k : Int) : Option β := (ds.find? fun p => decide (p.1 = k)).map (·.2)
def put (ds : List (Int × β)) (k : Int) (x : β) : List (Int × β) := if ds.any (fun p => decide (p.1 = k)) then ds.map (fun p => if p.1 = k then (p.1, x) else p) else ds ++ [(k, x)]
theorem put_len (ds : List (Int × β)) (k : Int) (x : β) : (put ds k x).length ≤ ds.length + 1 := by
  unfold put
  split <;> simp
theorem look_cons (p : Int × β) (ds : List (Int × β)) (k : Int) : look (p :: ds) k = if p.1 = k then some p.2 else look ds k := by
  unfold look
  rw [List.find?_cons]
  by_cases h : p.1 = k <;> simp [h]
theorem look_any (ds : List (Int × β)) (k : Int) : (ds.any fun p => decide (p.1 = k)) = (look ds k).isSome := by
  induction ds with
  | nil => rfl
  | cons p ds ih =>
    rw [look_cons, List.any_cons, ih]
    by_cases h : p.1 = k <;> simp [h]
theorem put_keys (ds : List (Int × β)) (k : Int) (x : β) : (put ds k x).map (·.1) = if ds.any (fun p => decide (p.1 = k)) then ds.map (·.1) else ds.map (·.1) ++ [k] := by
  unfold put
  split
  · rw [List.map_map]
    apply List.map_congr_left
    intro p _
    show (if p.1 = k then (p.1, x) else p).1 = p.1
    split <;> rfl
  · simp
theorem put_nodup (ds : List (Int × β)) (k : Int) (x : β) (h : (ds.map (·.1)).Nodup) : ((put ds k x).map (·.1)).Nodup := by
  rw [put_keys]
  split
  · exact h
  · rename_i hn
    refine List.nodup_append.mpr ⟨h, by simp, fun a ha b hb e => ?_⟩
    have hb := List.mem_singleton.mp hb
    subst hb
    subst e
    obtain ⟨p, hp, e⟩ := List.mem_map.mp ha
    exact hn (List.any_eq_true.mpr ⟨p, hp, decide_eq_true e⟩)
theorem look_of_mem {ds : List (Int × β)} (h : (ds.map (·.1)).Nodup) {p : Int × β} (hp : p ∈ ds) : look ds p.1 = some p.2 := by
  induction ds with
  | nil => cases hp
  | cons q ds ih =>
    rw [look_cons]
    have ⟨h1, h2⟩ := List.nodup_cons.mp (show (q.1 :: ds.map (·.1)).Nodup from h)
    rcases List.mem_cons.mp hp with e | e
    · subst e; rw [if_pos rfl]
    · have : ¬ q.1 = p.1 := fun e' => h1 (e' ▸ List.mem_map.mpr ⟨p, e, rfl⟩)
      rw [if_neg this]
      exact ih h2 e
theorem look_some_mem {ds : List (Int × β)} {k : Int} {x : β} (h : look ds k = some x) : (k, x) ∈ ds := by
  induction ds with
  | nil => cases h
  | cons q ds ih =>
    rw [look_cons] at h
    split at h
    · rename_i e
      have : x = q.2 := (Option.some.inj h).symm
      subst this
      subst e
      exact List.mem_cons_self
    · exact List.mem_cons_of_mem _ (ih h)
theorem look_isSome {ds : List (Int × β)} {k : Int} : (look ds k).isSome = true ↔ k ∈ ds.map (·.1) := by
  rw [← look_any, List.any_eq_true]
  constructor
  · rintro ⟨p, hp, e⟩
    exact List.mem_map.mpr ⟨p, hp, of_decide_eq_true e⟩
  · intro h
    obtain ⟨p, hp, e⟩ := List.mem_map.mp h
    exact ⟨p, hp, decide_eq_true e⟩
theorem put_mem {ds : List (Int × β)} {k : Int} {x : β} {p : Int × β} (h : p ∈ put ds k x) : p = (k, x) ∨ p ∈ ds := by
  unfold put at h
  split at h
  · obtain ⟨q, hq, e⟩ := List.mem_map.mp h
    split at e
    · rename_i e1
      left
      rw [← e, e1]
    · right
      rw [← e]
      exact hq
  · rcases List.mem_append.mp h with h | h
    · exact .inr h
    · exact .inl (List.mem_singleton.mp h)
end
end Y

/-! YDict: dicts with int keys as lists of pairs; slices. -/
namespace Y
open PySem PySem.Spec PyProof.Rows L2
section
variable {β : Type} {r : Rp β} {G G' : Hp}
/-- a dict's pairs, keys ints, values data -/
def DRel (r : Rp β) (G : Hp) : List (Key × V) → List (Int × β) → Prop := Paired fun p q => p.1 = Sum.inl q.1 ∧ r G p.2 q.2
theorem DRel.mono (m : Mn r) (e : Same G G') {kvs : List (Key × V)} {ds : List (Int × β)} (h : DRel r G kvs ds) : DRel r G' kvs ds := pd_mono (fun _ _ q => ⟨q.1, m _ _ _ _ e q.2⟩) h
theorem DRel.look_some : ∀ {kvs : List (Key × V)} {ds : List (Int × β)}, DRel r G kvs ds → ∀ {k : Int} {x : β}, look ds k = some x → ∃ v, valV kvs (Sum.inl k) = some v ∧ r G v x
  | _, _, .nil, k, x, h => by cases h
  | (p :: _), (q :: _), .cons ⟨h1, h2⟩ t, k, x, h => by
    rw [look_cons] at h
    by_cases e : q.1 = k
    · rw [if_pos e] at h
      cases h
      exact ⟨p.2, valV_pos (by rw [h1, e]), h2⟩
    · rw [if_neg e] at h
      obtain ⟨v, hv, hr⟩ := DRel.look_some t h
      exact ⟨v, by rw [valV_neg (by rw [h1]; exact fun z => e (Sum.inl.inj z))]; exact hv, hr⟩
theorem DRel.look_none : ∀ {kvs : List (Key × V)} {ds : List (Int × β)}, DRel r G kvs ds → ∀ {k : Int}, look ds k = none → valV kvs (Sum.inl k) = none
  | _, _, .nil, k, h => rfl
  | (p :: _), (q :: _), .cons ⟨h1, h2⟩ t, k, h => by
    rw [look_cons] at h
    by_cases e : q.1 = k
    · rw [if_pos e] at h
      cases h
    · rw [if_neg e] at h
      rw [valV_neg (by rw [h1]; exact fun z => e (Sum.inl.inj z))]
      exact DRel.look_none t h
theorem DRel.anyK : ∀ {kvs : List (Key × V)} {ds : List (Int × β)}, DRel r G kvs ds → ∀ (k : Int), (kvs.any fun kv => decide (kv.1 = (Sum.inl k : Key))) = ds.any fun p => decide (p.1 = k)
  | _, _, .nil, k => rfl
  | (p :: _), (q :: _), .cons ⟨h1, _⟩ t, k => by
    rw [List.any_cons, List.any_cons, DRel.anyK t k, h1]
    congr 1
    by_cases e : q.1 = k
    · simp [e]
    · have : ¬ (Sum.inl q.1 : Key) = Sum.inl k := fun z => e (Sum.inl.inj z)
      simp [e, this]
theorem DRel.put {kvs : List (Key × V)} {ds : List (Int × β)} (h : DRel r G kvs ds) {k : Int} {v : V} {x : β} (hr : r G v x) : DRel r G (putK kvs (Sum.inl k) v) (put ds k x) := by
  unfold putK Y.put
  rw [h.anyK k]
  cases ds.any fun p => decide (p.1 = k) with
  | true =>
    rw [if_pos rfl, if_pos rfl]
    revert hr
    intro hr
    induction h with
    | nil => exact .nil
    | cons q t ih =>
      rename_i p q' _ _
      refine .cons ?_ ih
      dsimp only
      by_cases e : q'.1 = k
      · rw [if_pos e, if_pos (by rw [q.1, e])]
        exact ⟨q.1, hr⟩
      · rw [if_neg e, if_neg (by rw [q.1]; exact fun z => e (Sum.inl.inj z))]
        exact q
  | false =>
    rw [if_neg Bool.false_ne_true, if_neg Bool.false_ne_true]
    exact pd_snoc h ⟨rfl, hr⟩
theorem DRel.keys : ∀ {kvs : List (Key × V)} {ds : List (Int × β)}, DRel r G kvs ds → kvs.map (·.1) = (ds.map (·.1)).map Sum.inl
  | _, _, .nil => rfl
  | _, _, .cons q t => by rw [List.map_cons, List.map_cons, List.map_cons, DRel.keys t, q.1]
end
/-- a row of ints at an address -/
abbrev rowI (xs : List Int) : HO := .lst (xs.map V.int)
theorem cut_to (xs : List V) (n : Nat) : cutV xs none (some (n : Int)) = xs.take n := by
  unfold cutV
  rw [HT.sIx_none, HT.sIx_nat, List.drop_zero, Nat.sub_zero]
  by_cases h : n ≤ xs.length
  · rw [Nat.min_eq_left h]
  · rw [Nat.min_eq_right (by omega), List.take_of_length_le (Nat.le_refl _), List.take_of_length_le (by omega)]
theorem cut_from (xs : List V) (n : Nat) : cutV xs (some (n : Int)) none = xs.drop n := by
  unfold cutV
  rw [HT.sIx_none, HT.sIx_nat]
  by_cases h : n ≤ xs.length
  · rw [Nat.min_eq_left h, List.take_of_length_le (by rw [List.length_drop]; omega)]
  · rw [Nat.min_eq_right (by omega), List.drop_eq_nil_of_le (Nat.le_refl _), List.drop_eq_nil_of_le (by omega)]
    simp
end Y


/-! YMore: rules that the bundles lack: a field as a target among several, dead statements, sorted(dict) at any length, remove over data, a class made with a default. -/
namespace Y
open PySem PySem.Spec PyProof.Rows L2
section
variable {X : Cx} {K : PySem.W.Frag}
/-- o.f = .. as a target -/
def gFld (K : PySem.W.Frag) (to : TE) (f : Str) : TG := fun v σ H Q => to σ H fun x H2 => ∃ a C dx fs, x = .ref a ∧ H2 a = some (.ins C dx fs) ∧ Cls K C ∧ NoAttr K C f ∧ fs.length < 1000 ∧ Q σ (upd H2 a (.ins C dx (putF f v fs)))
theorem pg_fld {o : Expr} {f : Str} {pos : Pos} {to : TE} (ho : PE X o to) : PG X (.Attribute o f pos) (gFld X.K to f) := by
  refine ⟨fun pins s σ H v u Q I r h => ?_⟩
  rw [assign_Attribute]
  refine wpAny_bind (wpAny_holding (thn (ho.run pins s σ H _ I h) fun ov s1 ⟨x, H1, I1, rx, a, C, dx, fs, ex, ea, c, n, l, q⟩ => ?_))
  subst ex
  obtain rfl : ov = Value.ref a := rx
  refine wpAny_bind (wpAny_standAt (wpAny_bind (wpAny_holding ?_)))
  exact setattr_ok I1 ea c n l r fun s3 I3 => wpAny_release ⟨σ, _, I3, q⟩
theorem pg_fldK {o : Expr} {f : Str} {pos : Pos} {to : TE} (h : X.K = K) (ho : PE X o to) : PG X (.Attribute o f pos) (gFld K to f) := by subst h; exact pg_fld ho
/-- a statement that is never reached -/
theorem ps_dead {st : Stmt} : PS X st (fun _ _ _ => False) := ⟨fun _ _ _ _ _ _ h => h.elim⟩
theorem pss_dead {st : List Stmt} : PSs X st (fun _ _ _ => False) := ⟨fun _ _ _ _ _ _ h => h.elim⟩
/-- sorted(d): its keys, ints, any number of them -/
theorem call_sortedDA (hcalm : X.calm = true) : CallR X (.builtin "sorted") (fun xs H Q => ∃ (a : Addr) (kvs : List (Key × V)) (ks : List Int), xs = [.ref a] ∧ Rd H a (.dK kvs) ∧ kvs.map (·.1) = ks.map Sum.inl ∧ ks.length ≤ 100000 ∧
    ∀ (ys : List Int) (p : Addr), ys.Perm ks → ys.Pairwise (· ≤ ·) → H p = none → Q (.ref p) (upd H p (.lst (ys.map V.int)))) := by
  intro pins s σ H xs us Q I r q
  obtain ⟨a, kvs, ks, ex, hd, hks, h64, q⟩ := q
  subst ex
  obtain ⟨u, eu, rx⟩ := vals1 r
  subst eu
  cases rx
  obtain ⟨z, lo, vs, rel, dd⟩ := dk_rd I.hok hd
  obtain ⟨ep, hat⟩ := dd.dictAt
  have hkeys : vs.map (·.1) = ks.map Sum.inl := rel.keys.symm.trans hks
  have hl : vs.length = ks.length := by
    have e := congrArg List.length hkeys
    rw [List.length_map, List.length_map] at e
    exact e
  have h16 : vs.length ≤ sizeLine := by rw [hl, sizeLine_eq]; omega
  refine Calls.call_function_entry PyProof.Rows.kind_sorted PyProof.Rows.plain_sorted PyProof.Rows.entry_sorted (PyProof.Rows.args_sorted1 _) ?_
  unfold Builtin.«sorted»
  refine wpAny_bind (m := checkCount "sorted" 1 1 _) (wpAny_pure ?_)
  refine wpAny_bind (PySem.W.kdu_collect (A := X.A.in1) (PySem.W.kdl_dict (knd := mixKind X.prog X.w) (kvs := vs) (ep := ep) lo) (I.ok.hd hcalm) hat h16 fun h' tk acc hk hacc => ?_)
  have hal : acc.toList.length = ks.length := by rw [Array.length_toList, hacc.1, hl]
  have hS : IntsAre acc.toList ks := ints_each hal fun j v e => by
    obtain ⟨k, x, e1, e2⟩ := hacc.2 j v (by rw [← Array.getElem?_toList]; exact e)
    have e3 : (vs.map (·.1))[j]? = some k := by rw [List.getElem?_map, e1]; rfl
    rw [hkeys, List.getElem?_map] at e3
    cases e4 : ks[j]? with
    | none => rw [e4] at e3; cases e3
    | some y =>
      rw [e4] at e3
      have e5 : Sum.inl y = k := Option.some.inj e3
      subst e5
      rcases keyIs_shape (show keyIs (Sum.inl y) v = true from e2) with ⟨i, t, ek, ev⟩ | ⟨z, t, ek, ev⟩
      · cases ek
        exact ⟨y, t, rfl, ev⟩
      · cases ek
  have I1 : Inv X pins σ H { s with heap := h', toks := tk } := I.kept hk
  refine wpAny_bind (wpAny_newList ?_ (by rw [hal, sizeLine_eq]; omega))
  have hoL : (h'.push (seqObj "list" acc.toList.toArray 0)).get? h'.objs.size = some (seqObj "list" acc.toList.toArray 0) := Heap.get?_push_size _ rfl
  show wpAny _ _ _ _ _ { s with heap := h'.push (seqObj "list" acc.toList.toArray 0), toks := tk }
  refine wpAny_bind (wpAny_holding (wpAny_call_entry PyProof.Rows.slot_list_sort ⟨_, hoL, rfl⟩ PyProof.Rows.entry_list_sort
    (SrtO.list_sort_ord (s := { s with heap := h'.push (seqObj "list" acc.toList.toArray 0), toks := tk }) SrtO.swo_int hoL (by rw [hal, sizeLine_eq]; omega) (fun h2 => SrtO.ints_sortable hS h2) fun out k1 k2 => ⟨_, rfl, ?_⟩) (PyProof.Rows.args_list_sort _)))
  obtain ⟨g1, g2, g3⟩ := SrtO.ints_out hS k1 k2
  obtain ⟨e', he'⟩ := PyProof.Rows.sortedHeap_at (vs := acc.toList) (out := out.toArray) hoL
  have hlen : ((out.map SrtO.iv).map V.int).length ≤ sizeLine := by
    rw [List.length_map, g2.length_eq, sizeLine_eq]
    omega
  refine wpAny_pure ⟨_, rfl, .ref h'.objs.size, upd H h'.objs.size (.lst ((out.map SrtO.iv).map V.int)), I1.laid (t' := tk) (fun b u e => ?_) (Nat.le_refl _)
    (show ObjOk X.prog X.w _ _ _ (.lst ((out.map SrtO.iv).map V.int)) from ⟨hlen, out, e', vals_of_ints g1, he'⟩), rfl, q _ _ g2 g3 (I1.hok.fresh (Nat.le_refl _))⟩
  have hb : b < h'.objs.size := Heap.lt_size e
  rw [PyProof.Rows.sortedHeap_old (Nat.ne_of_lt hb) (by rw [size_push']; exact Nat.lt_succ_of_lt hb)]
  exact Heap.get?_push_of_some _ e
/-- l.remove(x) over data: the first that is equal goes -/
def rRemD (K : PySem.W.Frag) : V → List V → Hp → VK → Prop := fun x xs H Q => ∃ (l : Addr) (vs : List V) (ds : List PyData) (y : V) (d : PyData) (j : Nat), x = .ref l ∧ xs = [y] ∧ H l = some (.lst vs) ∧ DpAll K H vs ds ∧ Dp K H y d ∧
  PyData.plainAll ds = true ∧ d.plain = true ∧ d.depth ≤ 60 ∧ SeqAt.dataPlace ds d = some j ∧ Q .non (upd H l (.lst (vs.eraseIdx j)))
theorem mt_removeD (hK : X.K = K) (hu : X.A.units + 64 < cLine) : MtR X "list.remove" (rRemD K) := by
  subst hK
  intro pins s σ H x xs v us Q I rx rxs h
  obtain ⟨l, vs, ds, y, d, j, rfl, rfl, hH, ha, hy, p1, p2, p3, hp, q⟩ := h
  cases rx
  obtain ⟨u, rfl, ru⟩ := rxs.one
  obtain ⟨z, its, n, r, hl, e⟩ := I.lstM hH
  obtain ⟨as, rs⟩ := Dp.readsAll I ds vs its ha r
  obtain ⟨bs, ry⟩ := Dp.reads I d y u hy ru
  refine SeqAt.remove_list_data (j := j) ⟨_, e, rfl, _, rfl⟩ (by simpa using rs) ry p1 p2 (by have := Nat.min_le_right (PyData.depthAll ds) d.depth; omega) hp (by rw [List.size_toArray]; omega) ?_
  refine ⟨.non, _, I.lset (its' := its.eraseIdx j) (t' := s.toks) hH e ?_ (r.eraseIdx j) ?_, rfl, q⟩
  · show its.toArray.eraseIdxIfInBounds j = (its.eraseIdx j).toArray
    rw [List.eraseIdxIfInBounds_toArray]
  · have := List.length_eraseIdx_le vs j
    omega
end
theorem pi_enumK {X : Cx} {K : PySem.W.Frag} {e : Expr} {ta : TA} {p pos tpos : Pos} {elts : List Expr} {kk : Nat} (h : X.K = K) (hg : Gl X "enumerate") (hm : X.mg "enumerate" = none) (ha : PA X [e] ta) (hs : starEach [e] X.env = [(false, eval e X.env)] := by rfl) :
    PI X (.Tuple elts kk tpos) (.Call (.Name "enumerate" p) [e] [] pos) (iEnum K ta) := by subst h; exact pi_enum hg hm ha hs
/-- a class, its __init__ with defaults behind what is written -/
structure CsD (P : Program) (w : World) (K : PySem.W.Frag) (mg : Str → Option Value) (base : Heap) (x : Str) (C : Addr) (k : Nat) (ps : List Str) (dvs : List V) (sp : Sp) : Prop where
  ex : ∃ (f : Addr) (fd : FuncData) (ds : List Value), FnOk P w K mg base CX0 k f fd ps sp ∧ Mk K C f ∧ Binds K fd ps ds ∧ Vals dvs ds
  mg : mg x = some (.ref C)
section
variable {X : Cx} {k : Nat} {C : Addr} {ps : List Str} {dvs : List V} {sp : Sp} {x : Str} {p pos : Pos} {e : Expr} {es : List Expr} {t : TA}
theorem pe_mkd (L : CsD X.prog X.w X.K X.mg X.base x C k ps dvs sp) (hr : Room (k + 1) X.A) (hg : Gl X x) (ha : PA X (e :: es) t)
    (hdb : (x == ("__debug__" : Str)) = false := by decide) (he : starEach (e :: es) X.env = (false, eval e X.env) :: starEach es X.env := by rfl) (hpl : (backTo pos (starEach es X.env)).any (·.1) = false := by rfl) :
    PE X (.Call (.Name x p) (e :: es) [] pos) (tMake C sp dvs E0 t) := by
  obtain ⟨f, fd, ds, F, h1, h3, h4⟩ := L.ex
  exact pe_make h1 F hr hg L.mg h3 h4 pass0 ha hdb he hpl
end
/-- a def as it stands behind the top, whatever its defaults -/
structure FunX (K : PySem.W.Frag) (x qual : Str) (st : Stmt) (f : Addr) (fd : FuncData) : Prop where
  ex : ∃ (oc : Value) (od : Option Addr) (dV kV doc pm : Value) (an : Option Addr) (cdv ct : Value) (osl : Array (Option Value)),
    fd = PySem.W.fnOf x qual (defArgs st) (defBody st) (defScope st) dV kV doc pm an cdv ct ∧ K.lookup f = some ⟨oc, od, .func fd, osl⟩ ∧ PySem.W.codeIn K cdv qual = true
section
variable {P : Program} {w : World} {K : PySem.W.Frag} {mg : Str → Option Value} {base : Heap} {x qual : Str} {st : Stmt} {f : Addr} {fd : FuncData}
theorem FunX.ok {N ps : List Str} {k : Nat} {sp : Sp} (F : FunX K x qual st f fd) (S : FnScope N ps (defScope st)) (len : ∀ vs H Q E, sp vs H Q E → vs.length = ps.length)
    (hbody : ∀ (cdv : Value) (A : Around) (outer : List Env) (s : Shared) (H : Hp) (vs : List V) (Q : VK) (E : XK), Room k (A.deeper (envOfC qual (defScope st) s.heap.objs.size f cdv)) → sp vs H Q E →
      ∃ t, PSs (cxOf CX0 P w K mg base N qual (defScope st) f cdv A outer s H E).nox (defBody st) t ∧ t { nx := fun _ H' => Q .non H', rt := Q } (start N vs) H) : FnOk P w K mg base CX0 (k + 1) f fd ps sp := by
  obtain ⟨oc, od, dV, kV, doc, pm, an, cdv, ct, osl, rfl, lk, hcd⟩ := F.ex
  refine fn_of lk hcd S len fun A outer s H vs Q E hr hsp => ?_
  obtain ⟨t, h, q⟩ := hbody cdv A outer s H vs Q E hr hsp
  exact ⟨t, h.nox, q⟩
end
theorem _root_.L2.FunD.x {K : PySem.W.Frag} {x qual : Str} {st : Stmt} {dvs : List V} {kws : List (Str × V)} {f : Addr} {fd : FuncData} (F : FunD K x qual (defArgs st) (defBody st) (defScope st) dvs kws f fd) : FunX K x qual st f fd := by
  obtain ⟨oc, od, dV, kV, doc, pm, an, cdv, ct, osl, e, lk, hcd, _, _⟩ := F.ex
  exact ⟨oc, od, dV, kV, doc, pm, an, cdv, ct, osl, e, lk, hcd⟩
end Y

/-! YRepr: repr of data. What is under way around a call must be known for it, so the promises here (FnG) hold where nothing of that kind is under way. -/
namespace Y
open PySem PySem.Spec PyProof.Rows L2
/-- a def's promise, where no repr is under way -/
structure FnG (P : Program) (w : World) (K : PySem.W.Frag) (mg : Str → Option Value) (base : Heap) (CX : CXT) (k : Nat) (f : Addr) (fd : FuncData) (ps : List Str) (sp : Sp) : Prop where
  len : ∀ vs H Q E, sp vs H Q E → vs.length = ps.length
  go : ∀ (A : Around) (out : List Env) (t : Shared) (H : Hp) (ar : Args) (us : List Value) (vs : List V) (Q : VK) (E : XK), Room k A → A.guards = some [] → Env0 P w K mg base A out t H → BindsTo t fd ar (ps.zip us) → Vals vs us → sp vs H Q E →
    codeAny (model P w) A (.call (.ref f) ar) (CR CX out P w H t Q E) t
section
variable {P : Program} {w : World} {K : PySem.W.Frag} {mg : Str → Option Value} {base : Heap} {CX : CXT} {k : Nat} {f : Addr} {fd : FuncData} {ps : List Str} {sp : Sp}
theorem FnG.of (F : FnOk P w K mg base CX k f fd ps sp) : FnG P w K mg base CX k f fd ps sp := ⟨F.len, fun A out t H ar us vs Q E hr _ => F.run A out t H ar us vs Q E hr⟩
theorem fnG_of {name qual : Str} {params : Arguments} {body : List Stmt} {scope : Scope} {dV kV doc pm cdv ct oc : Value} {an od : Option Addr} {osl : Array (Option Value)} {N : List Str}
    (look : K.lookup f = some ⟨oc, od, .func (PySem.W.fnOf name qual params body scope dV kV doc pm an cdv ct), osl⟩) (code : PySem.W.codeIn K cdv qual = true) (S : FnScope N ps scope) (len : ∀ vs H Q E, sp vs H Q E → vs.length = ps.length)
    (main : ∀ (A : Around) (out : List Env) (t : Shared) (H : Hp) (vs : List V) (Q : VK) (E : XK), Room k (A.deeper (envOfC qual scope t.heap.objs.size f cdv)) → A.guards = some [] → sp vs H Q E →
      ∃ b, PSs (cxOf CX P w K mg base N qual scope f cdv A out t H E) body b ∧ b { nx := fun _ H' => Q .non H', rt := Q } (start N vs) H) : FnG P w K mg base CX (k + 1) f (PySem.W.fnOf name qual params body scope dV kV doc pm an cdv ct) ps sp := by
  constructor
  · exact len
  intro A out t H ar us vs Q E hr hg e0 hb r h
  have el := len _ _ _ _ h
  have KX : K.In t.heap := e0.mod.kin.keeps fun b o e => (e0.bs b o e).1
  have nl : t.heap.NoLimit := e0.mod.nolimit.keeps fun b o e => (e0.bs b o e).1
  have kinds : ∀ y ∈ ps.zip us, scope.names.lookup y.1 = some .local ∨ (scope.names.lookup y.1 = some .cell ∧ ((cellsFrom (t.heap.objs.size + 1) scope.names []).lookup y.1).isSome = true) := by
    rintro ⟨n, v⟩ hy
    rcases S.par n (List.of_mem_zip hy).1 with q | q
    · exact Or.inl q
    · exact Or.inr ⟨q, PySem.W.cellsFrom_some _ _ _ (Or.inl q)⟩
  refine codeAny_call_function hr.depth (KX _ _ look) rfl S.co S.gen rfl (PySem.W.codeRec_of KX code) (hb _ _ _ _ (wpAny_newFunctionEnv_cells S.kind kinds fun env he t1 x => ?_))
  subst he
  refine ⟨nl.keeps x.toInCall.keep, codeAny_func ?_⟩
  obtain ⟨b, hb1, hb2⟩ := main A out t H vs Q E (hr.deeper _) hg h
  have I : Inv (cxOf CX P w K mg base N qual scope f cdv A out t H E) [] (start N vs) H t1 := inv_start S hr.hd e0 el r x
  refine wpAny_mono (hb1.run [] t1 (start N vs) H _ I hb2) (fun fl t2 z => ?_) fun _ _ z => z
  have done : ∀ {σ2 : L2.St} {H2 : Hp} {v : V} {u : Value}, Inv (cxOf CX P w K mg base N qual scope f cdv A out t H E) [] σ2 H2 t2 → RelV v u → Q v H2 → CE out P w H t Q u t2 := fun {_ H2 v _} J rv q => ⟨v, H2, J.os, J.bare, J.base, J.hok, rv, q⟩
  match fl, z with
  | .ret u, ⟨v, σ2, H2, J, rv, q⟩ => exact done J rv q
  | .next, ⟨σ2, H2, J, q⟩ => exact done (v := V.non) (u := Value.none) J rfl q
  | .brk, ⟨_, _, _, q⟩ => exact False.elim q
  | .cont, ⟨_, _, _, q⟩ => exact False.elim q
/-- the rule for a def's body, where no repr is under way -/
theorem FunG.ok {x qual : Str} {st : Stmt} {N : List Str} (F : L2.Fun K x qual st f fd) (S : FnScope N ps (defScope st)) (len : ∀ vs H Q E, sp vs H Q E → vs.length = ps.length)
    (main : ∀ (cdv : Value) (A : Around) (out : List Env) (t : Shared) (H : Hp) (vs : List V) (Q : VK) (E : XK), Room k (A.deeper (envOfC qual (defScope st) t.heap.objs.size f cdv)) → A.guards = some [] → sp vs H Q E →
      ∃ b, PSs (cxOf CX0 P w K mg base N qual (defScope st) f cdv A out t H E).nox (defBody st) b ∧ b { nx := fun _ H' => Q .non H', rt := Q } (start N vs) H) : FnG P w K mg base CX0 (k + 1) f fd ps sp := by
  obtain ⟨oc, od, kV, doc, pm, an, cdv, ct, osl, rfl, lk, hcd⟩ := F.ex
  refine fnG_of lk hcd S len fun A out t H vs Q E hr hg h => ?_
  obtain ⟨b, h1, h2⟩ := main cdv A out t H vs Q E hr hg h
  exact ⟨b, h1.nox, h2⟩
end
section
variable {X : Cx}
/-- repr of data in lists and tuples -/
def rRepr (K : PySem.W.Frag) : List V → Hp → VK → Prop := fun xs H Q => ∃ (a : Addr) (d : PyData), xs = [.ref a] ∧ Dp K H (.ref a) d ∧ d.showable = true ∧ d.hasDict = false ∧ d.depth ≤ 60 ∧ d.shown.length ≤ sizeLine ∧ Q (.str d.shown) H
theorem cr_repr (hg : X.A.guards = some []) (hu : X.A.units + 64 < cLine) : CallR X (.builtin "repr") (rRepr X.K) := by
  intro pins s σ H xs us Q I r q
  obtain ⟨a, d, rfl, hd, h1, h2, h3, h4, q⟩ := q
  obtain ⟨u, rfl, ru⟩ := vals1 r
  obtain ⟨bs, ry⟩ := Dp.reads I d (.ref a) u hd ru
  cases ru
  exact repr_of_reads' ry h1 (fun z => by rw [h2] at z; cases z) hg (by omega) (fun _ _ e => e) (fun h' u tk hk => ⟨.str d.shown, H, I.kept hk, ⟨u, rfl⟩, q⟩) h4
theorem cr_reprK {K : PySem.W.Frag} (h : X.K = K) (hg : X.A.guards = some []) (hu : X.A.units + 64 < cLine) : CallR X (.builtin "repr") (rRepr K) := by subst h; exact cr_repr hg hu
end
/-! ### the end -/
theorem lawG_run {P : Program} {w : World} {K : PySem.W.Frag} {mg mb : Str → Option Value} {CX : CXT} {k : Nat} {fa a : Addr} {fd : FuncData} {x : Str} {sp : Sp} {t : Shared} {vs : List Value} {ns : List Int} (KX : K.In t.heap) (h1 : t.heap.Ns mainGlobals mg) (h2 : t.heap.Ns builtinsNs mb)
    (h3 : ∀ x : Str, x ≠ "__name__" → mb x = bootBuiltins x) (h4 : t.heap.NoLimit) (h5 : t.gens = #[]) (ha : t.heap.get? a = some { cls := .type "list", data := .seq vs.toArray }) (hi : IntsAre vs ns) (hl : ns.length ≤ sizeLine) (hr : Room k callerA)
    (F : ∀ base : Heap, K.In base → base.Ns mainGlobals mg → FnG P w K mg base CX k fa fd [x] sp) (bd : ∀ (s : Shared) (u : Value), BindsTo s fd ⟨[u], []⟩ [(x, u)]) (hsp : ∀ H : Hp, Only H → SqL K H a (ns.map V.int) → sp [.ref a] H (fun v _ => v = .bl true) fun _ _ _ => False)
    (hx : ∀ H e s', CX [] H t (fun _ _ _ => False) e s' → False) : codeAny (model P w) callerA (.call (.ref fa) ⟨[.ref a], []⟩) (fun r s' => r = .ok (.ret (.bool true)) ∧ OldK t.heap s'.heap ∧ s'.os = t.os ∧ AllBare s'.gens) t := by
  have rv := vals_ints hi
  have nv := hi.length
  have go : ∀ H : Hp, Only H → SqL K H a (ns.map V.int) → HOk P w H t.heap → (∀ b, H b ≠ none → b = a) → (H a ≠ none → K.lookup a = none) →
      codeAny (model P w) callerA (.call (.ref fa) ⟨[.ref a], []⟩) (fun r s' => r = .ok (.ret (.bool true)) ∧ OldK t.heap s'.heap ∧ s'.os = t.os ∧ AllBare s'.gens) t := by
    intro H only hS ok one away
    have hid : ∀ {b : Addr} {o : Obj}, t.heap.get? b = some o → H b = none → (hidT t.heap H).get? b = some o := fun e n => hidT_get e n
    have noDict : ∀ {b : Addr} {o : Obj} {es : Array DictEntry} {ep : Nat}, t.heap.get? b = some o → o.data = .dict es ep → H b = none := by
      intro b o es ep e d
      by_cases q : H b = none
      · exact q
      · have := one b q
        subst this
        rw [ha] at e
        cases e
        exact (nomatch d)
    have ns' : ∀ {b : Addr} {m : Str → Option Value}, t.heap.Ns b m → (hidT t.heap H).Ns b m := by
      rintro b m ⟨o, es, ep, e, d, r⟩
      exact ⟨o, es, ep, hid e (noDict e d), d, r⟩
    have kin : K.In (hidT t.heap H) := by
      intro b o e
      refine hid (KX b o e) ?_
      by_cases q : H b = none
      · exact q
      · have := one b q
        subst this
        rw [away q] at e
        cases e
    obtain ⟨mc, m1, m2⟩ := h4
    have M : Mod K mg (hidT t.heap H) := ⟨kin, ns' h1, ⟨mb, ns' h2, h3⟩, ⟨mc, ns' m1, m2⟩⟩
    have e0 : Env0 P w K mg (hidT t.heap H) callerA [] t H := { frames := rfl, mod := M, bs := fun b o e => of_hidT e, bsz := Nat.le_of_eq (hidT_size _ _), funs := trivial, frf := fun b hb => absurd (show b ∈ ([] : List Addr) from hb) (by simp), hok := ok, bare := .of_eq h5 }
    refine codeAny_mono ((F _ kin (ns' h1)).go callerA [] t H ⟨[.ref a], []⟩ [.ref a] [.ref a] _ _ hr rfl e0 (bd t (.ref a)) (.cons rfl .nil) (hsp H only hS)) fun r s' z => ?_
    match r, z with
    | .error e, z => exact (hx H e s' z).elim
    | .ok .next, z => exact False.elim z
    | .ok .brk, z => exact False.elim z
    | .ok .cont, z => exact False.elim z
    | .ok (.ret u), z =>
      obtain ⟨v, H2, os, bare, un, ok2, rr, q⟩ := z
      have q : v = .bl true := q
      subst q
      obtain rfl : u = Value.bool true := rr
      refine ⟨rfl, OldK.of_keep fun b o e => ?_, os, bare⟩
      rcases only b with q | ⟨ob, xs, z⟩
      · exact un.keep b o e q (fun z => by exact absurd (show b ∈ ([] : List Addr) from z) (by simp)) (by simp)
      · have z2 := un.frzs b ob _ z
        obtain ⟨e1, _⟩ := ok b _ z
        obtain ⟨e2, _⟩ := ok2 b _ z2
        rw [e] at e1
        cases e1
        exact e2
  by_cases hk : K.lookup a = none
  · refine go (fun b => if b = a then some (.frz { cls := .type "list", data := .seq vs.toArray } (.lst (ns.map V.int))) else none) (fun b => ?_) (.inl (.inr ⟨{ cls := .type "list", data := .seq vs.toArray }, if_pos rfl⟩)) (fun b u z => ?_) (fun b z => ?_) fun _ => hk
    · by_cases e : b = a
      · exact .inr ⟨_, _, if_pos e⟩
      · exact .inl (if_neg e)
    · by_cases e : b = a
      · have y := (if_pos e).symm.trans z
        cases y
        subst e
        exact ⟨ha, by rw [List.length_map]; exact hl, vs, _, rv, ha⟩
      · have y := (if_neg e).symm.trans z
        cases y
    · by_cases e : b = a
      · exact e
      · exact absurd (if_neg e) z
  · obtain ⟨o, ho⟩ := Option.ne_none_iff_exists'.mp hk
    have e := KX a o ho
    rw [ha] at e
    cases e
    exact go (fun _ => none) (fun _ => .inl rfl) (.inr ⟨_, vs.toArray, _, ho, rfl, rfl, rfl, by rw [List.size_toArray, nv]; exact hl, by simpa using rv⟩) (fun b u z => by cases (show (none : Option HO) = some u from z)) (fun b z => absurd rfl z) fun z => absurd rfl z
theorem walkG_of {l : PySem.W.OpenLaw} {n k : Nat} {q : Program} {loose : List Str} {XP : (Str → Option Value) → Heap → Prop} {YP : World → Heap → Prop} {d : DefRec} {K : Params → PySem.W.Frag} {CX : World → CXT} {sp : World → Sp} {x : Str} (hn : l.most = some n) (hn2 : n ≤ sizeLine) (hdf : d.params.defaults = []) (hr : Room k callerA)
    (hY : ∀ (w : World) (h : Heap), YP w h → (K w.params).In h) (F : ∀ (w : World) (mg : Str → Option Value) (fa : Addr) (h : Heap), (K w.params).In h → h.Ns mainGlobals mg → mg d.name = some (.ref fa) → ∃ fd : FuncData, (∀ (s : Shared) (u : Value), BindsTo s fd ⟨[u], []⟩ [(x, u)]) ∧
        ∀ base : Heap, (K w.params).In base → base.Ns mainGlobals mg → FnG l.prog w (K w.params) mg base (CX w) k fa fd [x] (sp w)) (hsp : ∀ (w : World) (H : Hp) (a : Addr) (ns : List Int), ns.length ≤ n → Only H → SqL (K w.params) H a (ns.map V.int) → sp w [.ref a] H (fun v _ => v = .bl true) fun _ _ _ => False)
    (hx : ∀ (w : World) (H : Hp) (s : Shared) (e : Value) (s' : Shared), CX w [] H s (fun _ _ _ => False) e s' → False) : PySem.W.WalkO q loose XP YP l.row.toRowW d [] (fun f vs => PySem.call f vs) := by
  refine Att.attach_call hn hdf ?_
  intro w s₀ s₁ mg mb fa o pm cd doc a vs ns G y ho hd hcd hmg hobj hints hlen hg
  obtain ⟨fd, hb, hF⟩ := F w mg fa _ (hY w _ y) G.T.g hmg
  exact lawG_run (hY w _ y) G.T.g G.T.b G.T.builtins G.T.nolimit hg hobj hints (Nat.le_trans hlen hn2) hr hF hb (fun H h1 h2 => hsp w H a ns hlen h1 h2) fun H e s' => hx w H s₁ e s'
end Y

/-! YMax: max of a list of data of a Lean type. -/
namespace Y
open PySem PySem.Spec PyProof.Rows L2 PySem.W
section
variable {X : Cx} {α : Type} [DecidableEq α] [DatumOrd α]
def rMaxT (α : Type) [DecidableEq α] [DatumOrd α] (K : PySem.W.Frag) : List V → Hp → VK → Prop := fun xs H Q => ∃ (a : Addr) (vs : List V) (x : α) (ys : List α), xs = [.ref a] ∧ SqL K H a vs ∧ DpAll K H vs ((x :: ys).map Datum.toD) ∧ Datum.depth α ≤ 60 ∧
  ∀ (i : Nat) (v : V), vs[i]? = some v → (x :: ys)[i]? = some (maxOf x ys) → Q v H
theorem toD_inj {a b : α} (h : (Datum.toD a : PyData) = Datum.toD b) : a = b := by
  have e := Datum.eqv a b
  rw [h, Datum.eqv] at e
  by_cases q : a = b
  · exact q
  · simp [q] at e
theorem cr_maxT (hc : X.calm = true) (hu : X.A.units + 64 < cLine) : CallR X (.builtin "max") (rMaxT α X.K) := by
  intro pins s σ H xs us Q I r q
  obtain ⟨a, vs, x, ys, rfl, hs, hd, h60, q⟩ := q
  obtain ⟨its, rv, hl, _⟩ := I.list hs
  rw [Vals.ref1 r]
  obtain ⟨as, rs⟩ := Dp.readsAll I _ _ _ hd rv
  have R0 : ReadsAll s.heap its.toArray.toList ((x :: ys).map Datum.toD) as := by simpa using rs
  refine max_list_datum (I.ok.hd hc) hl.isList (x := x) (xs := ys) ⟨as, R0⟩ (by omega) fun i u h' tk hi hh hk => ?_
  have hi' : its[i]? = some u := by simpa using hi
  have hlen := rv.length
  have hlt : i < vs.length := by rw [hlen]; exact (List.getElem?_eq_some_iff.mp hi').1
  have hv : vs[i]? = some vs[i] := List.getElem?_eq_getElem hlt
  obtain ⟨u', hu', rvu⟩ := rv.get hv
  rw [hi'] at hu'
  cases hu'
  obtain ⟨bs, h1, h2, _, _⟩ := readsAll_at R0 i u (by simpa using hi')
  rw [List.length_map] at h2
  obtain ⟨cs, h3⟩ := hh
  have h1' := (reads_keeps hk h1)
  have e : ((x :: ys).map Datum.toD).getD i .none = Datum.toD ((x :: ys)[i]) := by
    rw [List.getD_eq_getElem?_getD, List.getElem?_map, List.getElem?_eq_getElem h2]
    rfl
  rw [e] at h1'
  have e2 := SeqAt.plain_unique _ _ _ _ _ (Datum.plain _) h1' h3
  have e3 := toD_inj e2
  exact ⟨vs[i], H, I.kept hk, rvu, q i _ hv (by rw [List.getElem?_eq_getElem h2, e3])⟩
theorem cr_maxTK {K : PySem.W.Frag} (h : X.K = K) (hc : X.calm = true) (hu : X.A.units + 64 < cLine) : CallR X (.builtin "max") (rMaxT α K) := by subst h; exact cr_maxT hc hu
end
end Y

/-! YSort: sorted of a set of ints, of any number of members up to 4000. -/
namespace Y
open PySem PySem.Spec PyProof.Rows L2
section
variable {P : Program} {w : World} {A : Around} {E : Value → Shared → Prop} {s : Shared} {a : Addr}
theorem sorted_setA {S : Int → Bool} {n : Nat} {Q : Value → Shared → Prop} (R : SetR w s.heap a S n) (hh : A.handled = none) (hn : n ≤ 4000)
    (done : ∀ s' p (its : List Value) (c : Nat) (ks : List Int), (∀ b o, s.heap.get? b = some o → s'.heap.get? b = some o) → s'.gens = s.gens → s'.os = s.os → s.heap.objs.size ≤ p → s'.heap.get? p = some (seqObj "list" its.toArray c) → IntsAre its ks → ks.Pairwise (· < ·) →
      (∀ k, k ∈ ks ↔ S k = true) → ks.length = n → Q (.ref p) s') : wpAny (model P w) A (call (.builtin "sorted") [.ref a]) Q E s := by
  obtain ⟨o, es, ep, t, ho, hex, hd, g, nd, hm, hb, hf, en, hr, hl⟩ := R
  refine Calls.call_function_entry PyProof.Rows.kind_sorted PyProof.Rows.plain_sorted PyProof.Rows.entry_sorted (PyProof.Rows.args_sorted1 _) ?_
  unfold Builtin.«sorted»
  refine wpAny_bind (m := checkCount "sorted" 1 1 _) (wpAny_pure (wpAny_bind (collect_set (A := A.in1) hh ⟨o, ho, hex.1, hd⟩ hf hb hr hl fun s1 vs k1 hz g1 o1 pm => ?_)))
  have nv : vs.length = n := by
    rw [pm.length_eq, List.length_map, Array.length_toList]
    exact en
  have hS : IntsAre vs (vs.map Builtin.Re.reRawOf) := ints_of vs fun v hv => by
    obtain ⟨e, he, q⟩ := List.mem_map.mp (pm.mem_iff.mp hv)
    obtain ⟨k, tk, h1, _⟩ := g e he
    exact ⟨k, tk, q.symm.trans h1⟩
  have pk : (vs.map Builtin.Re.reRawOf).Perm (es.toList.map keyOf) := by
    have := pm.map Builtin.Re.reRawOf
    rwa [List.map_map] at this
  refine wpAny_bind (wpAny_newList ?_ (by rw [nv, sizeLine_eq]; omega))
  have hoL : (s1.heap.push (seqObj "list" vs.toArray 0)).get? s1.heap.objs.size = some (seqObj "list" vs.toArray 0) := Heap.get?_push_size _ rfl
  refine wpAny_bind (wpAny_holding (wpAny_call_entry PyProof.Rows.slot_list_sort ⟨_, hoL, rfl⟩ PyProof.Rows.entry_list_sort
    (SrtO.list_sort_ord (s := { s1 with heap := s1.heap.push (seqObj "list" vs.toArray 0) }) SrtO.swo_int hoL (by rw [nv, sizeLine_eq]; omega) (fun h2 => SrtO.ints_sortable hS h2) fun out q1 q2 => ⟨_, rfl, ?_⟩) (PyProof.Rows.args_list_sort _)))
  obtain ⟨r1, r2, r3⟩ := SrtO.ints_out hS q1 q2
  obtain ⟨c, hc⟩ := PyProof.Rows.sortedHeap_at (vs := vs) (out := out.toArray) hoL
  have pn : (out.map SrtO.iv).Perm (es.toList.map keyOf) := r2.trans pk
  refine wpAny_pure ⟨_, rfl, done _ s1.heap.objs.size out c (out.map SrtO.iv) (fun b u e => ?_) g1 o1 hz hc r1 (lt_of_le_nodup _ r3 (pn.nodup_iff.mpr nd)) (fun k => by rw [pn.mem_iff, ← hm k]) ?_⟩
  · have q := k1 b u e
    have lt := Heap.lt_size q
    refine (PyProof.Rows.sortedHeap_old (Nat.ne_of_lt lt) (by rw [size_push']; exact Nat.lt_succ_of_lt lt)).trans ?_
    exact Heap.get?_push_of_some _ q
  · rw [pn.length_eq, List.length_map, Array.length_toList]
    exact en
end
section
variable {X : Cx}
def rSortedSetA (w : World) : List V → Hp → VK → Prop := fun vs H Q => ∃ (a : Addr) (S : Int → Bool) (n : Nat), vs = [V.ref a] ∧ H a = some (SetO w a S n) ∧ n ≤ 4000 ∧
  ∀ (ns : List Int) (p : Addr), ns.Pairwise (· < ·) → (∀ k : Int, k ∈ ns ↔ S k = true) → ns.length = n → H p = none → Q (.ref p) (upd H p (.lst (ns.map V.int)))
theorem cr_sortedSetA (hc : X.calm = true) : CallR X (.builtin "sorted") (rSortedSetA X.w) := by
  intro pins s σ H vs us Q I r h
  obtain ⟨a, S, n, rfl, ha, hn, q⟩ := h
  have R := setO_get I ha
  rw [Vals.ref1 r]
  refine sorted_setA R (I.ok.hd hc) hn fun s' p its c ks k g o hp hg hi hs hm hl => ?_
  have few : (ks.map V.int).length ≤ sizeLine := by rw [List.length_map, hl, sizeLine_eq]; omega
  have np : H p = none := I.hok.fresh hp
  have J : Inv X pins σ (upd H p (.lst (ks.map V.int))) { s with heap := s'.heap, gens := s'.gens, drawn := s'.drawn, toks := s'.toks } :=
    I.call (ch := []) (Un.laid k hp np) (I.hok.laid k hp ⟨few, its, c, vals_of_ints hi, hg⟩) (by rw [g]; exact I.bare) (fun _ z => nomatch z)
  obtain ⟨hh, gg, d, t, os⟩ := s'
  obtain rfl : os = s.os := o
  exact ⟨.ref p, _, J, rfl, q ks p hs hm hl np⟩
theorem cr_sortedSetAK {w : World} (h : X.w = w) (hc : X.calm = true) : CallR X (.builtin "sorted") (rSortedSetA w) := by subst h; exact cr_sortedSetA hc
end
end Y

/-! YComp: name = {k: v for ..} on one line, the name a local. -/
namespace Y
open PySem PySem.Spec PyProof.Rows L2
section
variable {X : Cx}
theorem sw_trueD {kx vx : Expr} {gs : List Comprehension} {scope : Scope} {pos py : Pos} {y : Str} {l : Nat} {env : Env} (h1 : env.scope.kind = .function) (h2 : env.scope.names.lookup y = some .local) (h3 : (py.line == pos.line) = true)
    (h4 : (scope.names.any fun (n, k) => n == y && (k == .local || k == .cell)) = false) : swapsWith (.DictComp kx vx gs scope pos) (some (.Name y py)) l env = pure true := by
  have e1 : env.kindOf y = some .local := h2
  have e2 : env.blockKind = .function := by unfold Env.blockKind; rw [h1]; rfl
  unfold swapsWith
  simp only [e2, e1, h4, Expr.pos, h3]
  rfl
abbrev Blk (X : Cx) (scope : Scope) (s : Shared) (H : Hp) (C : Addr) (cl : List (Str × Addr)) (fp : List Addr) : Cx := X.blk s H scope (compEnvC scope cl C X.env) fp
theorem ps_setDc {i : Nat} {y : Str} {py : Pos} {kx vx tg iter : Expr} {ifs : List Expr} {scope : Scope} {own : List (Str × Nat)} {pos spos : Pos} {wi : TI} {g : TG} {tt : TT} {tk tv : TE} (hc : X.calm = true) (hN : X.N.Nodup) (hy : X.N[i]? = some y) (loc : X.env.scope.names.lookup y = some .local)
    (sw : swapsWith (.DictComp kx vx [⟨tg, iter, ifs, 0⟩] scope pos) (some (.Name y py)) spos.line X.env = pure true) (hi : PI X tg iter wi) (ok : BlkOk X.N X.env.scope scope own) (hg : ∀ s H C cl fp, PG (Blk X scope s H C cl fp) tg g) (ht : ∀ s H C cl fp, PTs (Blk X scope s H C cl fp) ifs tt)
    (hk : ∀ s H C cl fp, PE (Blk X scope s H C cl fp) kx tk) (hv : ∀ s H C cl fp, PE (Blk X scope s H C cl fp) vx tv) (hs : ∀ x, foldedSetIterable iter X.env x = pure x := by intro _; rfl) :
    PS X (.Assign [.Name y py] (.DictComp kx vx [⟨tg, iter, ifs, 0⟩] scope pos) spos) (tAsg (tDc wi g tt tk tv (own.map (·.2))) (gName i)) := by
  constructor
  intro pins s σ H D I h
  rw [exec_Assign_Name_used _ _ _ _ sw]
  refine wpAny_bind (wpAny_standAt (wpAny_bind ?_))
  show wpAny _ X.A (do let _ ← comprehension (.DictComp kx vx [⟨tg, iter, ifs, 0⟩] scope pos) scope X.env (firstIterPos [⟨tg, iter, ifs, 0⟩] pos) newDict false (eval iter X.env) (some (assign (.Name y py) X.env))) _ _ s
  have h : tDc wi g tt tk tv (own.map (·.2)) σ H (fun x H1 => gName i x σ H1 D.nx) := h
  refine wpAny_bind (thn (dc_core (Qf := fun _ s' => SP X pins D .next s') hc hN I hi ok hg ht hk hv hs h fun L C s1 m H1 I1 q hn f => ?_) fun _ _ z => wpAny_pure (wpAny_pure z))
  show wpAny _ _ (assign (.Name y py) X.env (.ref L)) _ _ _
  refine wpAny_assign_Name (store_ok2 (v := V.ref L) I1 hN hy (.inl loc) rfl (fun s2 I2 ⟨a, sb, ha⟩ => ?_) (.inr loc))
  obtain ⟨f0, f1, f2, f3, f4, f5⟩ := f
  have ne : C ≠ a := ha.elim (fun z => by rw [z]; exact f1) fun z e => f4 y a z e.symm
  exact ⟨m, hn.sameBut sb ne, fun h3 sb3 => ⟨_, H1, I2.turned (t' := s2.toks) (fun b o hb e => (sb3.2 b hb).trans e) f0 f1 f3 f4 f5, q⟩⟩
end
end Y

/-! YItems: sorted(d.items()) of a dict over ints, whatever it holds. -/
namespace Y
open PySem PySem.Spec PyProof.Rows L2
/-- a tuple of an int and something -/
def IR (h : Heap) (v : Value) (i : Int) (u : Value) : Prop := ∃ a o t n, v = .ref a ∧ h.get? a = some o ∧ o.cls = .type "tuple" ∧ o.data = .seq #[.int i t, u] n
theorem IR.keeps {h h' : Heap} {v u : Value} {i : Int} (p : IR h v i u) (k : ∀ b o, h.get? b = some o → o.cls = .type "tuple" → h'.get? b = some o) : IR h' v i u := by
  obtain ⟨a, o, t, n, e, ho, hc, hd⟩ := p
  exact ⟨a, o, t, n, e, k _ _ ho hc, hc, hd⟩
def intIn : Value → Int
  | .int i _ => i
  | _ => 0
def refIn : Value → Addr
  | .ref a => a
  | _ => 0
def headIn : Data → Value
  | .seq its _ => its.getD 0 .none
  | _ => .none
def rowKey (h : Heap) (v : Value) : Int := match h.get? (refIn v) with
  | some o => intIn (headIn o.data)
  | none => 0
theorem IR.key {h : Heap} {v u : Value} {i : Int} (p : IR h v i u) : rowKey h v = i := by
  obtain ⟨a, o, t, n, e, ho, hc, hd⟩ := p
  unfold rowKey
  rw [e]
  show (match h.get? a with | some o => intIn (headIn o.data) | none => 0) = i
  rw [ho]
  show intIn (headIn o.data) = i
  rw [hd]
  rfl
section
variable {prog : Program} {w : World} {A : Around} {s : Shared}
open SrtO Srt in
theorem ir_cmp {vs : List Value} {κ : Value → Int} (hp : ∀ v ∈ vs, ∃ u, IR s.heap v (κ v) u) (inj : ∀ v ∈ vs, ∀ u ∈ vs, κ v = κ u → v = u) : SrtO.Cmp prog w A s (tuples' true) (fun p => p.1 ∈ vs) (lt2 fun v u => decide (κ v < κ u)) := by
  intro p q hm hm'
  show wpAny (model prog w) A (keyLt' (tuples' true) p.1 q.1) (fun r s' => s' = s ∧ r = decide (κ p.1 < κ q.1)) (fun _ _ => False) s
  by_cases hk : κ p.1 = κ q.1
  · have epq := inj _ hm _ hm' hk
    rw [← epq]
    obtain ⟨u, a, o, t, n, e, ho, hc, hd⟩ := hp _ hm
    generalize κ p.1 = x at hd ⊢
    rw [e]
    refine PySem.W.kat_lt ho hd ho hd ?_
    show PySem.W.KatLex prog w A true (decide (2 < 2)) _ [(.int x t, .int x t), (u, u)] 0 s
    refine PySem.W.kat_cons (SeqAt.EqAt.int_int x t x t prog w _ _ ?_)
    refine PySem.W.kat_go (fun _ => ?_) (fun e1 => ?_)
    · refine PySem.W.kat_yes (PySem.W.kat_cons (SeqAt.EqAt.same u prog w _ _ ?_))
      refine PySem.W.kat_go (fun _ => ?_) (fun e2 => ?_)
      · exact PySem.W.kat_yes (PySem.W.kat_nil ⟨rfl, (decide_eq_false (Int.lt_irrefl _)).symm⟩)
      · exact absurd e2 (by decide)
    · exact absurd e1 (by simp)
  · obtain ⟨u, a, o, t, n, e, ho, hc, hd⟩ := hp _ hm
    obtain ⟨u', a', o', t', n', e', ho', hc', hd'⟩ := hp _ hm'
    generalize κ p.1 = x at hd hk ⊢
    generalize κ q.1 = x' at hd' hk ⊢
    rw [e, e']
    refine PySem.W.kat_lt ho hd ho' hd' ?_
    show PySem.W.KatLex prog w A true (decide (2 < 2)) _ [(.int x t, .int x' t'), (u, u')] 0 s
    refine PySem.W.kat_cons (SeqAt.EqAt.int_int x t x' t' prog w _ _ ?_)
    refine PySem.W.kat_go (fun e1 => ?_) (fun e1 => ?_)
    · exact absurd (by simpa using e1) hk
    · exact PySem.W.kat_no (oneLt_int ⟨rfl, rfl⟩)
theorem ir_firsts {h : Heap} : ∀ {vs : List Value}, (∀ v ∈ vs, ∃ x u, IR h v x u) → ∃ fs : List Value, PySem.W.KatTups h vs fs ∧ fs.length = vs.length ∧ ∀ f ∈ fs, ∃ x t, f = Value.int x t
  | [], _ => ⟨[], PySem.W.KatTups.nil, rfl, fun _ hm => by simp at hm⟩
  | v :: vs, hp => by
    obtain ⟨fs, h1, h2, h3⟩ := ir_firsts (vs := vs) fun v' hm => hp v' (List.mem_cons_of_mem _ hm)
    obtain ⟨x, u, a, o, t, n, e, ho, hc, hd⟩ := hp v (List.mem_cons_self ..)
    subst e
    refine ⟨.int x t :: fs, PySem.W.KatTups.cons ho hc hd rfl h1, by rw [List.length_cons, List.length_cons, h2], fun f hm => ?_⟩
    rcases List.mem_cons.mp hm with rfl | hm
    · exact ⟨x, t, rfl⟩
    · exact h3 f hm
open SrtO Srt in
theorem ir_sortable {a : Addr} {vs : List Value} {κ : Value → Int} (h0 : 0 < vs.length) (hp : ∀ v ∈ vs, ∃ u, IR s.heap v (κ v) u) (inj : ∀ v ∈ vs, ∀ u ∈ vs, κ v = κ u → v = u) (ha : ∀ o, s.heap.get? a = some o → o.cls ≠ .type "tuple") :
    SortableO prog w A s a vs fun v u => decide (κ v < κ u) := by
  intro h' keep
  have hp' : ∀ v ∈ vs, ∃ u, IR h' v (κ v) u := fun v hm => by
    obtain ⟨u, p⟩ := hp v hm
    exact ⟨u, p.keeps fun b o e c => keep b o (fun z => by subst z; exact ha o e c) e⟩
  obtain ⟨fs, h1, h2, h3⟩ := ir_firsts fun v hm => by
    obtain ⟨u, p⟩ := hp' v hm
    exact ⟨_, u, p⟩
  refine ⟨tuples' true, fun Q E hq => ?_, ir_cmp hp' inj⟩
  refine PySem.W.kat_kind (T := .type "int") h1 (by omega) (fun f hm => ?_) (by rfl) ?_
  · obtain ⟨x, t, rfl⟩ := h3 f hm
    exact PySem.W.Looks.now
  · have e : (Value.type "int" != Value.type "tuple") = true := by first | decide +kernel | rfl | decide
    rw [e]
    exact hq
theorem swo_key (κ : Value → Int) : SrtO.Swo fun v u => decide (κ v < κ u) := by
  refine ⟨fun x y h => ?_, fun x y z h1 h2 => ?_⟩
  · have a := of_decide_eq_true h
    exact decide_eq_false (by omega)
  · have a := of_decide_eq_false h1
    have b := of_decide_eq_false h2
    exact decide_eq_false (by omega)
end
section
variable {X : Cx}
open L2.DX
def rItemsK : V → List V → Hp → VK → Prop := fun x xs H Q => ∃ (a : Addr) (kvs : List (Key × V)), x = .ref a ∧ xs = [] ∧ H a = some (.dK kvs) ∧ ∀ p, H p = none → Q (.ref p) (upd H p (itemsO p a))
theorem mt_itemsK : MtR X "dict.items" rItemsK := by
  intro pins s σ H x xs v us Q I rx rxs h
  obtain ⟨a, kvs, rfl, rfl, ha, q⟩ := h
  cases rx
  cases rxs
  obtain ⟨z, hd, xs', rel, o, es, ep, ho, hx, hdat, _⟩ := dk_of I.hok ha
  refine DT.callItems (es := es) (ep := ep) hd ⟨o, ho, hx, hdat⟩ ?_
  have hf : H s.heap.objs.size = none := I.hok.fresh (Nat.le_refl _)
  exact ⟨.ref s.heap.objs.size, upd H s.heap.objs.size (itemsO s.heap.objs.size a), I.laid (t' := s.toks) (fun b u e => Heap.get?_push_of_some _ e) (Nat.le_refl _) (itemsO_ok (Heap.get?_push_size _ rfl)), rfl, q _ hf⟩
theorem pairs_at {prog : Program} {w : World} {K : Type} [DecidableEq K] {knd : KeyKind prog w K} : ∀ {es : List DictEntry} {kvs : List (K × Value)}, Pairs knd es kvs → es.length = kvs.length ∧ ∀ (j : Nat) (e : DictEntry), es[j]? = some e → ∃ kv, kvs[j]? = some kv ∧ knd.is kv.1 e.key = true ∧ e.val = kv.2
  | _, _, .nil => ⟨rfl, fun j e h => by simp at h⟩
  | _, _, .cons h1 h2 t => by
    obtain ⟨l, q⟩ := pairs_at t
    refine ⟨by rw [List.length_cons, List.length_cons, l], fun j e he => ?_⟩
    cases j with
    | zero =>
      cases he
      exact ⟨_, rfl, h1, h2⟩
    | succ j => exact q j e he
def rSortItK : List V → Hp → VK → Prop := fun vs H Q => ∃ (p a : Addr) (ks : List (Int × Addr)), vs = [.ref p] ∧ H p = some (itemsO p a) ∧ H a = some (.dK (ks.map fun e => ((Sum.inl e.1 : Key), V.ref e.2))) ∧ ks.length ≤ 10000 ∧ (ks.map (·.1)).Nodup ∧
  ∀ (H' : Hp) (l : Addr) (ps : List (Addr × Int × Addr)), (∀ b o, H b = some o → H' b = some o) → (ps.map (·.2)).Perm ks → (ps.map (·.2)).Pairwise (fun e f => e.1 < f.1) → H l = none → H' l = some (.lst (ps.map fun z => V.ref z.1)) →
    (∀ z ∈ ps, H z.1 = none ∧ z.1 ≠ l ∧ H' z.1 = some (.tup [.int z.2.1, .ref z.2.2])) → Q (.ref l) H'
theorem cr_sortItK (hc : X.calm = true) : CallR X (.builtin "sorted") rSortItK := by
  intro pins s σ H xs us Q I r h
  obtain ⟨p, a, ks, rfl, hp, ha, few, ndk, q⟩ := h
  obtain rfl := Vals.ref1 r
  have view : s.heap.IsItemsView p a := (show ObjOk X.prog X.w H s.heap p (itemsO p a) from I.hok p _ hp).1
  obtain ⟨z, hd, xs', rel, o, es, ep, ho, hx, hdat, hko, hps, hnd⟩ := dk_of I.hok ha
  have l1 : (ks.map fun e => ((Sum.inl e.1 : Key), V.ref e.2)).length = xs'.length := Paired.length rel
  rw [List.length_map] at l1
  obtain ⟨l2, pat⟩ := pairs_at hps
  rw [Array.length_toList] at l2
  have hh : X.A.handled = none := I.ok.hd hc
  refine DT.sortedI (es := es) (ep := ep) hh view ⟨o, ho, hx, hdat⟩ (by rw [sizeLine_eq]; omega) fun h' tk as hk hlt hl hG => ?_
  have lak : as.length = ks.length := by omega
  have nd : as.Nodup := List.Pairwise.imp (fun h => Nat.ne_of_lt h) hG.rise
  have pr : ∀ (j : Nat) (b : Addr), as[j]? = some b → ∃ (e : Int × Addr) (t : Tok), ks[j]? = some e ∧ h'.get? b = some { cls := .type "tuple", data := .seq #[Value.int e.1 t, Value.ref e.2] } := by
    intro j b hj
    obtain ⟨en, he, hg⟩ := hG.pairs j b hj
    obtain ⟨kv, hkv, his, hval⟩ := pat j en (by simpa using he)
    obtain ⟨e0, he0, r1, r2⟩ := pget rel hkv
    rw [List.getElem?_map] at he0
    cases hkj : ks[j]? with
    | none =>
      rw [hkj] at he0
      exact nomatch (show (none : Option (Key × V)) = some e0 from he0)
    | some e =>
      rw [hkj] at he0
      have ee : ((Sum.inl e.1 : Key), V.ref e.2) = e0 := Option.some.inj he0
      rw [← ee] at r1 r2
      have r2' : kv.2 = Value.ref e.2 := r2
      rw [← r1] at his
      rcases keyIs_shape (show keyIs (Sum.inl e.1) en.key = true from his) with ⟨i, t, e1, e2⟩ | ⟨x, t, e1, _⟩
      · have e3 : e.1 = i := Sum.inl.inj e1
        refine ⟨e, t, rfl, ?_⟩
        rw [hg, e2, hval, r2', e3]
        all_goals rfl
      · cases e1
  -- the heap of the sort
  have hob : (h'.push { cls := .type "list", data := .seq (as.map Value.ref).toArray }).get? h'.objs.size = some (seqObj "list" (as.map Value.ref).toArray 0) := Heap.get?_push_size _ rfl
  have kb : ∀ b o, s.heap.get? b = some o → (h'.push { cls := .type "list", data := .seq (as.map Value.ref).toArray }).get? b = some o := fun b o e => Heap.get?_push_of_some _ (hk b o e)
  have ne0 : ∀ b o, h'.get? b = some o → b ≠ h'.objs.size := fun b o e => Nat.ne_of_lt (Heap.lt_size e)
  generalize hh2 : h'.push { cls := .type "list", data := .seq (as.map Value.ref).toArray } = h2 at hob kb ⊢
  have ka : ∀ b o, h'.get? b = some o → h2.get? b = some o := fun b o e => by rw [← hh2]; exact Heap.get?_push_of_some _ e
  have pin : ∀ (j : Nat) (b : Addr) (e : Int × Addr), as[j]? = some b → ks[j]? = some e → IR h2 (.ref b) e.1 (.ref e.2) := by
    intro j b e hj he
    obtain ⟨e', t, he', hg⟩ := pr j b hj
    have ee : e' = e := Option.some.inj (he'.symm.trans he)
    rw [ee] at hg
    exact ⟨b, _, t, 0, rfl, ka _ _ hg, rfl, rfl⟩
  have at_ : ∀ v ∈ as.map Value.ref, ∃ (j : Nat) (b : Addr) (e : Int × Addr), v = .ref b ∧ as[j]? = some b ∧ ks[j]? = some e ∧ rowKey h2 v = e.1 := by
    intro v hv'
    obtain ⟨b, hb, rfl⟩ := List.mem_map.mp hv'
    obtain ⟨j, hj⟩ := List.mem_iff_getElem?.mp hb
    obtain ⟨e, _, he, _⟩ := pr j b hj
    exact ⟨j, b, e, rfl, hj, he, (pin j b e hj he).key⟩
  have hp' : ∀ v ∈ as.map Value.ref, ∃ u, IR h2 v (rowKey h2 v) u := fun v hv => by
    obtain ⟨j, b, e, rfl, hj, he, hk'⟩ := at_ v hv
    rw [hk']
    exact ⟨_, pin j b e hj he⟩
  have inj : ∀ v ∈ as.map Value.ref, ∀ u ∈ as.map Value.ref, rowKey h2 v = rowKey h2 u → v = u := fun v hv u hu e => by
    obtain ⟨j, b, e1, rfl, hj, he, hk1⟩ := at_ v hv
    obtain ⟨j2, b2, e2, rfl, hj2, he2, hk2⟩ := at_ u hu
    have ek : e1.1 = e2.1 := hk1.symm.trans (e.trans hk2)
    have m1 : (ks.map (·.1))[j]? = some e1.1 := by rw [List.getElem?_map, he]; rfl
    have m2 : (ks.map (·.1))[j2]? = some e1.1 := by rw [List.getElem?_map, he2, ek]; rfl
    have ej : j = j2 := (List.getElem?_inj (List.getElem?_eq_some_iff.mp m1).1 ndk).mp (m1.trans m2.symm)
    subst ej
    rw [hj] at hj2
    rw [Option.some.inj hj2]
  refine wpAny_call_entry PyProof.Rows.slot_list_sort ⟨_, hob, rfl⟩ PyProof.Rows.entry_list_sort
    (SrtO.list_sort_ord (s := { s with heap := h2, toks := tk }) (swo_key (rowKey h2)) hob (by rw [List.length_map, sizeLine_eq]; omega) (fun hl2 => ir_sortable (s := { s with heap := h2, toks := tk }) (by omega) hp' inj fun o e => by
      have e' : some o = some (seqObj "list" (as.map Value.ref).toArray 0) := e.symm.trans hob
      cases e'
      intro c
      exact absurd (Value.type.inj c) (by decide)) fun out o1 o2 => ⟨.none, rfl, ?_⟩) (PyProof.Rows.args_list_sort _)
  show EP X pins σ Q (.ref h'.objs.size) { s with heap := sortedHeap h2 h'.objs.size (as.map Value.ref) out.toArray, toks := tk }
  have e0 : (as.zip ks).map (fun z : Addr × Int × Addr => Value.ref z.1) = as.map Value.ref := by
    have : (as.zip ks).map (fun z : Addr × Int × Addr => Value.ref z.1) = ((as.zip ks).map Prod.fst).map Value.ref := by rw [List.map_map]; rfl
    rw [this, List.map_fst_zip (by omega)]
  obtain ⟨zs, pz, ez⟩ := perm_lift (fun z : Addr × Int × Addr => Value.ref z.1) o2.perm (as.zip ks) e0
  have idx : ∀ z ∈ zs, ∃ j : Nat, as[j]? = some z.1 ∧ ks[j]? = some z.2 := by
    intro z' hz'
    obtain ⟨j, hj⟩ := List.mem_iff_getElem?.mp (pz.mem_iff.mp hz')
    exact ⟨j, List.getElem?_zip_eq_some.mp hj⟩
  have hperm : (zs.map (·.2)).Perm ks := by
    have e := pz.map (·.2)
    have m2 : (as.zip ks).map (·.2) = ks := List.map_snd_zip (by omega)
    rw [m2] at e
    exact e
  have hsort : (zs.map (·.2)).Pairwise (fun e f => e.1 < f.1) := by
    have le : ((zs.map (·.2)).map (·.1)).Pairwise (· ≤ ·) := by
      rw [List.map_map, List.pairwise_map]
      have o1 : (zs.map fun z : Addr × Int × Addr => Value.ref z.1).Pairwise fun x y => decide (rowKey h2 y < rowKey h2 x) = false := by rw [ez]; exact o1
      rw [List.pairwise_map] at o1
      refine List.Pairwise.imp_of_mem (fun {x y} hx hy h => ?_) o1
      obtain ⟨j, j1, j2⟩ := idx x hx
      obtain ⟨i, i1, i2⟩ := idx y hy
      rw [(pin j _ _ j1 j2).key, (pin i _ _ i1 i2).key] at h
      have := of_decide_eq_false h
      show x.2.1 ≤ y.2.1
      omega
    have ndz : ((zs.map (·.2)).map (·.1)).Nodup := (hperm.map (·.1)).nodup_iff.mpr ndk
    have := lt_of_le_nodup _ le ndz
    rw [List.pairwise_map] at this
    exact this
  -- behind the sort
  have kF : ∀ b o, b ≠ h'.objs.size → h2.get? b = some o → (sortedHeap h2 h'.objs.size (as.map Value.ref) out.toArray).get? b = some o := fun b o hb e => (PyProof.Rows.sortedHeap_old hb (Heap.lt_size e)).trans e
  have kS : ∀ b o, s.heap.get? b = some o → (sortedHeap h2 h'.objs.size (as.map Value.ref) out.toArray).get? b = some o := fun b o e => kF b o (ne0 _ _ (hk b o e)) (kb b o e)
  obtain ⟨eF, heF⟩ := PyProof.Rows.sortedHeap_at (vs := as.map Value.ref) (out := out.toArray) hob
  have I1 : Inv X pins σ H { s with heap := sortedHeap h2 h'.objs.size (as.map Value.ref) out.toArray, toks := tk } := I.kept (t' := tk) kS
  have hn0 : H h'.objs.size = none := I.hok.fresh (Nat.le_of_lt hlt)
  have hlen : (zs.map fun z => V.ref z.1).length ≤ sizeLine := by
    have e := hperm.length_eq
    rw [List.length_map] at e
    rw [List.length_map, sizeLine_eq]
    omega
  have rv : Vals (zs.map fun z => V.ref z.1) out := by
    rw [← ez]
    exact vals_maps (fun z : Addr × Int × Addr => V.ref z.1) (fun z => Value.ref z.1) zs fun _ _ => rfl
  have I2 : Inv X pins σ (upd H h'.objs.size (.lst (zs.map fun z => V.ref z.1))) { s with heap := sortedHeap h2 h'.objs.size (as.map Value.ref) out.toArray, toks := tk } :=
    I1.take (h' := sortedHeap h2 h'.objs.size (as.map Value.ref) out.toArray) (t' := tk) (fun b ob _ e => e) (I.fpOk (Nat.le_of_lt hlt) hn0) ⟨hlen, out, eF, rv, heF⟩
  obtain ⟨H2, I3, g, qt⟩ := takeT (P := fun b vs => ∃ (j : Nat) (e : Int × Addr), as[j]? = some b ∧ ks[j]? = some e ∧ vs = [V.int e.1, .ref e.2]) I as _ I2 nd fun b hb => by
    obtain ⟨j, hj⟩ := List.mem_iff_getElem?.mp hb
    obtain ⟨e, t, he, hg⟩ := pr j b hj
    have hbl : s.heap.objs.size ≤ b := Nat.le_of_lt (hG.above b hb)
    refine ⟨hbl, ?_, [V.int e.1, .ref e.2], ⟨j, e, hj, he, rfl⟩, fun H3 => ⟨(by rw [sizeLine_eq]; show 2 ≤ 16777216; omega), [Value.int e.1 t, Value.ref e.2], .cons ⟨t, rfl⟩ (.cons rfl .nil), ⟨_, kF _ _ (ne0 _ _ hg) (ka _ _ hg), rfl, 0, rfl⟩⟩⟩
    rw [upd_ne (ne0 _ _ hg)]
    exact I.hok.fresh hbl
  have gr : ∀ b o, H b = some o → H2 b = some o := fun b o e => g b o (by rw [upd_ne (ne_of_none e hn0)]; exact e)
  refine ⟨.ref h'.objs.size, H2, I3, rfl, q H2 h'.objs.size zs gr hperm hsort hn0 (g _ _ upd_same) fun z' hz' => ?_⟩
  obtain ⟨i, i1, i2⟩ := idx z' hz'
  obtain ⟨vs, ⟨j, e, j1, j2, ev⟩, hH⟩ := qt z'.1 (List.mem_of_getElem? i1)
  have eij : i = j := (List.getElem?_inj (List.getElem?_eq_some_iff.mp i1).1 nd).mp (i1.trans j1.symm)
  subst eij
  have ee : e = z'.2 := Option.some.inj (j2.symm.trans i2)
  rw [ev, ee] at hH
  obtain ⟨_, _, _, hg⟩ := pr i z'.1 i1
  exact ⟨I.hok.fresh (Nat.le_of_lt (hG.above _ (List.mem_of_getElem? i1))), ne0 _ _ hg, hH⟩
end
end Y

/-! YKey: sorted(xs, key=f), f a def that tells an int of each item and makes nothing. -/
namespace Y
open PySem PySem.Spec PyProof.Rows L2
section
variable {X : Cx} {f : Addr} {fd : FuncData} {k : Nat} {ps : List Str} {sp : Sp}
/-- what the key's def tells of an item -/
def Tells (sp : Sp) (H : Hp) (x : V) (i : Int) : Prop := sp [x] H (fun v H' => v = .int i ∧ H' = H) E0
def rSortF (K : PySem.W.Frag) (f : Addr) (sp : Sp) : List V → List V → Hp → VK → Prop := fun vs zs H Q => ∃ (a : Addr) (xs : List V) (κ : V → Int), vs = [V.ref a] ∧ zs = [.ref f] ∧ SqL K H a xs ∧ xs.length < 64 ∧ (∀ x ∈ xs, Tells sp H x (κ x)) ∧
  ∀ (ys : List V) (p : Addr), ys.Perm xs → ys.Pairwise (fun x y => κ x ≤ κ y) → H p = none → Q (.ref p) (upd H p (.lst ys))
/-- one call of the key's def -/
theorem key_turn {pins : List (Addr × Obj)} {σ : L2.St} {H : Hp} {s : Shared} {x : V} {v : Value} {i : Int} (F : FnOk X.prog X.w X.K X.mg X.base CX0 k f fd ps sp) (hb : Binds X.K fd ps []) (hr : Room k X.A.in1.in1) (I : Inv X pins σ H s) (r : RelV x v) (h : Tells sp H x i) :
    wpAny (model X.prog X.w) X.A.in1.in1 (call (.ref f) [v]) (fun u s' => (∃ t, u = Value.int i t) ∧ Inv X pins σ H s') (fun _ _ => False) s := by
  have hl : [v].length = ps.length := F.len _ _ _ _ h
  refine wpAny_call (codeAny_mono (F.run X.A.in1.in1 X.stack s H ⟨[v], []⟩ [v] [x] _ E0 hr I.env0.in1.in1 (by simpa using hb s [v] I.kIn hl) (.cons r .nil) h) fun r s' hq => ?_)
  cases r with
  | error e => exact False.elim hq
  | ok fl =>
    cases fl with
    | ret u =>
      obtain ⟨v', H', I', rv, e1, e2⟩ := I.after hq
      subst e1
      subst e2
      exact ⟨rv, I'⟩
    | next => exact False.elim hq
    | brk => exact False.elim hq
    | cont => exact False.elim hq
variable {pins : List (Addr × Obj)} {σ : L2.St} {H : Hp} {s : Shared} {A : Around} {E : Value → Shared → Prop} {a kS : Addr} {vs : List Value} {kz : List Int} {keys : Array Value} {e e1 : Nat} {P : PySem.Fin → Shared → Prop}
theorem Inv.but {it : Addr} {h' : Heap} (I : Inv X pins σ H s) (fp : FpOk X pins H it) (hs : Heap.SameBut it s.heap h') : Inv X pins σ H { s with heap := h' } :=
  I.turned (t' := s.toks) (fun b o hb e => (hs.2 b hb).trans e) fp.1 fp.2.1 fp.2.2.2.1 fp.2.2.2.2.1 fp.2.2.2.2.2
theorem key_tail {st : SortSt} (I : Inv X pins σ H s) (fk : FpOk X pins H kS) (fa : FpOk X pins H a) (nk : s.heap.get? kS = some (seqObj "list" keys e)) (na : s.heap.get? a = some (seqObj "list" #[] e1)) (hka : kS ≠ a)
    (hk : IntsAre keys.toList kz) (hlen : kz.length = vs.length) (h64 : vs.length < 64) (hp : (arrOf st).Perm (keys.zip vs.toArray)) (hs : SortedTo (arrOf st) (arrOf st).size) (hfl : failedOf st = none)
    (h : ∀ h' out c, Inv X pins σ H { s with heap := h' } → h'.get? a = some (seqObj "list" out c) → KskOut false kz vs out.toList → P (.done (.ret .none)) { s with heap := h' }) :
    wpAny (model X.prog X.w) A (ksk_tail a false e1 (.ref kS) st) P E s := by
  have hsz : keys.size = vs.length := by
    have h1 := hk.length
    rw [Array.length_toList] at h1
    omega
  have hsz2 : (arrOf st).size = vs.length := by rw [hp.size_eq, Array.size_zip, hsz, List.size_toArray, Nat.min_self]
  have hout : ((arrOf st).map (·.2)).size = vs.length := by
    rw [Array.size_map]; exact hsz2
  have s1 := Heap.SameBut.update s.heap kS (Obj.mapSeq fun _ => (#[] : Array Value))
  have na1 : (s.heap.update kS (Obj.mapSeq fun _ => (#[] : Array Value))).get? a = some (seqObj "list" #[] e1) := (s1.2 a hka.symm).trans na
  have s2 := Heap.SameBut.update (s.heap.update kS (Obj.mapSeq fun _ => (#[] : Array Value))) a (Obj.mapSeq fun _ => (arrOf st).map (·.2))
  obtain ⟨c2, hc2⟩ : ∃ c2, ((s.heap.update kS (Obj.mapSeq fun _ => (#[] : Array Value))).update a (Obj.mapSeq fun _ => (arrOf st).map (·.2))).get? a = some (seqObj "list" ((arrOf st).map (·.2)) c2) := ⟨_, get?_update_seq na1 fun _ => (arrOf st).map (·.2)⟩
  have I1 := Inv.but I fk s1
  have I2 := Inv.but (s := { s with heap := s.heap.update kS (Obj.mapSeq fun _ => (#[] : Array Value)) }) I1 fa s2
  have ko := ksk_out (b := false) hk hp hs
  simp only [Bool.false_eq_true, if_false] at ko
  unfold ksk_tail
  try dsimp only
  refine wpAny_bind (listUpdate_at nk rfl ?_ (by rw [hsz, sizeLine_eq]; omega) (Nat.zero_le _))
  refine wpAny_bind (wpAny_letGo ?_)
  refine wpAny_bind (seqEpoch_at na1 rfl ?_)
  refine wpAny_bind (listUpdate_at na1 rfl ?_ (Nat.zero_le _) (Nat.le_trans (Nat.le_of_eq (by simpa using hout)) (by rw [sizeLine_eq]; omega)))
  rw [hfl]
  simp only [bne_self_eq_false, Bool.false_eq_true, if_false]
  exact wpAny_pure (h _ _ c2 I2 hc2 ko)
theorem key_end (I : Inv X pins σ H s) (fk : FpOk X pins H kS) (fa : FpOk X pins H a) (nk : s.heap.get? kS = some (seqObj "list" keys e)) (na : s.heap.get? a = some (seqObj "list" #[] e1)) (hka : kS ≠ a)
    (hk : IntsAre keys.toList kz) (hlen : kz.length = vs.length) (h64 : vs.length < 64)
    (h : ∀ h' out c, Inv X pins σ H { s with heap := h' } → h'.get? a = some (seqObj "list" out c) → KskOut false kz vs out.toList → P (.done (.ret .none)) { s with heap := h' }) :
    wpAny (model X.prog X.w) A (ksk_end a false vs.toArray e1 (.ref kS) keys) P E s := by
  have hsz : keys.size = vs.length := by
    have h1 := hk.length
    rw [Array.length_toList] at h1
    omega
  have hzs : (keys.zip vs.toArray).size = vs.length := by rw [Array.size_zip, hsz, List.size_toArray, Nat.min_self]
  unfold ksk_end
  try dsimp only
  simp only [Bool.false_eq_true, if_false]
  by_cases h2 : vs.toArray.size < 2
  · rw [if_pos h2, if_pos h2]
    refine wpAny_bind (wpAny_pure ?_)
    rw [StateT.run_pure]
    refine wpAny_bind (wpAny_pure ?_)
    try dsimp only
    refine key_tail (st := SortSt.mk' general' (keys.zip vs.toArray) #[] 7 none) I fk fa nk na hka hk hlen h64 (Array.Perm.refl _) ?_ rfl h
    intro i j hij hj
    have hj2 : j < (keys.zip vs.toArray).size := hj
    rw [hzs] at hj2
    rw [List.size_toArray] at h2
    have : i = j := by omega
    subst this
    exact Int.le_refl _
  · rw [if_neg h2, if_neg h2]
    rw [List.size_toArray] at h2
    rw [ksk_kind hk (by rw [hsz]; omega)]
    refine wpAny_bind (wpAny_pure ?_)
    refine wpAny_bind (wpAny_mono (wpS_sortRuns (a₀ := keys.zip vs.toArray) (st := SortSt.mk' oneType' (keys.zip vs.toArray) #[] 7 none)
      (Q := fun _ st' => (arrOf st').Perm (keys.zip vs.toArray) ∧ failedOf st' = none ∧ SortedTo (arrOf st') (keys.zip vs.toArray).size)
      (ksk_intKeys hk) ⟨Array.Perm.refl _, rfl, rfl, rfl⟩ (by rw [hzs]; omega) (by rw [hzs]; exact h64) fun st' a1 a2 a3 => ⟨a1, a2, a3⟩) ?_ fun _ _ e => e)
    rintro ⟨⟨⟩, st'⟩ s' ⟨rfl, hp, hf, hs⟩
    try dsimp only
    exact key_tail I fk fa nk na hka hk hlen h64 hp (by rw [hp.size_eq]; exact hs) hf h
theorem key_rest {xs : List V} {κ : V → Int} (F : FnOk X.prog X.w X.K X.mg X.base CX0 k f fd ps sp) (hb : Binds X.K fd ps []) (hr : Room k X.A.in1.in1) (I : Inv X pins σ H s) (fk : FpOk X pins H kS) (fa : FpOk X pins H a) (nk : s.heap.get? kS = some (seqObj "list" #[] 0)) (na : s.heap.get? a = some (seqObj "list" #[] e1)) (hka : kS ≠ a)
    (rv : Vals xs vs) (h64 : vs.length < 64) (tl : ∀ x ∈ xs, Tells sp H x (κ x))
    (h : ∀ s' out c, Inv X pins σ H s' → s'.heap.get? a = some (seqObj "list" out c) → KskOut false (xs.map κ) vs out.toList → P (.done (.ret .none)) s') :
    wpAny (model X.prog X.w) X.A.in1.in1 (ksk_rest a (.ref f) false vs.toArray e1 (.ref kS)) P (fun _ _ => False) s := by
  have lx : xs.length = vs.length := rv.length
  unfold ksk_rest
  refine wpAny_bind (wpAny_rule ?_)
  first
    | rw [List.forIn_toArray]
    | (rw [← Array.forIn_toList]; simp only [List.toList_toArray])
    | rw [← Array.forIn_toList]
  refine wpAny_bind (ksk_fold (fun i s' => ∃ kA e, s'.heap.get? kS = some (seqObj "list" kA e) ∧ s'.heap.get? a = some (seqObj "list" #[] e1) ∧ IntsAre kA.toList ((xs.map κ).take i) ∧ Inv X pins σ H s') vs 0 s
    ⟨#[], 0, nk, na, by simpa using IntsAre.nil, I⟩ ?step ?done)
  case step =>
    rintro j x s' hx ⟨kA, e, nk', na', hk, I'⟩
    simp only [Nat.zero_add] at hk ⊢
    have hj : j < vs.length := (List.getElem?_eq_some_iff.mp hx).1
    obtain ⟨y, hy, ry⟩ : ∃ y, xs[j]? = some y ∧ RelV y x := pd_get' rv hx
    have hz : kA.size ≤ vs.length := by
      have h1 := hk.length
      rw [Array.length_toList, List.length_take] at h1
      omega
    have I2 : Inv X ((kS, seqObj "list" kA e) :: (a, seqObj "list" #[] e1) :: pins) σ H s' := I'.pins_of fun p hp => by
      rcases List.mem_cons.mp hp with z | hp
      · rw [z]
        exact ⟨nk', fk.1, fk.2.1, fk.2.2.1, fun v c => by cases c⟩
      · rcases List.mem_cons.mp hp with z | hp
        · rw [z]
          exact ⟨na', fa.1, fa.2.1, fa.2.2.1, fun v c => by cases c⟩
        · exact I'.pin p (List.mem_append_right _ hp)
    refine wpAny_bind (wpAny_attempt (wpAny_mono (key_turn F hb hr I2 ry (tl y (List.mem_of_getElem? hy))) (fun v s'' he => ?_) fun _ _ hF => hF.elim))
    obtain ⟨⟨t2, rfl⟩, I3⟩ := he
    try dsimp only
    have nk3 := (I3.pin (kS, seqObj "list" kA e) (List.mem_append_right _ List.mem_cons_self)).1
    have na3 := (I3.pin (a, seqObj "list" #[] e1) (List.mem_append_right _ (List.mem_cons_of_mem _ List.mem_cons_self))).1
    have I4 : Inv X pins σ H s'' := I3.pins_of fun p hp => I3.pin p (List.mem_append_right _ (List.mem_cons_of_mem _ (List.mem_cons_of_mem _ hp)))
    have s1 := Heap.SameBut.update s''.heap kS (Obj.mapSeq (·.push (.int (κ y) t2)))
    obtain ⟨c2, hc2⟩ : ∃ c2, (s''.heap.update kS (Obj.mapSeq (·.push (.int (κ y) t2)))).get? kS = some (seqObj "list" (kA.push (.int (κ y) t2)) c2) := ⟨_, get?_update_seq nk3 (·.push (.int (κ y) t2))⟩
    have ek : (xs.map κ).take (j + 1) = (xs.map κ).take j ++ [κ y] := by rw [List.take_add_one, List.getElem?_map, hy]; rfl
    have ea : (kA.push (Value.int (κ y) t2)).toList = kA.toList ++ [Value.int (κ y) t2] := by simp
    refine wpAny_bind (listUpdate_at nk3 rfl ?_ (by rw [sizeLine_eq]; omega) (Nat.le_trans (Nat.le_of_eq (Array.size_push ..)) (by rw [sizeLine_eq]; omega)))
    exact wpAny_pure ⟨rfl, kA.push (.int (κ y) t2), c2, hc2, (s1.2 a hka.symm).trans na3, by rw [ea, ek]; exact ksk_snoc hk, Inv.but I4 fk s1⟩
  case done =>
    rintro s' ⟨kA, e, nk', na', hk, I'⟩
    have hk' : IntsAre kA.toList (xs.map κ) := by
      have e3 : (xs.map κ).take (0 + vs.length) = xs.map κ := List.take_of_length_le (by rw [List.length_map]; omega)
      rw [e3] at hk
      exact hk
    try dsimp only
    refine wpAny_bind (listItems_at nk' rfl ?_)
    exact key_end I' fk fa nk' na' hka hk' (by rw [List.length_map]; omega) h64 fun h' out c I5 n5 ko => h _ out c I5 n5 ko
theorem zip_rel : ∀ {xs : List V} {vs : List Value}, Vals xs vs → ∀ z ∈ xs.zip vs, RelV z.1 z.2
  | _, _, .nil, z, h => by cases h
  | _, _, .cons r t, z, h => by
    rw [List.zip_cons_cons] at h
    rcases List.mem_cons.mp h with e | h
    · rw [e]; exact r
    · exact zip_rel t z h
theorem zip_keys (κ : V → Int) : ∀ (xs : List V) (vs : List Value), (xs.zip vs).map (fun z => (κ z.1, z.2)) = (xs.map κ).zip vs
  | [], _ => rfl
  | _ :: _, [] => rfl
  | x :: xs, v :: vs => by
    rw [List.zip_cons_cons, List.map_cons, List.map_cons, List.zip_cons_cons, zip_keys κ xs vs]
/-- sorted(xs, key=f) -/
theorem cr_sortedF (F : FnOk X.prog X.w X.K X.mg X.base CX0 k f fd ps sp) (hb : Binds X.K fd ps []) (hr : Room (k + 2) X.A) : CallRK X (.builtin "sorted") [Str.ofString "key"] (rSortF X.K f sp) := by
  intro pins s σ H vs0 zs us ws Q I r rz h
  obtain ⟨l, xs, κ, rfl, rfl, hs, h64, tl, q⟩ := h
  obtain rfl := Vals.ref1 r
  obtain ⟨w1, rfl, e1⟩ := vals1 rz
  obtain rfl : w1 = Value.ref f := e1
  obtain ⟨vs, rv, hl, hz⟩ := I.list hs
  have lx : xs.length = vs.length := rv.length
  have hr2 : Room k X.A.in1.in1 := (show Room (k + 1) X.A.in1 from Room.in1 hr).in1
  refine call_function_entry_kw kind_sorted plain_sorted entry_sorted (ksk_s1 _ _) ?_
  unfold Builtin.«sorted»
  refine wpAny_bind (m := checkCount "sorted" 1 1 _) (wpAny_pure ?_)
  refine wpAny_bind (collect_list hl.isList ?_ (by rw [sizeLine_eq]; omega))
  refine wpAny_bind (wpAny_newList ?_ (by rw [sizeLine_eq]; omega))
  have hsz : ((s.heap.push (seqObj "list" #[] 0)).update s.heap.objs.size (Obj.mapSeq (· ++ vs.toArray))).objs.size = s.heap.objs.size + 1 := by
    rw [Heap.size_update, size_push']
  have hoL : (((s.heap.push (seqObj "list" #[] 0)).update s.heap.objs.size (Obj.mapSeq (· ++ vs.toArray))).push (seqObj "list" vs.toArray 0)).get? (s.heap.objs.size + 1) = some (seqObj "list" vs.toArray 0) := by
    rw [← hsz]; exact Heap.get?_push_size _ rfl
  have keep : ∀ b o, s.heap.get? b = some o → (((s.heap.push (seqObj "list" #[] 0)).update s.heap.objs.size (Obj.mapSeq (· ++ vs.toArray))).push (seqObj "list" vs.toArray 0)).get? b = some o := fun b o q => by
    have hlt : b < s.heap.objs.size := Heap.lt_size q
    rw [Heap.get?_push_ne _ _ _ (by rw [hsz]; exact Nat.ne_of_lt (Nat.lt_succ_of_lt hlt)), Heap.get?_update_ne _ _ _ _ (Nat.ne_of_lt hlt), Heap.get?_push_ne _ _ _ (Nat.ne_of_lt hlt)]
    exact q
  show wpAny _ _ _ _ _ { s with heap := ((s.heap.push (seqObj "list" #[] 0)).update s.heap.objs.size (Obj.mapSeq (· ++ vs.toArray))).push (seqObj "list" vs.toArray 0) }
  rw [hsz]
  generalize hh1 : ((s.heap.push (seqObj "list" #[] 0)).update s.heap.objs.size (Obj.mapSeq (· ++ vs.toArray))).push (seqObj "list" vs.toArray 0) = h1 at hoL keep ⊢
  generalize ha : s.heap.objs.size + 1 = a at hoL ⊢
  have fa : FpOk X pins H a := I.fpOk (by omega) (I.hok.fresh (by omega))
  refine wpAny_bind (wpAny_holding (wpAny_call_entry_kw slot_list_sort ⟨_, hoL, rfl⟩ entry_list_sort ?body (ksk_l1 _ _)))
  case body =>
    show wpAny (model X.prog X.w) X.A.in1.in1 (ksk_tree a (.ref f) false) _ _ _
    have s1 := Heap.SameBut.update h1 a (Obj.mapSeq fun _ => (#[] : Array Value))
    obtain ⟨e1, ho1⟩ : ∃ e1, (h1.update a (Obj.mapSeq fun _ => (#[] : Array Value))).get? a = some (seqObj "list" #[] e1) := ⟨_, get?_update_seq hoL fun _ => #[]⟩
    have ha1 : a < h1.objs.size := Heap.lt_size hoL
    have hkS : ((h1.update a (Obj.mapSeq fun _ => (#[] : Array Value))).push (seqObj "tuple" vs.toArray 0)).objs.size = h1.objs.size + 1 := by rw [size_push', Heap.size_update]
    have I0 : Inv X pins σ H { s with heap := h1 } := I.kept (t' := s.toks) keep
    have I1 := Inv.but I0 fa s1
    have I2 : Inv X pins σ H { s with heap := ((h1.update a (Obj.mapSeq fun _ => (#[] : Array Value))).push (seqObj "tuple" vs.toArray 0)).push (seqObj "list" #[] 0) } :=
      I1.kept (t' := s.toks) fun b u e => Heap.get?_push_of_some _ (Heap.get?_push_of_some _ e)
    have fk : FpOk X pins H (h1.objs.size + 1) := I0.fpOk (Nat.le_succ _) (I0.hok.fresh (Nat.le_succ _))
    unfold ksk_tree
    refine wpAny_bind (listItems_at hoL rfl ?_)
    refine wpAny_bind (listUpdate_at hoL rfl ?_ (by rw [List.size_toArray, sizeLine_eq]; omega) (Nat.zero_le _))
    refine wpAny_bind (seqEpoch_at ho1 rfl ?_)
    refine wpAny_bind (wpAny_newTuple ?_ (by show vs.length ≤ _; rw [sizeLine_eq]; omega))
    refine wpAny_bind (wpAny_newList ?_ (Nat.zero_le _))
    refine wpAny_holding ?_
    rw [hkS]
    refine wpAny_mono (key_rest (s := { s with heap := ((h1.update a (Obj.mapSeq fun _ => (#[] : Array Value))).push (seqObj "tuple" vs.toArray 0)).push (seqObj "list" #[] 0) }) (kS := h1.objs.size + 1) (P := fun fn s' => _) F hb hr2 I2 fk fa
      (by rw [← hkS]; exact Heap.get?_push_size _ rfl) (Heap.get?_push_of_some _ (Heap.get?_push_of_some _ ho1)) (Nat.ne_of_gt (Nat.lt_succ_of_lt ha1)) rv (by omega) tl fun s' out c I5 n5 ko => ?_) (fun _ _ z => z) fun _ _ z => z.elim
    obtain ⟨prs, k1, k2, k3⟩ := ko
    obtain ⟨zs, pz, ez⟩ := perm_lift (fun z : V × Value => (κ z.1, z.2)) k1 (xs.zip vs) (zip_keys κ xs vs)
    have hperm : (zs.map (·.1)).Perm xs := by
      have e := pz.map (·.1)
      have m2 : (xs.zip vs).map (·.1) = xs := List.map_fst_zip (by omega)
      rw [m2] at e
      exact e
    have hout : out.toList = zs.map (·.2) := by
      rw [k2, ← ez, List.map_map]
      rfl
    have hsort : (zs.map (·.1)).Pairwise (fun x y => κ x ≤ κ y) := by
      rw [← ez, List.pairwise_map] at k3
      rw [List.pairwise_map]
      exact k3.imp fun {x y} h => by simpa using h
    have rv2 : Vals (zs.map (·.1)) out.toList := by
      rw [hout]
      exact vals_maps (fun z : V × Value => z.1) (fun z => z.2) zs fun z hz => zip_rel rv z (pz.mem_iff.mp hz)
    have hlen : (zs.map (·.1)).length ≤ sizeLine := by
      rw [hperm.length_eq, sizeLine_eq]
      omega
    have I6 : Inv X pins σ (upd H a (.lst (zs.map (·.1)))) s' := Inv.take (h' := s'.heap) (t' := s'.toks) I5 (fun b ob _ e => e) fa ⟨hlen, out.toList, c, rv2, n5⟩
    exact ⟨_, rfl, wpAny_pure ⟨_, rfl, .ref a, _, I6, rfl, q _ a hperm hsort fa.1⟩⟩
/-- sorted(e, key=x), x a global def -/
def tSortF (K : PySem.W.Frag) (sp : Sp) (t : TA) : TE := fun σ H Q => ∀ f : Addr, tCKw (rSortF K f sp) t (tCons (tC (.ref f)) tNil) σ H Q
theorem pe_sortF {K : PySem.W.Frag} {x : Str} {e : Expr} {t : TA} {p xp pos kpos : Pos} (hK : X.K = K) (L : FnC X.prog X.w X.K X.mg X.base x k ps sp) (hr : Room (k + 2) X.A) (hg : Gl X "sorted") (hm : X.mg "sorted" = none) (hx : Gl X x) (ha : PA X [e] t)
    (hdx : (x == ("__debug__" : Str)) = false := by decide)
    (he : backTo pos (starEach [e] X.env) = (false, eval e X.env) :: backTo pos (starEach [] X.env) := by rfl) (hpl : (backTo pos (starEach [e] X.env)).any (·.1) = false := by rfl)
    (hall : (backToKw pos (keywordEach [⟨some (Str.ofString "key"), .Name x xp, kpos⟩] X.env)).all (·.1.isSome) = true := by rfl) (hnone : (backToKw pos (keywordEach [⟨some (Str.ofString "key"), .Name x xp, kpos⟩] X.env)).any (·.1.isNone) = false := by rfl)
    (hks : (backToKw pos (keywordEach [⟨some (Str.ofString "key"), .Name x xp, kpos⟩] X.env)).filterMap (·.1) = [Str.ofString "key"] := by rfl) :
    PE X (.Call (.Name "sorted" p) [e] [⟨some (Str.ofString "key"), .Name x xp, kpos⟩] pos) (tSortF K sp t) := by
  subst hK
  obtain ⟨f, fd, F, h1, h2, h3⟩ := L.ex
  refine ⟨fun pins s σ H Q I h => ?_⟩
  exact (pe_callBK (cr_sortedF F h3 hr) hg hm (by rfl) ha (pk_cons (pe_glob (v := V.ref f) hx h1 rfl hdx) pk_nil) (by decide +kernel) (by decide +kernel) he hpl hall hnone hks).run pins s σ H Q I (h f)
end
end Y

set_option autoImplicit false
/-! Z0: dicts whose keys are tuples (nested): the object, what is got, put. -/
namespace Z
open PySem PySem.Spec PyProof.Rows L2 Y
/-- the written part, the program, the world -/
structure Kx where
  k : PySem.W.Frag
  P : Program
  w : World
def _root_.L2.Cx.kx (X : Cx) : Kx := ⟨X.K, X.prog, X.w⟩
theorem kOf {X : Cx} {K : Kx} (h : X.kx = K) : X.K = K.k := by subst h; rfl
abbrev NK := NestedKey
/-! ### keys -/
mutual
inductive KeyAt (H : Hp) : NK → V → Prop
  | non : KeyAt H .none .non
  | int (i : Int) : KeyAt H (.num i) (.int i)
  | str (x : Str) : KeyAt H (.text x) (.str x)
  | tup {a : Addr} {vs : List V} {ks : List NK} : H a = some (.tup vs) → KeysAt H ks vs → KeyAt H (.tup ks) (.ref a)
inductive KeysAt (H : Hp) : List NK → List V → Prop
  | nil : KeysAt H [] []
  | cons {k : NK} {v : V} {ks : List NK} {vs : List V} : KeyAt H k v → KeysAt H ks vs → KeysAt H (k :: ks) (v :: vs)
end
mutual
theorem KeyAt.mono {H H' : Hp} (e : Same H H') : ∀ {k : NK} {v : V}, KeyAt H k v → KeyAt H' k v
  | _, _, .non => .non
  | _, _, .int i => .int i
  | _, _, .str x => .str x
  | _, _, .tup h r => .tup (e _ _ h) (KeysAt.mono e r)
theorem KeysAt.mono {H H' : Hp} (e : Same H H') : ∀ {k : List NK} {v : List V}, KeysAt H k v → KeysAt H' k v
  | _, _, .nil => .nil
  | _, _, .cons h r => .cons (KeyAt.mono e h) (KeysAt.mono e r)
end
section
variable {P : Program} {w : World} {H : Hp} {h : Heap}
mutual
theorem KeyAt.is (ok : HOk P w H h) : ∀ {k : NK} {v : V}, KeyAt H k v → ∀ u, RelV v u → NestedIs h k u
  | _, _, .non, u, r => by cases r; exact .none
  | _, _, .int i, u, r => by obtain ⟨t, rfl⟩ := r; exact .int i t
  | _, _, .str x, u, r => by obtain ⟨t, rfl⟩ := r; exact .text x t
  | _, _, .tup e ks, u, r => by
    cases r
    obtain ⟨_, its, rv, o, h1, h2, n, h3⟩ := ok _ _ e
    exact .tup h1 h2 h3 (by simpa using KeysAt.is ok ks its rv)
theorem KeysAt.is (ok : HOk P w H h) : ∀ {ks : List NK} {vs : List V}, KeysAt H ks vs → ∀ us, Vals vs us → NestedAll h ks us
  | _, _, .nil, us, r => by cases r; exact .nil
  | _, _, .cons k ks, us, r => by
    cases r with
    | cons r t => exact .cons (KeyAt.is ok k _ r) (KeysAt.is ok ks _ t)
end
end
/-! data as a key -/
mutual
def keyD : PyData → Option NK
  | .none => some .none
  | .int i => some (.num i)
  | .str x => some (.text x)
  | .tuple ds => match keysD ds with
    | some ks => some (.tup ks)
    | none => none
  | _ => none
def keysD : List PyData → Option (List NK)
  | [] => some []
  | d :: ds => match keyD d, keysD ds with
    | some k, some ks => some (k :: ks)
    | _, _ => none
end
/-! ### the object -/
abbrev NKV := List (NK × Addr × V)
def NRel : NKV → List (NK × Addr × Value) → Prop := Paired fun p q => p.1 = q.1 ∧ p.2.1 = q.2.1 ∧ RelV p.2.2 q.2.2
def DictN (P : Program) (w : World) (h : Heap) (a : Addr) (kvs : NKV) : Prop := kvs.length ≤ sizeLine ∧ (a == sysModules) = false ∧ ∃ xs, NRel kvs xs ∧
  ∃ o es ep, h.get? a = some o ∧ o.ExactDict ∧ o.data = .dict es ep ∧ es.toList = xs.map (entryOfKey (nestedKind P w)) ∧ (xs.map (·.1)).Nodup
def DNo (P : Program) (w : World) (a : Addr) (kvs : NKV) : HO := .ext fun h => DictN P w h a kvs
theorem dno_new {P : Program} {w : World} {H : Hp} {h : Heap} {a : Addr} {kvs : NKV} (x : DictN P w h a kvs) : ObjOk P w H h a (DNo P w a kvs) := by
  refine ⟨x, ?_, fun h1 h2 q k => ?_⟩
  · obtain ⟨_, _, _, _, o, _, _, e, _⟩ := x
    exact ⟨o, e⟩
  · obtain ⟨z, y, xs, r, o, es, ep, e, c⟩ := q
    exact ⟨z, y, xs, r, o, es, ep, k _ e, c⟩
def KeysOk (H : Hp) (kvs : NKV) : Prop := ∀ p ∈ kvs, KeyAt H p.1 (.ref p.2.1) ∧ p.1.depth ≤ 8
def lookN (kvs : NKV) (k : NK) : Option V := (kvs.find? fun p => decide (p.1 = k)).map (·.2.2)
def putN (kvs : NKV) (k : NK) (b : Addr) (v : V) : NKV := if (lookN kvs k).isSome = true then kvs.map (fun p => if p.1 = k then (p.1, p.2.1, v) else p) else kvs ++ [(k, b, v)]
section
variable {P : Program} {w : World} {H : Hp} {h : Heap} {a : Addr} {kvs : NKV}
theorem NRel.len {xs : List (NK × Addr × Value)} (r : NRel kvs xs) : kvs.length = xs.length := Paired.length r
theorem NRel.look {xs : List (NK × Addr × Value)} (r : NRel kvs xs) (k : NK) : RelO (lookN kvs k) ((atKey xs k).map (·.2)) := by
  unfold NRel at r
  induction r with
  | nil => exact True.intro
  | @cons p q ps qs h t ih =>
    obtain ⟨h1, h2, h3⟩ := h
    unfold lookN atKey at ih ⊢
    rw [List.find?_cons, List.find?_cons]
    by_cases e : p.1 = k
    · have e' : q.1 = k := h1.symm.trans e
      rw [decide_eq_true e, decide_eq_true e']
      exact h3
    · have e' : ¬ q.1 = k := fun z => e (h1.trans z)
      rw [decide_eq_false e, decide_eq_false e']
      exact ih
theorem NRel.put {xs : List (NK × Addr × Value)} (r : NRel kvs xs) (k : NK) (b : Addr) {v : V} {u : Value} (rv : RelV v u) : NRel (putN kvs k b v) (storedH xs k b u) := by
  have e : (lookN kvs k).isSome = (atKey xs k).isSome := by rw [(r.look k).isSome_eq, Option.isSome_map]
  unfold putN storedH
  rw [e]
  by_cases q : (atKey xs k).isSome = true
  · rw [if_pos q, if_pos q]
    unfold NRel at r ⊢
    clear e q
    induction r with
    | nil => exact .nil
    | @cons p x ps qs h t ih =>
      refine .cons ?_ ih
      obtain ⟨h1, h2, h3⟩ := h
      unfold putAt
      dsimp only
      by_cases z : p.1 = k
      · rw [if_pos z, if_pos (h1.symm.trans z)]
        exact ⟨h1, h2, rv⟩
      · rw [if_neg z, if_neg (fun y => z (h1.trans y))]
        exact ⟨h1, h2, h3⟩
  · rw [if_neg q, if_neg q]
    exact Paired.snoc r ⟨rfl, rfl, rv⟩
theorem putN_len (kvs : NKV) (k : NK) (b : Addr) (v : V) : (putN kvs k b v).length ≤ kvs.length + 1 := by
  unfold putN
  split
  · rw [List.length_map]; omega
  · rw [List.length_append, List.length_cons, List.length_nil]; omega
theorem keyN_is (ok : HOk P w H h) {k : NK} {b : Addr} (x : KeyAt H k (.ref b)) (d : k.depth ≤ 8) : (nestedKind P w).is h k b := ⟨KeyAt.is ok x _ rfl, d⟩
theorem dn_rd (ok : HOk P w H h) (e : Rd H a (DNo P w a kvs)) (ko : KeysOk H kvs) : kvs.length ≤ sizeLine ∧ (a == sysModules) = false ∧ ∃ xs, NRel kvs xs ∧ h.DictOfH (nestedKind P w) a xs := by
  obtain ⟨⟨z, y, xs, r, o, es, ep, e1, e2, e3, e4, e5⟩, _, _⟩ := (show ObjOk P w H h a (DNo P w a kvs) from e.ok ok)
  refine ⟨z, y, xs, r, o, es, ep, e1, e2, e3, e4, fun x hx => ?_, e5⟩
  obtain ⟨i, hi⟩ := List.getElem?_of_mem hx
  obtain ⟨p, hp, q1, q2, _⟩ := pd_get' r hi
  have := ko p (List.mem_of_getElem? hp)
  rw [q1, q2] at this
  exact keyN_is ok this.1 this.2
/-- the empty dict is of every kind -/
theorem dk_nil (ok : HOk P w H h) (e : Rd H a (.dK [])) : (a == sysModules) = false ∧ h.DictOfH (nestedKind P w) a [] := by
  obtain ⟨_, y, vs, rel, o, es, ep, h1, h2, h3, h4, h5, h6⟩ := dk_rd ok e
  cases rel
  refine ⟨y, o, es, ep, h1, h2, h3, ?_, (fun x hx => by cases hx), List.nodup_nil⟩
  generalize es.toList = l at h5 ⊢
  cases h5
  rfl
end
section
variable {P : Program} {w : World} {H : Hp} {h : Heap} {a : Addr}
theorem dn_nil (ok : HOk P w H h) (e : Rd H a (DNo P w a [])) : (a == sysModules) = false ∧ h.DictOf (mixKind P w) a [] := by
  obtain ⟨⟨_, y, xs, r, o, es, ep, e1, e2, e3, e4, e5⟩, _, _⟩ := (show ObjOk P w H h a (DNo P w a []) from e.ok ok)
  cases r
  have e6 : es = #[] := by
    cases es with
    | mk l => simp at e4; rw [e4]
  subst e6
  refine ⟨y, o, #[], ep, e1, e2, e3, fun e he => ?_, .nil, List.nodup_nil⟩
  simp at he
end
/-! ### what is got -/
/-- what the dict at a holds at the tuple y -/
def DGetN (K : Kx) (H : Hp) (a : Addr) (y : V) (r : Option V) : Prop := ∃ k b, y = .ref b ∧ KeyAt H k (.ref b) ∧ k.depth ≤ 8 ∧
  ((∃ kvs, Rd H a (DNo K.P K.w a kvs) ∧ KeysOk H kvs ∧ r = lookN kvs k) ∨ (Rd H a (.dK []) ∧ r = none))
/-- .. at an int or a text, where the dict is an empty one that held tuples -/
def DGetE (K : Kx) (H : Hp) (a : Addr) (y : V) (r : Option V) : Prop := ∃ k : Key, y = kV k ∧ Rd H a (DNo K.P K.w a []) ∧ r = none
def GetZ (K : Kx) (H : Hp) (a : Addr) (y : V) (r : Option V) : Prop := DGet H a y r ∨ DGetN K H a y r ∨ DGetE K H a y r
section
variable {X : Cx} {pins : List (Addr × Obj)} {σ : L2.St} {H : Hp} {s : Shared} {a : Addr} {y v d : V} {u r : Value} {o : Option V} {A : Around} {E : Value → Shared → Prop}
/-- the library's side of it -/
theorem DGetN.low (I : Inv X pins σ H s) (g : DGetN X.kx H a y o) (ry : RelV y u) : ∃ (k : NK) (b : Addr) (xs : List (NK × Addr × Value)), u = .ref b ∧ (nestedKind X.prog X.w).is s.heap k b ∧ (a == sysModules) = false ∧ s.heap.DictOfH (nestedKind X.prog X.w) a xs ∧ RelO o ((atKey xs k).map (·.2)) := by
  obtain ⟨k, b, rfl, hk, hd, g⟩ := g
  cases ry
  rcases g with ⟨kvs, e, ko, rfl⟩ | ⟨e, rfl⟩
  · obtain ⟨z, hs, xs, rel, dd⟩ := dn_rd I.hok e ko
    exact ⟨k, b, xs, rfl, keyN_is I.hok hk hd, hs, dd, rel.look k⟩
  · obtain ⟨hs, dd⟩ := dk_nil I.hok e
    exact ⟨k, b, [], rfl, keyN_is I.hok hk hd, hs, dd, True.intro⟩
theorem z_getItem {Q : Value → Shared → Prop} (hu : A.units + 20 < cLine) (I : Inv X pins σ H s) (g : GetZ X.kx H a y (some v)) (ry : RelV y u) (h : ∀ w' s', Inv X pins σ H s' → RelV v w' → Q w' s') : wpAny (model X.prog X.w) A (getItem (.ref a) u) Q E s := by
  rcases g with g | g | ⟨_, _, _, z⟩
  case inr.inr => cases z
  · exact d_getItem (by omega) I g ry h
  · obtain ⟨k, b, xs, rfl, hk, hs, dd, rel⟩ := g.low I ry
    obtain ⟨w', hw, rw'⟩ := RelO.some_of (v := v) (o := (atKey xs k).map (·.2)) rel
    obtain ⟨p, hp, hp2⟩ := Option.map_eq_some_iff.mp hw
    refine wpAny_getItem_heap (knd := nestedKind X.prog X.w) (show A.in1.units + 8 < cLine by show A.units + 1 + 8 < cLine; omega) hk dd hp ?_
    rw [hp2]
    exact h w' _ (I.tok _) rw'
theorem z_in {Q : Value → Shared → Prop} (hu : A.units + 20 < cLine) (I : Inv X pins σ H s) (g : GetZ X.kx H a y o) (ry : RelV y u) (h : ∀ s', Inv X pins σ H s' → Q (.bool o.isSome) s') : wpAny (model X.prog X.w) A (compareOp .In u (.ref a)) Q E s := by
  rcases g with g | g | ⟨k, rfl, e, rfl⟩
  case inr.inr =>
    obtain ⟨hs, dd⟩ := dn_nil I.hok e
    exact wpAny_in_of (kV_is ry) hs dd.mapOf (h _ (I.tok _))
  · exact d_in (by omega) I g ry h
  · obtain ⟨k, b, xs, rfl, hk, hs, dd, rel⟩ := g.low I ry
    refine wpAny_in_heap (knd := nestedKind X.prog X.w) (show A.in1.units + 8 < cLine by show A.units + 1 + 8 < cLine; omega) hk hs dd ?_
    have q := rel.isSome_eq
    rw [Option.isSome_map] at q
    rw [← q]
    exact h _ (I.tok _)
theorem z_notIn {Q : Value → Shared → Prop} (hu : A.units + 20 < cLine) (I : Inv X pins σ H s) (g : GetZ X.kx H a y o) (ry : RelV y u) (h : ∀ s', Inv X pins σ H s' → Q (.bool (!o.isSome)) s') : wpAny (model X.prog X.w) A (compareOp .NotIn u (.ref a)) Q E s := by
  rcases g with g | g | ⟨k, rfl, e, rfl⟩
  case inr.inr =>
    obtain ⟨hs, dd⟩ := dn_nil I.hok e
    exact wpAny_notIn_of (kV_is ry) hs dd.mapOf (h _ (I.tok _))
  · exact d_notIn (by omega) I g ry h
  · obtain ⟨k, b, xs, rfl, hk, hs, dd, rel⟩ := g.low I ry
    refine wpAny_notIn_heap (knd := nestedKind X.prog X.w) (show A.in1.units + 8 < cLine by show A.units + 1 + 8 < cLine; omega) hk hs dd ?_
    have q := rel.isSome_eq
    rw [Option.isSome_map] at q
    rw [← q]
    exact h _ (I.tok _)
theorem z_get1 {Q : Value → Shared → Prop} (hu : A.units + 20 < cLine) (I : Inv X pins σ H s) (g : GetZ X.kx H a y o) (ry : RelV y u) (h : ∀ w' s', Inv X pins σ H s' → RelV (o.getD .non) w' → Q w' s') : wpAny (model X.prog X.w) A (call (.builtin "dict.get") [.ref a, u]) Q E s := by
  rcases g with g | g | ⟨k, rfl, e, rfl⟩
  case inr.inr =>
    obtain ⟨hs, dd⟩ := dn_nil I.hok e
    exact call_meetsIn PySem.F.slot_dict_get dd.typeIs PySem.F.entry_dict_get (PySem.F.args_dict_get_2 _ _) (meets_dict_get (mixKind X.prog X.w) a (kV_is ry) hs) ⟨_, dd.mapOf, h _ _ (I.tok _) rfl⟩
  · exact d_get1 (by omega) I g ry h
  · obtain ⟨k, b, xs, rfl, hk, hs, dd, rel⟩ := g.low I ry
    refine call_meetsIn PySem.F.slot_dict_get dd.typeIs PySem.F.entry_dict_get (PySem.F.args_dict_get_2 _ _) (meetsH_dict_get (nestedKind X.prog X.w) a b hs) ⟨show A.in1.units + 8 < cLine by show A.units + 1 + 8 < cLine; omega, k, xs, hk, dd, h _ _ (I.tok _) ?_⟩
    exact rel.getD rfl
theorem z_get2 {Q : Value → Shared → Prop} (hu : A.units + 20 < cLine) (I : Inv X pins σ H s) (g : GetZ X.kx H a y o) (ry : RelV y u) (rd : RelV d r) (h : ∀ w' s', Inv X pins σ H s' → RelV (o.getD d) w' → Q w' s') : wpAny (model X.prog X.w) A (call (.builtin "dict.get") [.ref a, u, r]) Q E s := by
  rcases g with g | g | ⟨k, rfl, e, rfl⟩
  case inr.inr =>
    obtain ⟨hs, dd⟩ := dn_nil I.hok e
    exact call_meetsIn PySem.F.slot_dict_get dd.typeIs PySem.F.entry_dict_get (PySem.F.args_dict_get_3 _ _ _) (meets_dict_get_default (mixKind X.prog X.w) a (kV_is ry) hs r) ⟨_, dd.mapOf, h _ _ (I.tok _) rd⟩
  · exact d_get2 (by omega) I g ry rd h
  · obtain ⟨k, b, xs, rfl, hk, hs, dd, rel⟩ := g.low I ry
    refine call_meetsIn PySem.F.slot_dict_get dd.typeIs PySem.F.entry_dict_get (PySem.F.args_dict_get_3 _ _ _) (meetsH_dict_get_default (nestedKind X.prog X.w) a b hs r) ⟨show A.in1.units + 8 < cLine by show A.units + 1 + 8 < cLine; omega, k, xs, hk, dd, h _ _ (I.tok _) ?_⟩
    exact rel.getD rd
/-! ### what is put -/
/-- a dict that may be written -/
def NAt (K : Kx) (H : Hp) (a : Addr) (kvs : NKV) : Prop := (H a = some (DNo K.P K.w a kvs) ∧ KeysOk H kvs) ∨ (H a = some (.dK []) ∧ kvs = [])
def DPutN (K : Kx) (H : Hp) (a : Addr) (y v : V) (H' : Hp) : Prop := ∃ k b kvs, y = .ref b ∧ KeyAt H k (.ref b) ∧ k.depth ≤ 8 ∧ NAt K H a kvs ∧ kvs.length < sizeLine ∧ H' = upd H a (DNo K.P K.w a (putN kvs k b v))
/-- .. an int or a text, into an empty one that held tuples -/
def DPutE (K : Kx) (H : Hp) (a : Addr) (y v : V) (H' : Hp) : Prop := ∃ k : Key, y = kV k ∧ H a = some (DNo K.P K.w a []) ∧ H' = upd H a (.dK [(k, v)])
theorem NAt.low {kvs : NKV} (I : Inv X pins σ H s) (g : NAt X.kx H a kvs) : kvs.length ≤ sizeLine ∧ (a == sysModules) = false ∧ Mut (H a) ∧ ∃ xs, NRel kvs xs ∧ s.heap.DictOfH (nestedKind X.prog X.w) a xs := by
  rcases g with ⟨e, ko⟩ | ⟨e, rfl⟩
  · obtain ⟨z, hs, xs, rel, dd⟩ := dn_rd I.hok (.inl e) ko
    exact ⟨z, hs, by rw [e]; exact True.intro, xs, rel, dd⟩
  · obtain ⟨hs, dd⟩ := dk_nil I.hok (.inl e)
    exact ⟨Nat.zero_le _, hs, by rw [e]; exact True.intro, [], .nil, dd⟩
theorem dn_of {P : Program} {w : World} {h' : Heap} {kvs : NKV} {xs : List (NK × Addr × Value)} (z : kvs.length ≤ sizeLine) (hd : (a == sysModules) = false) (rel : NRel kvs xs) (dd : h'.DictOfH (nestedKind P w) a xs) : DictN P w h' a kvs := by
  obtain ⟨o, es, ep, h1, h2, h3, h4, _, h5⟩ := dd
  exact ⟨z, hd, xs, rel, o, es, ep, h1, h2, h3, h4, h5⟩
theorem z_setItem {H' : Hp} {Q : Unit → Shared → Prop} (hu : A.units + 20 < cLine) (I : Inv X pins σ H s) (g : DPut H a y v H' ∨ DPutN X.kx H a y v H' ∨ DPutE X.kx H a y v H') (ry : RelV y u) (rv : RelV v r) (h : ∀ s', Inv X pins σ H' s' → Q () s') : wpAny (model X.prog X.w) A (setItem (.ref a) u r) Q E s := by
  rcases g with g | ⟨k, b, kvs, rfl, hk, hd, na, hl, rfl⟩ | ⟨k, rfl, e, rfl⟩
  case inr.inr =>
    obtain ⟨hs, dd⟩ := dn_nil I.hok (.inl e)
    refine wpAny_setItem_pairs (hsz := Nat.zero_le _) (kV_is ry) dd fun h' dd' hsb => h _ ?_
    have he : ∃ q, h'.get? a = some q := let ⟨q, _, _, hq, _⟩ := dd'; ⟨q, hq⟩
    refine d_write I (by rw [e]; exact True.intro) hsb he (dk_new (by rw [sizeLine_eq]; show 1 ≤ _; omega) hs (vs := [(k, r)]) (.cons ⟨rfl, rv⟩ .nil) ?_)
    exact dd'
  · exact d_setItem (by omega) I g ry rv h
  · cases ry
    obtain ⟨z, hs, mu, xs, rel, dd⟩ := na.low I
    have hz : xs.length ≤ sizeLine := by rw [← rel.len]; exact z
    refine wpAny_setItem_heap (knd := nestedKind X.prog X.w) (hsz := hz) (show A.in1.units + 8 < cLine by show A.units + 1 + 8 < cLine; omega) (keyN_is I.hok hk hd) dd fun h' dd' hsb => h _ ?_
    have he : ∃ q, h'.get? a = some q := let ⟨q, _, _, hq, _⟩ := dd'; ⟨q, hq⟩
    have hl2 : (putN kvs k b v).length ≤ sizeLine := by have := putN_len kvs k b v; omega
    exact d_write I mu hsb he (dno_new (dn_of hl2 hs (rel.put k b rv) dd'))
def rSetZ (K : Kx) : TSet := fun o i v H Q => ∃ a H', o = .ref a ∧ (DPut H a i v H' ∨ DPutN K H a i v H' ∨ DPutE K H a i v H') ∧ Q H'
theorem set_dictZ {K : Kx} (hK : X.kx = K) (hu : X.A.units + 64 < cLine) : PSet X (rSetZ K) := by
  subst hK
  intro pins s σ H o i v ov iv u Q I ro ri rv h
  obtain ⟨a, H', eo, g, q⟩ := h
  subst eo
  cases (show ov = Value.ref a from ro)
  exact z_setItem (by omega) I g ri rv fun s' I' => ⟨H', I', q⟩
end
end Z

/-! Z1: values as trees (PyData) and cells; how they stand over the tracked heap; what a step may change. -/
namespace Z
open PySem PySem.Spec PyProof.Rows L2 Y
/-- a value: data, that no one writes any more; a cell of the store; or a list of ints that stands anywhere -/
inductive W where
  | d (x : PyData)
  | c (n : Nat)
  | k (ns : List Int)
inductive Cell where
  | lst (ws : List W)
  | dic (kvs : List (PyData × W))
  | frz (x : PyData)
abbrev Env := List (Option W)
abbrev Store := List Cell
abbrev FE := Env → Store → Option (W × Store)
abbrev FA := Env → Store → Option (List W × Store)
abbrev FT := Env → Store → Option (Bool × Store)
inductive Ctl where
  | next | brk | cnt
  | ret (w : W)
abbrev FS := Env → Store → Option (Ctl × Env × Store)
abbrev FG := W → Env → Store → Option (Env × Store)
abbrev FnD := List W → Store → Option (W × Store)
def kD : Key → PyData
  | .inl i => .int i
  | .inr x => .str x
theorem kD_inj {a b : Key} (h : kD a = kD b) : a = b := by
  cases a <;> cases b <;> simp_all [kD]
mutual
inductive RD (K : Kx) (H : Hp) : V → PyData → Prop
  | non : RD K H .non .none
  | bl (b : Bool) : RD K H (.bl b) (.bool b)
  | int (i : Int) : RD K H (.int i) (.int i)
  | str (x : Str) : RD K H (.str x) (.str x)
  | lst {a : Addr} {vs : List V} {ds : List PyData} : Rd H a (.lst vs) → RDs K H vs ds → RD K H (.ref a) (.list ds)
  | tup {a : Addr} {vs : List V} {ds : List PyData} : H a = some (.tup vs) → RDs K H vs ds → RD K H (.ref a) (.tuple ds)
  | dK {a : Addr} {o : Obj} {kvs : List (Key × V)} {ds : List (PyData × PyData)} : H a = some (.frz o (.dK kvs)) → RDk K H kvs ds → RD K H (.ref a) (.dict ds)
  | dN {a : Addr} {o : Obj} {kvs : NKV} {ds : List (PyData × PyData)} : H a = some (.frz o (DNo K.P K.w a kvs)) → RDn K H kvs ds → RD K H (.ref a) (.dict ds)
inductive RDs (K : Kx) (H : Hp) : List V → List PyData → Prop
  | nil : RDs K H [] []
  | cons {v : V} {vs : List V} {d : PyData} {ds : List PyData} : RD K H v d → RDs K H vs ds → RDs K H (v :: vs) (d :: ds)
inductive RDk (K : Kx) (H : Hp) : List (Key × V) → List (PyData × PyData) → Prop
  | nil : RDk K H [] []
  | cons {k : Key} {v : V} {kvs : List (Key × V)} {d : PyData} {ds : List (PyData × PyData)} : RD K H v d → RDk K H kvs ds → RDk K H ((k, v) :: kvs) ((kD k, d) :: ds)
inductive RDn (K : Kx) (H : Hp) : NKV → List (PyData × PyData) → Prop
  | nil : RDn K H [] []
  | cons {k : NK} {b : Addr} {v : V} {kvs : NKV} {e d : PyData} {ds : List (PyData × PyData)} : RD K H (.ref b) e → keyD e = some k → k.depth ≤ 8 → RD K H v d → RDn K H kvs ds → RDn K H ((k, b, v) :: kvs) ((e, d) :: ds)
end
theorem rd_same {H H' : Hp} {a : Addr} {u : HO} (e : Same H H') (h : Rd H a u) : Rd H' a u := h.elim (fun h => .inl (e _ _ h)) fun ⟨o, h⟩ => .inr ⟨o, e _ _ h⟩
theorem seqL {K : PySem.W.Frag} {H H' : Hp} {a : Addr} {xs : List V} (e : Same H H') (h : SqL K H a xs) : SqL K H' a xs := by
  rcases h with (h | ⟨o, h⟩) | h
  · exact .inl (.inl (e _ _ h))
  · exact .inl (.inr ⟨o, e _ _ h⟩)
  · exact .inr h
theorem seqT {K : PySem.W.Frag} {H H' : Hp} {a : Addr} {xs : List V} (e : Same H H') (h : SqT K H a xs) : SqT K H' a xs := by
  rcases h with (h | ⟨o, h⟩) | h
  · exact .inl (.inl (e _ _ h))
  · exact .inl (.inr ⟨o, e _ _ h⟩)
  · exact .inr h
section
variable {K : Kx} {H H' : Hp}
mutual
theorem RD.mono (e : Same H H') : ∀ {v : V} {d : PyData}, RD K H v d → RD K H' v d
  | _, _, .non => .non
  | _, _, .bl b => .bl b
  | _, _, .int i => .int i
  | _, _, .str x => .str x
  | _, _, .lst h r => .lst (rd_same e h) (RDs.mono e r)
  | _, _, .tup h r => .tup (e _ _ h) (RDs.mono e r)
  | _, _, .dK h r => .dK (e _ _ h) (RDk.mono e r)
  | _, _, .dN h r => .dN (e _ _ h) (RDn.mono e r)
theorem RDs.mono (e : Same H H') : ∀ {vs : List V} {ds : List PyData}, RDs K H vs ds → RDs K H' vs ds
  | _, _, .nil => .nil
  | _, _, .cons r t => .cons (RD.mono e r) (RDs.mono e t)
theorem RDk.mono (e : Same H H') : ∀ {kvs : List (Key × V)} {ds : List (PyData × PyData)}, RDk K H kvs ds → RDk K H' kvs ds
  | _, _, .nil => .nil
  | _, _, .cons r t => .cons (RD.mono e r) (RDk.mono e t)
theorem RDn.mono (e : Same H H') : ∀ {kvs : NKV} {ds : List (PyData × PyData)}, RDn K H kvs ds → RDn K H' kvs ds
  | _, _, .nil => .nil
  | _, _, .cons r1 h1 h2 r2 t => .cons (RD.mono e r1) h1 h2 (RD.mono e r2) (RDn.mono e t)
end
theorem RDs.pd : ∀ {vs : List V} {ds : List PyData}, RDs K H vs ds → Paired (RD K H) vs ds
  | _, _, .nil => .nil
  | _, _, .cons r t => .cons r t.pd
theorem RDs.of : ∀ {vs : List V} {ds : List PyData}, Paired (RD K H) vs ds → RDs K H vs ds
  | _, _, .nil => .nil
  | _, _, .cons r t => .cons r (RDs.of t)
end
/-- a value over the data heap and the cells' places -/
def RW (K : Kx) (G : Hp) (μ : List Addr) (v : V) : W → Prop
  | .d x => RD K G v x
  | .c n => ∃ a, μ[n]? = some a ∧ v = .ref a
  | .k ns => ∃ a, v = .ref a ∧ SqL K.k G a (ns.map V.int)
def RKd (K : Kx) (G : Hp) (μ : List Addr) (p : Key × V) (q : PyData × W) : Prop := q.1 = kD p.1 ∧ RW K G μ p.2 q.2
def RKn (K : Kx) (G : Hp) (μ : List Addr) (p : NK × Addr × V) (q : PyData × W) : Prop := RD K G (.ref p.2.1) q.1 ∧ keyD q.1 = some p.1 ∧ p.1.depth ≤ 8 ∧ RW K G μ p.2.2 q.2
def CellR (K : Kx) (G H : Hp) (μ : List Addr) (a : Addr) : Cell → Prop
  | .lst ws => ∃ vs, H a = some (.lst vs) ∧ Paired (RW K G μ) vs ws ∧ G a = none
  | .dic kvs => ((∃ vs, H a = some (.dK vs) ∧ Paired (RKd K G μ) vs kvs) ∨ ∃ vs, H a = some (DNo K.P K.w a vs) ∧ Paired (RKn K G μ) vs kvs) ∧ G a = none
  | .frz x => RD K G (.ref a) x
structure Rel (K : Kx) (G H : Hp) (μ : List Addr) (S : Store) : Prop where
  sub : Same G H
  len : μ.length = S.length
  nd : μ.Nodup
  there : ∀ a ∈ μ, H a ≠ none
  cell : ∀ (n : Nat) (a : Addr) (c : Cell), μ[n]? = some a → S[n]? = some c → CellR K G H μ a c
def EnvR (K : Kx) (G : Hp) (μ : List Addr) : L2.St → Env → Prop := Paired fun s e => ∀ w, e = some w → ∃ v, s = some v ∧ RW K G μ v w
structure Nx (K : Kx) (μ : List Addr) (G H : Hp) (μ' : List Addr) (G' H' : Hp) (S' : Store) : Prop where
  rel : Rel K G' H' μ' S'
  pre : ∃ l, μ' = μ ++ l ∧ ∀ b ∈ l, H b = none
  gg : Same G G'
  kp : ∀ b o, H b = some o → b ∉ μ → H' b = some o
  nw : ∀ b, H b ≠ none → b ∉ μ → G b = none → G' b = none
  al : ∀ b, H b ≠ none → H' b ≠ none
theorem ne_mem {μ : List Addr} {b p : Addr} (h : p ∉ μ) (hb : b ∈ μ) : b ≠ p := fun e => h (e ▸ hb)
section
variable {K : Kx} {G H G' H' G1 H1 : Hp} {μ μ' μ1 : List Addr} {S S' S1 : Store} {σ : L2.St} {env : Env} {v : V} {w : W} {a p : Addr} {o o' : HO} {n : Nat}
theorem RW.mono (e : Same G G') (l : List Addr) (h : RW K G μ v w) : RW K G' (μ ++ l) v w := by
  cases w with
  | d x => exact RD.mono e h
  | c n =>
    obtain ⟨a, h1, h2⟩ := h
    exact ⟨a, by rw [List.getElem?_append_left (List.getElem?_eq_some_iff.mp h1).1]; exact h1, h2⟩
  | k ns => obtain ⟨a, h1, h2⟩ := h; exact ⟨a, h1, seqL e h2⟩
theorem RW.gg (e : Same G G') (h : RW K G μ v w) : RW K G' μ v w := by simpa using h.mono e []
theorem pws_mono (e : Same G G') (l : List Addr) {vs : List V} {ws : List W} (h : Paired (RW K G μ) vs ws) : Paired (RW K G' (μ ++ l)) vs ws := pd_mono (fun _ _ q => q.mono e l) h
theorem pkd_mono (e : Same G G') (l : List Addr) {vs : List (Key × V)} {ws : List (PyData × W)} (h : Paired (RKd K G μ) vs ws) : Paired (RKd K G' (μ ++ l)) vs ws := pd_mono (fun _ _ q => ⟨q.1, q.2.mono e l⟩) h
theorem pkn_mono (e : Same G G') (l : List Addr) {vs : NKV} {ws : List (PyData × W)} (h : Paired (RKn K G μ) vs ws) : Paired (RKn K G' (μ ++ l)) vs ws := pd_mono (fun _ _ q => ⟨q.1.mono e, q.2.1, q.2.2.1, q.2.2.2.mono e l⟩) h
theorem EnvR.mono (e : Same G G') (l : List Addr) (h : EnvR K G μ σ env) : EnvR K G' (μ ++ l) σ env := pd_mono (fun _ _ q w hw => let ⟨v, h1, h2⟩ := q w hw; ⟨v, h1, h2.mono e l⟩) h
theorem Nx.envR (x : Nx K μ G H μ' G' H' S') (h : EnvR K G μ σ env) : EnvR K G' μ' σ env := by
  obtain ⟨l, rfl, _⟩ := x.pre
  exact h.mono x.gg l
theorem Nx.rw (x : Nx K μ G H μ' G' H' S') (h : RW K G μ v w) : RW K G' μ' v w := by
  obtain ⟨l, rfl, _⟩ := x.pre
  exact h.mono x.gg l
theorem Nx.rws (x : Nx K μ G H μ' G' H' S') {vs : List V} {ws : List W} (h : Paired (RW K G μ) vs ws) : Paired (RW K G' μ') vs ws := pd_mono (fun _ _ q => x.rw q) h
theorem Nx.refl (r : Rel K G H μ S) : Nx K μ G H μ G H S := ⟨r, ⟨[], by simp, fun _ z => nomatch z⟩, Same.refl _, fun _ _ e _ => e, fun _ _ _ e => e, fun _ e => e⟩
theorem Nx.trans (x : Nx K μ G H μ' G' H' S') (y : Nx K μ' G' H' μ1 G1 H1 S1) : Nx K μ G H μ1 G1 H1 S1 := by
  obtain ⟨l, e, hl⟩ := x.pre
  obtain ⟨m, e2, hm⟩ := y.pre
  have nin : ∀ b, H b ≠ none → b ∉ μ → b ∉ μ' := fun b h1 h2 h3 => by
    rw [e] at h3
    rcases List.mem_append.mp h3 with z | z
    · exact h2 z
    · exact h1 (hl b z)
  refine ⟨y.rel, ⟨l ++ m, by rw [e2, e, List.append_assoc], fun b hb => ?_⟩, x.gg.trans y.gg, fun b o h1 h2 => y.kp b o (x.kp b o h1 h2) (nin b (by rw [h1]; exact fun z => nomatch z) h2),
    fun b h1 h2 h3 => y.nw b (x.al b h1) (nin b h1 h2) (x.nw b h1 h2 h3), fun b h => y.al b (x.al b h)⟩
  rcases List.mem_append.mp hb with z | z
  · exact hl b z
  · have := hm b z
    cases q : H b with
    | none => rfl
    | some u => exact absurd this (x.al b (by rw [q]; exact fun z => nomatch z))
theorem Rel.gn (r : Rel K G H μ S) (h : H p = none) : G p = none := Same.free r.sub h
theorem Rel.nin (r : Rel K G H μ S) (h : H p = none) : p ∉ μ := fun z => r.there p z h
theorem same_data (gn : G p = none) : Same G (upd G p o) := fun b u e => by
  rw [upd_ne (fun z => by rw [z, gn] at e; cases e)]
  exact e
theorem CellR.mono {c : Cell} (e : Same G G') (l : List Addr) (h1 : ∀ u, H a = some u → H' a = some u) (h2 : G a = none → G' a = none) (h : CellR K G H μ a c) : CellR K G' H' (μ ++ l) a c := by
  cases c with
  | lst ws => obtain ⟨vs, q1, q2, q3⟩ := h; exact ⟨vs, h1 _ q1, pws_mono e l q2, h2 q3⟩
  | dic kvs =>
    obtain ⟨h, q3⟩ := h
    rcases h with ⟨vs, q1, q2⟩ | ⟨vs, q1, q2⟩
    · exact ⟨.inl ⟨vs, h1 _ q1, pkd_mono e l q2⟩, h2 q3⟩
    · exact ⟨.inr ⟨vs, h1 _ q1, pkn_mono e l q2⟩, h2 q3⟩
  | frz x => exact RD.mono e h
/-- new data at p -/
theorem nx_data (r : Rel K G H μ S) (h : H p = none) : Nx K μ G H μ (upd G p o) (upd H p o) S := by
  have gn := r.gn h
  have sg : Same G (upd G p o) := same_data gn
  have sh : Same H (upd H p o) := same_data h
  refine ⟨⟨fun b u e => ?_, r.len, r.nd, fun b hb z => ?_, fun n a c h1 h2 => ?_⟩, ⟨[], by simp, fun _ z => nomatch z⟩, sg, fun b u e _ => sh b u e, fun b h1 _ h3 => ?_, fun b h1 => ?_⟩
  · by_cases hb : b = p
    · subst hb; rw [upd_same] at e ⊢; exact e
    · rw [upd_ne hb] at e ⊢; exact r.sub b u e
  · rw [upd_ne (ne_mem (r.nin h) hb)] at z
    exact r.there b hb z
  · have hne : a ≠ p := fun q => r.nin h (q ▸ List.mem_of_getElem? h1)
    have := (r.cell n a c h1 h2).mono (H' := upd H p o) sg [] (fun u q => sh _ _ q) (fun q => by rw [upd_ne hne]; exact q)
    simpa using this
  · rw [upd_ne (fresh_ne h1 h)]; exact h3
  · rw [upd_ne (fresh_ne h1 h)]; exact h1
/-- a new cell at p -/
theorem nx_cell {c : Cell} (r : Rel K G H μ S) (h : H p = none) (hc : CellR K G (upd H p o) (μ ++ [p]) p c) : Nx K μ G H (μ ++ [p]) G (upd H p o) (S ++ [c]) := by
  have sh : Same H (upd H p o) := same_data h
  refine ⟨⟨r.sub.trans sh, by simp [r.len], ?_, fun b hb z => ?_, fun n a c' h1 h2 => ?_⟩, ⟨[p], rfl, fun b hb => ?_⟩, Same.refl _, fun b u e _ => sh b u e, fun b _ _ h3 => h3, fun b h1 => ?_⟩
  · rw [List.nodup_append]
    exact ⟨r.nd, by simp, fun a ha b hb e => by
      have e2 : b = p := by simpa using hb
      subst e; subst e2
      exact r.nin h ha⟩
  · rcases List.mem_append.mp hb with q | q
    · rw [upd_ne (ne_mem (r.nin h) q)] at z
      exact r.there b q z
    · have e2 : b = p := by simpa using q
      subst e2
      rw [upd_same] at z
      cases z
  · by_cases hn : n < μ.length
    · rw [List.getElem?_append_left hn] at h1
      rw [List.getElem?_append_left (by rw [← r.len]; exact hn)] at h2
      exact (r.cell n a c' h1 h2).mono (Same.refl _) [p] (fun u q => sh _ _ q) (fun q => q)
    · have hn2 : n = μ.length := by
        have := (List.getElem?_eq_some_iff.mp h1).1
        simp at this
        omega
      subst hn2
      rw [List.getElem?_append_right (Nat.le_refl _), Nat.sub_self] at h1
      rw [r.len, List.getElem?_append_right (Nat.le_refl _), Nat.sub_self] at h2
      cases h1
      cases h2
      exact hc
  · have e2 : b = p := by simpa using hb
    rw [e2]; exact h
  · rw [upd_ne (fresh_ne h1 h)]; exact h1
theorem nodup_at (nd : μ.Nodup) {i j : Nat} (h1 : μ[i]? = some a) (h2 : μ[j]? = some a) : i = j := by
  obtain ⟨l1, e1⟩ := List.getElem?_eq_some_iff.mp h1
  obtain ⟨l2, e2⟩ := List.getElem?_eq_some_iff.mp h2
  exact (List.getElem_inj nd).mp (e1.trans e2.symm)
/-- a cell is written -/
theorem nx_wr {c c' : Cell} (r : Rel K G H μ S) (ha : μ[n]? = some a) (gn : G a = none) (hc : CellR K G (upd H a o) μ a c') : Nx K μ G H μ G (upd H a o) (S.set n c') := by
  have hm := List.mem_of_getElem? ha
  refine ⟨⟨fun b u e => ?_, by simp [r.len], r.nd, fun b hb z => ?_, fun m b c1 h1 h2 => ?_⟩, ⟨[], by simp, fun _ z => nomatch z⟩, Same.refl _, fun b u e q => ?_, fun b _ _ h3 => h3, fun b h1 => ?_⟩
  · rw [upd_ne (fun z => by rw [z, gn] at e; cases e)]; exact r.sub b u e
  · by_cases e : b = a
    · rw [e, upd_same] at z; cases z
    · rw [upd_ne e] at z; exact r.there b hb z
  · by_cases e : m = n
    · subst e
      rw [ha] at h1; cases h1
      have := (List.getElem?_eq_some_iff.mp ha).1
      rw [List.getElem?_set_self (by rw [← r.len]; exact this)] at h2
      cases h2
      exact hc
    · rw [List.getElem?_set_ne (fun z => e z.symm)] at h2
      have hne : b ≠ a := fun z => e (nodup_at r.nd (z ▸ h1) ha)
      have := (r.cell m b c1 h1 h2).mono (H' := upd H a o) (Same.refl _) [] (fun u q => by rw [upd_ne hne]; exact q) (fun q => q)
      simpa using this
  · rw [upd_ne (ne_mem q hm).symm]; exact e
  · by_cases e : b = a
    · rw [e, upd_same]; exact fun z => nomatch z
    · rw [upd_ne e]; exact h1
/-- a cell becomes data: o as it stands, or locked -/
theorem nx_frz {x : PyData} (r : Rel K G H μ S) (ha : μ[n]? = some a) (gn : G a = none) (hx : RD K (upd G a o) (.ref a) x) : Nx K μ G H μ (upd G a o) (upd H a o) (S.set n (.frz x)) := by
  have hm := List.mem_of_getElem? ha
  have sg : Same G (upd G a o) := same_data gn
  refine ⟨⟨fun b u e => ?_, by simp [r.len], r.nd, fun b hb z => ?_, fun m b c1 h1 h2 => ?_⟩, ⟨[], by simp, fun _ z => nomatch z⟩, sg, fun b u e q => ?_, fun b h1 h2 h3 => ?_, fun b h1 => ?_⟩
  · by_cases hb : b = a
    · subst hb; rw [upd_same] at e ⊢; exact e
    · rw [upd_ne hb] at e ⊢; exact r.sub b u e
  · by_cases e : b = a
    · rw [e, upd_same] at z; cases z
    · rw [upd_ne e] at z; exact r.there b hb z
  · by_cases e : m = n
    · subst e
      rw [ha] at h1; cases h1
      have := (List.getElem?_eq_some_iff.mp ha).1
      rw [List.getElem?_set_self (by rw [← r.len]; exact this)] at h2
      cases h2
      exact hx
    · rw [List.getElem?_set_ne (fun z => e z.symm)] at h2
      have hne : b ≠ a := fun z => e (nodup_at r.nd (z ▸ h1) ha)
      have := (r.cell m b c1 h1 h2).mono (H' := upd H a o) sg [] (fun u q => by rw [upd_ne hne]; exact q) (fun q => by rw [upd_ne hne]; exact q)
      simpa using this
  · rw [upd_ne (ne_mem q hm).symm]; exact e
  · rw [upd_ne (ne_mem h2 hm).symm]; exact h3
  · by_cases e : b = a
    · rw [e, upd_same]; exact fun z => nomatch z
    · rw [upd_ne e]; exact h1
theorem upd_self' {H : Hp} {a : Addr} {o : HO} (h : H a = some o) : upd H a o = H := by
  funext b
  by_cases e : b = a
  · rw [e, upd_same, h]
  · rw [upd_ne e]
/-! slots -/
theorem EnvR.get (h : EnvR K G μ σ env) {i : Nat} (e : env[i]? = some (some w)) : ∃ v, σ[i]? = some (some v) ∧ RW K G μ v w := by
  obtain ⟨s, h1, h2⟩ := pd_get' h e
  obtain ⟨v, h3, h4⟩ := h2 w rfl
  exact ⟨v, by rw [h1, h3], h4⟩
theorem EnvR.set (h : EnvR K G μ σ env) (i : Nat) (r : RW K G μ v w) : EnvR K G μ (σ.set i (some v)) (env.set i (some w)) := by
  have gen : ∀ {σ : L2.St} {env : Env}, EnvR K G μ σ env → ∀ i, EnvR K G μ (σ.set i (some v)) (env.set i (some w)) := by
    intro σ env h
    induction h with
    | nil => intro i; exact .nil
    | cons q t ih =>
      intro i
      cases i with
      | zero => exact .cons (fun w' e => by cases e; exact ⟨v, rfl, r⟩) t
      | succ i => exact .cons q (ih i)
  exact gen h i
theorem EnvR.clear (h : EnvR K G μ σ env) (i : Nat) : EnvR K G μ (σ.set i none) (env.set i none) := by
  have gen : ∀ {σ : L2.St} {env : Env}, EnvR K G μ σ env → ∀ i, EnvR K G μ (σ.set i none) (env.set i none) := by
    intro σ env h
    induction h with
    | nil => intro i; exact .nil
    | cons q t ih =>
      intro i
      cases i with
      | zero => exact .cons (fun w' e => by cases e) t
      | succ i => exact .cons q (ih i)
  exact gen h i
def wipeE (env : Env) : List Nat → Env
  | [] => env
  | v :: vs => (wipeE env vs).set v none
theorem EnvR.wipe (h : EnvR K G μ σ env) : ∀ vs : List Nat, EnvR K G μ (L2.wipe σ vs) (wipeE env vs)
  | [] => h
  | v :: vs => (EnvR.wipe h vs).clear v
end
section
variable {K : Kx} {H : Hp}
mutual
theorem RD.key : ∀ {v : V} {d : PyData}, RD K H v d → ∀ {k : NK}, keyD d = some k → KeyAt H k v
  | _, _, .non, k, e => by simp only [keyD] at e; cases e; exact .non
  | _, _, .bl b, k, e => by simp [keyD] at e
  | _, _, .int i, k, e => by simp only [keyD] at e; cases e; exact .int i
  | _, _, .str x, k, e => by simp only [keyD] at e; cases e; exact .str x
  | _, _, .lst _ _, k, e => by simp [keyD] at e
  | _, _, .tup h r, k, e => by
    simp only [keyD] at e
    split at e
    · rename_i ks hk
      cases e
      exact .tup h (RDs.key r hk)
    · cases e
  | _, _, .dK _ _, k, e => by simp [keyD] at e
  | _, _, .dN _ _, k, e => by simp [keyD] at e
theorem RDs.key : ∀ {vs : List V} {ds : List PyData}, RDs K H vs ds → ∀ {ks : List NK}, keysD ds = some ks → KeysAt H ks vs
  | _, _, .nil, ks, e => by simp only [keysD] at e; cases e; exact .nil
  | _, _, .cons r t, ks, e => by
    simp only [keysD] at e
    split at e
    · rename_i k ks' h1 h2
      cases e
      exact .cons (RD.key r h1) (RDs.key t h2)
    · cases e
end
end
end Z

/-! Z2: what a reading evaluates to: expressions, tests, argument lists, statements, targets. -/
namespace Z
open PySem PySem.Spec PyProof.Rows L2 Y
section
variable (K : Kx)
def SE (t : TE) (f : FE) : Prop := ∀ (env : Env) (S : Store) (w : W) (S' : Store) (σ : L2.St) (G H : Hp) (μ : List Addr) (Q : VK), Rel K G H μ S → EnvR K G μ σ env → f env S = some (w, S') →
  (∀ v G' H' μ', Nx K μ G H μ' G' H' S' → RW K G' μ' v w → Q v H') → t σ H Q
def ST (t : TT) (f : FT) : Prop := ∀ (env : Env) (S : Store) (b : Bool) (S' : Store) (σ : L2.St) (G H : Hp) (μ : List Addr) (Q : Bool → Hp → Prop), Rel K G H μ S → EnvR K G μ σ env → f env S = some (b, S') →
  (∀ G' H' μ', Nx K μ G H μ' G' H' S' → Q b H') → t σ H Q
def SA (t : TA) (f : FA) : Prop := ∀ (env : Env) (S : Store) (ws : List W) (S' : Store) (σ : L2.St) (G H : Hp) (μ : List Addr) (Q : List V → Hp → Prop), Rel K G H μ S → EnvR K G μ σ env → f env S = some (ws, S') →
  (∀ vs G' H' μ', Nx K μ G H μ' G' H' S' → Paired (RW K G' μ') vs ws → Q vs H') → t σ H Q
def EndR (D : Ends) (c : Ctl) (σ' : L2.St) (G' H' : Hp) (μ' : List Addr) : Prop := match c with
  | .next => D.nx σ' H'
  | .brk => D.bk σ' H'
  | .cnt => D.ct σ' H'
  | .ret w => ∀ v, RW K G' μ' v w → D.rt v H'
def SS (t : TS) (f : FS) : Prop := ∀ (env : Env) (S : Store) (c : Ctl) (env' : Env) (S' : Store) (σ : L2.St) (G H : Hp) (μ : List Addr) (D : Ends), Rel K G H μ S → EnvR K G μ σ env → f env S = some (c, env', S') →
  (∀ σ' G' H' μ', Nx K μ G H μ' G' H' S' → EnvR K G' μ' σ' env' → EndR K D c σ' G' H' μ') → t D σ H
/-- a target: L, the slots that it stores to -/
def SG (t : TG) (L : List Nat) (f : FG) : Prop := ∀ (w : W) (env : Env) (S : Store) (env' : Env) (S' : Store) (v : V) (σ : L2.St) (G H : Hp) (μ : List Addr) (Q : L2.St → Hp → Prop), Rel K G H μ S → EnvR K G μ σ env → RW K G μ v w → f w env S = some (env', S') →
  (∀ σ' G' H' μ', Nx K μ G H μ' G' H' S' → EnvR K G' μ' σ' env' → (∀ vs : List Nat, (∀ i ∈ L, i ∈ vs) → wipe σ' vs = wipe σ vs) → Q σ' H') → t v σ H Q
def SGs (t : TGs) (L : List Nat) (f : List W → Env → Store → Option (Env × Store)) : Prop := ∀ (ws : List W) (env : Env) (S : Store) (env' : Env) (S' : Store) (vs : List V) (σ : L2.St) (G H : Hp) (μ : List Addr) (Q : L2.St → Hp → Prop), Rel K G H μ S → EnvR K G μ σ env → Paired (RW K G μ) vs ws → f ws env S = some (env', S') →
  (∀ σ' G' H' μ', Nx K μ G H μ' G' H' S' → EnvR K G' μ' σ' env' → (∀ vs : List Nat, (∀ i ∈ L, i ∈ vs) → wipe σ' vs = wipe σ vs) → Q σ' H') → t vs σ H Q
structure ZE (X : Cx) (e : Expr) (t : TE) (f : FE) : Prop where
  pe : PE X e t
  se : SE K t f
structure ZT (X : Cx) (e : Expr) (t : TT) (f : FT) : Prop where
  pe : PT X e t
  se : ST K t f
structure ZW (X : Cx) (e : Expr) (t : TT) (f : FT) : Prop where
  pe : PW X e t
  se : ST K t f
structure ZA (X : Cx) (es : List Expr) (t : TA) (f : FA) : Prop where
  pe : PA X es t
  se : SA K t f
  ln : ∀ env S ws S', f env S = some (ws, S') → ws.length = es.length
structure ZS (X : Cx) (s : Stmt) (t : TS) (f : FS) : Prop where
  pe : PS X s t
  se : SS K t f
structure ZSs (X : Cx) (s : List Stmt) (t : TS) (f : FS) : Prop where
  pe : PSs X s t
  se : SS K t f
structure ZG (X : Cx) (e : Expr) (t : TG) (L : List Nat) (f : FG) : Prop where
  pe : PG X e t
  se : SG K t L f
structure ZGs (X : Cx) (es : List Expr) (t : TGs) (L : List Nat) (f : List W → Env → Store → Option (Env × Store)) : Prop where
  pe : PGs X es t
  se : SGs K t L f
end
/-! ### the functions -/
def varX (i : Nat) : FE := fun env S => match env[i]? with
  | some (some w) => some (w, S)
  | _ => none
def conX (x : PyData) : FE := fun _ S => some (.d x, S)
def op1X (g : Store → W → Option (W × Store)) (fa : FE) : FE := fun env S => match fa env S with
  | some (a, S1) => g S1 a
  | none => none
def op2X (g : Store → W → W → Option (W × Store)) (fa fb : FE) : FE := fun env S => match fa env S with
  | some (a, S1) => (match fb env S1 with
    | some (b, S2) => g S2 a b
    | none => none)
  | none => none
def nilX : FA := fun _ S => some ([], S)
def consX (fa : FE) (fr : FA) : FA := fun env S => match fa env S with
  | some (a, S1) => (match fr env S1 with
    | some (as, S2) => some (a :: as, S2)
    | none => none)
  | none => none
def argX (g : Store → List W → Option (W × Store)) (fa : FA) : FE := fun env S => match fa env S with
  | some (as, S1) => g S1 as
  | none => none
def bbX (fa : FE) : FT := fun env S => match fa env S with
  | some (.d (.bool b), S1) => some (b, S1)
  | _ => none
def andT (fa fb : FT) : FT := fun env S => match fa env S with
  | some (b, S1) => if b = true then fb env S1 else some (false, S1)
  | none => none
def orT (fa fb : FT) : FT := fun env S => match fa env S with
  | some (b, S1) => if b = true then some (true, S1) else fb env S1
  | none => none
def notT (fa : FT) : FT := fun env S => match fa env S with
  | some (b, S1) => some (!b, S1)
  | none => none
def ifX (c : FT) (fa fb : FE) : FE := fun env S => match c env S with
  | some (b, S1) => if b = true then fa env S1 else fb env S1
  | none => none
def seqX (f g : FS) : FS := fun env S => match f env S with
  | some (.next, env1, S1) => g env1 S1
  | some (c, env1, S1) => some (c, env1, S1)
  | none => none
def skipX : FS := fun env S => some (.next, env, S)
def dropX (fa : FE) : FS := fun env S => match fa env S with
  | some (_, S1) => some (.next, env, S1)
  | none => none
def retX (fa : FE) : FS := fun env S => match fa env S with
  | some (w, S1) => some (.ret w, env, S1)
  | none => none
def retNX : FS := fun env S => some (.ret (.d .none), env, S)
def brkX : FS := fun env S => some (.brk, env, S)
def cntX : FS := fun env S => some (.cnt, env, S)
def ifS (c : FT) (f g : FS) : FS := fun env S => match c env S with
  | some (b, S1) => if b = true then f env S1 else g env S1
  | none => none
def asgX (fa : FE) (g : FG) : FS := fun env S => match fa env S with
  | some (w, S1) => (match g w env S1 with
    | some (env', S2) => some (.next, env', S2)
    | none => none)
  | none => none
def nameG (i : Nat) : FG := fun w env S => some (env.set i (some w), S)
def gNilX : List W → Env → Store → Option (Env × Store) := fun ws env S => match ws with
  | [] => some (env, S)
  | _ => none
def gConsX (f : FG) (g : List W → Env → Store → Option (Env × Store)) : List W → Env → Store → Option (Env × Store) := fun ws env S => match ws with
  | w :: r => (match f w env S with
    | some (env1, S1) => g r env1 S1
    | none => none)
  | [] => none
/-! ### what stands in a value -/
def itemsL (S : Store) : W → Option (List W)
  | .d (.list ds) => some (ds.map W.d)
  | .c n => match S[n]? with
    | some (.lst ws) => some ws
    | some (.frz (.list ds)) => some (ds.map W.d)
    | _ => none
  | _ => none
def itemsT (S : Store) : W → Option (List W)
  | .d (.tuple ds) => some (ds.map W.d)
  | .c n => match S[n]? with
    | some (.frz (.tuple ds)) => some (ds.map W.d)
    | _ => none
  | _ => none
def dataOf (S : Store) : W → Option PyData
  | .k _ => none
  | .d x => some x
  | .c n => match S[n]? with
    | some (.frz x) => some x
    | _ => none
def datas (S : Store) : List W → Option (List PyData)
  | [] => some []
  | w :: ws => match dataOf S w with
    | some x => (match datas S ws with
      | some xs => some (x :: xs)
      | none => none)
    | none => none
section
variable {K : Kx} {G H G' H' : Hp} {μ μ' : List Addr} {S S' : Store} {σ : L2.St} {env : Env} {v : V} {w : W}
theorem rds_w {vs : List V} {ds : List PyData} (h : RDs K G vs ds) : Paired (RW K G μ) vs (ds.map W.d) := by
  have gen : ∀ {vs : List V} {ds : List PyData}, Paired (RD K G) vs ds → Paired (RW K G μ) vs (ds.map W.d) := by
    intro vs ds p
    induction p with
    | nil => exact .nil
    | cons r t ih => exact .cons r ih
  exact gen h.pd
theorem data_rd (r : Rel K G H μ S) (h : RW K G μ v w) {x : PyData} (e : dataOf S w = some x) : RD K G v x := by
  cases w with
  | k ns => cases e
  | d y => cases e; exact h
  | c n =>
    obtain ⟨a, h1, rfl⟩ := h
    simp only [dataOf] at e
    split at e
    · rename_i y hy
      cases e
      exact r.cell n a _ h1 hy
    · cases e
theorem datas_rd (r : Rel K G H μ S) : ∀ {ws : List W} {vs : List V} {xs : List PyData}, Paired (RW K G μ) vs ws → datas S ws = some xs → RDs K G vs xs := by
  intro ws
  induction ws with
  | nil => intro vs xs p e; cases p; cases e; exact .nil
  | cons w ws ih =>
    intro vs xs p e
    cases p with
    | cons q t =>
      simp only [datas] at e
      split at e
      · rename_i y hy
        split at e
        · rename_i ys hys
          cases e
          exact .cons (data_rd r q hy) (ih t hys)
        · cases e
      · cases e
theorem items_list (r : Rel K G H μ S) (h : RW K G μ v w) {ws : List W} (e : itemsL S w = some ws) : ∃ a vs, v = .ref a ∧ Rd H a (.lst vs) ∧ Paired (RW K G μ) vs ws := by
  have ofd : ∀ {x : PyData} {ds : List PyData}, RD K G v x → x = .list ds → ∃ a vs, v = .ref a ∧ Rd H a (.lst vs) ∧ Paired (RW K G μ) vs (ds.map W.d) := by
    intro x ds q ex
    subst ex
    cases q with
    | lst h1 h2 => exact ⟨_, _, rfl, rd_same r.sub h1, rds_w h2⟩
  cases w with
  | k ns => cases e
  | d x =>
    cases x with
    | list ds => cases e; exact ofd h rfl
    | _ => cases e
  | c n =>
    obtain ⟨a, h1, rfl⟩ := h
    simp only [itemsL] at e
    split at e
    · rename_i ws' hs
      cases e
      obtain ⟨vs, q1, q2, q3⟩ := r.cell n a _ h1 hs
      exact ⟨a, vs, rfl, .inl q1, q2⟩
    · rename_i ds hs
      cases e
      exact ofd (r.cell n a _ h1 hs) rfl
    · cases e
theorem items_tup (r : Rel K G H μ S) (h : RW K G μ v w) {ws : List W} (e : itemsT S w = some ws) : ∃ a vs, v = .ref a ∧ SqT K.k H a vs ∧ Paired (RW K G μ) vs ws := by
  have ofd : ∀ {x : PyData} {ds : List PyData}, RD K G v x → x = .tuple ds → ∃ a vs, v = .ref a ∧ SqT K.k H a vs ∧ Paired (RW K G μ) vs (ds.map W.d) := by
    intro x ds q ex
    subst ex
    cases q with
    | tup h1 h2 => exact ⟨_, _, rfl, SqT.of (r.sub _ _ h1), rds_w h2⟩
  cases w with
  | k ns => cases e
  | d x =>
    cases x with
    | tuple ds => cases e; exact ofd h rfl
    | _ => cases e
  | c n =>
    obtain ⟨a, h1, rfl⟩ := h
    simp only [itemsT] at e
    split at e
    · rename_i ds hs
      cases e
      exact ofd (r.cell n a _ h1 hs) rfl
    · cases e
end
/-! ### the rules -/
section
variable {K : Kx} {X : Cx}
theorem z_var {i : Nat} {x : Str} {pos : Pos} (hN : X.N[i]? = some x) (hv : Vis X.env.scope x) (hd : (x == ("__debug__" : Str)) = false := by decide) (hcd : (x == ("__classdict__" : Str)) = false := by decide) : ZE K X (.Name x pos) (tVar i) (varX i) :=
  ⟨pe_var hN hv hd hcd, fun env S w S' σ G H μ Q r er e q => by
    simp only [varX] at e
    split at e
    · rename_i w' hw
      cases e
      obtain ⟨v, h1, h2⟩ := er.get hw
      exact ⟨v, h1, q v G H μ (Nx.refl r) h2⟩
    · cases e⟩
theorem se_con {v : V} {x : PyData} (h : ∀ H, RD K H v x) : SE K (tC v) (conX x) := fun env S w S' σ G H μ Q r er e q => by
  cases e
  exact q v G H μ (Nx.refl r) (h G)
theorem z_int {i : Int} {j : Nat} {pos : Pos} : ZE K X (.Constant (.int i) j pos) (tC (.int i)) (conX (.int i)) := ⟨pe_int, se_con fun _ => .int _⟩
theorem z_bl {b : Bool} {j : Nat} {pos : Pos} : ZE K X (.Constant (.bool b) j pos) (tC (.bl b)) (conX (.bool b)) := ⟨pe_bl, se_con fun _ => .bl _⟩
theorem z_non {j : Nat} {pos : Pos} : ZE K X (.Constant .none j pos) (tC .non) (conX .none) := ⟨pe_non, se_con fun _ => .non⟩
theorem z_str {x : Str} {j : Nat} {pos : Pos} : ZE K X (.Constant (.str x) j pos) (tC (.str x)) (conX (.str x)) := ⟨pe_str, se_con fun _ => .str _⟩
theorem z_glob {x : Str} {v : V} {y : PyData} {u : Value} {pos : Pos} (hg : Gl X x) (hm : X.mg x = some u) (r : RelV v u) (hy : ∀ H, RD K H v y) (hd : (x == ("__debug__" : Str)) = false := by decide) : ZE K X (.Name x pos) (tC v) (conX y) :=
  ⟨pe_glob hg hm r hd, se_con hy⟩
/-- a two-place operation's meaning -/
def SR2 (K : Kx) (r : R2) (g : Store → W → W → Option (W × Store)) : Prop := ∀ (S : Store) (w1 w2 w : W) (S' : Store) (G H : Hp) (μ : List Addr) (v1 v2 : V) (Q : VK), Rel K G H μ S → RW K G μ v1 w1 → RW K G μ v2 w2 → g S w1 w2 = some (w, S') →
  (∀ v G' H' μ', Nx K μ G H μ' G' H' S' → RW K G' μ' v w → Q v H') → r v1 v2 H Q
def SR1 (K : Kx) (r : V → Hp → VK → Prop) (g : Store → W → Option (W × Store)) : Prop := ∀ (S : Store) (w1 w : W) (S' : Store) (G H : Hp) (μ : List Addr) (v1 : V) (Q : VK), Rel K G H μ S → RW K G μ v1 w1 → g S w1 = some (w, S') →
  (∀ v G' H' μ', Nx K μ G H μ' G' H' S' → RW K G' μ' v w → Q v H') → r v1 H Q
def SRs (K : Kx) (r : List V → Hp → VK → Prop) (g : Store → List W → Option (W × Store)) : Prop := ∀ (S : Store) (ws : List W) (w : W) (S' : Store) (G H : Hp) (μ : List Addr) (vs : List V) (Q : VK), Rel K G H μ S → Paired (RW K G μ) vs ws → g S ws = some (w, S') →
  (∀ v G' H' μ', Nx K μ G H μ' G' H' S' → RW K G' μ' v w → Q v H') → r vs H Q
theorem SR2.or {r r' : R2} {g g' : Store → W → W → Option (W × Store)} (h : SR2 K r g) (h' : SR2 K r' g') : SR2 K (fun x y H Q => r x y H Q ∨ r' x y H Q) (fun S a b => (g S a b).or (g' S a b)) :=
  fun S w1 w2 w S' G H μ v1 v2 Q rl r1 r2 e q => by
    rcases hg : g S w1 w2 with _ | x
    · simp only [hg, Option.none_or] at e
      exact .inr (h' S w1 w2 w S' G H μ v1 v2 Q rl r1 r2 e q)
    · simp only [hg, Option.some_or] at e
      exact .inl (h S w1 w2 w S' G H μ v1 v2 Q rl r1 r2 (hg.trans e) q)
theorem SRs.or {r r' : List V → Hp → VK → Prop} {g g' : Store → List W → Option (W × Store)} (h : SRs K r g) (h' : SRs K r' g') : SRs K (fun xs H Q => r xs H Q ∨ r' xs H Q) (fun S a => (g S a).or (g' S a)) :=
  fun S ws w S' G H μ vs Q rl r1 e q => by
    rcases hg : g S ws with _ | x
    · simp only [hg, Option.none_or] at e
      exact .inr (h' S ws w S' G H μ vs Q rl r1 e q)
    · simp only [hg, Option.some_or] at e
      exact .inl (h S ws w S' G H μ vs Q rl r1 (hg.trans e) q)
theorem callR_or {f : Value} {r r' : List V → Hp → VK → Prop} (h : CallR X f r) (h' : CallR X f r') : CallR X f (fun xs H Q => r xs H Q ∨ r' xs H Q) := fun pins s σ H xs us Q I rv q => q.elim (h pins s σ H xs us Q I rv) (h' pins s σ H xs us Q I rv)
theorem pe_either {e : Expr} {t t' : TE} (h : PE X e t) (h' : PE X e t') : PE X e (fun σ H Q => t σ H Q ∨ t' σ H Q) := ⟨fun pins s σ H Q I q => q.elim (h.run pins s σ H Q I) (h'.run pins s σ H Q I)⟩
theorem se_op {r : R2} {g : Store → W → W → Option (W × Store)} {ta tb : TE} {fa fb : FE} (h : SR2 K r g) (ha : SE K ta fa) (hb : SE K tb fb) : SE K (tOp r ta tb) (op2X g fa fb) := fun env S w S' σ G H μ Q rl er e q => by
  simp only [op2X] at e
  split at e
  · rename_i a S1 e1
    split at e
    · rename_i b S2 e2
      refine ha env S a S1 σ G H μ _ rl er e1 fun v1 G1 H1 μ1 x1 r1 => ?_
      refine hb env S1 b S2 σ G1 H1 μ1 _ x1.rel (x1.envR er) e2 fun v2 G2 H2 μ2 x2 r2 => ?_
      exact h S2 a b w S' G2 H2 μ2 v1 v2 Q x2.rel (x2.rw r1) r2 e fun v G' H' μ' x3 r3 => q v G' H' μ' ((x1.trans x2).trans x3) r3
    · cases e
  · cases e
theorem se_un {r : V → Hp → VK → Prop} {g : Store → W → Option (W × Store)} {ta : TE} {fa : FE} (h : SR1 K r g) (ha : SE K ta fa) : SE K (tUn r ta) (op1X g fa) := fun env S w S' σ G H μ Q rl er e q => by
  simp only [op1X] at e
  split at e
  · rename_i a S1 e1
    refine ha env S a S1 σ G H μ _ rl er e1 fun v1 G1 H1 μ1 x1 r1 => ?_
    exact h S1 a w S' G1 H1 μ1 v1 Q x1.rel r1 e fun v G' H' μ' x3 r3 => q v G' H' μ' (x1.trans x3) r3
  · cases e
theorem sa_nil : SA K tNil nilX := fun env S ws S' σ G H μ Q rl er e q => by
  cases e
  exact q [] G H μ (Nx.refl rl) .nil
theorem sa_cons {ta : TE} {tr : TA} {fa : FE} {fr : FA} (ha : SE K ta fa) (hr : SA K tr fr) : SA K (tCons ta tr) (consX fa fr) := fun env S ws S' σ G H μ Q rl er e q => by
  simp only [consX] at e
  split at e
  · rename_i a S1 e1
    split at e
    · rename_i as S2 e2
      cases e
      refine ha env S a S1 σ G H μ _ rl er e1 fun v1 G1 H1 μ1 x1 r1 => ?_
      refine hr env S1 as _ σ G1 H1 μ1 _ x1.rel (x1.envR er) e2 fun v2 G2 H2 μ2 x2 r2 => ?_
      exact q _ G2 H2 μ2 (x1.trans x2) (.cons (x2.rw r1) r2)
    · cases e
  · cases e
theorem za_nil : ZA K X [] tNil nilX := ⟨pa_nil, sa_nil, fun _ _ _ _ e => by cases e; rfl⟩
theorem za_cons {e : Expr} {es : List Expr} {te : TE} {t : TA} {f : FE} {fr : FA} (ha : ZE K X e te f) (hr : ZA K X es t fr) (hs : starEach (e :: es) X.env = (false, eval e X.env) :: starEach es X.env := by rfl) : ZA K X (e :: es) (tCons te t) (consX f fr) :=
  ⟨pa_cons ha.pe hr.pe hs, sa_cons ha.se hr.se, fun env S ws S' e => by
    simp only [consX] at e
    split at e
    · split at e
      · rename_i h
        cases e
        rw [List.length_cons, List.length_cons, hr.ln _ _ _ _ h]
      · cases e
    · cases e⟩
theorem se_cb {r : List V → Hp → VK → Prop} {g : Store → List W → Option (W × Store)} {ta : TA} {fa : FA} (h : SRs K r g) (ha : SA K ta fa) : SE K (tCB r ta) (argX g fa) := fun env S w S' σ G H μ Q rl er e q => by
  simp only [argX] at e
  split at e
  · rename_i as S1 e1
    refine ha env S as S1 σ G H μ _ rl er e1 fun vs G1 H1 μ1 x1 r1 => ?_
    exact h S1 as w S' G1 H1 μ1 vs Q x1.rel r1 e fun v G' H' μ' x3 r3 => q v G' H' μ' (x1.trans x3) r3
  · cases e
/-! tests -/
theorem bool_of {G : Hp} {v : V} {b : Bool} (h : RD K G v (.bool b)) : v = .bl b := by cases h; rfl
theorem int_of {G : Hp} {v : V} {i : Int} (h : RD K G v (.int i)) : v = .int i := by cases h; rfl
theorem str_of {G : Hp} {v : V} {i : Str} (h : RD K G v (.str i)) : v = .str i := by cases h; rfl
theorem non_of {G : Hp} {v : V} (h : RD K G v .none) : v = .non := by cases h; rfl
theorem st_b {ta : TE} {fa : FE} (ha : SE K ta fa) : ST K (tTest ta) (bbX fa) := fun env S b S' σ G H μ Q rl er e q => by
  simp only [bbX] at e
  split at e
  · rename_i b' S1 e1
    cases e
    refine ha env S _ _ σ G H μ _ rl er e1 fun v1 G1 H1 μ1 x1 r1 => ?_
    exact ⟨b, bool_of r1, q G1 H1 μ1 x1⟩
  · cases e
theorem zt_val {e : Expr} {ta : TE} {fa : FE} (ha : ZE K X e ta fa) (h : PT X e (tTest ta)) : ZT K X e (tTest ta) (bbX fa) := ⟨h, st_b ha.se⟩
theorem st_and {ta tb : TT} {fa fb : FT} (ha : ST K ta fa) (hb : ST K tb fb) : ST K (tAnd ta tb) (andT fa fb) := fun env S b S' σ G H μ Q rl er e q => by
  simp only [andT] at e
  split at e
  · rename_i b1 S1 e1
    refine ha env S b1 S1 σ G H μ _ rl er e1 fun G1 H1 μ1 x1 => ?_
    cases b1 with
    | true => exact hb env S1 b S' σ G1 H1 μ1 Q x1.rel (x1.envR er) (by simpa using e) fun G2 H2 μ2 x2 => q G2 H2 μ2 (x1.trans x2)
    | false =>
      rw [if_neg Bool.false_ne_true] at e ⊢
      cases e
      exact q G1 H1 μ1 x1
  · cases e
theorem st_or {ta tb : TT} {fa fb : FT} (ha : ST K ta fa) (hb : ST K tb fb) : ST K (tOr ta tb) (orT fa fb) := fun env S b S' σ G H μ Q rl er e q => by
  simp only [orT] at e
  split at e
  · rename_i b1 S1 e1
    refine ha env S b1 S1 σ G H μ _ rl er e1 fun G1 H1 μ1 x1 => ?_
    cases b1 with
    | false => exact hb env S1 b S' σ G1 H1 μ1 Q x1.rel (x1.envR er) (by simpa using e) fun G2 H2 μ2 x2 => q G2 H2 μ2 (x1.trans x2)
    | true =>
      rw [if_pos rfl] at e ⊢
      cases e
      exact q G1 H1 μ1 x1
  · cases e
theorem st_not {ta : TT} {fa : FT} (ha : ST K ta fa) : ST K (tNot ta) (notT fa) := fun env S b S' σ G H μ Q rl er e q => by
  simp only [notT] at e
  split at e
  · rename_i b1 S1 e1
    cases e
    exact ha env S b1 _ σ G H μ _ rl er e1 fun G1 H1 μ1 x1 => q G1 H1 μ1 x1
  · cases e
theorem se_if {c : TT} {ta tb : TE} {fc : FT} {fa fb : FE} (hc : ST K c fc) (ha : SE K ta fa) (hb : SE K tb fb) : SE K (tIf c ta tb) (ifX fc fa fb) := fun env S w S' σ G H μ Q rl er e q => by
  simp only [ifX] at e
  split at e
  · rename_i b1 S1 e1
    refine hc env S b1 S1 σ G H μ _ rl er e1 fun G1 H1 μ1 x1 => ?_
    cases b1 with
    | true => exact ha env S1 w S' σ G1 H1 μ1 Q x1.rel (x1.envR er) (by simpa using e) fun v G2 H2 μ2 x2 r2 => q v G2 H2 μ2 (x1.trans x2) r2
    | false => exact hb env S1 w S' σ G1 H1 μ1 Q x1.rel (x1.envR er) (by simpa using e) fun v G2 H2 μ2 x2 r2 => q v G2 H2 μ2 (x1.trans x2) r2
  · cases e
/-! statements -/
theorem Nx.endR {D : Ends} {c : Ctl} {σ' : L2.St} {G' H' : Hp} {μ' : List Addr} (h : EndR K D c σ' G' H' μ') : EndR K D c σ' G' H' μ' := h
theorem ss_skip : SS K tNext skipX := fun env S c env' S' σ G H μ D rl er e q => by
  cases e
  exact q σ G H μ (Nx.refl rl) er
theorem ss_seq {t u : TS} {f g : FS} (h1 : SS K t f) (h2 : SS K u g) : SS K (tSeq t u) (seqX f g) := fun env S c env' S' σ G H μ D rl er e q => by
  show t { D with nx := u D } σ H
  simp only [seqX] at e
  split at e
  · rename_i env1 S1 e1
    refine h1 env S _ env1 S1 σ G H μ _ rl er e1 fun σ1 G1 H1 μ1 x1 er1 => ?_
    show u D σ1 H1
    exact h2 env1 S1 c env' S' σ1 G1 H1 μ1 D x1.rel er1 e fun σ2 G2 H2 μ2 x2 er2 => q σ2 G2 H2 μ2 (x1.trans x2) er2
  · rename_i c1 env1 S1 hne e1
    cases e
    refine h1 env S _ _ _ σ G H μ _ rl er e1 fun σ1 G1 H1 μ1 x1 er1 => ?_
    have := q σ1 G1 H1 μ1 x1 er1
    cases c with
    | next => first | exact (hne rfl).elim | exact (hne _ rfl).elim | exact (hne _ _ rfl).elim
    | _ => exact this
  · cases e
theorem ss_drop {te : TE} {f : FE} (h : SE K te f) : SS K (tDrop te) (dropX f) := fun env S c env' S' σ G H μ D rl er e q => by
  simp only [dropX] at e
  split at e
  · rename_i w S1 e1
    cases e
    exact h env S w _ σ G H μ _ rl er e1 fun v G1 H1 μ1 x1 r1 => q σ G1 H1 μ1 x1 (x1.envR er)
  · cases e
theorem ss_ret {te : TE} {f : FE} (h : SE K te f) : SS K (tRet te) (retX f) := fun env S c env' S' σ G H μ D rl er e q => by
  simp only [retX] at e
  split at e
  · rename_i w S1 e1
    cases e
    exact h env S w _ σ G H μ _ rl er e1 fun v G1 H1 μ1 x1 r1 => q σ G1 H1 μ1 x1 (x1.envR er) v r1
  · cases e
theorem ss_retN : SS K tRetN retNX := fun env S c env' S' σ G H μ D rl er e q => by
  cases e
  exact q σ G H μ (Nx.refl rl) er _ .non
theorem ss_brk : SS K tBreak brkX := fun env S c env' S' σ G H μ D rl er e q => by
  cases e
  exact q σ G H μ (Nx.refl rl) er
theorem ss_cnt : SS K tCont cntX := fun env S c env' S' σ G H μ D rl er e q => by
  cases e
  exact q σ G H μ (Nx.refl rl) er
theorem ss_if {c : TT} {t u : TS} {fc : FT} {f g : FS} (hc : ST K c fc) (h1 : SS K t f) (h2 : SS K u g) : SS K (tIfS c t u) (ifS fc f g) := fun env S c env' S' σ G H μ D rl er e q => by
  simp only [ifS] at e
  split at e
  · rename_i b1 S1 e1
    refine hc env S b1 S1 σ G H μ _ rl er e1 fun G1 H1 μ1 x1 => ?_
    cases b1 with
    | true => exact h1 env S1 c env' S' σ G1 H1 μ1 D x1.rel (x1.envR er) (by simpa using e) fun σ2 G2 H2 μ2 x2 er2 => q σ2 G2 H2 μ2 (x1.trans x2) er2
    | false => exact h2 env S1 c env' S' σ G1 H1 μ1 D x1.rel (x1.envR er) (by simpa using e) fun σ2 G2 H2 μ2 x2 er2 => q σ2 G2 H2 μ2 (x1.trans x2) er2
  · cases e
theorem ss_asg {te : TE} {g : TG} {L : List Nat} {f : FE} {h : FG} (h1 : SE K te f) (h2 : SG K g L h) : SS K (tAsg te g) (asgX f h) := fun env S c env' S' σ G H μ D rl er e q => by
  simp only [asgX] at e
  split at e
  · rename_i w S1 e1
    split at e
    · rename_i env1 S2 e2
      cases e
      refine h1 env S w S1 σ G H μ _ rl er e1 fun v G1 H1 μ1 x1 r1 => ?_
      exact h2 w env S1 _ _ v σ G1 H1 μ1 _ x1.rel (x1.envR er) r1 e2 fun σ2 G2 H2 μ2 x2 er2 _ => q σ2 G2 H2 μ2 (x1.trans x2) er2
    · cases e
  · cases e
theorem wipe_comm (σ : L2.St) (i : Nat) (v : Option V) : ∀ vs : List Nat, i ∈ vs → wipe (σ.set i v) vs = wipe σ vs
  | [], h => nomatch h
  | j :: vs, h => by
    show (wipe (σ.set i v) vs).set j none = (wipe σ vs).set j none
    by_cases hj : i ∈ vs
    · rw [wipe_comm σ i v vs hj]
    · have e : i = j := by
        rcases List.mem_cons.mp h with z | z
        · exact z
        · exact absurd z hj
      subst e
      have gen : ∀ (vs : List Nat), i ∉ vs → wipe (σ.set i v) vs = (wipe σ vs).set i v := by
        intro vs
        induction vs with
        | nil => intro _; rfl
        | cons k vs ih =>
          intro hk
          show (wipe (σ.set i v) vs).set k none = ((wipe σ vs).set k none).set i v
          rw [ih (fun z => hk (List.mem_cons_of_mem _ z)), List.set_comm _ _ (fun z => hk (by rw [z]; exact List.mem_cons_self))]
      rw [gen vs hj, List.set_set]
theorem sg_name {i : Nat} : SG K (gName i) [i] (nameG i) := fun w env S env' S' v σ G H μ Q rl er r e q => by
  cases e
  exact q _ G H μ (Nx.refl rl) (er.set i r) fun vs h => wipe_comm σ i _ vs (h i (by simp))
theorem sgs_nil : SGs K gNil [] gNilX := fun ws env S env' S' vs σ G H μ Q rl er r e q => by
  cases r with
  | nil =>
    cases e
    exact ⟨rfl, q σ G H μ (Nx.refl rl) er fun _ _ => rfl⟩
  | cons => cases e
theorem sgs_cons {t : TG} {u : TGs} {L M : List Nat} {f : FG} {g : List W → Env → Store → Option (Env × Store)} (h1 : SG K t L f) (h2 : SGs K u M g) : SGs K (gCons t u) (L ++ M) (gConsX f g) := fun ws env S env' S' vs σ G H μ Q rl er r e q => by
  cases r with
  | nil => cases e
  | cons r rs =>
    simp only [gConsX] at e
    split at e
    · rename_i env1 S1 e1
      refine ⟨_, _, rfl, h1 _ env S env1 S1 _ σ G H μ _ rl er r e1 fun σ1 G1 H1 μ1 x1 er1 w1 => ?_⟩
      exact h2 _ env1 S1 env' S' _ σ1 G1 H1 μ1 Q x1.rel er1 (x1.rws rs) e fun σ2 G2 H2 μ2 x2 er2 w2 =>
        q σ2 G2 H2 μ2 (x1.trans x2) er2 fun vs hv => (w2 vs fun i hi => hv i (List.mem_append_right _ hi)).trans (w1 vs fun i hi => hv i (List.mem_append_left _ hi))
    · cases e
def tupG (n : Nat) (g : List W → Env → Store → Option (Env × Store)) : FG := fun w env S => match itemsT S w with
  | some ws => if ws.length = n then g ws env S else none
  | none => none
theorem sg_tup {n : Nat} {t : TGs} {L : List Nat} {g : List W → Env → Store → Option (Env × Store)} (h : SGs K t L g) : SG K (gTup K.k n t) L (tupG n g) := fun w env S env' S' v σ G H μ Q rl er r e q => by
  simp only [tupG] at e
  split at e
  · rename_i ws hw
    split at e
    · rename_i hn
      obtain ⟨a, vs, rfl, hs, ps⟩ := items_tup rl r hw
      exact ⟨a, vs, rfl, hs, (pd_len ps).trans hn, h ws env S env' S' vs σ G H μ Q rl er ps e q⟩
    · cases e
  · cases e
end
end Z

/-! Z3: numbers, comparisons, sequences. -/
namespace Z
open PySem PySem.Spec PyProof.Rows L2 Y
section
variable {X : Cx} {pins : List (Addr × Obj)} {σ : L2.St} {H : Hp} {s : Shared}
mutual
theorem RD.reads (I : Inv X pins σ H s) : ∀ {v : V} {d : PyData}, RD X.kx H v d → d.hasDict = false → ∀ u, RelV v u → ∃ as, Reads s.heap u d as
  | _, _, .non, _, u, r => by cases r; exact ⟨_, Reads.none⟩
  | _, _, .bl b, _, u, r => by cases r; exact ⟨_, Reads.bool b⟩
  | _, _, .int i, _, u, r => by obtain ⟨t, rfl⟩ := r; exact ⟨_, Reads.int i t⟩
  | _, _, .str x, _, u, r => by obtain ⟨t, rfl⟩ := r; exact ⟨_, Reads.str x t⟩
  | _, _, .lst hs ha, hd, u, r => by
    cases r
    obtain ⟨its, rv, ⟨o, n, ho, hc, _, hdt⟩, _⟩ := I.list (.inl hs)
    obtain ⟨as, hr⟩ := RDs.reads I ha (by simpa [PyData.hasDict] using hd) its rv
    exact ⟨_, Reads.list ho hc hdt hr⟩
  | _, _, .tup hs ha, hd, u, r => by
    cases r
    obtain ⟨its, rv, ⟨o, ho, hc, n, hdt⟩, _⟩ := I.tuple (SqT.of hs)
    obtain ⟨as, hr⟩ := RDs.reads I ha (by simpa [PyData.hasDict] using hd) its rv
    exact ⟨_, Reads.tuple ho hc hdt hr⟩
  | _, _, .dK _ _, hd, _, _ => by simp [PyData.hasDict] at hd
  | _, _, .dN _ _, hd, _, _ => by simp [PyData.hasDict] at hd
theorem RDs.reads (I : Inv X pins σ H s) : ∀ {vs : List V} {ds : List PyData}, RDs X.kx H vs ds → PyData.hasDictAll ds = false → ∀ us, Vals vs us → ∃ as, ReadsAll s.heap us ds as
  | _, _, .nil, _, us, r => by cases r; exact ⟨_, ReadsAll.nil⟩
  | _, _, .cons h1 h2, hd, us, r => by
    cases r with
    | cons r1 r2 =>
      simp only [PyData.hasDictAll, Bool.or_eq_false_iff] at hd
      obtain ⟨as, q1⟩ := RD.reads I h1 hd.1 _ r1
      obtain ⟨bs, q2⟩ := RDs.reads I h2 hd.2 _ r2
      exact ⟨_, ReadsAll.cons q1 q2⟩
end
end
section
variable {K : Kx} {H : Hp}
mutual
theorem RD.dp : ∀ {v : V} {d : PyData}, RD K H v d → d.hasDict = false → Dp K.k H v d
  | _, _, .non, _ => .non
  | _, _, .bl b, _ => .bl b
  | _, _, .int i, _ => .int i
  | _, _, .str x, _ => .str x
  | _, _, .lst hs ha, hd => .lst (.inl hs) (RDs.dp ha (by simpa [PyData.hasDict] using hd))
  | _, _, .tup hs ha, hd => .tup (SqT.of hs) (RDs.dp ha (by simpa [PyData.hasDict] using hd))
  | _, _, .dK _ _, hd => by simp [PyData.hasDict] at hd
  | _, _, .dN _ _, hd => by simp [PyData.hasDict] at hd
theorem RDs.dp : ∀ {vs : List V} {ds : List PyData}, RDs K H vs ds → PyData.hasDictAll ds = false → DpAll K.k H vs ds
  | _, _, .nil, _ => .nil
  | _, _, .cons h1 h2, hd => by
    simp only [PyData.hasDictAll, Bool.or_eq_false_iff] at hd
    exact .cons (RD.dp h1 hd.1) (RDs.dp h2 hd.2)
end
end
mutual
theorem lay_noDict : ∀ d : PyData, d.canLay0 = true → d.hasDict = false
  | .none, _ => rfl
  | .bool _, _ => rfl
  | .int _, _ => rfl
  | .str _, _ => rfl
  | .list xs, h => by rw [PyData.canLay0] at h; rw [PyData.hasDict]; exact lays_noDict xs h
  | .tuple xs, h => by rw [PyData.canLay0] at h; rw [PyData.hasDict]; exact lays_noDict xs h
  | .dict _, h => by simp [PyData.canLay0] at h
theorem lays_noDict : ∀ ds : List PyData, PyData.canLayAll0 ds = true → PyData.hasDictAll ds = false
  | [], _ => rfl
  | d :: ds, h => by
    simp only [PyData.canLayAll0, Bool.and_eq_true] at h
    simp only [PyData.hasDictAll, Bool.or_eq_false_iff]
    exact ⟨lay_noDict d h.1, lays_noDict ds h.2⟩
end
theorem shaped_lay {d : PyData} (h : SeqAt.shaped d = true) : d.canLay0 = true := by
  unfold SeqAt.shaped at h
  simp only [Bool.and_eq_true] at h
  exact h.1
/-- a value as it reads now: data, or a list of data that still is a cell -/
def snap (S : Store) : W → Option PyData
  | .k _ => none
  | .d x => some x
  | .c n => match S[n]? with
    | some (.frz x) => some x
    | some (.lst ws) => (match datas S ws with
      | some ds => some (.list ds)
      | none => none)
    | _ => none
/-! ### results -/
def vI (i : Int) (S : Store) : Option (W × Store) := some (.d (.int i), S)
def vB (b : Bool) (S : Store) : Option (W × Store) := some (.d (.bool b), S)
section
variable {K : Kx} {G H : Hp} {μ : List Addr} {S : Store} {v : V} {w : W}
theorem snap_rd (r : Rel K G H μ S) (h : RW K G μ v w) {x : PyData} (e : snap S w = some x) : RD K H v x := by
  cases w with
  | k ns => cases e
  | d y => cases e; exact RD.mono r.sub h
  | c n =>
    obtain ⟨a, h1, rfl⟩ := h
    simp only [snap] at e
    split at e
    · rename_i y hy
      cases e
      exact RD.mono r.sub (r.cell n a _ h1 hy)
    · rename_i ws hy
      split at e
      · rename_i ds hds
        cases e
        obtain ⟨vs, q1, q2, q3⟩ := r.cell n a _ h1 hy
        exact .lst (.inl q1) (RDs.mono r.sub (datas_rd r q2 hds))
      · cases e
    · cases e
end
/-! ### numbers -/
def numX (g : Int → Int → Option PyData) : Store → W → W → Option (W × Store) := fun S a b => match a, b with
  | .d (.int i), .d (.int j) => (match g i j with
    | some x => some (.d x, S)
    | none => none)
  | _, _ => none
section
variable {K : Kx}
theorem sr_num {C : Int → Int → Prop} {g : Int → Int → V} {f : Int → Int → Option PyData} (h : ∀ i j x, f i j = some x → C i j ∧ ∀ H, RD K H (g i j) x) : SR2 K (rI C g) (numX f) := fun S w1 w2 w S' G H μ v1 v2 Q rl r1 r2 e q => by
  unfold numX at e
  split at e
  · rename_i i j
    split at e
    · rename_i x hx
      cases e
      obtain ⟨hc, hr⟩ := h i j x hx
      exact ⟨i, j, int_of r1, int_of r2, hc, q _ G H μ (Nx.refl rl) (hr G)⟩
    · cases e
  · cases e
theorem sr_num0 {g : Int → Int → V} {f : Int → Int → Option PyData} (h : ∀ i j x, f i j = some x → ∀ H, RD K H (g i j) x) : SR2 K (rI0 g) (numX f) := fun S w1 w2 w S' G H μ v1 v2 Q rl r1 r2 e q => by
  unfold numX at e
  split at e
  · rename_i i j
    split at e
    · rename_i x hx
      cases e
      exact ⟨i, j, int_of r1, int_of r2, q _ G H μ (Nx.refl rl) (h i j x hx G)⟩
    · cases e
  · cases e
def addI : Int → Int → Option PyData := fun i j => some (.int (i + j))
def subI : Int → Int → Option PyData := fun i j => some (.int (i - j))
def mulI : Int → Int → Option PyData := fun i j => if i.natAbs.log2 + j.natAbs.log2 < 1000000 then some (.int (i * j)) else none
def divI : Int → Int → Option PyData := fun i j => if 0 < j ∧ j.natAbs.log2 < 9000 then some (.int (i / j)) else none
def modI : Int → Int → Option PyData := fun i j => if 0 < j then some (.int (i % j)) else none
def powI : Int → Int → Option PyData := fun i j => if 0 ≤ j ∧ j ≤ 1000000 ∧ i.natAbs < 2 ^ 64 then some (.int (i ^ j.toNat)) else none
theorem sr_sub : SR2 K (rI0 fun i j => .int (i - j)) (numX subI) := sr_num0 fun i j x e _ => by cases e; exact .int _
theorem sr_add : SR2 K (rI0 fun i j => .int (i + j)) (numX addI) := sr_num0 fun i j x e _ => by cases e; exact .int _
theorem sr_mul : SR2 K (rI CMulW fun i j => .int (i * j)) (numX mulI) := sr_num fun i j x e => by
  unfold mulI at e
  split at e
  · rename_i h; cases e; exact ⟨h, fun _ => .int _⟩
  · cases e
theorem sr_div : SR2 K (rI CDivW fun i j => .int (i / j)) (numX divI) := sr_num fun i j x e => by
  unfold divI at e
  split at e
  · rename_i h; cases e; exact ⟨h, fun _ => .int _⟩
  · cases e
theorem sr_mod : SR2 K (rI (fun _ j => 0 < j) fun i j => .int (i % j)) (numX modI) := sr_num fun i j x e => by
  unfold modI at e
  split at e
  · rename_i h; cases e; exact ⟨h, fun _ => .int _⟩
  · cases e
theorem sr_pow : SR2 K (rI CPow fun i j => .int (i ^ j.toNat)) (numX powI) := sr_num fun i j x e => by
  unfold powI at e
  split at e
  · rename_i h; cases e; exact ⟨h, fun _ => .int _⟩
  · cases e
/-! texts, lists, tuples put together -/
def addS : Store → W → W → Option (W × Store) := fun S a b => match a, b with
  | .d (.str x), .d (.str y) => if x.length + y.length ≤ sizeLine then some (.d (.str (x ++ y)), S) else none
  | _, _ => none
theorem sr_addS : SR2 K (fun x y H Q => ∃ i j, x = .str i ∧ y = .str j ∧ i.length + j.length ≤ sizeLine ∧ Q (.str (i ++ j)) H) addS := fun S w1 w2 w S' G H μ v1 v2 Q rl r1 r2 e q => by
  unfold addS at e
  split at e
  · rename_i x y
    split at e
    · rename_i h
      cases e
      exact ⟨x, y, str_of r1, str_of r2, h, q _ G H μ (Nx.refl rl) (.str _)⟩
    · cases e
  · cases e
/-- a new list, a new tuple of data -/
def newL (S : Store) (ws : List W) : Option (W × Store) := match datas S ws with
  | some ds => if ds.length ≤ sizeLine then some (.d (.list ds), S) else none
  | none => none
def newT (S : Store) (ws : List W) : Option (W × Store) := match datas S ws with
  | some ds => if ds.length ≤ sizeLine then some (.d (.tuple ds), S) else none
  | none => none
def newC (S : Store) (ws : List W) : Option (W × Store) := if ws.length ≤ sizeLine then some (.c S.length, S ++ [.lst ws]) else none
theorem RDs.len {K : Kx} {H : Hp} {vs : List V} {ds : List PyData} (h : RDs K H vs ds) : vs.length = ds.length := pd_len h.pd
theorem newL_ok {G H : Hp} {μ : List Addr} {S S' : Store} {vs : List V} {ws : List W} {w : W} {Q : VK} (rl : Rel K G H μ S) (p : Paired (RW K G μ) vs ws) (e : newL S ws = some (w, S')) (q : ∀ v G' H' μ', Nx K μ G H μ' G' H' S' → RW K G' μ' v w → Q v H') :
    vs.length ≤ sizeLine ∧ ∀ p, H p = none → Q (.ref p) (upd H p (.lst vs)) := by
  unfold newL at e
  split at e
  · rename_i ds hds
    split at e
    · rename_i hl
      cases e
      have rd := datas_rd rl p hds
      refine ⟨by rw [rd.len]; exact hl, fun p hp => q _ _ _ μ (nx_data rl hp) ?_⟩
      exact .lst (.inl upd_same) (RDs.mono (same_data (rl.gn hp)) rd)
    · cases e
  · cases e
theorem newT_ok {G H : Hp} {μ : List Addr} {S S' : Store} {vs : List V} {ws : List W} {w : W} {Q : VK} (rl : Rel K G H μ S) (p : Paired (RW K G μ) vs ws) (e : newT S ws = some (w, S')) (q : ∀ v G' H' μ', Nx K μ G H μ' G' H' S' → RW K G' μ' v w → Q v H') :
    vs.length ≤ sizeLine ∧ ∀ p, H p = none → Q (.ref p) (upd H p (.tup vs)) := by
  unfold newT at e
  split at e
  · rename_i ds hds
    split at e
    · rename_i hl
      cases e
      have rd := datas_rd rl p hds
      refine ⟨by rw [rd.len]; exact hl, fun p hp => q _ _ _ μ (nx_data rl hp) ?_⟩
      exact .tup upd_same (RDs.mono (same_data (rl.gn hp)) rd)
    · cases e
  · cases e
theorem newC_ok {G H : Hp} {μ : List Addr} {S S' : Store} {vs : List V} {ws : List W} {w : W} {Q : VK} (rl : Rel K G H μ S) (p : Paired (RW K G μ) vs ws) (e : newC S ws = some (w, S')) (q : ∀ v G' H' μ', Nx K μ G H μ' G' H' S' → RW K G' μ' v w → Q v H') :
    vs.length ≤ sizeLine ∧ ∀ p, H p = none → Q (.ref p) (upd H p (.lst vs)) := by
  unfold newC at e
  split at e
  · rename_i hl
    cases e
    refine ⟨by rw [pd_len p]; exact hl, fun a ha => q _ _ _ _ (nx_cell rl ha (c := .lst ws) ⟨vs, upd_same, pws_mono (Same.refl _) [a] p, rl.gn ha⟩) ?_⟩
    exact ⟨a, by rw [← rl.len, List.getElem?_append_right (Nat.le_refl _), Nat.sub_self]; rfl, rfl⟩
  · cases e
/-- new in one of three ways -/
def NewOk (K : Kx) (o : List V → HO) (nw : Store → List W → Option (W × Store)) : Prop := ∀ {G H : Hp} {μ : List Addr} {S S' : Store} {vs : List V} {ws : List W} {w : W} {Q : VK}, Rel K G H μ S → Paired (RW K G μ) vs ws → nw S ws = some (w, S') →
  (∀ v G' H' μ', Nx K μ G H μ' G' H' S' → RW K G' μ' v w → Q v H') → vs.length ≤ sizeLine ∧ ∀ p, H p = none → Q (.ref p) (upd H p (o vs))
theorem nL : NewOk K .lst newL := newL_ok
theorem nC : NewOk K .lst newC := newC_ok
theorem nT : NewOk K .tup newT := newT_ok
variable {X : Cx}
theorem z_tup {es : List Expr} {t : TA} {f : FA} {k : Nat} {pos : Pos} (h : ZA K X es t f) : ZE K X (.Tuple es k pos) (tTup t) (argX newT f) :=
  ⟨pe_tup h.pe, fun env S w S' σ G H μ Q rl er e q => by
    simp only [argX] at e
    split at e
    · rename_i as S1 e1
      exact h.se env S as S1 σ G H μ _ rl er e1 fun vs G1 H1 μ1 x1 r1 => newT_ok x1.rel r1 e fun v G2 H2 μ2 x2 r2 => q v G2 H2 μ2 (x1.trans x2) r2
    · cases e⟩
theorem z_lst {es : List Expr} {t : TA} {f : FA} {pos : Pos} {nw : Store → List W → Option (W × Store)} (hn : NewOk K .lst nw) (h : ZA K X es t f) : ZE K X (.List es pos) (tLst t) (argX nw f) :=
  ⟨pe_lst h.pe, fun env S w S' σ G H μ Q rl er e q => by
    simp only [argX] at e
    split at e
    · rename_i as S1 e1
      exact h.se env S as S1 σ G H μ _ rl er e1 fun vs G1 H1 μ1 x1 r1 => hn x1.rel r1 e fun v G2 H2 μ2 x2 r2 => q v G2 H2 μ2 (x1.trans x2) r2
    · cases e⟩
/-- list + list, whatever they are -/
def rCatL : R2 := fun x y H Q => ∃ l b xs zs, x = .ref l ∧ y = .ref b ∧ Rd H l (.lst xs) ∧ Rd H b (.lst zs) ∧ xs.length + zs.length ≤ sizeLine ∧ ∀ p, H p = none → Q (.ref p) (upd H p (.lst (xs ++ zs)))
theorem op_catL : OpR X (binaryOp .Add) rCatL := by
  intro pins s σ H x y v u Q I rx ry h
  obtain ⟨l, b, xs, zs, rfl, rfl, hH, hB, hz, q⟩ := h
  cases rx
  cases ry
  obtain ⟨hl, its, n, r, e⟩ := hH.ok I.hok
  obtain ⟨hl2, its2, m, r2, e2⟩ := hB.ok I.hok
  have n1 := r.length
  have n2 := r2.length
  refine PySem.P.add_list e e2 ?_ (by rw [List.size_toArray, List.size_toArray]; omega)
  have ea : its.toArray ++ its2.toArray = (its ++ its2).toArray := by simp
  rw [ea]
  exact ⟨.ref _, _, I.lnew (t' := s.toks) (r.append r2) (by rw [List.length_append]; omega), rfl, q _ I.fresh⟩
def catL (nw : Store → List W → Option (W × Store)) : Store → W → W → Option (W × Store) := fun S a b => match itemsL S a, itemsL S b with
  | some xs, some ys => nw S (xs ++ ys)
  | _, _ => none
theorem sr_catL {nw : Store → List W → Option (W × Store)} (hn : NewOk K .lst nw) : SR2 K rCatL (catL nw) := fun S w1 w2 w S' G H μ v1 v2 Q rl r1 r2 e q => by
  unfold catL at e
  split at e
  · rename_i xs ys hx hy
    obtain ⟨a, vs, rfl, s1, p1⟩ := items_list rl r1 hx
    obtain ⟨b, us, rfl, s2, p2⟩ := items_list rl r2 hy
    obtain ⟨h1, h2⟩ := hn rl (pd_app p1 p2) e q
    exact ⟨a, b, vs, us, rfl, rfl, s1, s2, by simpa using h1, h2⟩
  · cases e
def catT : Store → W → W → Option (W × Store) := fun S a b => match itemsT S a, itemsT S b with
  | some xs, some ys => if xs = [] then none else if ys = [] then (if xs.length ≤ sizeLine then some (a, S) else none) else newT S (xs ++ ys)
  | _, _ => none
theorem sr_catT : SR2 K (rCatT K.k) catT := fun S w1 w2 w S' G H μ v1 v2 Q rl r1 r2 e q => by
  unfold catT at e
  split at e
  · rename_i xs ys hx hy
    obtain ⟨a, vs, rfl, s1, p1⟩ := items_tup rl r1 hx
    obtain ⟨b, us, rfl, s2, p2⟩ := items_tup rl r2 hy
    split at e
    · cases e
    · rename_i hne
      have vne : vs ≠ [] := fun z => by subst z; cases p1; exact hne rfl
      split at e
      · rename_i hy0
        split at e
        · rename_i hl
          cases e
          subst hy0
          cases p2
          exact ⟨a, b, vs, [], rfl, rfl, s1, s2, vne, by rw [pd_len p1]; exact hl, fun _ => q _ G H μ (Nx.refl rl) r1, fun z => absurd rfl z⟩
        · cases e
      · rename_i hy0
        obtain ⟨h1, h2⟩ := newT_ok rl (pd_app p1 p2) e q
        exact ⟨a, b, vs, us, rfl, rfl, s1, s2, vne, by simpa using h1, fun z => absurd (by subst z; cases p2; rfl) hy0, fun _ => h2⟩
  · cases e
end
end Z

/-! Z4: comparisons, membership, places, slices, lengths. -/
namespace Z
open PySem PySem.Spec PyProof.Rows L2 Y
variable {K : Kx} {X : Cx}
/-! ### + and * as a whole -/
def addW (nw : Store → List W → Option (W × Store)) : Store → W → W → Option (W × Store) := fun S a b => (numX addI S a b).or ((addS S a b).or ((catL nw S a b).or (catT S a b)))
theorem z_add {nw : Store → List W → Option (W × Store)} {a b : Expr} {ta tb : TE} {fa fb : FE} {pos : Pos} (hK : X.kx = K) (hn : NewOk K .lst nw) (ha : ZE K X a ta fa) (hb : ZE K X b tb fb) : ZE K X (.BinOp a .Add b pos) (tOp (fun x y H Q => rI0 (fun i j => .int (i + j)) x y H Q ∨ (∃ i j, x = .str i ∧ y = .str j ∧ i.length + j.length ≤ sizeLine ∧ Q (.str (i ++ j)) H) ∨ rCatL x y H Q ∨ rCatT K.k x y H Q) ta tb) (op2X (addW nw) fa fb) :=
  ⟨pe_op (op_add.or (op_add_str.or (op_catL.or (op_catTK (kOf hK))))) ha.pe hb.pe, se_op (sr_add.or (sr_addS.or ((sr_catL hn).or sr_catT))) ha.se hb.se⟩
theorem z_sub {a b : Expr} {ta tb : TE} {fa fb : FE} {pos : Pos} (ha : ZE K X a ta fa) (hb : ZE K X b tb fb) : ZE K X (.BinOp a .Sub b pos) (tOp (rI0 fun i j => .int (i - j)) ta tb) (op2X (numX subI) fa fb) := ⟨pe_op op_sub ha.pe hb.pe, se_op sr_sub ha.se hb.se⟩
theorem z_div {a b : Expr} {ta tb : TE} {fa fb : FE} {pos : Pos} (ha : ZE K X a ta fa) (hb : ZE K X b tb fb) : ZE K X (.BinOp a .FloorDiv b pos) (tOp (rI CDivW fun i j => .int (i / j)) ta tb) (op2X (numX divI) fa fb) := ⟨pe_op op_fdivW ha.pe hb.pe, se_op sr_div ha.se hb.se⟩
theorem z_mod {a b : Expr} {ta tb : TE} {fa fb : FE} {pos : Pos} (ha : ZE K X a ta fa) (hb : ZE K X b tb fb) : ZE K X (.BinOp a .Mod b pos) (tOp (rI (fun _ j => 0 < j) fun i j => .int (i % j)) ta tb) (op2X (numX modI) fa fb) := ⟨pe_op op_mod ha.pe hb.pe, se_op sr_mod ha.se hb.se⟩
theorem z_pow {a b : Expr} {ta tb : TE} {fa fb : FE} {pos : Pos} (ha : ZE K X a ta fa) (hb : ZE K X b tb fb) : ZE K X (.BinOp a .Pow b pos) (tOp (rI CPow fun i j => .int (i ^ j.toNat)) ta tb) (op2X (numX powI) fa fb) := ⟨pe_op op_pow ha.pe hb.pe, se_op sr_pow ha.se hb.se⟩
def repL (nw : Store → List W → Option (W × Store)) : Store → W → W → Option (W × Store) := fun S a b => match itemsL S a, b with
  | some ws, .d (.int k) => if -(2 ^ 63) ≤ k ∧ k < 2 ^ 63 then nw S (List.replicate k.toNat ws).flatten else none
  | _, _ => none
def rRepL : R2 := fun x y H Q => ∃ l k xs, x = .ref l ∧ y = .int k ∧ H l = some (.lst xs) ∧ -(2 ^ 63) ≤ k ∧ k < 2 ^ 63 ∧ xs.length * k.toNat ≤ sizeLine ∧
  ∀ p, H p = none → Q (.ref p) (upd H p (.lst (List.replicate k.toNat xs).flatten))
theorem pd_flat {α β : Type} {F : α → β → Prop} {xs : List α} {ys : List β} (h : Paired F xs ys) : ∀ n, Paired F (List.replicate n xs).flatten (List.replicate n ys).flatten
  | 0 => .nil
  | n + 1 => by
    rw [List.replicate_succ, List.replicate_succ, List.flatten_cons, List.flatten_cons]
    exact pd_app h (pd_flat h n)
theorem flat_len {α : Type} (xs : List α) : ∀ n, (List.replicate n xs).flatten.length = xs.length * n
  | 0 => rfl
  | n + 1 => by
    rw [List.replicate_succ, List.flatten_cons, List.length_append, flat_len xs n, Nat.mul_succ, Nat.add_comm]
/-- a list that is not locked -/
def itemsM (S : Store) : W → Option (List W)
  | .c n => match S[n]? with
    | some (.lst ws) => some ws
    | _ => none
  | _ => none
/-! ### == -/
def eqD : PyData → PyData → Option Bool
  | .int i, .int j => some (decide (i = j))
  | .str x, .str y => some (decide (x = y))
  | .bool a, .bool b => some (decide (a = b))
  | .none, .none => some true
  | .none, .int _ => some false
  | .int _, .none => some false
  | .none, .str _ => some false
  | .str _, .none => some false
  | .none, .bool _ => some false
  | .bool _, .none => some false
  | .int _, .str _ => some false
  | .str _, .int _ => some false
  | .bool _, .str _ => some false
  | .str _, .bool _ => some false
  | x, y => if SeqAt.shaped x = true ∧ SeqAt.shaped y = true then some (PyData.eqv x y) else none
def eqW : Store → W → W → Option (W × Store) := fun S a b => match snap S a, snap S b with
  | some x, some y => (match eqD x y with
    | some k => some (.d (.bool k), S)
    | none => none)
  | _, _ => none
def neW : Store → W → W → Option (W × Store) := fun S a b => match snap S a, snap S b with
  | some x, some y => (match eqD x y with
    | some k => some (.d (.bool !k), S)
    | none => none)
  | _, _ => none
theorem eqD_ok {H : Hp} {v1 v2 : V} {x y : PyData} {k : Bool} (h1 : RD K H v1 x) (h2 : RD K H v2 y) (e : eqD x y = some k) : (scal v1 v2 = true ∧ decide (v1 = v2) = k) ∨
    (Dp K.k H v1 x ∧ Dp K.k H v2 y ∧ SeqAt.shaped x = true ∧ SeqAt.shaped y = true ∧ PyData.eqv x y = k) := by
  unfold eqD at e
  split at e
  case h_15 =>
    split at e
    · rename_i h
      cases e
      exact .inr ⟨h1.dp (lay_noDict _ (shaped_lay h.1)), h2.dp (lay_noDict _ (shaped_lay h.2)), h.1, h.2, rfl⟩
    · cases e
  all_goals
    cases e
    cases h1
    cases h2
    refine .inl ⟨rfl, ?_⟩
    simp
theorem sr_eq : SR2 K (fun x y H Q => rEq x y H Q ∨ rEqD K.k x y H Q) eqW := fun S w1 w2 w S' G H μ v1 v2 Q rl r1 r2 e q => by
  unfold eqW at e
  split at e
  · rename_i x y hx hy
    split at e
    · rename_i k hk
      cases e
      have q' := q (.bl k) G H μ (Nx.refl rl) (.bl k)
      rcases eqD_ok (snap_rd rl r1 hx) (snap_rd rl r2 hy) hk with ⟨h1, h2⟩ | ⟨h1, h2, h3, h4, h5⟩
      · exact .inl ⟨h1, by rw [h2]; exact q'⟩
      · exact .inr ⟨x, y, h1, h2, h3, h4, by rw [h5]; exact q'⟩
    · cases e
  · cases e
theorem sr_ne : SR2 K (fun x y H Q => rNe x y H Q ∨ rNeD K.k x y H Q) neW := fun S w1 w2 w S' G H μ v1 v2 Q rl r1 r2 e q => by
  unfold neW at e
  split at e
  · rename_i x y hx hy
    split at e
    · rename_i k hk
      cases e
      have q' := q (.bl !k) G H μ (Nx.refl rl) (.bl _)
      rcases eqD_ok (snap_rd rl r1 hx) (snap_rd rl r2 hy) hk with ⟨h1, h2⟩ | ⟨h1, h2, h3, h4, h5⟩
      · exact .inl ⟨h1, by rw [h2]; exact q'⟩
      · exact .inr ⟨x, y, h1, h2, h3, h4, by rw [h5]; exact q'⟩
    · cases e
  · cases e
/-! ### < -/
def notNone : PyData → Bool
  | .none => false
  | _ => true
def ltD (x y : PyData) : Option Bool := match x, y with
  | .int i, .int j => some (decide (i < j))
  | x, y => if PySem.W.alike x y = true ∧ notNone x = true ∧ x.depth ≤ 60 ∧ x.hasDict = false ∧ y.hasDict = false then some (PySem.W.dataLt x y) else none
/-- k reads two data that can be ordered -/
def rOrd (K : Kx) (k : PyData → PyData → Bool) : R2 := fun x y H Q => ∃ dx dy, RD K H x dx ∧ RD K H y dy ∧ dx.hasDict = false ∧ dy.hasDict = false ∧ PySem.W.alike dx dy = true ∧ dx ≠ .none ∧ dx.depth ≤ 60 ∧ Q (.bl (k dx dy)) H
theorem op_ord {op : CmpOp} {k : PyData → PyData → Bool} (hK : X.kx = K) (hu : X.A.units + 64 < cLine)
    (rule : ∀ {E : Value → Shared → Prop} {s : Shared} {a b : Value} {da db : PyData} {as bs : List Addr} {Q : Value → Shared → Prop}, Reads s.heap a da as → Reads s.heap b db bs → PySem.W.alike da db = true → da ≠ .none → X.A.units + min da.depth db.depth < cLine → Q (.bool (k da db)) s → wpAny (model X.prog X.w) X.A (compareOp op a b) Q E s) :
    OpR X (compareOp op) (rOrd K k) := by
  subst hK
  intro pins s σ H x y v u Q I rx ry ⟨dx, dy, h1, h2, n1, n2, ha, hn, hd, q⟩
  obtain ⟨as, ra⟩ := h1.reads I n1 v rx
  obtain ⟨bs, rb⟩ := h2.reads I n2 u ry
  exact rule ra rb ha hn (by omega) ⟨.bl _, H, I, rfl, q⟩
def ordW (f : PyData → PyData → Option Bool) : Store → W → W → Option (W × Store) := fun S a b => match snap S a, snap S b with
  | some x, some y => (match f x y with
    | some k => some (.d (.bool k), S)
    | none => none)
  | _, _ => none
def ordD (ki : Int → Int → Bool) (k : PyData → PyData → Bool) (x y : PyData) : Option Bool := match x, y with
  | .int i, .int j => some (ki i j)
  | x, y => if PySem.W.alike x y = true ∧ notNone x = true ∧ x.depth ≤ 60 ∧ x.hasDict = false ∧ y.hasDict = false then some (k x y) else none
theorem sr_ord {ki : Int → Int → Bool} {k : PyData → PyData → Bool} (hk : ∀ i j, k (.int i) (.int j) = ki i j) : SR2 K (rOrd K k) (ordW (ordD ki k)) := fun S w1 w2 w S' G H μ v1 v2 Q rl r1 r2 e q => by
  unfold ordW at e
  split at e
  · rename_i x y hx hy
    split at e
    · rename_i b hb
      cases e
      have q' := q (.bl b) G H μ (Nx.refl rl) (.bl b)
      have h1 := snap_rd rl r1 hx
      have h2 := snap_rd rl r2 hy
      unfold ordD at hb
      split at hb
      · rename_i i j
        cases hb
        exact ⟨_, _, h1, h2, rfl, rfl, rfl, (fun z => nomatch z), Nat.zero_le _, by rw [hk]; exact q'⟩
      · split at hb
        · rename_i h
          cases hb
          exact ⟨_, _, h1, h2, h.2.2.2.1, h.2.2.2.2, h.1, (fun z => by have := h.2.1; rw [z] at this; cases this), h.2.2.1, q'⟩
        · cases hb
    · cases e
  · cases e
abbrev ltK : PyData → PyData → Bool := PySem.W.dataLt
abbrev gtK : PyData → PyData → Bool := fun x y => PySem.W.dataLt y x
abbrev leK : PyData → PyData → Bool := fun x y => !PySem.W.dataLt y x
abbrev geK : PyData → PyData → Bool := fun x y => !PySem.W.dataLt x y
abbrev ltI : Int → Int → Bool := fun i j => decide (i < j)
abbrev gtI : Int → Int → Bool := fun i j => decide (j < i)
abbrev leI : Int → Int → Bool := fun i j => decide (i ≤ j)
abbrev geI : Int → Int → Bool := fun i j => decide (j ≤ i)
theorem not_dec (i j : Int) : (!decide (j < i)) = decide (i ≤ j) := by
  by_cases h : j < i
  · simp [h]
  · simp [h]; omega
/-- a comparison: its rule over the machine, its meaning -/
structure ZC (K : Kx) (X : Cx) (op : CmpOp) (r : R2) (g : Store → W → W → Option (W × Store)) : Prop where
  op : OpR X (compareOp op) r
  sr : SR2 K r g
theorem zc_eq (hK : X.kx = K) (hu : X.A.units + 64 < cLine) : ZC K X .Eq (fun x y H Q => rEq x y H Q ∨ rEqD K.k x y H Q) eqW := ⟨op_eq.or (op_eqDK (kOf hK) hu), sr_eq⟩
theorem zc_ne (hK : X.kx = K) (hu : X.A.units + 64 < cLine) : ZC K X .NotEq (fun x y H Q => rNe x y H Q ∨ rNeD K.k x y H Q) neW := ⟨op_ne.or (op_neDK (kOf hK) hu), sr_ne⟩
theorem zc_lt (hK : X.kx = K) (hu : X.A.units + 64 < cLine) : ZC K X .Lt (rOrd K ltK) (ordW (ordD ltI ltK)) := ⟨op_ord hK hu fun ra rb h hn hu hq => PySem.W.lt_data ra rb h hn hu hq, sr_ord PySem.W.dataLt_int⟩
theorem zc_gt (hK : X.kx = K) (hu : X.A.units + 64 < cLine) : ZC K X .Gt (rOrd K gtK) (ordW (ordD gtI gtK)) := ⟨op_ord hK hu fun ra rb h hn hu hq => PySem.W.gt_data ra rb h hn hu hq, sr_ord fun i j => PySem.W.dataLt_int j i⟩
theorem zc_le (hK : X.kx = K) (hu : X.A.units + 64 < cLine) : ZC K X .LtE (rOrd K leK) (ordW (ordD leI leK)) := ⟨op_ord hK hu fun ra rb h hn hu hq => PySem.W.le_data ra rb h hn hu hq, sr_ord fun i j => by show (!PySem.W.dataLt (.int j) (.int i)) = _; rw [PySem.W.dataLt_int]; exact not_dec i j⟩
theorem zc_ge (hK : X.kx = K) (hu : X.A.units + 64 < cLine) : ZC K X .GtE (rOrd K geK) (ordW (ordD geI geK)) := ⟨op_ord hK hu fun ra rb h hn hu hq => PySem.W.ge_data ra rb h hn hu hq, sr_ord fun i j => by show (!PySem.W.dataLt (.int i) (.int j)) = _; rw [PySem.W.dataLt_int]; exact not_dec j i⟩
theorem z_cmp {op : CmpOp} {r : R2} {g : Store → W → W → Option (W × Store)} {a b : Expr} {ta tb : TE} {fa fb : FE} {pos : Pos} (c : ZC K X op r g) (ha : ZE K X a ta fa) (hb : ZE K X b tb fb) (hm : behindInMarks op b = false) : ZE K X (.Compare a [op] [b] pos) (tOp r ta tb) (op2X g fa fb) :=
  ⟨pe_cmpR c.op ha.pe hb.pe hm, se_op c.sr ha.se hb.se⟩
theorem zt_cmp {op : CmpOp} {r : R2} {g : Store → W → W → Option (W × Store)} {a b : Expr} {ta tb : TE} {fa fb : FE} {pos : Pos} (c : ZC K X op r g) (ha : ZE K X a ta fa) (hb : ZE K X b tb fb) (hm : behindInMarks op b = false) : ZT K X (.Compare a [op] [b] pos) (tTest (tOp r ta tb)) (bbX (op2X g fa fb)) :=
  ⟨pt_cmpR c.op ha.pe hb.pe hm, st_b (se_op c.sr ha.se hb.se)⟩
theorem st_b2 {ta : TE} {fa : FE} (ha : SE K ta fa) : ST K (tB ta) (bbX fa) := st_b ha
theorem zt_bool {e : Expr} {ta : TE} {fa : FE} (ha : ZE K X e ta fa) (he : ∀ whole, isTrue e X.env whole = (do let v ← whole; standAt e.pos; holding [v] (truthy v)) := by intro _; rfl) : ZT K X e (tB ta) (bbX fa) := ⟨pt_val ha.pe he, st_b2 ha.se⟩
/-- is None -/
def isNoneW : W → Bool
  | .d .none => true
  | _ => false
def isNX : FE → FE := op1X fun S w => vB (isNoneW w) S
def notNX : FE → FE := op1X fun S w => vB (!isNoneW w) S
theorem non_iff {G : Hp} {μ : List Addr} {v : V} {w : W} (h : RW K G μ v w) : decide (v = .non) = isNoneW w := by
  cases w with
  | k ns => obtain ⟨a, rfl, _⟩ := h; rfl
  | d x => cases h <;> rfl
  | c n => obtain ⟨a, _, rfl⟩ := h; rfl
theorem se_isN {ta : TE} {fa : FE} (ha : SE K ta fa) : SE K (tIsN ta) (isNX fa) := fun env S w S' σ G H μ Q rl er e q => by
  simp only [isNX, op1X] at e
  split at e
  · rename_i a S1 e1
    refine ha env S a S1 σ G H μ _ rl er e1 fun v1 G1 H1 μ1 x1 r1 => ?_
    rw [non_iff r1]
    cases e
    exact q _ G1 H1 μ1 x1 (.bl _)
  · cases e
theorem se_notN {ta : TE} {fa : FE} (ha : SE K ta fa) : SE K (tNotN ta) (notNX fa) := fun env S w S' σ G H μ Q rl er e q => by
  simp only [notNX, op1X] at e
  split at e
  · rename_i a S1 e1
    refine ha env S a S1 σ G H μ _ rl er e1 fun v1 G1 H1 μ1 x1 r1 => ?_
    rw [non_iff r1]
    cases e
    exact q _ G1 H1 μ1 x1 (.bl _)
  · cases e
theorem z_isN {a : Expr} {j : Nat} {p pos : Pos} {ta : TE} {fa : FE} (ha : ZE K X a ta fa) : ZE K X (.Compare a [.Is] [.Constant .none j p] pos) (tIsN ta) (isNX fa) := ⟨pe_cmp (pc_isN ha.pe), se_isN ha.se⟩
theorem z_notN {a : Expr} {j : Nat} {p pos : Pos} {ta : TE} {fa : FE} (ha : ZE K X a ta fa) : ZE K X (.Compare a [.IsNot] [.Constant .none j p] pos) (tNotN ta) (notNX fa) := ⟨pe_cmp (pc_notN ha.pe), se_notN ha.se⟩
theorem zt_isN {a : Expr} {j : Nat} {p pos : Pos} {ta : TE} {fa : FE} (ha : ZE K X a ta fa) : ZT K X (.Compare a [.Is] [.Constant .none j p] pos) (tB (tIsN ta)) (bbX (isNX fa)) := ⟨pt_cmp (pc_isN ha.pe), st_b2 (se_isN ha.se)⟩
theorem zt_notN {a : Expr} {j : Nat} {p pos : Pos} {ta : TE} {fa : FE} (ha : ZE K X a ta fa) : ZT K X (.Compare a [.IsNot] [.Constant .none j p] pos) (tB (tNotN ta)) (bbX (notNX fa)) := ⟨pt_cmp (pc_notN ha.pe), st_b2 (se_notN ha.se)⟩
/-! ### and, or, not -/
theorem zw_and1 {a : Expr} {pos : Pos} {t : TT} {f : FT} (h : ZT K X a t f) : ZW K X (.BoolOp .And [a] pos) t f := ⟨pw_and1 h.pe, h.se⟩
theorem zw_or1 {a : Expr} {pos : Pos} {t : TT} {f : FT} (h : ZT K X a t f) : ZW K X (.BoolOp .Or [a] pos) t f := ⟨pw_or1 h.pe, h.se⟩
theorem zw_and {a b : Expr} {rest : List Expr} {pos : Pos} {t u : TT} {f g : FT} (h : ZT K X a t f) (h2 : ZW K X (.BoolOp .And (b :: rest) pos) u g) : ZW K X (.BoolOp .And (a :: b :: rest) pos) (tAnd t u) (andT f g) := ⟨pw_and h.pe h2.pe, st_and h.se h2.se⟩
theorem zw_or {a b : Expr} {rest : List Expr} {pos : Pos} {t u : TT} {f g : FT} (h : ZT K X a t f) (h2 : ZW K X (.BoolOp .Or (b :: rest) pos) u g) : ZW K X (.BoolOp .Or (a :: b :: rest) pos) (tOr t u) (orT f g) := ⟨pw_or h.pe h2.pe, st_or h.se h2.se⟩
theorem ZW.zt {e : Expr} {t : TT} {f : FT} (h : ZW K X e t f) : ZT K X e t f := ⟨h.pe.pt, h.se⟩
theorem zt_not {a : Expr} {pos : Pos} {t : TT} {f : FT} (h : ZT K X a t f) : ZT K X (.UnaryOp .Not a pos) (tNot t) (notT f) := ⟨pt_not h.pe, st_not h.se⟩
/-- .. as values (bools) -/
def andV (fa fb : FE) : FE := fun env S => match fa env S with
  | some (.d (.bool b), S1) => if b = true then fb env S1 else some (.d (.bool false), S1)
  | _ => none
def orV (fa fb : FE) : FE := fun env S => match fa env S with
  | some (.d (.bool b), S1) => if b = true then some (.d (.bool true), S1) else fb env S1
  | _ => none
def notV : FE → FE := op1X fun S w => match w with
  | .d (.bool b) => vB (!b) S
  | _ => none
theorem z_one {op : BoolOp} {a : Expr} {pos : Pos} {t : TE} {f : FE} (h : ZE K X a t f) : ZE K X (.BoolOp op [a] pos) t f := ⟨pe_one h.pe, h.se⟩
theorem z_and {a b : Expr} {rest : List Expr} {pos : Pos} {ta tb : TE} {fa fb : FE} (ha : ZE K X a ta fa) (hb : ZE K X (.BoolOp .And (b :: rest) pos) tb fb) : ZE K X (.BoolOp .And (a :: b :: rest) pos) (tAndV ta tb) (andV fa fb) :=
  ⟨pe_and ha.pe hb.pe, fun env S w S' σ G H μ Q rl er e q => by
    simp only [andV] at e
    split at e
    · rename_i b1 S1 e1
      refine ha.se env S _ S1 σ G H μ _ rl er e1 fun v1 G1 H1 μ1 x1 r1 => ?_
      obtain rfl := bool_of r1
      refine ⟨b1, rfl, ?_⟩
      cases b1 with
      | true => exact hb.se env S1 w S' σ G1 H1 μ1 Q x1.rel (x1.envR er) (by simpa using e) fun v G2 H2 μ2 x2 r2 => q v G2 H2 μ2 (x1.trans x2) r2
      | false =>
        rw [if_neg Bool.false_ne_true] at e ⊢
        cases e
        exact q _ G1 H1 μ1 x1 (.bl _)
    · cases e⟩
theorem z_or {a b : Expr} {rest : List Expr} {pos : Pos} {ta tb : TE} {fa fb : FE} (ha : ZE K X a ta fa) (hb : ZE K X (.BoolOp .Or (b :: rest) pos) tb fb) : ZE K X (.BoolOp .Or (a :: b :: rest) pos) (tOrV ta tb) (orV fa fb) :=
  ⟨pe_or ha.pe hb.pe, fun env S w S' σ G H μ Q rl er e q => by
    simp only [orV] at e
    split at e
    · rename_i b1 S1 e1
      refine ha.se env S _ S1 σ G H μ _ rl er e1 fun v1 G1 H1 μ1 x1 r1 => ?_
      obtain rfl := bool_of r1
      refine ⟨b1, rfl, ?_⟩
      cases b1 with
      | false => exact hb.se env S1 w S' σ G1 H1 μ1 Q x1.rel (x1.envR er) (by simpa using e) fun v G2 H2 μ2 x2 r2 => q v G2 H2 μ2 (x1.trans x2) r2
      | true =>
        rw [if_pos rfl] at e ⊢
        cases e
        exact q _ G1 H1 μ1 x1 (.bl _)
    · cases e⟩
theorem z_not {a : Expr} {pos : Pos} {ta : TE} {fa : FE} (ha : ZE K X a ta fa) : ZE K X (.UnaryOp .Not a pos) (tNotV ta) (notV fa) :=
  ⟨pe_not ha.pe, fun env S w S' σ G H μ Q rl er e q => by
    simp only [notV, op1X] at e
    split at e
    · rename_i a1 S1 e1
      refine ha.se env S _ S1 σ G H μ _ rl er e1 fun v1 G1 H1 μ1 x1 r1 => ?_
      split at e
      · rename_i b1
        cases e
        obtain rfl := bool_of r1
        exact ⟨b1, rfl, q _ G1 H1 μ1 x1 (.bl _)⟩
      · cases e
    · cases e⟩
theorem z_if {c a b : Expr} {pos : Pos} {tc : TT} {ta tb : TE} {fc : FT} {fa fb : FE} (hc : ZT K X c tc fc) (ha : ZE K X a ta fa) (hb : ZE K X b tb fb) : ZE K X (.IfExp c a b pos) (tIf tc ta tb) (ifX fc fa fb) := ⟨pe_ifExp hc.pe ha.pe hb.pe, se_if hc.se ha.se hb.se⟩
/-! ### statements -/
theorem zs_set {i : Nat} {x : Str} {e : Expr} {te : TE} {f : FE} {p pos : Pos} (h : ZE K X e te f) (hp : PS X (.Assign [.Name x p] e pos) (tAsg te (gName i))) : ZS K X (.Assign [.Name x p] e pos) (tAsg te (gName i)) (asgX f (nameG i)) := ⟨hp, ss_asg h.se sg_name⟩
theorem zs_expr {e : Expr} {te : TE} {f : FE} {pos : Pos} (he : ZE K X e te f) (hs : swapsWith e none pos.line X.env = pure false := by rfl) : ZS K X (.Expr e pos) (tDrop te) (dropX f) := ⟨ps_expr he.pe hs, ss_drop he.se⟩
theorem zs_ret {e : Expr} {te : TE} {f : FE} {pos : Pos} (he : ZE K X e te f) : ZS K X (.Return (some e) pos) (tRet te) (retX f) := ⟨ps_ret he.pe, ss_ret he.se⟩
theorem zs_retN {pos : Pos} : ZS K X (.Return none pos) tRetN retNX := ⟨ps_retN, ss_retN⟩
theorem zs_if {c : Expr} {a b : List Stmt} {pos : Pos} {tc : TT} {t u : TS} {fc : FT} {f g : FS} (hc : ZT K X c tc fc) (ha : ZSs K X a t f) (hb : ZSs K X b u g) : ZS K X (.If c a b pos) (tIfS tc t u) (ifS fc f g) := ⟨ps_if hc.pe ha.pe hb.pe, ss_if hc.se ha.se hb.se⟩
theorem zs_brk {pos : Pos} : ZS K X (.Break pos) tBreak brkX := ⟨ps_break, ss_brk⟩
theorem zs_cnt {pos : Pos} : ZS K X (.Continue pos) tCont cntX := ⟨ps_continue, ss_cnt⟩
theorem zs_pass {pos : Pos} : ZS K X (.Pass pos) tNext skipX := ⟨ps_pass, ss_skip⟩
theorem zss_nil : ZSs K X [] tNext skipX := ⟨pss_nil, ss_skip⟩
theorem zss_one {st : Stmt} {t : TS} {f : FS} (h : ZS K X st t f) : ZSs K X [st] t f := ⟨pss_one h.pe, h.se⟩
theorem zss_cons {st : Stmt} {rest : List Stmt} {t u : TS} {f g : FS} (h : ZS K X st t f) (h2 : ZSs K X rest u g) : ZSs K X (st :: rest) (tSeq t u) (seqX f g) := ⟨pss_cons h.pe h2.pe, ss_seq h.se h2.se⟩
theorem zg_name {i : Nat} {x : Str} {pos : Pos} (hN : X.N.Nodup) (hi : X.N[i]? = some x) (hx : Loc X.env.scope x) (hf : X.fn x = true ∨ X.env.scope.names.lookup x = some .local := by first | exact .inl rfl | exact .inr rfl | assumption) : ZG K X (.Name x pos) (gName i) [i] (nameG i) := ⟨pg_name hN hi hx hf, sg_name⟩
theorem zgs_nil : ZGs K X [] gNil [] gNilX := ⟨pgs_nil, sgs_nil⟩
theorem zgs_cons {e : Expr} {es : List Expr} {t : TG} {u : TGs} {L M : List Nat} {f : FG} {g : List W → Env → Store → Option (Env × Store)} (h1 : ZG K X e t L f) (h2 : ZGs K X es u M g)
    (hs : (assignEach (e :: es) X.env).map (·.2) = assign e X.env :: (assignEach es X.env).map (·.2) := by rfl) : ZGs K X (e :: es) (gCons t u) (L ++ M) (gConsX f g) := ⟨pgs_cons h1.pe h2.pe hs, sgs_cons h1.se h2.se⟩
theorem zg_tup {es : List Expr} {k : Nat} {t : TGs} {L : List Nat} {g : List W → Env → Store → Option (Env × Store)} {n : Nat} {pos : Pos} (hK : X.kx = K) (hc : X.calm = true) (h : ZGs K X es t L g)
    (hn : (assignEach es X.env).length = n := by rfl) (hst : (assignEach es X.env).findIdx? (·.1) = none := by rfl) : ZG K X (.Tuple es k pos) (gTup K.k n t) L (tupG n g) := ⟨pg_tupK (kOf hK) hc h.pe hn hst, sg_tup h.se⟩
theorem zs_asg {tg e : Expr} {te : TE} {g : TG} {L : List Nat} {f : FE} {h : FG} {pos : Pos} (he : ZE K X e te f) (hg : ZG K X tg g L h) (hs : swapsWithSole [tg] e pos.line X.env = pure false := by rfl) (hw : swappedStores [tg] e X.env = pure none := by rfl)
    (h1 : (assignEach [tg] X.env).map (·.2) = [assign tg X.env] := by rfl) : ZS K X (.Assign [tg] e pos) (tAsg te g) (asgX f h) := ⟨ps_asg he.pe hg.pe hs hw h1, ss_asg he.se hg.se⟩
/-! ### places -/
def strW : W → Option Str
  | .d (.str z) => some z
  | _ => none
theorem strW_of {G : Hp} {μ : List Addr} {v : V} {a : W} {z : Str} (e : strW a = some z) (r : RW K G μ v a) : v = .str z := by
  unfold strW at e
  split at e
  · cases e; exact str_of r
  · cases e
def ixW : Store → W → W → Option (W × Store) := fun S a b => match b with
  | .d (.int i) => (match itemsL S a with
    | some ws => (match atI ws i with
      | some w => some (w, S)
      | none => none)
    | none => (match itemsT S a with
      | some ws => (match atI ws i with
        | some w => some (w, S)
        | none => none)
      | none => (match strW a with
        | some z => if z.length ≤ sizeLine then (match atI z.cps.toList i with
          | some c => some (.d (.str ⟨#[c]⟩), S)
          | none => none) else none
        | none => none)))
  | _ => none
theorem pd_at {α β : Type} {F : α → β → Prop} {xs : List α} {ys : List β} (p : Paired F xs ys) {i : Int} {y : β} (e : atI ys i = some y) : ∃ x, atI xs i = some x ∧ F x y := by
  unfold atI at e ⊢
  rw [pd_len p]
  cases h : ixN ys.length i with
  | none => rw [h] at e; cases e
  | some j =>
    rw [h] at e
    obtain ⟨x, h1, h2⟩ := pd_get' p (show ys[j]? = some y from e)
    exact ⟨x, h1, h2⟩
theorem sr_ix : SR2 K (rIx K.k) ixW := fun S w1 w2 w S' G H μ v1 v2 Q rl r1 r2 e q => by
  unfold ixW at e
  split at e
  · rename_i i
    obtain rfl := int_of r2
    split at e
    · rename_i ws hw
      split at e
      · rename_i w' ha
        cases e
        obtain ⟨a, vs, rfl, h1, h2⟩ := items_list rl r1 hw
        obtain ⟨v, h3, h4⟩ := pd_at h2 ha
        exact .inl ⟨a, vs, i, v, rfl, rfl, .inl h1, h3, q v G H μ (Nx.refl rl) h4⟩
      · cases e
    · split at e
      · rename_i ws hw
        split at e
        · rename_i w' ha
          cases e
          obtain ⟨a, vs, rfl, h1, h2⟩ := items_tup rl r1 hw
          obtain ⟨v, h3, h4⟩ := pd_at h2 ha
          exact .inr (.inl ⟨a, vs, i, v, rfl, rfl, h1, h3, q v G H μ (Nx.refl rl) h4⟩)
        · cases e
      · split at e
        · rename_i z hs
          split at e
          · rename_i hz
            split at e
            · rename_i c hc
              cases e
              exact .inr (.inr ⟨z, i, c, strW_of hs r1, rfl, hz, hc, q _ G H μ (Nx.refl rl) (.str _)⟩)
            · cases e
          · cases e
        · cases e
  · cases e
theorem ix_seqK (hK : X.kx = K) : IxR X (rIx K.k) := by subst hK; exact ix_seq
theorem z_ix {a b : Expr} {ta tb : TE} {fa fb : FE} {pos : Pos} (hK : X.kx = K) (ha : ZE K X a ta fa) (hb : ZE K X b tb fb) (hs : PlainIx b) : ZE K X (.Subscript a b pos) (tOp (rIx K.k) ta tb) (op2X ixW fa fb) := ⟨pe_ix (ix_seqK hK) ha.pe hb.pe hs, se_op sr_ix ha.se hb.se⟩
/-! ### slices -/
abbrev FO := Env → Store → Option (Option Int × Store)
def SO (K : Kx) (t : TO) (f : FO) : Prop := ∀ (env : Env) (S : Store) (o : Option Int) (S' : Store) (σ : L2.St) (G H : Hp) (μ : List Addr) (Q : Option Int → Hp → Prop), Rel K G H μ S → EnvR K G μ σ env → f env S = some (o, S') →
  (∀ G' H' μ', Nx K μ G H μ' G' H' S' → Q o H') → t σ H Q
structure ZO (K : Kx) (X : Cx) (e : Option Expr) (t : TO) (f : FO) : Prop where
  pe : PO X e t
  se : SO K t f
def noO : FO := fun _ S => some (none, S)
def someO (fa : FE) : FO := fun env S => match fa env S with
  | some (.d (.int i), S1) => some (some i, S1)
  | _ => none
theorem zo_none : ZO K X none tNoPart noO := ⟨po_none, fun env S o S' σ G H μ Q rl er e q => by cases e; exact q G H μ (Nx.refl rl)⟩
theorem zo_some {e : Expr} {te : TE} {f : FE} (h : ZE K X e te f) : ZO K X (some e) (tPart te) (someO f) := ⟨po_some h.pe, fun env S o S' σ G H μ Q rl er e q => by
  simp only [someO] at e
  split at e
  · rename_i i S1 e1
    cases e
    exact h.se env S _ _ σ G H μ _ rl er e1 fun v1 G1 H1 μ1 x1 r1 => ⟨i, int_of r1, q G1 H1 μ1 x1⟩
  · cases e⟩
def cutW {α : Type} (xs : List α) (lo hi : Option Int) : List α := (xs.drop (HT.sIx xs.length 0 lo)).take (HT.sIx xs.length xs.length hi - HT.sIx xs.length 0 lo)
theorem pd_cut {ws : List W} {vs : List V} {G : Hp} {μ : List Addr} (p : Paired (RW K G μ) vs ws) (lo hi : Option Int) : Paired (RW K G μ) (cutV vs lo hi) (cutW ws lo hi) := by
  unfold cutV cutW
  rw [pd_len p]
  exact pd_take _ (pd_drop _ p)
/-- the whole tuple again, or a new one -/
def rSlTw (K : Kx) : V → Option Int → Option Int → Hp → VK → Prop := fun x lo hi H Q => ∃ a xs, x = .ref a ∧ SqT K.k H a xs ∧ HT.sIx xs.length 0 lo = 0 ∧ HT.sIx xs.length xs.length hi = xs.length ∧ Q (.ref a) H
def slW (nw : Store → List W → Option (W × Store)) (S : Store) (a : W) (lo hi : Option Int) : Option (W × Store) := match itemsL S a with
  | some ws => nw S (cutW ws lo hi)
  | none => (match itemsT S a with
    | some ws => if HT.sIx ws.length 0 lo = 0 ∧ HT.sIx ws.length ws.length hi = ws.length then none else newT S (cutW ws lo hi)
    | none => (match strW a with
      | some z => if z.length ≤ sizeLine then some (.d (.str (Txt.slice z lo hi)), S) else none
      | none => none))
def slX (nw : Store → List W → Option (W × Store)) (fa : FE) (fl fh : FO) : FE := fun env S => match fa env S with
  | some (a, S1) => (match fl env S1 with
    | some (lo, S2) => (match fh env S2 with
      | some (hi, S3) => slW nw S3 a lo hi
      | none => none)
    | none => none)
  | none => none
def rSlAll (K : Kx) : V → Option Int → Option Int → Hp → VK → Prop := fun x lo hi H Q => rSlL K.k x lo hi H Q ∨ rSlT K.k x lo hi H Q ∨ C8.rSlX x lo hi H Q
theorem sl_all (hK : X.kx = K) : SlR X (rSlAll K) := by subst hK; exact sl_list.or (sl_tup.or C8.sl_txt)
theorem z_sl {nw : Store → List W → Option (W × Store)} {e : Expr} {lo hi : Option Expr} {te : TE} {tl th : TO} {f : FE} {fl fh : FO} {p2 pos : Pos} (hK : X.kx = K) (hn : NewOk K .lst nw) (he : ZE K X e te f) (hl : ZO K X lo tl fl) (hh : ZO K X hi th fh) :
    ZE K X (.Subscript e (.Slice lo hi none p2) pos) (tSl (rSlAll K) te tl th) (slX nw f fl fh) :=
  ⟨pe_slice (sl_all hK) he.pe hl.pe hh.pe, fun env S w S' σ G H μ Q rl er e q => by
    simp only [slX] at e
    split at e
    · rename_i a S1 e1
      split at e
      · rename_i lo S2 e2
        split at e
        · rename_i hi S3 e3
          refine he.se env S a S1 σ G H μ _ rl er e1 fun v G1 H1 μ1 x1 r1 => ?_
          refine hl.se env S1 lo S2 σ G1 H1 μ1 _ x1.rel (x1.envR er) e2 fun G2 H2 μ2 x2 => ?_
          refine hh.se env S2 hi S3 σ G2 H2 μ2 _ x2.rel ((x1.trans x2).envR er) e3 fun G3 H3 μ3 x3 => ?_
          have x := (x1.trans x2).trans x3
          have r3 := (x2.trans x3).rw r1
          have q' : ∀ v G' H' μ', Nx K μ3 G3 H3 μ' G' H' S' → RW K G' μ' v w → Q v H' := fun v G' H' μ' y r => q v G' H' μ' (x.trans y) r
          unfold slW at e
          split at e
          · rename_i ws hw
            obtain ⟨b, vs, rfl, h1, h2⟩ := items_list x3.rel r3 hw
            exact .inl ⟨b, vs, rfl, .inl h1, (hn x3.rel (pd_cut h2 lo hi) e q').2⟩
          · split at e
            · rename_i ws hw
              split at e
              · cases e
              · rename_i hwhole
                obtain ⟨b, vs, rfl, h1, h2⟩ := items_tup x3.rel r3 hw
                refine .inr (.inl ⟨b, vs, rfl, h1, by rw [pd_len h2]; exact hwhole, (newT_ok x3.rel (pd_cut h2 lo hi) e q').2⟩)
            · split at e
              · rename_i z hs
                split at e
                · rename_i hz
                  cases e
                  exact .inr (.inr ⟨z, strW_of hs r3, hz, q' _ G3 H3 μ3 (Nx.refl x3.rel) (.str _)⟩)
                · cases e
              · cases e
        · cases e
      · cases e
    · cases e⟩
end Z

/-! Z5: a cell becomes data; defs and their calls. -/
namespace Z
open PySem PySem.Spec PyProof.Rows L2 Y
variable {K : Kx} {X : Cx}
/-! ### a cell becomes data -/
def frzX (fa : FE) : FE := fun env S => match fa env S with
  | some (.d x, S1) => some (.d x, S1)
  | some (.c n, S1) => (match S1[n]? with
    | some (.frz x) => some (.d x, S1)
    | some (.lst ws) => (match datas S1 ws with
      | some ds => some (.d (.list ds), S1.set n (.frz (.list ds)))
      | none => none)
    | _ => none)
  | _ => none
theorem se_frz {t : TE} {f : FE} (h : SE K t f) : SE K t (frzX f) := fun env S w S' σ G H μ Q rl er e q => by
  simp only [frzX] at e
  split at e
  · rename_i x S1 e1
    cases e
    exact h env S _ _ σ G H μ Q rl er e1 q
  · rename_i n S1 e1
    refine h env S _ S1 σ G H μ Q rl er e1 fun v G1 H1 μ1 x1 r1 => ?_
    obtain ⟨a, ha, rfl⟩ := r1
    split at e
    · rename_i x hx
      cases e
      exact q _ G1 H1 μ1 x1 (x1.rel.cell n a _ ha hx)
    · rename_i ws hws
      split at e
      · rename_i ds hds
        cases e
        obtain ⟨vs, q1, q2, q3⟩ := x1.rel.cell n a _ ha hws
        have rd : RD K (upd G1 a (.lst vs)) (.ref a) (.list ds) := .lst (.inl upd_same) (RDs.mono (same_data q3) (datas_rd x1.rel q2 hds))
        have nx := nx_frz x1.rel ha q3 rd
        rw [upd_self' q1] at nx
        exact q _ _ _ _ (x1.trans nx) rd
      · cases e
    · cases e
  · cases e
theorem z_frz {e : Expr} {t : TE} {f : FE} (h : ZE K X e t f) : ZE K X e t (frzX f) := ⟨h.pe, se_frz h.se⟩
/-! ### dicts -/
def kvData (S : Store) : List (PyData × W) → Option (List (PyData × PyData))
  | [] => some []
  | (k, w) :: r => match dataOf S w, kvData S r with
    | some x, some xs => some ((k, x) :: xs)
    | _, _ => none
theorem kvData_rd {G H : Hp} {μ : List Addr} {S : Store} (r : Rel K G H μ S) : ∀ {kvs : List (PyData × W)} {vs : List (Key × V)} {xs : List (PyData × PyData)}, Paired (RKd K G μ) vs kvs → kvData S kvs = some xs → RDk K G vs xs
  | [], _, _, p, e => by cases p; cases e; exact .nil
  | (k, w) :: kvs, _, _, p, e => by
    cases p with
    | cons q t =>
      rename_i p1 p2
      obtain ⟨k', v⟩ := p1
      obtain ⟨q1, q2⟩ := q
      simp only at q1 q2
      subst q1
      simp only [kvData] at e
      split at e
      · rename_i y ys hy hys
        cases e
        exact .cons (data_rd r q2 hy) (kvData_rd r t hys)
      · cases e
theorem kvData_rn {G H : Hp} {μ : List Addr} {S : Store} (r : Rel K G H μ S) : ∀ {kvs : List (PyData × W)} {vs : NKV} {xs : List (PyData × PyData)}, Paired (RKn K G μ) vs kvs → kvData S kvs = some xs → RDn K G vs xs
  | [], _, _, p, e => by cases p; cases e; exact .nil
  | (k, w) :: kvs, _, _, p, e => by
    cases p with
    | cons q t =>
      rename_i p1 p2
      obtain ⟨k', b, v⟩ := p1
      obtain ⟨q1, q2, q3, q4⟩ := q
      simp only at q1 q2 q3 q4
      simp only [kvData] at e
      split at e
      · rename_i y ys hy hys
        cases e
        exact .cons q1 q2 q3 (data_rd r q4 hy) (kvData_rn r t hys)
      · cases e
/-- an expression whose value, a mutable object, is locked for good -/
def tFrz (t : TE) : TE := fun σ H Q => t σ H fun v H1 => Q v H1 ∨ ∃ d u, v = .ref d ∧ H1 d = some u ∧ Mut (some u) ∧ ∀ od, Q v (upd H1 d (.frz od u))
theorem pe_frz {e : Expr} {t : TE} (h : PE X e t) : PE X e (tFrz t) := ⟨fun pins s σ H Q I hw => by
  refine thn (h.run pins s σ H _ I hw) fun u s1 ⟨v, H1, I1, r1, q1⟩ => ?_
  rcases q1 with q1 | ⟨d, o, rfl, hd, mu, q1⟩
  · exact ⟨v, H1, I1, r1, q1⟩
  · obtain ⟨od, I2⟩ := I1.lock hd mu
    exact ⟨_, _, I2, r1, q1 od⟩⟩
def frzDX (fa : FE) : FE := fun env S => match fa env S with
  | some (.d x, S1) => some (.d x, S1)
  | some (.c n, S1) => (match S1[n]? with
    | some (.frz x) => some (.d x, S1)
    | some (.dic kvs) => (match kvData S1 kvs with
      | some ds => some (.d (.dict ds), S1.set n (.frz (.dict ds)))
      | none => none)
    | _ => none)
  | _ => none
theorem se_frzD {t : TE} {f : FE} (h : SE K t f) : SE K (tFrz t) (frzDX f) := fun env S w S' σ G H μ Q rl er e q => by
  simp only [frzDX] at e
  split at e
  · rename_i x S1 e1
    cases e
    exact h env S _ _ σ G H μ _ rl er e1 fun v G1 H1 μ1 x1 r1 => .inl (q v G1 H1 μ1 x1 r1)
  · rename_i n S1 e1
    refine h env S _ S1 σ G H μ _ rl er e1 fun v G1 H1 μ1 x1 r1 => ?_
    obtain ⟨a, ha, rfl⟩ := r1
    split at e
    · rename_i x hx
      cases e
      exact .inl (q _ G1 H1 μ1 x1 (x1.rel.cell n a _ ha hx))
    · rename_i kvs hws
      split at e
      · rename_i ds hds
        cases e
        obtain ⟨h, q3⟩ := x1.rel.cell n a _ ha hws
        rcases h with ⟨vs, q1, q2⟩ | ⟨vs, q1, q2⟩
        · refine .inr ⟨a, _, rfl, q1, True.intro, fun od => ?_⟩
          have rd : RD K (upd G1 a (.frz od (.dK vs))) (.ref a) (.dict ds) := .dK upd_same (RDk.mono (same_data q3) (kvData_rd x1.rel q2 hds))
          exact q _ _ _ _ (x1.trans (nx_frz x1.rel ha q3 rd)) rd
        · refine .inr ⟨a, _, rfl, q1, True.intro, fun od => ?_⟩
          have rd : RD K (upd G1 a (.frz od (DNo K.P K.w a vs))) (.ref a) (.dict ds) := .dN upd_same (RDn.mono (same_data q3) (kvData_rn x1.rel q2 hds))
          exact q _ _ _ _ (x1.trans (nx_frz x1.rel ha q3 rd)) rd
      · cases e
    · cases e
  · cases e
theorem z_frzD {e : Expr} {t : TE} {f : FE} (h : ZE K X e t f) : ZE K X e (tFrz t) (frzDX f) := ⟨pe_frz h.pe, se_frzD h.se⟩
/-! ### defs -/
def fnD (np nl : Nat) (body : FS) : FnD := fun ws S => if ws.length = np then (match body (ws.map some ++ List.replicate nl none) S with
  | some (.ret w, _, S') => some (w, S')
  | some (.next, _, S') => some (.d .none, S')
  | _ => none) else none
def spD (K : Kx) (np : Nat) (f : FnD) : Sp := fun vs H Q _ => ∃ (ws : List W) (S : Store) (w : W) (S' : Store) (G : Hp) (μ : List Addr), ws.length = np ∧ Rel K G H μ S ∧ Paired (RW K G μ) vs ws ∧ f ws S = some (w, S') ∧
  ∀ v G' H' μ', Nx K μ G H μ' G' H' S' → RW K G' μ' v w → Q v H'
theorem envR_start {G : Hp} {μ : List Addr} : ∀ {vs : List V} {ws : List W} (n : Nat), Paired (RW K G μ) vs ws → EnvR K G μ (vs.map some ++ List.replicate n none) (ws.map some ++ List.replicate n none)
  | _, _, n, .nil => by
    have gen : ∀ n, EnvR K G μ (List.replicate n none) (List.replicate n none) := by
      intro n
      induction n with
      | zero => exact .nil
      | succ n ih => exact .cons (fun _ e => nomatch e) ih
    exact gen n
  | _, _, n, .cons r t => .cons (fun w e => by cases e; exact ⟨_, rfl, r⟩) (envR_start n t)
section
variable {P : Program} {w : World} {mg : Str → Option Value} {base : Heap} {x qual : Str} {st : Stmt} {f : Addr} {fd : FuncData}
theorem fn_z {N ps : List Str} {k : Nat} {body : FS} (F : Fun K.k x qual st f fd) (S : FnScope N ps (defScope st))
    (hb : ∀ (cdv : Value) (A : Around) (outer : List PySem.Env) (s : Shared) (H : Hp) (E : XK), Room k (A.deeper (envOfC qual (defScope st) s.heap.objs.size f cdv)) →
      ∃ t, ZSs K (cxOf CX0 P w K.k mg base N qual (defScope st) f cdv A outer s H E).nox (defBody st) t body) : FnOk P w K.k mg base CX0 (k + 1) f fd ps (spD K ps.length (fnD ps.length (N.length - ps.length) body)) := by
  refine F.ok S (fun vs H Q E h => ?_) (fun cdv A outer s H vs Q E hr h => ?_)
  · obtain ⟨ws, _, _, _, _, _, hl, _, p, _⟩ := h
    rw [pd_len p, hl]
  · obtain ⟨ws, S0, w0, S', G, μ, hl, rl, p, e, q⟩ := h
    obtain ⟨t, hz⟩ := hb cdv A outer s H E hr
    refine ⟨t, hz.pe, ?_⟩
    have hv : vs.length = ps.length := by rw [pd_len p, hl]
    unfold fnD at e
    rw [if_pos hl] at e
    have er : EnvR K G μ (L2.start N vs) (ws.map some ++ List.replicate (N.length - ps.length) none) := by
      unfold L2.start
      rw [hv]
      exact envR_start _ p
    split at e
    · rename_i w1 env' S1 e1
      cases e
      exact hz.se _ S0 _ _ _ _ G H μ _ rl er e1 fun σ' G' H' μ' x' er' v r => q v G' H' μ' x' r
    · rename_i env' S1 e1
      cases e
      exact hz.se _ S0 _ _ _ _ G H μ _ rl er e1 fun σ' G' H' μ' x' er' => q .non G' H' μ' x' .non
    · cases e
end
/-! ### calls: the callee gets the cells it may write, by themselves -/
def plainW : W → Bool
  | .d _ => true
  | .k _ => true
  | .c _ => false
def plainC : Cell → Bool
  | .lst ws => ws.all plainW
  | .dic kvs => kvs.all fun p => plainW p.2
  | .frz _ => true
def cellIx : List Bool → List W → List Nat
  | true :: io, .c n :: ws => if n ∈ cellIx io ws then cellIx io ws else n :: cellIx io ws
  | _ :: io, _ :: ws => cellIx io ws
  | _, _ => []
def posOf (n : Nat) : List Nat → Option Nat
  | [] => none
  | m :: ms => if n = m then some 0 else (posOf n ms).map (· + 1)
def argsW (S : Store) (ix : List Nat) : List Bool → List W → Option (List W)
  | _, [] => some []
  | io, .d x :: ws => match argsW S ix io.tail ws with
    | some r => some (.d x :: r)
    | none => none
  | io, .k ns :: ws => match argsW S ix io.tail ws with
    | some r => some (.k ns :: r)
    | none => none
  | true :: io, .c n :: ws => match posOf n ix, argsW S ix io ws with
    | some j, some r => some (.c j :: r)
    | _, _ => none
  | io, .c n :: ws => match dataOf S (.c n), argsW S ix io.tail ws with
    | some x, some r => some (.d x :: r)
    | _, _ => none
def cellsAt (S : Store) : List Nat → Option (List Cell)
  | [] => some []
  | n :: ns => match S[n]?, cellsAt S ns with
    | some c, some cs => if plainC c = true then some (c :: cs) else none
    | _, _ => none
def putBack : Store → List Nat → List Cell → Option Store
  | S, [], _ => some S
  | S, n :: ns, c :: cs => if plainC c = true then putBack (S.set n c) ns cs else none
  | _, _ :: _, [] => none
/-- what comes back: data; a cell that was handed in; a new cell -/
def backW (ix : List Nat) (S2 : Store) (S3 : Store) : W → Option (W × Store)
  | .d x => some (.d x, S3)
  | .k ns => some (.k ns, S3)
  | .c j => match ix[j]? with
    | some n => some (.c n, S3)
    | none => (match S2[j]? with
      | some c => if plainC c = true then some (.c S3.length, S3 ++ [c]) else none
      | none => none)
def callL (io : List Bool) (f : FnD) (fa : FA) : FE := fun env S => match fa env S with
  | some (ws, S1) => (match argsW S1 (cellIx io ws) io ws, cellsAt S1 (cellIx io ws) with
    | some as, some cs => (match f as cs with
      | some (r, S2) => (match putBack S1 (cellIx io ws) S2 with
        | some S3 => backW (cellIx io ws) S2 S3 r
        | none => none)
      | none => none)
    | _, _ => none)
  | none => none
theorem cellIx_nd : ∀ (io : List Bool) (ws : List W), (cellIx io ws).Nodup
  | [], ws => by cases ws <;> exact List.nodup_nil
  | b :: io, [] => by cases b <;> exact List.nodup_nil
  | true :: io, .c n :: ws => by
    unfold cellIx
    split
    · exact cellIx_nd io ws
    · rename_i h
      exact List.nodup_cons.mpr ⟨h, cellIx_nd io ws⟩
  | true :: io, .d x :: ws => by unfold cellIx; exact cellIx_nd io ws
  | true :: io, .k x :: ws => by unfold cellIx; exact cellIx_nd io ws
  | false :: io, w :: ws => by cases w <;> (unfold cellIx; exact cellIx_nd io ws)
theorem posOf_get {n : Nat} : ∀ {ix : List Nat} {j : Nat}, posOf n ix = some j → ix[j]? = some n
  | m :: ms, j, e => by
    simp only [posOf] at e
    split at e
    · rename_i h
      cases e
      rw [h]; rfl
    · cases h : posOf n ms with
      | none => rw [h] at e; cases e
      | some i =>
        rw [h] at e
        cases e
        simpa using posOf_get h
/-- the places of the cells that are handed in -/
def placesAt (μ : List Addr) (ix : List Nat) : List Addr := ix.map fun n => μ.getD n 0
theorem cellsAt_get {S : Store} : ∀ {ix : List Nat} {cs : List Cell}, cellsAt S ix = some cs → cs.length = ix.length ∧ ∀ j n : Nat, ix[j]? = some n → ∃ c, cs[j]? = some c ∧ S[n]? = some c ∧ plainC c = true
  | [], _, e => by cases e; exact ⟨rfl, fun j n h => by simp at h⟩
  | m :: ms, cs, e => by
    simp only [cellsAt] at e
    split at e
    · rename_i c cs' h1 h2
      split at e
      · rename_i hp
        cases e
        obtain ⟨l, g⟩ := cellsAt_get h2
        refine ⟨by simp [l], fun j n hj => ?_⟩
        cases j with
        | zero =>
          cases (show some m = some n from hj)
          exact ⟨c, rfl, h1, hp⟩
        | succ j => exact g j n (by simpa using hj)
      · cases e
    · cases e
theorem CellR.plain {G H : Hp} {μ μ' : List Addr} {a : Addr} {c : Cell} (hp : plainC c = true) (h : CellR K G H μ a c) : CellR K G H μ' a c := by
  have rw : ∀ {v : V} {w : W}, plainW w = true → RW K G μ v w → RW K G μ' v w := fun {v w} hw h => by
    cases w with
    | d x => exact h
    | k ns => exact h
    | c n => cases hw
  cases c with
  | lst ws =>
    obtain ⟨vs, q1, q2, q3⟩ := h
    refine ⟨vs, q1, ?_, q3⟩
    have hp : ws.all plainW = true := hp
    clear q1
    induction q2 with
    | nil => exact .nil
    | cons r t ih =>
      rw [List.all_cons, Bool.and_eq_true] at hp
      exact .cons (rw hp.1 r) (ih hp.2 hp.2)
  | dic kvs =>
    obtain ⟨h, q3⟩ := h
    have hp : (kvs.all fun p => plainW p.2) = true := hp
    rcases h with ⟨vs, q1, q2⟩ | ⟨vs, q1, q2⟩
    · refine ⟨.inl ⟨vs, q1, ?_⟩, q3⟩
      clear q1
      induction q2 with
      | nil => exact .nil
      | cons r t ih =>
        rw [List.all_cons, Bool.and_eq_true] at hp
        exact .cons ⟨r.1, rw hp.1 r.2⟩ (ih hp.2 hp.2)
    · refine ⟨.inr ⟨vs, q1, ?_⟩, q3⟩
      clear q1
      induction q2 with
      | nil => exact .nil
      | cons r t ih =>
        rw [List.all_cons, Bool.and_eq_true] at hp
        exact .cons ⟨r.1, r.2.1, r.2.2.1, rw hp.1 r.2.2.2⟩ (ih hp.2 hp.2)
  | frz x => exact h
theorem getD_of {μ : List Addr} {n : Nat} {a : Addr} (h : μ[n]? = some a) : μ.getD n 0 = a := by simp [h]
theorem args_rw {G H : Hp} {μ : List Addr} {S : Store} (rl : Rel K G H μ S) {ix : List Nat} : ∀ {io : List Bool} {ws : List W} {vs : List V} {as : List W}, Paired (RW K G μ) vs ws → argsW S ix io ws = some as → Paired (RW K G (placesAt μ ix)) vs as
  | _, [], _, _, p, e => by cases p; simp only [argsW] at e; cases e; exact .nil
  | io, .d x :: ws, _, _, p, e => by
    cases p with
    | cons q t =>
      simp only [argsW] at e
      split at e
      · rename_i r hr
        cases e
        exact .cons q (args_rw rl t hr)
      · cases e
  | io, .k ns :: ws, _, _, p, e => by
    cases p with
    | cons q t =>
      simp only [argsW] at e
      split at e
      · rename_i r hr
        cases e
        exact .cons q (args_rw rl t hr)
      · cases e
  | true :: io, .c n :: ws, _, _, p, e => by
    cases p with
    | cons q t =>
      simp only [argsW] at e
      split at e
      · rename_i j r hj hr
        cases e
        obtain ⟨a, ha, rfl⟩ := q
        refine .cons ⟨a, ?_, rfl⟩ (args_rw rl t hr)
        unfold placesAt
        rw [List.getElem?_map, posOf_get hj]
        simp [ha]
      · cases e
  | false :: io, .c n :: ws, _, _, p, e => by
    cases p with
    | cons q t =>
      simp only [argsW] at e
      split at e
      · rename_i x r hx hr
        cases e
        exact .cons (data_rd rl q hx) (args_rw rl t hr)
      · cases e
  | [], .c n :: ws, _, _, p, e => by
    cases p with
    | cons q t =>
      simp only [argsW] at e
      split at e
      · rename_i x r hx hr
        cases e
        exact .cons (data_rd rl q hx) (args_rw rl t hr)
      · cases e
/-- the caller's cells behind the call -/
theorem putBack_rel {G H G' H' : Hp} {μ : List Addr} {S S' : Store} (rl : Rel K G H μ S) : ∀ {ix : List Nat} {cs : List Cell} {S0 : Store}, S0.length = S.length → putBack S0 ix cs = some S' → ix.Nodup → (∀ n ∈ ix, n < S.length) →
    S'.length = S.length ∧ (∀ m, m ∉ ix → S'[m]? = S0[m]?) ∧ ∀ j m : Nat, ix[j]? = some m → ∃ c, cs[j]? = some c ∧ S'[m]? = some c ∧ plainC c = true
  | [], _, _, hl, e, _, _ => by simp only [putBack] at e; cases e; exact ⟨hl, fun _ _ => rfl, fun j m h => by simp at h⟩
  | n :: ns, [], _, hl, e, _, _ => by simp only [putBack] at e; cases e
  | n :: ns, c :: cs, S0, hl, e, nd, hb => by
    simp only [putBack] at e
    split at e
    · rename_i hp
      have nd := List.nodup_cons.mp nd
      have hn : n < S.length := hb n List.mem_cons_self
      obtain ⟨h1, h2, h3⟩ := putBack_rel (G' := G') (H' := H') rl (by simp [hl]) e nd.2 fun m hm => hb m (List.mem_cons_of_mem _ hm)
      refine ⟨h1, fun m hm => ?_, fun j m hj => ?_⟩
      · rw [h2 m fun z => hm (List.mem_cons_of_mem _ z), List.getElem?_set_ne fun z => hm (by rw [← z]; exact List.mem_cons_self)]
      · cases j with
        | zero =>
          cases (show some n = some m from hj)
          refine ⟨c, rfl, ?_, hp⟩
          rw [h2 n nd.1, List.getElem?_set_self (by rw [hl]; exact hn)]
        | succ j => exact h3 j m (by simpa using hj)
    · cases e
theorem se_call {io : List Bool} {np : Nat} {f : FnD} {t : TA} {fa : FA} {E : XK} (ha : SA K t fa) (hn : ∀ env S ws S', fa env S = some (ws, S') → ws.length = np) : SE K (tCall (spD K np f) [] E t) (callL io f fa) := fun env S w S' σ G H μ Q rl er e q => by
  simp only [callL] at e
  split at e
  · rename_i ws S1 e1
    refine ha env S ws S1 σ G H μ _ rl er e1 fun vs G1 H1 μ1 x1 r1 => ?_
    have hlen := hn _ _ _ _ e1
    generalize hix : cellIx io ws = ix at e
    have nd : ix.Nodup := by rw [← hix]; exact cellIx_nd io ws
    split at e
    · rename_i as cs ea ec
      obtain ⟨lc, gc⟩ := cellsAt_get ec
      have bound : ∀ n ∈ ix, n < S1.length := fun n hn => by
        obtain ⟨j, hj⟩ := List.getElem?_of_mem hn
        obtain ⟨c, _, h, _⟩ := gc j n hj
        exact (List.getElem?_eq_some_iff.mp h).1
      have place : ∀ n ∈ ix, ∃ a, μ1[n]? = some a := fun n hn => ⟨_, List.getElem?_eq_getElem (by rw [x1.rel.len]; exact bound n hn)⟩
      generalize hμ : placesAt μ1 ix = μl at *
      have gμ : ∀ j n a, ix[j]? = some n → μ1[n]? = some a → μl[j]? = some a := fun j n a h1 h2 => by
        rw [← hμ]; unfold placesAt; rw [List.getElem?_map, h1, Option.map_some, getD_of h2]
      have gμ' : ∀ j a, μl[j]? = some a → ∃ n, ix[j]? = some n ∧ μ1[n]? = some a := fun j a h => by
        rw [← hμ] at h
        unfold placesAt at h
        rw [List.getElem?_map] at h
        cases hj : ix[j]? with
        | none => rw [hj] at h; cases h
        | some n =>
          obtain ⟨b, hb⟩ := place n (List.mem_of_getElem? hj)
          rw [hj, Option.map_some, getD_of hb] at h
          cases h
          exact ⟨n, hj, hb⟩
      have sub : ∀ a ∈ μl, a ∈ μ1 := fun a h => by
        obtain ⟨j, hj⟩ := List.getElem?_of_mem h
        obtain ⟨n, _, hb⟩ := gμ' j a hj
        exact List.mem_of_getElem? hb
      have lμ : μl.length = ix.length := by rw [← hμ]; simp [placesAt]
      have relL : Rel K G1 H1 μl cs := by
        refine ⟨x1.rel.sub, by rw [lμ, lc], ?_, fun a h => x1.rel.there a (sub a h), fun j a c h1 h2 => ?_⟩
        · rw [← hμ]
          unfold placesAt
          have : ∀ l : List Nat, l.Nodup → (∀ n ∈ l, ∃ a, μ1[n]? = some a) → (l.map fun n => μ1.getD n 0).Nodup := by
            intro l
            induction l with
            | nil => intro _ _; exact List.nodup_nil
            | cons n l ih =>
              intro hd hp
              have hd := List.nodup_cons.mp hd
              rw [List.map_cons]
              refine List.nodup_cons.mpr ⟨fun hm => ?_, ih hd.2 fun m hm => hp m (List.mem_cons_of_mem _ hm)⟩
              obtain ⟨m, hm1, hm2⟩ := List.mem_map.mp hm
              obtain ⟨a, ha⟩ := hp n List.mem_cons_self
              obtain ⟨b, hb⟩ := hp m (List.mem_cons_of_mem _ hm1)
              rw [getD_of ha, getD_of hb] at hm2
              subst hm2
              have := nodup_at x1.rel.nd ha hb
              subst this
              exact hd.1 hm1
          exact this ix nd place
        · obtain ⟨n, h3, h4⟩ := gμ' j a h1
          obtain ⟨c', h5, h6, h7⟩ := gc j n h3
          rw [h2] at h5
          cases h5
          exact CellR.plain h7 (x1.rel.cell n a c h4 h6)
      have argR : Paired (RW K G1 μl) vs as := by rw [← hμ]; exact args_rw x1.rel r1 ea
      split at e
      · rename_i r S2 ef
        split at e
        · rename_i S3 ep
          refine ⟨as, cs, r, S2, G1, μl, ?_, relL, by rw [List.append_nil]; exact argR, ef, fun v G' H' μ' x2 r2 => ?_⟩
          · rw [← pd_len argR, pd_len r1, hlen]
          obtain ⟨l, el, hl⟩ := x2.pre
          obtain ⟨p1, p2, p3⟩ := putBack_rel (G' := G') (H' := H') x1.rel rfl ep nd bound
          have rel3 : Rel K G' H' μ1 S3 := by
            refine ⟨x2.rel.sub, by rw [p1]; exact x1.rel.len, x1.rel.nd, fun a h => x2.al a (x1.rel.there a h), fun m a c h1 h2 => ?_⟩
            by_cases hm : m ∈ ix
            · obtain ⟨j, hj⟩ := List.getElem?_of_mem hm
              obtain ⟨c', h3, h4, h5⟩ := p3 j m hj
              rw [h2] at h4
              cases h4
              have h6 : μ'[j]? = some a := by
                rw [el, List.getElem?_append_left (by rw [lμ]; exact (List.getElem?_eq_some_iff.mp hj).1)]
                exact gμ j m a hj h1
              exact CellR.plain h5 (x2.rel.cell j a c h6 h3)
            · rw [p2 m hm] at h2
              have hna : a ∉ μl := fun z => by
                obtain ⟨j, hj⟩ := List.getElem?_of_mem z
                obtain ⟨n, h3, h4⟩ := gμ' j a hj
                have := nodup_at x1.rel.nd h1 h4
                subst this
                exact hm (List.mem_of_getElem? h3)
              have hHa := x1.rel.there a (List.mem_of_getElem? h1)
              have := (x1.rel.cell m a c h1 h2).mono (H' := H') x2.gg [] (fun u hu => x2.kp a u hu hna) (fun hg => x2.nw a hHa hna hg)
              simpa using this
          have nx3 : Nx K μ1 G1 H1 μ1 G' H' S3 := ⟨rel3, ⟨[], by simp, fun _ z => nomatch z⟩, x2.gg, fun b o h1 h2 => x2.kp b o h1 fun z => h2 (sub b z), fun b h1 h2 h3 => x2.nw b h1 (fun z => h2 (sub b z)) h3, x2.al⟩
          cases r with
          | d y =>
            cases e
            exact q v G' H' μ1 (x1.trans nx3) r2
          | k ns =>
            cases e
            exact q v G' H' μ1 (x1.trans nx3) r2
          | c j =>
            obtain ⟨a, h1, rfl⟩ := r2
            simp only [backW] at e
            split at e
            · rename_i n hn
              cases e
              refine q _ G' H' μ1 (x1.trans nx3) ⟨a, ?_, rfl⟩
              have hj : j < μl.length := by rw [lμ]; exact (List.getElem?_eq_some_iff.mp hn).1
              rw [el, List.getElem?_append_left hj] at h1
              obtain ⟨n', h3, h4⟩ := gμ' j a h1
              rw [hn] at h3
              cases h3
              exact h4
            · rename_i hn
              split at e
              · rename_i c hc
                split at e
                · rename_i hp
                  cases e
                  have hj : μl.length ≤ j := by
                    rw [lμ]
                    exact List.getElem?_eq_none_iff.mp hn
                  have hal : a ∈ l := by
                    rw [el, List.getElem?_append_right hj] at h1
                    exact List.mem_of_getElem? h1
                  have hfr := hl a hal
                  have hnot : a ∉ μ1 := fun z => x1.rel.there a z hfr
                  have rel4 : Rel K G' H' (μ1 ++ [a]) (S3 ++ [c]) := by
                    refine ⟨rel3.sub, by simp [rel3.len], ?_, fun b hb => ?_, fun m b c' h3 h4 => ?_⟩
                    · rw [List.nodup_append]
                      exact ⟨rel3.nd, by simp, fun b hb b' hb' e => by
                        have : b' = a := by simpa using hb'
                        rw [e, this] at hb
                        exact hnot hb⟩
                    · rcases List.mem_append.mp hb with z | z
                      · exact rel3.there b z
                      · have : b = a := by simpa using z
                        rw [this]
                        exact x2.rel.there a (List.mem_of_getElem? h1)
                    · by_cases hm : m < μ1.length
                      · rw [List.getElem?_append_left hm] at h3
                        rw [List.getElem?_append_left (by rw [← rel3.len]; exact hm)] at h4
                        have := (rel3.cell m b c' h3 h4).mono (H' := H') (Same.refl G') [a] (fun u hu => hu) (fun hg => hg)
                        exact this
                      · have hm2 : m = μ1.length := by
                          have := (List.getElem?_eq_some_iff.mp h3).1
                          simp at this
                          omega
                        subst hm2
                        rw [List.getElem?_append_right (Nat.le_refl _), Nat.sub_self] at h3
                        rw [rel3.len, List.getElem?_append_right (Nat.le_refl _), Nat.sub_self] at h4
                        cases h3
                        cases h4
                        exact CellR.plain hp (x2.rel.cell j a c h1 hc)
                  have one : ∀ b ∈ [a], H1 b = none := fun b hb => by
                    have e1 : b = a := by simpa using hb
                    rw [e1]
                    exact hfr
                  have nx4 : Nx K μ1 G1 H1 (μ1 ++ [a]) G' H' (S3 ++ [c]) := ⟨rel4, ⟨[a], rfl, one⟩, nx3.gg, nx3.kp, nx3.nw, nx3.al⟩
                  refine q _ G' H' (μ1 ++ [a]) (x1.trans nx4) ⟨a, ?_, rfl⟩
                  rw [← rel3.len, List.getElem?_append_right (Nat.le_refl _), Nat.sub_self]
                  rfl
                · cases e
              · cases e
        · cases e
      · cases e
    · cases e
  · cases e
section
variable {np k : Nat} {f : FnD} {x : Str} {p pos : Pos} {e : Expr} {es : List Expr} {t : TA} {fa : FA} {ps : List Str}
theorem z_call (io : List Bool) (L : FnC X.prog X.w X.K X.mg X.base x k ps (spD K np f)) (hr : Room k X.A) (hg : Gl X x) (ha : ZA K X (e :: es) t fa) (hl : (e :: es).length = np := by rfl)
    (hdb : (x == ("__debug__" : Str)) = false := by decide) (he : starEach (e :: es) X.env = (false, eval e X.env) :: starEach es X.env := by rfl) (hpl : (backTo pos (starEach es X.env)).any (·.1) = false := by rfl) :
    ZE K X (.Call (.Name x p) (e :: es) [] pos) (tCall (spD K np f) [] E0 t) (callL io f fa) := ⟨pe_fnc L hr hg ha.pe hdb he hpl, se_call ha.se fun env S ws S' h => (ha.ln env S ws S' h).trans hl⟩
theorem z_call0 (L : FnC X.prog X.w X.K X.mg X.base x k ps (spD K 0 f)) (hr : Room k X.A) (hg : Gl X x) (hdb : (x == ("__debug__" : Str)) = false := by decide) :
    ZE K X (.Call (.Name x p) [] [] pos) (tCall (spD K 0 f) [] E0 tNil) (callL [] f nilX) := ⟨pe_fnc0 L hr hg hdb, se_call sa_nil fun env S ws S' h => by cases h; rfl⟩
/-- a built-in by its name, a built-in class -/
theorem z_cb {id : String} {r : List V → Hp → VK → Prop} {g : Store → List W → Option (W × Store)} (hc : CallR X (.builtin id) r) (sr : SRs K r g) (hg : Gl X x) (hm : X.mg x = none) (hv : bootBuiltins x = some (.builtin id)) (ha : ZA K X (e :: es) t fa) (hn : x ≠ "__name__" := by decide) (hdb : (x == ("__debug__" : Str)) = false := by decide)
    (he : starEach (e :: es) X.env = (false, eval e X.env) :: starEach es X.env := by rfl) (hpl : (backTo pos (starEach es X.env)).any (·.1) = false := by rfl) : ZE K X (.Call (.Name x p) (e :: es) [] pos) (tCB r t) (argX g fa) := ⟨pe_callB hc hg hm hv ha.pe hn hdb he hpl, se_cb sr ha.se⟩
theorem z_ct {T : String} {r : List V → Hp → VK → Prop} {g : Store → List W → Option (W × Store)} (hc : CallR X (.type T) r) (sr : SRs K r g) (hg : Gl X x) (hm : X.mg x = none) (hv : bootBuiltins x = some (.type T)) (ha : ZA K X (e :: es) t fa) (hn : x ≠ "__name__" := by decide) (hdb : (x == ("__debug__" : Str)) = false := by decide)
    (he : starEach (e :: es) X.env = (false, eval e X.env) :: starEach es X.env := by rfl) (hpl : (backTo pos (starEach es X.env)).any (·.1) = false := by rfl) : ZE K X (.Call (.Name x p) (e :: es) [] pos) (tCB r t) (argX g fa) := ⟨pe_callTy hc hg hm hv ha.pe hn hdb he hpl, se_cb sr ha.se⟩
end
end Z

/-! Z6: what is walked; for, comprehensions, while. -/
namespace Z
open PySem PySem.Spec PyProof.Rows L2 Y
variable {K : Kx} {X : Cx}
/-- what is walked: its items, and the cell that must stay as it is -/
abbrev Gd := Option (Nat × List W)
def HoldsG (S : Store) : Gd → Prop
  | none => True
  | some (n, ws) => S[n]? = some (.lst ws)
abbrev FI := Env → Store → Option (List W × Gd × Store)
def SrcR (K : Kx) (J : It) (G0 : Hp) (μ0 : List Addr) (ws : List W) (g : Gd) : Prop := ∀ (G H : Hp) (μ : List Addr) (S : Store), Same G0 G → (∃ l, μ = μ0 ++ l) → Rel K G H μ S → HoldsG S g →
  (∀ (i : Nat) (w : W), ws[i]? = some w → J.go i H ∧ ∀ v H', J.yld i H v H' → ∃ G', Nx K μ G H μ G' H' S ∧ RW K G' μ v w) ∧ J.stop ws.length H
def SI (K : Kx) (wi : TI) (f : FI) : Prop := ∀ (env : Env) (S : Store) (ws : List W) (g : Gd) (S' : Store) (σ : L2.St) (G H : Hp) (μ : List Addr) (R : It → Hp → Prop), Rel K G H μ S → EnvR K G μ σ env → f env S = some (ws, g, S') →
  (∀ J G' H' μ', Nx K μ G H μ' G' H' S' → SrcR K J G' μ' ws g → R J H') → wi σ H R
structure ZI (K : Kx) (X : Cx) (tg it : Expr) (wi : TI) (f : FI) : Prop where
  pe : PI X tg it wi
  se : SI K wi f
/-- the items of a list, of a tuple -/
def seqI (fa : FE) : FI := fun env S => match fa env S with
  | some (.d (.list ds), S1) => some (ds.map W.d, none, S1)
  | some (.d (.tuple ds), S1) => some (ds.map W.d, none, S1)
  | some (.c n, S1) => (match S1[n]? with
    | some (.lst ws) => some (ws, some (n, ws), S1)
    | some (.frz (.list ds)) => some (ds.map W.d, none, S1)
    | _ => none)
  | _ => none
theorem rws_pre {G0 G : Hp} {μ0 : List Addr} {l : List Addr} {vs : List V} {ws : List W} (e : Same G0 G) (h : Paired (RW K G0 μ0) vs ws) : Paired (RW K G (μ0 ++ l)) vs ws := pws_mono e l h
theorem src_list {G0 : Hp} {μ0 : List Addr} {a : Addr} {vs : List V} {ds : List PyData} (h1 : Rd G0 a (.lst vs)) (h2 : RDs K G0 vs ds) : SrcR K (Itl K.k a) G0 μ0 (ds.map W.d) none := by
  rintro G H μ S e ⟨l, rfl⟩ rl _
  have hq : SqL K.k H a vs := .inl (rd_same (e.trans rl.sub) h1)
  have p : Paired (RW K G (μ0 ++ l)) vs (ds.map W.d) := rds_w (RDs.mono e h2)
  refine ⟨fun i w hw => ?_, ⟨vs, hq, by rw [pd_len p]; exact Nat.le_refl _⟩⟩
  obtain ⟨v, hv, r⟩ := pd_get' p hw
  refine ⟨⟨vs, v, hq, hv⟩, fun v' H' ⟨e', y⟩ => ?_⟩
  subst e'
  have := y vs hq
  rw [hv] at this
  cases this
  exact ⟨G, Nx.refl rl, r⟩
theorem src_tup {G0 : Hp} {μ0 : List Addr} {a : Addr} {vs : List V} {ds : List PyData} (h1 : G0 a = some (.tup vs)) (h2 : RDs K G0 vs ds) : SrcR K (Itt K.k a) G0 μ0 (ds.map W.d) none := by
  rintro G H μ S e ⟨l, rfl⟩ rl _
  have hq : SqT K.k H a vs := SqT.of (e.trans rl.sub _ _ h1)
  have p : Paired (RW K G (μ0 ++ l)) vs (ds.map W.d) := rds_w (RDs.mono e h2)
  refine ⟨fun i w hw => ?_, ⟨vs, hq, by rw [pd_len p]; exact Nat.le_refl _⟩⟩
  obtain ⟨v, hv, r⟩ := pd_get' p hw
  refine ⟨⟨vs, v, hq, hv⟩, fun v' H' ⟨e', y⟩ => ?_⟩
  subst e'
  have := y vs hq
  rw [hv] at this
  cases this
  exact ⟨G, Nx.refl rl, r⟩
theorem src_cell {G0 : Hp} {μ0 : List Addr} {a : Addr} {n : Nat} {ws : List W} (h : μ0[n]? = some a) : SrcR K (Itl K.k a) G0 μ0 ws (some (n, ws)) := by
  rintro G H μ S e ⟨l, rfl⟩ rl hg
  have ha : (μ0 ++ l)[n]? = some a := by rw [List.getElem?_append_left (List.getElem?_eq_some_iff.mp h).1]; exact h
  obtain ⟨vs, q1, q2, q3⟩ := rl.cell n a _ ha hg
  have hq : SqL K.k H a vs := SqL.of q1
  refine ⟨fun i w hw => ?_, ⟨vs, hq, by rw [pd_len q2]; exact Nat.le_refl _⟩⟩
  obtain ⟨v, hv, r⟩ := pd_get' q2 hw
  refine ⟨⟨vs, v, hq, hv⟩, fun v' H' ⟨e', y⟩ => ?_⟩
  subst e'
  have := y vs hq
  rw [hv] at this
  cases this
  exact ⟨G, Nx.refl rl, r⟩
/-- a walk of one of two kinds -/
def iOr (i j : TI) : TI := fun σ H R => i σ H R ∨ j σ H R
theorem pi_or {tg it : Expr} {i j : TI} (h : PI X tg it i) (h' : PI X tg it j) : PI X tg it (iOr i j) := ⟨fun pins s σ H R I q => q.elim (h.run pins s σ H R I) (h'.run pins s σ H R I)⟩
theorem zi_seq {tg e : Expr} {te : TE} {f : FE} (hK : X.kx = K) (h : ZE K X e te f) : ZI K X tg e (iOr (iList K.k te) (iTup K.k te)) (seqI f) :=
  ⟨pi_or (pi_listK (kOf hK) h.pe) (pi_tupK (kOf hK) h.pe), fun env S ws g S' σ G H μ R rl er e q => by
    simp only [seqI] at e
    split at e
    · rename_i ds S1 e1
      cases e
      refine .inl (h.se env S _ _ σ G H μ _ rl er e1 fun v G1 H1 μ1 x1 r1 => ?_)
      cases r1 with
      | lst h1 h2 => exact ⟨_, rfl, ⟨_, .inl (rd_same x1.rel.sub h1)⟩, q _ G1 H1 μ1 x1 (src_list h1 h2)⟩
    · rename_i ds S1 e1
      cases e
      refine .inr (h.se env S _ _ σ G H μ _ rl er e1 fun v G1 H1 μ1 x1 r1 => ?_)
      cases r1 with
      | tup h1 h2 => exact ⟨_, rfl, ⟨_, SqT.of (x1.rel.sub _ _ h1)⟩, q _ G1 H1 μ1 x1 (src_tup h1 h2)⟩
    · rename_i n S1 e1
      refine .inl (h.se env S _ _ σ G H μ _ rl er e1 fun v G1 H1 μ1 x1 r1 => ?_)
      obtain ⟨a, ha, rfl⟩ := r1
      split at e
      · rename_i ws' hws
        cases e
        obtain ⟨vs, q1, q2, q3⟩ := x1.rel.cell n a _ ha hws
        exact ⟨a, rfl, ⟨vs, SqL.of q1⟩, q _ G1 H1 μ1 x1 (src_cell ha)⟩
      · rename_i ds hws
        cases e
        have rd : RD K G1 (.ref a) (.list ds) := x1.rel.cell n a _ ha hws
        cases rd with
        | lst h1 h2 => exact ⟨a, rfl, ⟨_, .inl (rd_same x1.rel.sub h1)⟩, q _ G1 H1 μ1 x1 (src_list h1 h2)⟩
      · cases e
    · cases e⟩
/-! range -/
def rngI (lo : Int) (n : Nat) : List W := (List.range n).map fun i => W.d (.int (lo + (i : Nat)))
def range1I (fa : FA) : FI := fun env S => match fa env S with
  | some ([.d (.int j)], S1) => if -(2 ^ 62) ≤ j ∧ j < 2 ^ 62 then some (rngI 0 j.toNat, none, S1) else none
  | _ => none
def range2I (fa : FA) : FI := fun env S => match fa env S with
  | some ([.d (.int i), .d (.int j)], S1) => if -(2 ^ 62) ≤ i ∧ i < 2 ^ 62 ∧ -(2 ^ 62) ≤ j ∧ j < 2 ^ 62 then some (rngI i (j - i).toNat, none, S1) else none
  | _ => none
theorem src_rng {G0 : Hp} {μ0 : List Addr} {lo : Int} {n : Nat} : SrcR K (Itr lo n) G0 μ0 (rngI lo n) none := by
  rintro G H μ S e ⟨l, rfl⟩ rl _
  refine ⟨fun i w hw => ?_, by show n ≤ (rngI lo n).length; simp [rngI]⟩
  unfold rngI at hw
  rw [List.getElem?_map] at hw
  have hi : i < n := by
    cases h : (List.range n)[i]? with
    | none => rw [h] at hw; cases hw
    | some j => simpa using (List.getElem?_eq_some_iff.mp h).1
  rw [List.getElem?_range hi, Option.map_some] at hw
  cases hw
  refine ⟨hi, fun v' H' ⟨e', y⟩ => ?_⟩
  subst e' y
  exact ⟨G, Nx.refl rl, .int _⟩
theorem pd_one {α β : Type} {F : α → β → Prop} {vs : List α} {y : β} (p : Paired F vs [y]) : ∃ x, vs = [x] ∧ F x y := by
  cases p with
  | cons r t => cases t; exact ⟨_, rfl, r⟩
theorem pd_two {α β : Type} {F : α → β → Prop} {vs : List α} {y z : β} (p : Paired F vs [y, z]) : ∃ x w, vs = [x, w] ∧ F x y ∧ F w z := by
  cases p with
  | cons r t =>
    cases t with
    | cons r2 t => cases t; exact ⟨_, _, rfl, r, r2⟩
theorem zi_range1 {tg a : Expr} {t : TA} {f : FA} {p pos : Pos} (hg : Gl X "range") (hm : X.mg "range" = none) (h : ZA K X [a] t f) (hs : starEach [a] X.env = [(false, eval a X.env)] := by rfl) : ZI K X tg (.Call (.Name "range" p) [a] [] pos) (iRng1 t) (range1I f) :=
  ⟨pi_range1 hg hm h.pe hs, fun env S ws g S' σ G H μ R rl er e q => by
    simp only [range1I] at e
    split at e
    · rename_i j S1 e1
      split at e
      · rename_i hb
        cases e
        refine h.se env S _ _ σ G H μ _ rl er e1 fun vs G1 H1 μ1 x1 r1 => ?_
        obtain ⟨v, rfl, r⟩ := pd_one r1
        exact ⟨j, by rw [int_of r], hb.1, hb.2, q _ G1 H1 μ1 x1 src_rng⟩
      · cases e
    · cases e⟩
theorem zi_range2 {tg a b : Expr} {t : TA} {f : FA} {p pos : Pos} (hg : Gl X "range") (hm : X.mg "range" = none) (h : ZA K X [a, b] t f) (hs : starEach [a, b] X.env = [(false, eval a X.env), (false, eval b X.env)] := by rfl) (hs2 : starEach [b] X.env = [(false, eval b X.env)] := by rfl) :
    ZI K X tg (.Call (.Name "range" p) [a, b] [] pos) (iRng2 t) (range2I f) :=
  ⟨pi_range2 hg hm h.pe hs hs2, fun env S ws g S' σ G H μ R rl er e q => by
    simp only [range2I] at e
    split at e
    · rename_i i j S1 e1
      split at e
      · rename_i hb
        cases e
        refine h.se env S _ _ σ G H μ _ rl er e1 fun vs G1 H1 μ1 x1 r1 => ?_
        obtain ⟨v, u, rfl, r, r2⟩ := pd_two r1
        exact ⟨i, j, by rw [int_of r, int_of r2], hb, q _ G1 H1 μ1 x1 src_rng⟩
      · cases e
    · cases e⟩
/-! enumerate(list), zip(list, list): of data; of a list that still is a cell: that stays -/
def gdOf (S : Store) : W → Gd
  | .d _ => none
  | .k _ => none
  | .c n => match S[n]? with
    | some (.lst ws) => some (n, ws)
    | _ => none
/-- a list of data, and what must stay -/
def lstG (S : Store) (w : W) : Option (List PyData × Gd) := match snap S w with
  | some (.list ds) => some (ds, gdOf S w)
  | _ => none
theorem lstG_at {G0 H0 : Hp} {μ0 : List Addr} {S0 : Store} {v : V} {w : W} {ds : List PyData} {g : Gd} (r0 : Rel K G0 H0 μ0 S0) (r : RW K G0 μ0 v w) (e : lstG S0 w = some (ds, g)) : ∃ a vs0, v = .ref a ∧ SqL K.k H0 a vs0 ∧
    ∀ (G H : Hp) (μ : List Addr) (S : Store), Same G0 G → (∃ l, μ = μ0 ++ l) → Rel K G H μ S → HoldsG S g → ∃ vs, SqL K.k H a vs ∧ RDs K G vs ds := by
  unfold lstG at e
  split at e
  · rename_i ds' hs
    cases e
    have dataCase : ∀ {x : PyData}, RD K G0 v x → x = .list ds → ∃ a vs0, v = .ref a ∧ SqL K.k H0 a vs0 ∧ ∀ (G H : Hp) (μ : List Addr) (S : Store), Same G0 G → (∃ l, μ = μ0 ++ l) → Rel K G H μ S → ∃ vs, SqL K.k H a vs ∧ RDs K G vs ds := fun {x} h ex => by
      subst ex
      cases h with
      | lst h1 h2 => exact ⟨_, _, rfl, .inl (rd_same r0.sub h1), fun G H μ S e _ rl => ⟨_, .inl (rd_same (e.trans rl.sub) h1), RDs.mono e h2⟩⟩
    cases w with
    | k ns => cases hs
    | d x =>
      cases hs
      obtain ⟨a, vs0, h1, h2, h3⟩ := dataCase r rfl
      exact ⟨a, vs0, h1, h2, fun G H μ S e l rl _ => h3 G H μ S e l rl⟩
    | c n =>
      obtain ⟨a, ha, rfl⟩ := r
      simp only [snap] at hs
      split at hs
      · rename_i y hy
        cases hs
        obtain ⟨b, vs0, h1, h2, h3⟩ := dataCase (r0.cell n a _ ha hy) rfl
        exact ⟨b, vs0, h1, h2, fun G H μ S e l rl _ => h3 G H μ S e l rl⟩
      · rename_i ws hy
        split at hs
        · rename_i ds2 hds
          cases hs
          obtain ⟨vs, q1, q2, q3⟩ := r0.cell n a _ ha hy
          refine ⟨a, vs, rfl, SqL.of q1, ?_⟩
          rintro G H μ S e ⟨l, rfl⟩ rl hg
          have hg : S[n]? = some (.lst ws) := by
            simp only [gdOf, hy] at hg
            exact hg
          have ha2 : (μ0 ++ l)[n]? = some a := by rw [List.getElem?_append_left (List.getElem?_eq_some_iff.mp ha).1]; exact ha
          obtain ⟨us, p1, p2, p3⟩ := rl.cell n a _ ha2 hg
          refine ⟨us, SqL.of p1, ?_⟩
          have dr : ∀ (ws : List W) (us vs : List V) (ds : List PyData), Paired (RW K G0 μ0) vs ws → Paired (RW K G (μ0 ++ l)) us ws → datas S0 ws = some ds → RDs K G us ds := by
            intro ws
            induction ws with
            | nil => intro us vs ds h1 h2 h3; cases h2; cases h3; exact .nil
            | cons w ws ih =>
              intro us vs ds h1 h2 h3
              cases h1 with
              | cons r1 t1 =>
                cases h2 with
                | cons r2 t2 =>
                  simp only [datas] at h3
                  split at h3
                  · rename_i y hy2
                    split at h3
                    · rename_i ys hys
                      cases h3
                      refine .cons ?_ (ih _ _ _ t1 t2 hys)
                      cases w with
                      | k ns => cases hy2
                      | d z => cases hy2; exact r2
                      | c m =>
                        obtain ⟨b, hb, rfl⟩ := r1
                        obtain ⟨b', hb', rfl⟩ := r2
                        have : b = b' := by
                          rw [List.getElem?_append_left (List.getElem?_eq_some_iff.mp hb).1, hb] at hb'
                          exact Option.some.inj hb'
                        subst this
                        simp only [dataOf] at hy2
                        split at hy2
                        · rename_i z hz
                          cases hy2
                          exact RD.mono e (r0.cell m b _ hb hz)
                        · cases hy2
                    · cases h3
                  · cases h3
          exact dr ws us vs ds q2 p2 hds
        · cases hs
      · cases hs
  · cases e
def enumL (ds : List PyData) : List W := (List.range ds.length).map fun i => W.d (.tuple [.int (i : Nat), ds.getD i .none])
def enumI (fa : FA) : FI := fun env S => match fa env S with
  | some ([w], S1) => (match lstG S1 w with
    | some (ds, g) => some (enumL ds, g, S1)
    | none => none)
  | _ => none
theorem enumL_get {ds : List PyData} {i : Nat} {w : W} (h : (enumL ds)[i]? = some w) : ∃ x, ds[i]? = some x ∧ w = .d (.tuple [.int (i : Nat), x]) := by
  unfold enumL at h
  rw [List.getElem?_map] at h
  have hi : i < ds.length := by
    cases q : (List.range ds.length)[i]? with
    | none => rw [q] at h; cases h
    | some j => simpa using (List.getElem?_eq_some_iff.mp q).1
  rw [List.getElem?_range hi, Option.map_some] at h
  cases h
  exact ⟨ds[i], List.getElem?_eq_getElem hi, by simp [List.getD, hi]⟩
theorem pair_new {G H : Hp} {μ : List Addr} {S : Store} {T : Addr} {v u : V} {x y : PyData} (rl : Rel K G H μ S) (hT : H T = none) (h1 : RD K G v x) (h2 : RD K G u y) : ∃ G', Nx K μ G H μ G' (upd H T (.tup [v, u])) S ∧ RW K G' μ (.ref T) (.d (.tuple [x, y])) := by
  have m : Same G (upd G T (.tup [v, u])) := same_data (rl.gn hT)
  exact ⟨_, nx_data rl hT, .tup upd_same (.cons (RD.mono m h1) (.cons (RD.mono m h2) .nil))⟩
theorem zi_enum {e : Expr} {t : TA} {f : FA} {p pos tpos : Pos} {elts : List Expr} {kk : Nat} (hK : X.kx = K) (hg : Gl X "enumerate") (hm : X.mg "enumerate" = none) (h : ZA K X [e] t f) (hs : starEach [e] X.env = [(false, eval e X.env)] := by rfl) :
    ZI K X (.Tuple elts kk tpos) (.Call (.Name "enumerate" p) [e] [] pos) (iEnum K.k t) (enumI f) :=
  ⟨pi_enumK (kOf hK) hg hm h.pe hs, fun env S ws g S' σ G H μ R rl er e q => by
    simp only [enumI] at e
    split at e
    · rename_i w S1 e1
      split at e
      · rename_i ds g' hl
        cases e
        refine h.se env S _ _ σ G H μ _ rl er e1 fun vs G1 H1 μ1 x1 r1 => ?_
        obtain ⟨v, rfl, r⟩ := pd_one r1
        obtain ⟨a, vs0, rfl, h2, h3⟩ := lstG_at x1.rel r hl
        refine ⟨a, vs0, rfl, h2, q _ G1 H1 μ1 x1 fun G2 H2 μ2 S2 e2 l2 rl2 hg2 => ?_⟩
        obtain ⟨vs, s1, s2⟩ := h3 G2 H2 μ2 S2 e2 l2 rl2 hg2
        refine ⟨fun i w hw => ?_, ⟨vs, s1, by rw [s2.len]; simp [enumL]⟩⟩
        obtain ⟨x, hx, rfl⟩ := enumL_get hw
        obtain ⟨v, hv, rv⟩ := pd_get' s2.pd hx
        refine ⟨⟨vs, v, s1, hv⟩, fun v' H' ⟨T, y, e3, hT, e4, hy⟩ => ?_⟩
        subst e3 e4
        have := hy vs s1
        rw [hv] at this
        cases this
        exact pair_new rl2 hT (.int _) rv
      · cases e
    · cases e⟩
def zipL : List PyData → List PyData → List W
  | x :: xs, y :: ys => W.d (.tuple [x, y]) :: zipL xs ys
  | _, _ => []
def zipI (fa : FA) : FI := fun env S => match fa env S with
  | some ([.d (.list xs), .d (.list ys)], S1) => some (zipL xs ys, none, S1)
  | _ => none
theorem zipL_get : ∀ {xs ys : List PyData} {i : Nat} {w : W}, (zipL xs ys)[i]? = some w → ∃ x y, xs[i]? = some x ∧ ys[i]? = some y ∧ w = .d (.tuple [x, y])
  | [], ys, i, w, h => by simp [zipL] at h
  | _ :: _, [], i, w, h => by simp [zipL] at h
  | x :: xs, y :: ys, 0, w, h => by simp [zipL] at h; subst h; exact ⟨x, y, rfl, rfl, rfl⟩
  | x :: xs, y :: ys, i + 1, w, h => by
    obtain ⟨a, b, h1, h2, h3⟩ := zipL_get (xs := xs) (ys := ys) (i := i) (by simpa [zipL] using h)
    exact ⟨a, b, by simpa using h1, by simpa using h2, h3⟩
theorem zipL_len : ∀ xs ys : List PyData, (zipL xs ys).length = min xs.length ys.length
  | [], ys => by simp [zipL]
  | _ :: _, [] => by simp [zipL]
  | x :: xs, y :: ys => by
    rw [zipL, List.length_cons, List.length_cons, List.length_cons, zipL_len xs ys]
    omega
theorem zi_zip {e e2 : Expr} {t : TA} {f : FA} {p pos tpos : Pos} {elts : List Expr} {kk : Nat} (hp : PI X (.Tuple elts kk tpos) (.Call (.Name "zip" p) [e, e2] [] pos) (iZip K.k t)) (h : ZA K X [e, e2] t f) :
    ZI K X (.Tuple elts kk tpos) (.Call (.Name "zip" p) [e, e2] [] pos) (iZip K.k t) (zipI f) :=
  ⟨hp, fun env S ws g S' σ G H μ R rl er e q => by
    simp only [zipI] at e
    split at e
    · rename_i xs ys S1 e1
      cases e
      refine h.se env S _ _ σ G H μ _ rl er e1 fun vs G1 H1 μ1 x1 r1 => ?_
      obtain ⟨v, u, rfl, r, r2⟩ := pd_two r1
      cases r with
      | lst p1 p2 =>
        cases r2 with
        | lst p3 p4 =>
          rename_i a vs b us
          refine ⟨a, b, vs, us, rfl, .inl (rd_same x1.rel.sub p1), .inl (rd_same x1.rel.sub p3), q _ G1 H1 μ1 x1 ?_⟩
          rintro G2 H2 μ2 S2 e2 ⟨l, rfl⟩ rl2 _
          have q1 : SqL K.k H2 a vs := .inl (rd_same (e2.trans rl2.sub) p1)
          have q2 : SqL K.k H2 b us := .inl (rd_same (e2.trans rl2.sub) p3)
          refine ⟨fun i w hw => ?_, ⟨vs, us, q1, q2, ?_⟩⟩
          · obtain ⟨x, y, hx, hy, rfl⟩ := zipL_get hw
            obtain ⟨v1, hv1, rv1⟩ := pd_get' p2.pd hx
            obtain ⟨v2, hv2, rv2⟩ := pd_get' p4.pd hy
            refine ⟨⟨vs, us, v1, v2, q1, q2, hv1, hv2⟩, fun v' H' ⟨T, z, z2, e3, hT, e4, k1, k2⟩ => ?_⟩
            subst e3 e4
            have k1 := k1 vs q1
            have k2 := k2 us q2
            rw [hv1] at k1
            rw [hv2] at k2
            cases k1
            cases k2
            exact pair_new rl2 hT (RD.mono e2 rv1) (RD.mono e2 rv2)
          · rw [zipL_len, p2.len, p4.len]
            omega
    · cases e⟩
/-! ### for -/
open Classical in
noncomputable def forL (g : Gd) (tg : FG) (body : FS) : List W → FS
  | [], env, S => if HoldsG S g then some (.next, env, S) else none
  | w :: ws, env, S => if HoldsG S g then (match tg w env S with
    | some (env1, S1) => (match body env1 S1 with
      | some (.next, env2, S2) => forL g tg body ws env2 S2
      | some (.cnt, env2, S2) => forL g tg body ws env2 S2
      | some (.brk, env2, S2) => some (.next, env2, S2)
      | some (.ret r, env2, S2) => some (.ret r, env2, S2)
      | none => none)
    | none => none) else none
noncomputable def forX (fi : FI) (tg : FG) (body : FS) : FS := fun env S => match fi env S with
  | some (ws, g, S1) => forL g tg body ws env S1
  | none => none
theorem ss_for {wi : TI} {g : TG} {tb : TS} {L : List Nat} {fi : FI} {fg : FG} {fb : FS} (hi : SI K wi fi) (hg : SG K g L fg) (hb : SS K tb fb) : SS K (tFor wi g tb) (forX fi fg fb) := fun env S c env' S' σ G H μ D rl er e q => by
  simp only [forX] at e
  split at e
  · rename_i ws gd S1 e1
    refine hi env S ws gd S1 σ G H μ _ rl er e1 fun J G0 H0 μ0 x0 src => ?_
    refine ⟨fun i m σ H => m = ws.length - i ∧ i ≤ ws.length ∧ ∃ env2 S2 G2 μ2, Nx K μ0 G0 H0 μ2 G2 H S2 ∧ EnvR K G2 μ2 σ env2 ∧ forL gd fg fb (ws.drop i) env2 S2 = some (c, env', S'),
      ⟨_, rfl, Nat.zero_le _, env, S1, G0, μ0, Nx.refl x0.rel, x0.envR er, by simpa using e⟩, ?_⟩
    rintro i m σ2 H2 ⟨rfl, hi2, env2, S2, G2, μ2, x2, er2, e2⟩
    have hgd : HoldsG S2 gd := by
      cases hd : ws.drop i with
      | nil =>
        rw [hd] at e2
        unfold forL at e2
        split at e2
        · assumption
        · cases e2
      | cons w r =>
        rw [hd] at e2
        unfold forL at e2
        split at e2
        · assumption
        · cases e2
    obtain ⟨it, stp⟩ := src G2 H2 μ2 S2 x2.gg ⟨_, x2.pre.choose_spec.1⟩ x2.rel hgd
    by_cases hlt : i < ws.length
    · have hget : ws[i]? = some ws[i] := List.getElem?_eq_getElem hlt
      rw [List.drop_eq_getElem_cons hlt] at e2
      unfold forL at e2
      rw [if_pos hgd] at e2
      obtain ⟨hgo, hy⟩ := it i ws[i] hget
      refine .inr ⟨hgo, fun σ' H' => ∃ env2 S2 G2 μ2, Nx K μ0 G0 H0 μ2 G2 H' S2 ∧ EnvR K G2 μ2 σ' env2 ∧ forL gd fg fb (ws.drop (i + 1)) env2 S2 = some (c, env', S'), fun σ' H' h => ⟨_, by omega, rfl, hlt, h⟩, fun v H' y => ?_⟩
      obtain ⟨G3, x3, r3⟩ := hy v H' y
      split at e2
      · rename_i env3 S3 et
        refine hg ws[i] env2 S2 env3 S3 v σ2 G3 H' μ2 _ x3.rel (x3.envR er2) r3 et fun σ4 G4 H4 μ4 x4 er4 _ => ?_
        have x04 := (x2.trans x3).trans x4
        split at e2
        · rename_i env5 S5 eb
          refine hb env3 S3 _ env5 S5 σ4 G4 H4 μ4 _ x4.rel er4 eb fun σ5 G5 H5 μ5 x5 er5 => ?_
          exact ⟨env5, S5, G5, μ5, x04.trans x5, er5, e2⟩
        · rename_i env5 S5 eb
          refine hb env3 S3 _ env5 S5 σ4 G4 H4 μ4 _ x4.rel er4 eb fun σ5 G5 H5 μ5 x5 er5 => ?_
          exact ⟨env5, S5, G5, μ5, x04.trans x5, er5, e2⟩
        · rename_i env5 S5 eb
          cases e2
          refine hb env3 S3 _ _ _ σ4 G4 H4 μ4 _ x4.rel er4 eb fun σ5 G5 H5 μ5 x5 er5 => ?_
          exact q σ5 G5 H5 μ5 (x0.trans (x04.trans x5)) er5
        · rename_i r env5 S5 eb
          cases e2
          refine hb env3 S3 _ _ _ σ4 G4 H4 μ4 _ x4.rel er4 eb fun σ5 G5 H5 μ5 x5 er5 => ?_
          exact q σ5 G5 H5 μ5 (x0.trans (x04.trans x5)) er5
        · cases e2
      · cases e2
    · have e3 : i = ws.length := by omega
      subst e3
      rw [List.drop_length] at e2
      unfold forL at e2
      rw [if_pos hgd] at e2
      cases e2
      exact .inl ⟨stp, q σ2 G2 H2 μ2 (x0.trans x2) er2⟩
  · cases e
theorem zs_for {tg it : Expr} {body : List Stmt} {pos : Pos} {wi : TI} {g : TG} {tb : TS} {L : List Nat} {fi : FI} {fg : FG} {fb : FS} (hp : PS X (.For tg it body [] pos) (tFor wi g tb)) (hi : ZI K X tg it wi fi) (hg : ZG K X tg g L fg) (hb : ZSs K X body tb fb) : ZS K X (.For tg it body [] pos) (tFor wi g tb) (forX fi fg fb) := ⟨hp, ss_for hi.se hg.se hb.se⟩
/-! ### while, N turns at most -/
def whileL (t : FT) (body : FS) : Nat → FS
  | 0, _, _ => none
  | n + 1, env, S => match t env S with
    | some (b, S1) => if b = true then (match body env S1 with
      | some (.next, env2, S2) => whileL t body n env2 S2
      | some (.cnt, env2, S2) => whileL t body n env2 S2
      | some (.brk, env2, S2) => some (.next, env2, S2)
      | some (.ret r, env2, S2) => some (.ret r, env2, S2)
      | none => none) else some (.next, env, S1)
    | none => none
def whileX (N : Nat) (t : FT) (body : FS) : FS := fun env S => whileL t body N env S
theorem ss_while {N : Nat} {tc : TT} {tb : TS} {fc : FT} {fb : FS} (hc : ST K tc fc) (hb : SS K tb fb) : SS K (tWhile tc tb) (whileX N fc fb) := fun env S c env' S' σ G H μ D rl er e q => by
  unfold whileX at e
  refine ⟨fun m σ2 H2 => ∃ env2 S2 G2 μ2, Nx K μ G H μ2 G2 H2 S2 ∧ EnvR K G2 μ2 σ2 env2 ∧ whileL fc fb m env2 S2 = some (c, env', S'), ⟨N, env, S, G, μ, Nx.refl rl, er, e⟩, ?_⟩
  rintro m σ2 H2 ⟨env2, S2, G2, μ2, x2, er2, e2⟩
  cases m with
  | zero => cases e2
  | succ m =>
    unfold whileL at e2
    split at e2
    · rename_i b S3 et
      refine hc env2 S2 b S3 σ2 G2 H2 μ2 _ x2.rel er2 et fun G3 H3 μ3 x3 => ?_
      have x03 := x2.trans x3
      have er3 := x3.envR er2
      cases b with
      | false =>
        rw [if_neg Bool.false_ne_true] at e2 ⊢
        cases e2
        exact q σ2 G3 H3 μ3 x03 er3
      | true =>
        rw [if_pos rfl] at e2 ⊢
        refine ⟨fun σ' H' => ∃ env2 S2 G2 μ2, Nx K μ G H μ2 G2 H' S2 ∧ EnvR K G2 μ2 σ' env2 ∧ whileL fc fb m env2 S2 = some (c, env', S'), fun σ' H' h => ⟨m, Nat.lt_succ_self m, h⟩, ?_⟩
        split at e2
        · rename_i env5 S5 eb
          exact hb env2 S3 _ env5 S5 σ2 G3 H3 μ3 _ x3.rel er3 eb fun σ5 G5 H5 μ5 x5 er5 => ⟨env5, S5, G5, μ5, x03.trans x5, er5, e2⟩
        · rename_i env5 S5 eb
          exact hb env2 S3 _ env5 S5 σ2 G3 H3 μ3 _ x3.rel er3 eb fun σ5 G5 H5 μ5 x5 er5 => ⟨env5, S5, G5, μ5, x03.trans x5, er5, e2⟩
        · rename_i env5 S5 eb
          cases e2
          exact hb env2 S3 _ _ _ σ2 G3 H3 μ3 _ x3.rel er3 eb fun σ5 G5 H5 μ5 x5 er5 => q σ5 G5 H5 μ5 (x03.trans x5) er5
        · rename_i r env5 S5 eb
          cases e2
          exact hb env2 S3 _ _ _ σ2 G3 H3 μ3 _ x3.rel er3 eb fun σ5 G5 H5 μ5 x5 er5 => q σ5 G5 H5 μ5 (x03.trans x5) er5
        · cases e2
    · cases e2
theorem zs_while {N : Nat} {c : Expr} {body : List Stmt} {pos : Pos} {tc : TT} {tb : TS} {fc : FT} {fb : FS} (hp : PassesOwn (model X.prog X.w) X.A X.env X.xe) (hc : ZT K X c tc fc) (hb : ZSs K X body tb fb) : ZS K X (.While c body [] pos) (tWhile tc tb) (whileX N fc fb) := ⟨ps_while hp hc.pe hb.pe, ss_while hc.se hb.se⟩
/-! ### comprehensions -/
section
variable {G H G' H' G0 H0 : Hp} {μ μ' μ0 : List Addr} {S S' : Store} {D : Addr} {o : HO}
/-- an object of the rule's own beside what the relation knows -/
structure Own (K : Kx) (μ0 : List Addr) (G0 H0 : Hp) (μ : List Addr) (G H : Hp) (S : Store) (D : Addr) (o : HO) : Prop where
  nx : Nx K μ0 G0 H0 μ G H S
  at' : H D = some o
  gn : G D = none
  nin : D ∉ μ
  new : H0 D = none
theorem own_new (r : Rel K G0 H0 μ0 S) (h : H0 D = none) : Own K μ0 G0 H0 μ0 G0 (upd H0 D o) S D o := by
  have sh : Same H0 (upd H0 D o) := same_data h
  refine ⟨⟨⟨r.sub.trans sh, r.len, r.nd, fun a ha => ?_, fun n a c h1 h2 => ?_⟩, ⟨[], by simp, fun _ z => nomatch z⟩, Same.refl _, fun b u e _ => sh b u e, fun b _ _ e => e, fun b e => ?_⟩, upd_same, r.gn h, r.nin h, h⟩
  · rw [upd_ne (ne_mem (r.nin h) ha)]; exact r.there a ha
  · have := (r.cell n a c h1 h2).mono (H' := upd H0 D o) (Same.refl G0) [] (fun u q => sh _ _ q) (fun q => q)
    simpa using this
  · rw [upd_ne (fresh_ne e h)]; exact e
theorem Own.step {μ' : List Addr} (x : Own K μ0 G0 H0 μ G H S D o) (y : Nx K μ G H μ' G' H' S') : Own K μ0 G0 H0 μ' G' H' S' D o := by
  have hD : H D ≠ none := by rw [x.at']; exact fun z => nomatch z
  refine ⟨x.nx.trans y, y.kp D o x.at' x.nin, y.nw D hD x.nin x.gn, fun z => ?_, x.new⟩
  obtain ⟨l, e, hl⟩ := y.pre
  rw [e] at z
  rcases List.mem_append.mp z with z | z
  · exact x.nin z
  · exact hD (hl D z)
theorem Own.write {o' : HO} (x : Own K μ0 G0 H0 μ G H S D o) : Own K μ0 G0 H0 μ G (upd H D o') S D o' := by
  have r := x.nx.rel
  refine ⟨⟨⟨fun b u e => ?_, r.len, r.nd, fun a ha => ?_, fun n a c h1 h2 => ?_⟩, x.nx.pre, x.nx.gg, fun b u e hb => ?_, x.nx.nw, fun b e => ?_⟩, upd_same, x.gn, x.nin, x.new⟩
  · rw [upd_ne (fun z => by rw [z, x.gn] at e; cases e)]; exact r.sub b u e
  · rw [upd_ne (ne_mem x.nin ha)]; exact r.there a ha
  · have hne : a ≠ D := ne_mem x.nin (List.mem_of_getElem? h1)
    have := (r.cell n a c h1 h2).mono (H' := upd H D o') (Same.refl G) [] (fun u q => by rw [upd_ne hne]; exact q) (fun q => q)
    simpa using this
  · rw [upd_ne (fun z => by rw [z, x.new] at e; cases e)]; exact x.nx.kp b u e hb
  · by_cases hb : b = D
    · rw [hb, upd_same]; exact fun z => nomatch z
    · rw [upd_ne hb]; exact x.nx.al b e
/-- it becomes data -/
theorem Own.pub (x : Own K μ0 G0 H0 μ G H S D o) : Nx K μ0 G0 H0 μ (upd G D o) H S := by
  have r := x.nx.rel
  have sg : Same G (upd G D o) := same_data x.gn
  refine ⟨⟨fun b u e => ?_, r.len, r.nd, r.there, fun n a c h1 h2 => ?_⟩, x.nx.pre, x.nx.gg.trans sg, x.nx.kp, fun b h1 h2 h3 => ?_, x.nx.al⟩
  · by_cases hb : b = D
    · rw [hb, upd_same] at e; rw [hb, ← e]; exact x.at'
    · rw [upd_ne hb] at e; exact r.sub b u e
  · have hne : a ≠ D := ne_mem x.nin (List.mem_of_getElem? h1)
    have := (r.cell n a c h1 h2).mono (H' := H) sg [] (fun u q => q) (fun q => by rw [upd_ne hne]; exact q)
    simpa using this
  · rw [upd_ne (fun z => by rw [z] at h1; exact h1 x.new)]; exact x.nx.nw b h1 h2 h3
/-- it becomes a cell -/
theorem Own.cell {c : Cell} (x : Own K μ0 G0 H0 μ G H S D o) (hc : CellR K G H (μ ++ [D]) D c) : Nx K μ0 G0 H0 (μ ++ [D]) G H (S ++ [c]) := by
  have r := x.nx.rel
  refine ⟨⟨r.sub, by simp [r.len], ?_, fun b hb => ?_, fun n a c' h1 h2 => ?_⟩, ?_, x.nx.gg, x.nx.kp, x.nx.nw, x.nx.al⟩
  · rw [List.nodup_append]
    exact ⟨r.nd, by simp, fun a ha b hb e => by
      have e2 : b = D := by simpa using hb
      subst e; subst e2
      exact x.nin ha⟩
  · rcases List.mem_append.mp hb with z | z
    · exact r.there b z
    · have e2 : b = D := by simpa using z
      rw [e2, x.at']
      exact fun z => nomatch z
  · by_cases hn : n < μ.length
    · rw [List.getElem?_append_left hn] at h1
      rw [List.getElem?_append_left (by rw [← r.len]; exact hn)] at h2
      exact (r.cell n a c' h1 h2).mono (Same.refl _) [D] (fun u q => q) (fun q => q)
    · have hn2 : n = μ.length := by
        have := (List.getElem?_eq_some_iff.mp h1).1
        simp at this
        omega
      subst hn2
      rw [List.getElem?_append_right (Nat.le_refl _), Nat.sub_self] at h1
      rw [r.len, List.getElem?_append_right (Nat.le_refl _), Nat.sub_self] at h2
      cases h1
      cases h2
      exact hc
  · obtain ⟨l, e, hl⟩ := x.nx.pre
    refine ⟨l ++ [D], by rw [e, List.append_assoc], fun b hb => ?_⟩
    rcases List.mem_append.mp hb with z | z
    · exact hl b z
    · have e2 : b = D := by simpa using z
      rw [e2]
      exact x.new
end
/-- how a list made bit by bit ends -/
def EndOk (K : Kx) (nw : Store → List W → Option (W × Store)) : Prop := ∀ {G H G0 H0 : Hp} {μ μ0 : List Addr} {S S' : Store} {D : Addr} {vs : List V} {ws : List W} {w : W}, Own K μ0 G0 H0 μ G H S D (.lst vs) → Paired (RW K G μ) vs ws → nw S ws = some (w, S') →
  vs.length ≤ sizeLine ∧ ∃ G' μ', Nx K μ0 G0 H0 μ' G' H S' ∧ RW K G' μ' (.ref D) w
theorem eL' : EndOk K newL := fun {G H G0 H0 μ μ0 S S' D vs ws w} x p e => by
  unfold newL at e
  split at e
  · rename_i ds hds
    split at e
    · rename_i hl
      cases e
      have rd := datas_rd x.nx.rel p hds
      refine ⟨by rw [rd.len]; exact hl, _, _, x.pub, ?_⟩
      exact .lst (.inl upd_same) (RDs.mono (same_data x.gn) rd)
    · cases e
  · cases e
theorem eC' : EndOk K newC := fun {G H G0 H0 μ μ0 S S' D vs ws w} x p e => by
  unfold newC at e
  split at e
  · rename_i hl
    cases e
    refine ⟨by rw [pd_len p]; exact hl, _, _, x.cell (c := .lst ws) ⟨vs, x.at', pws_mono (Same.refl _) [D] p, x.gn⟩, ?_⟩
    exact ⟨D, by rw [← x.nx.rel.len, List.getElem?_append_right (Nat.le_refl _), Nat.sub_self]; rfl, rfl⟩
  · cases e
/-- .. and is never too long -/
structure EndK (K : Kx) (nw : Store → List W → Option (W × Store)) : Prop where
  ok : EndOk K nw
  ln : ∀ S ws r, nw S ws = some r → ws.length ≤ sizeLine
theorem datas_len {S : Store} : ∀ {ws : List W} {ds : List PyData}, datas S ws = some ds → ws.length = ds.length
  | [], _, e => by simp only [datas] at e; cases e; rfl
  | w :: ws, _, e => by
    simp only [datas] at e
    split at e
    · split at e
      · rename_i h
        cases e
        rw [List.length_cons, List.length_cons, datas_len h]
      · cases e
    · cases e
theorem eL : EndK K newL := ⟨eL', fun S ws r e => by
  unfold newL at e
  split at e
  · rename_i h
    split at e
    · rename_i hl; rw [datas_len h]; exact hl
    · cases e
  · cases e⟩
theorem eC : EndK K newC := ⟨eC', fun S ws r e => by
  unfold newC at e
  split at e
  · assumption
  · cases e⟩
open Classical in
noncomputable def compL (g : Gd) (tg : FG) (tt : FT) (te : FE) (env : Env) : List W → Store → Option (List W × Store)
  | [], S => if HoldsG S g then some ([], S) else none
  | w :: ws, S => if HoldsG S g then (match tg w env S with
    | some (env1, S1) => (match tt env1 S1 with
      | some (b, S2) => if b = true then (match te env1 S2 with
        | some (y, S3) => (match compL g tg tt te env ws S3 with
          | some (ys, S4) => some (y :: ys, S4)
          | none => none)
        | none => none) else compL g tg tt te env ws S2
      | none => none)
    | none => none) else none
noncomputable def lcX (nw : Store → List W → Option (W × Store)) (vs : List Nat) (fi : FI) (tg : FG) (tt : FT) (te : FE) : FE := fun env S => match fi env S with
  | some (ws, g, S1) => (match compL g tg tt te (wipeE env vs) ws S1 with
    | some (ys, S2) => nw S2 ys
    | none => none)
  | none => none
theorem compL_hold {g : Gd} {tg : FG} {tt : FT} {te : FE} {env : Env} {ws : List W} {S : Store} {r : List W × Store} (e : compL g tg tt te env ws S = some r) : HoldsG S g := by
  cases ws with
  | nil =>
    unfold compL at e
    split at e
    · assumption
    · cases e
  | cons w ws =>
    unfold compL at e
    split at e
    · assumption
    · cases e
theorem se_lc {nw : Store → List W → Option (W × Store)} {vs L : List Nat} {wi : TI} {g : TG} {tt : TT} {te : TE} {fi : FI} {fg : FG} {ft : FT} {fe : FE} (hk : EndK K nw) (hL : ∀ i ∈ L, i ∈ vs) (hi : SI K wi fi) (hg : SG K g L fg) (ht : ST K tt ft) (he : SE K te fe) :
    SE K (tLc wi g tt te vs) (lcX nw vs fi fg ft fe) := fun env S w S' σ G H μ Q rl er e q => by
  simp only [lcX] at e
  split at e
  · rename_i ws gd S1 e1
    split at e
    · rename_i ys S2 ec
      refine hi env S ws gd S1 σ G H μ _ rl er e1 fun J G0 H0 μ0 x0 src => ?_
      intro D hD
      have lenOk : ∀ {G H : Hp} {μ : List Addr} {us : List V}, Own K μ0 G0 H0 μ G H S2 D (.lst us) → Paired (RW K G μ) us ys → us.length ≤ sizeLine := fun x p => (hk.ok x p e).1
      refine ⟨fun i m H2 => m = ws.length - i ∧ i ≤ ws.length ∧ ∃ S3 G2 μ2 us acc rest, Own K μ0 G0 H0 μ2 G2 H2 S3 D (.lst us) ∧ Paired (RW K G2 μ2) us acc ∧ compL gd fg ft fe (wipeE env vs) (ws.drop i) S3 = some (rest, S2) ∧ ys = acc ++ rest,
        ⟨_, rfl, Nat.zero_le _, S1, G0, μ0, [], [], ys, own_new x0.rel hD, .nil, by simpa using ec, rfl⟩, ?_⟩
      rintro i m H2 ⟨rfl, hi2, S3, G2, μ2, us, acc, rest, ow, pa, e2, ey⟩
      have hgd := compL_hold e2
      obtain ⟨it, stp⟩ := src G2 H2 μ2 S3 ow.nx.gg ⟨_, ow.nx.pre.choose_spec.1⟩ ow.nx.rel hgd
      by_cases hlt : i < ws.length
      · have hget : ws[i]? = some ws[i] := List.getElem?_eq_getElem hlt
        rw [List.drop_eq_getElem_cons hlt] at e2
        unfold compL at e2
        rw [if_pos hgd] at e2
        obtain ⟨hgo, hy⟩ := it i ws[i] hget
        refine .inr ⟨hgo, fun H' => ∃ S3 G2 μ2 us acc rest, Own K μ0 G0 H0 μ2 G2 H' S3 D (.lst us) ∧ Paired (RW K G2 μ2) us acc ∧ compL gd fg ft fe (wipeE env vs) (ws.drop (i + 1)) S3 = some (rest, S2) ∧ ys = acc ++ rest, fun H' h => ⟨_, by omega, rfl, hlt, h⟩, fun v H' y => ?_⟩
        obtain ⟨G3, x3, r3⟩ := hy v H' y
        split at e2
        · rename_i env3 S4 et
          have ow3 := ow.step x3
          refine hg ws[i] (wipeE env vs) S3 env3 S4 v (wipe σ vs) G3 H' μ2 _ x3.rel (EnvR.wipe (ow3.nx.envR (x0.envR er)) vs) r3 et fun σ4 G4 H4 μ4 x4 er4 hw => ?_
          refine ⟨?_, ?_⟩
          · rw [hw vs hL]
            have : ∀ (l : List Nat), (∀ i ∈ l, i ∈ vs) → wipe (wipe σ vs) l = wipe σ vs := by
              have one : ∀ i ∈ vs, (wipe σ vs).set i none = wipe σ vs := by
                intro i hi
                have key : ∀ (vs : List Nat), i ∈ vs → (wipe σ vs).set i none = wipe σ vs := by
                  intro vs
                  induction vs with
                  | nil => intro h; cases h
                  | cons k vs ih =>
                    intro h
                    show ((wipe σ vs).set k none).set i none = (wipe σ vs).set k none
                    by_cases hk : i = k
                    · subst hk; rw [List.set_set]
                    · rw [List.set_comm _ _ (fun z => hk z.symm), ih (by
                        rcases List.mem_cons.mp h with z | z
                        · exact absurd z hk
                        · exact z)]
                exact key vs hi
              intro l
              induction l with
              | nil => intro _; rfl
              | cons k l ih =>
                intro h
                show (wipe (wipe σ vs) l).set k none = wipe σ vs
                rw [ih fun i hi => h i (List.mem_cons_of_mem _ hi)]
                exact one k (h k List.mem_cons_self)
            exact this vs fun i h => h
          · have ow4 := ow3.step x4
            split at e2
            · rename_i b S5 eb
              refine ht env3 S4 b S5 σ4 G4 H4 μ4 _ x4.rel er4 eb fun G5 H5 μ5 x5 => ?_
              have ow5 := ow4.step x5
              have pa5 : Paired (RW K G5 μ5) us acc := x5.rws (x4.rws (x3.rws pa))
              cases b with
              | false =>
                rw [if_neg Bool.false_ne_true] at e2 ⊢
                exact ⟨S5, G5, μ5, us, acc, rest, ow5, pa5, e2, ey⟩
              | true =>
                rw [if_pos rfl] at e2 ⊢
                split at e2
                · rename_i yv S6 ee
                  split at e2
                  · rename_i ys' S7 er7
                    cases e2
                    refine he env3 S5 yv S6 σ4 G5 H5 μ5 _ x5.rel (x5.envR er4) ee fun v6 G6 H6 μ6 x6 r6 => ?_
                    have ow6 := ow5.step x6
                    refine ⟨us, ow6.at', ?_, ⟨S6, G6, μ6, us ++ [v6], acc ++ [yv], ys', ow6.write, pd_snoc (x6.rws pa5) r6, er7, by rw [ey]; simp⟩⟩
                    have l1 := pd_len pa
                    have l2 : ys.length = acc.length + (ys'.length + 1) := by rw [ey]; simp
                    have l3 : ys.length ≤ sizeLine := hk.ln _ _ _ e
                    omega
                  · cases e2
                · cases e2
            · cases e2
        · cases e2
      · have e3 : i = ws.length := by omega
        subst e3
        rw [List.drop_length] at e2
        unfold compL at e2
        rw [if_pos hgd] at e2
        cases e2
        rw [List.append_nil] at ey
        subst ey
        obtain ⟨_, G', μ', x', r'⟩ := hk.ok ow pa e
        exact .inl ⟨stp, q _ G' H2 μ' (x0.trans x') r'⟩
    · cases e
  · cases e
end Z

/-! Z7: membership, lengths, built-ins; lists that are written; kinds of values. -/
namespace Z
open PySem PySem.Spec PyProof.Rows L2 Y
variable {K : Kx} {X : Cx}
/-! ### in -/
def flatD : PyData → Bool
  | .none => true
  | .bool _ => true
  | .int _ => true
  | .str _ => true
  | _ => false
def anyD (x : PyData) (ds : List PyData) : Bool := ds.any fun y => PyData.eqv y x
def memW (neg : Bool) : Store → W → W → Option (W × Store) := fun S a b => match snap S a with
  | some x => (match snap S b with
    | some (.list ds) => if (flatD x = true ∧ ds.all flatD = true) ∨ (SeqAt.shaped x = true ∧ SeqAt.shaped (.list ds) = true) then some (.d (.bool (if neg then !anyD x ds else anyD x ds)), S) else none
    | some (.tuple ds) => if flatD x = true ∧ ds.all flatD = true then some (.d (.bool (if neg then !anyD x ds else anyD x ds)), S) else none
    | _ => none)
  | none => none
theorem flat_rd {H : Hp} {v : V} {d : PyData} (h : RD K H v d) (f : flatD d = true) : flatV v = true := by cases h <;> first | rfl | cases f
theorem flats_rd {H : Hp} : ∀ {vs : List V} {ds : List PyData}, RDs K H vs ds → ds.all flatD = true → vs.all flatV = true
  | _, _, .nil, _ => rfl
  | _, _, .cons r t, f => by
    rw [List.all_cons, Bool.and_eq_true] at f
    rw [List.all_cons, flat_rd r f.1, flats_rd t f.2]
    rfl
theorem eqV_rd {H : Hp} {v u : V} {x y : PyData} (h : RD K H v x) (h2 : RD K H u y) (f : flatD x = true) (f2 : flatD y = true) : eqV u v = PyData.eqv y x := by
  cases h <;> cases h2 <;> first | rfl | cases f | cases f2
theorem inV_rd {H : Hp} {v : V} {x : PyData} (h : RD K H v x) (f : flatD x = true) : ∀ {vs : List V} {ds : List PyData}, RDs K H vs ds → ds.all flatD = true → inV v vs = anyD x ds
  | _, _, .nil, _ => rfl
  | _, _, .cons r t, g => by
    rw [List.all_cons, Bool.and_eq_true] at g
    show (eqV _ _ || inV _ _) = (PyData.eqv _ _ || anyD _ _)
    rw [eqV_rd h r f g.1, inV_rd h f t g.2]
def rMem (K : Kx) (neg : Bool) : R2 := fun x y H Q => rIn K.k neg x y H Q ∨ (∃ d ds, Dp K.k H x d ∧ Dp K.k H y (.list ds) ∧ SeqAt.shaped d = true ∧ SeqAt.shaped (.list ds) = true ∧ Q (.bl (if neg then !anyD d ds else anyD d ds)) H)
theorem sr_mem {neg : Bool} : SR2 K (rMem K neg) (memW neg) := fun S w1 w2 w S' G H μ v1 v2 Q rl r1 r2 e q => by
  unfold memW at e
  split at e
  · rename_i x hx
    have hv := snap_rd rl r1 hx
    split at e
    · rename_i ds hy
      have hu := snap_rd rl r2 hy
      split at e
      · rename_i hc
        cases e
        have q' := q (.bl (if neg then !anyD x ds else anyD x ds)) G H μ (Nx.refl rl) (.bl _)
        rcases hc with ⟨h1, h2⟩ | ⟨h1, h2⟩
        · cases hu with
          | lst p1 p2 => exact .inl ⟨_, _, rfl, .inl (.inl p1), flat_rd hv h1, flats_rd p2 h2, by rw [inV_rd hv h1 p2 h2]; exact q'⟩
        · exact .inr ⟨x, ds, hv.dp (lay_noDict _ (shaped_lay h1)), hu.dp (lay_noDict _ (shaped_lay h2)), h1, h2, q'⟩
      · cases e
    · rename_i ds hy
      have hu := snap_rd rl r2 hy
      split at e
      · rename_i hc
        cases e
        have q' := q (.bl (if neg then !anyD x ds else anyD x ds)) G H μ (Nx.refl rl) (.bl _)
        cases hu with
        | tup p1 p2 => exact .inl ⟨_, _, rfl, .inr (SqT.of p1), flat_rd hv hc.1, flats_rd p2 hc.2, by rw [inV_rd hv hc.1 p2 hc.2]; exact q'⟩
      · cases e
    · cases e
  · cases e
theorem op_memIn (hK : X.kx = K) (hu : X.A.units + 65 < cLine) : OpR X (compareOp .In) (rMem K false) := by
  subst hK
  exact op_in_seq.or (op_inD hu)
theorem op_memNot (hK : X.kx = K) (hu : X.A.units + 65 < cLine) : OpR X (compareOp .NotIn) (rMem K true) := by
  subst hK
  exact op_notIn_seq.or (op_notInD hu)
theorem units65 {k : Nat} {A : Around} (r : Room k A) : A.units + 65 < cLine := by have := r.un; omega
theorem zc_in (hK : X.kx = K) (hu : X.A.units + 65 < cLine) : ZC K X .In (rMem K false) (memW false) := ⟨op_memIn hK hu, sr_mem⟩
theorem zc_notin (hK : X.kx = K) (hu : X.A.units + 65 < cLine) : ZC K X .NotIn (rMem K true) (memW true) := ⟨op_memNot hK hu, sr_mem⟩
/-! ### len, list(x), tuple(x), int(x), min, max .. -/
def lenW : Store → List W → Option (W × Store) := fun S ws => match ws with
  | [w] => (match itemsL S w with
    | some xs => vI xs.length S
    | none => (match itemsT S w with
      | some xs => vI xs.length S
      | none => (match strW w with
        | some z => if z.length ≤ sizeLine then vI z.length S else none
        | none => none)))
  | _ => none
theorem cr_len (hK : X.kx = K) : CallR X (.builtin "len") (fun xs H Q => rLenSeq K.k xs H Q ∨ ∃ z, xs = [V.str z] ∧ z.length ≤ sizeLine ∧ Q (.int z.length) H) := callR_or (call_len_seqK (kOf hK)) call_len_str
theorem sr_len : SRs K (fun xs H Q => rLenSeq K.k xs H Q ∨ ∃ z, xs = [V.str z] ∧ z.length ≤ sizeLine ∧ Q (.int z.length) H) lenW := fun S ws w S' G H μ vs Q rl rs e q => by
  unfold lenW at e
  split at e
  · rename_i w1
    obtain ⟨v, rfl, r⟩ := pd_one rs
    split at e
    · rename_i xs hx
      cases e
      obtain ⟨a, us, rfl, h1, h2⟩ := items_list rl r hx
      exact .inl ⟨a, us, rfl, .inl (.inl h1), by rw [pd_len h2]; exact q _ G H μ (Nx.refl rl) (.int _)⟩
    · split at e
      · rename_i xs hx
        cases e
        obtain ⟨a, us, rfl, h1, h2⟩ := items_tup rl r hx
        exact .inl ⟨a, us, rfl, .inr h1, by rw [pd_len h2]; exact q _ G H μ (Nx.refl rl) (.int _)⟩
      · split at e
        · rename_i z hz
          split at e
          · rename_i hl
            cases e
            exact .inr ⟨z, by rw [strW_of hz r], hl, q _ G H μ (Nx.refl rl) (.int _)⟩
          · cases e
        · cases e
  · cases e
def itemsK : W → Option (List W)
  | .k ns => some (ns.map fun i => W.d (.int i))
  | _ => none
def seqOf (S : Store) (w : W) : Option (List W) := match itemsL S w with
  | some xs => some xs
  | none => (match itemsT S w with
    | some xs => some xs
    | none => itemsK w)
theorem ints_rw {G : Hp} {μ : List Addr} : ∀ ns : List Int, Paired (RW K G μ) (ns.map V.int) (ns.map fun i => W.d (.int i))
  | [] => .nil
  | i :: ns => .cons (.int i) (ints_rw ns)
theorem seqOf_at {G H : Hp} {μ : List Addr} {S : Store} {v : V} {w : W} (rl : Rel K G H μ S) (r : RW K G μ v w) {ws : List W} (e : seqOf S w = some ws) : ∃ a us, v = .ref a ∧ (SqL K.k H a us ∨ SqT K.k H a us) ∧ Paired (RW K G μ) us ws := by
  unfold seqOf at e
  split at e
  · rename_i xs hx
    cases e
    obtain ⟨a, us, h0, h1, h2⟩ := items_list rl r hx
    exact ⟨a, us, h0, .inl (.inl h1), h2⟩
  · split at e
    · rename_i xs hx
      cases e
      obtain ⟨a, us, h0, h1, h2⟩ := items_tup rl r hx
      exact ⟨a, us, h0, .inr h1, h2⟩
    · unfold itemsK at e
      split at e
      · cases e
        obtain ⟨a, rfl, h⟩ := r
        exact ⟨a, _, rfl, .inl (seqL rl.sub h), ints_rw _⟩
      · cases e
def listW (nw : Store → List W → Option (W × Store)) : Store → List W → Option (W × Store) := fun S ws => match ws with
  | [w] => (match seqOf S w with
    | some xs => nw S xs
    | none => none)
  | _ => none
theorem sr_list {nw : Store → List W → Option (W × Store)} (hn : NewOk K .lst nw) : SRs K (rListOf K.k) (listW nw) := fun S ws w S' G H μ vs Q rl rs e q => by
  unfold listW at e
  split at e
  · rename_i w1
    obtain ⟨v, rfl, r⟩ := pd_one rs
    split at e
    · rename_i xs hx
      obtain ⟨a, us, rfl, h1, h2⟩ := seqOf_at rl r hx
      exact ⟨a, us, rfl, h1, (hn rl h2 e q).2⟩
    · cases e
  · cases e
def tupleW : Store → List W → Option (W × Store) := fun S ws => match ws with
  | [w] => (match itemsL S w with
    | some xs => newT S xs
    | none => (match itemsT S w with
      | some _ => some (w, S)
      | none => none))
  | _ => none
theorem sr_tuple : SRs K (rTupleOf K.k) tupleW := fun S ws w S' G H μ vs Q rl rs e q => by
  unfold tupleW at e
  split at e
  · rename_i w1
    obtain ⟨v, rfl, r⟩ := pd_one rs
    split at e
    · rename_i xs hx
      obtain ⟨a, us, rfl, h1, h2⟩ := items_list rl r hx
      exact ⟨a, us, rfl, .inl ⟨.inl h1, (newT_ok rl h2 e q).2⟩⟩
    · split at e
      · rename_i xs hx
        cases e
        obtain ⟨a, us, rfl, h1, h2⟩ := items_tup rl r hx
        exact ⟨a, us, rfl, .inr ⟨h1, q _ G H μ (Nx.refl rl) r⟩⟩
      · cases e
  · cases e
def intW : Store → List W → Option (W × Store) := fun S ws => match ws with
  | [.d (.int i)] => vI i S
  | [.d (.bool b)] => vI (if b then 1 else 0) S
  | _ => none
theorem sr_int : SRs K (fun xs H Q => (∃ i, xs = [V.int i] ∧ Q (.int i) H) ∨ ∃ k, xs = [V.bl k] ∧ Q (.int (if k then 1 else 0)) H) intW := fun S ws w S' G H μ vs Q rl rs e q => by
  unfold intW at e
  split at e
  · rename_i i
    cases e
    obtain ⟨v, rfl, r⟩ := pd_one rs
    exact .inl ⟨i, by rw [int_of r], q _ G H μ (Nx.refl rl) (.int _)⟩
  · rename_i b
    cases e
    obtain ⟨v, rfl, r⟩ := pd_one rs
    exact .inr ⟨b, by rw [bool_of r], q _ G H μ (Nx.refl rl) (.int _)⟩
  · cases e
def absW : Store → List W → Option (W × Store) := fun S ws => match ws with
  | [.d (.int i)] => vI (if i < 0 then -i else i) S
  | _ => none
theorem sr_abs : SRs K (fun xs H Q => ∃ i, xs = [V.int i] ∧ Q (.int (if i < 0 then -i else i)) H) absW := fun S ws w S' G H μ vs Q rl rs e q => by
  unfold absW at e
  split at e
  · rename_i i
    cases e
    obtain ⟨v, rfl, r⟩ := pd_one rs
    exact ⟨i, by rw [int_of r], q _ G H μ (Nx.refl rl) (.int _)⟩
  · cases e
def min2W : Store → List W → Option (W × Store) := fun S ws => match ws with
  | [.d (.int i), .d (.int j)] => vI (if j < i then j else i) S
  | _ => none
def max2W : Store → List W → Option (W × Store) := fun S ws => match ws with
  | [.d (.int i), .d (.int j)] => vI (if j > i then j else i) S
  | _ => none
theorem sr_min2 : SRs K (fun xs H Q => ∃ i j, xs = [V.int i, .int j] ∧ Q (.int (if j < i then j else i)) H) min2W := fun S ws w S' G H μ vs Q rl rs e q => by
  unfold min2W at e
  split at e
  · rename_i i j
    cases e
    obtain ⟨v, u, rfl, r, r2⟩ := pd_two rs
    exact ⟨i, j, by rw [int_of r, int_of r2], q _ G H μ (Nx.refl rl) (.int _)⟩
  · cases e
theorem sr_max2 : SRs K (fun xs H Q => ∃ i j, xs = [V.int i, .int j] ∧ Q (.int (if j > i then j else i)) H) max2W := fun S ws w S' G H μ vs Q rl rs e q => by
  unfold max2W at e
  split at e
  · rename_i i j
    cases e
    obtain ⟨v, u, rfl, r, r2⟩ := pd_two rs
    exact ⟨i, j, by rw [int_of r, int_of r2], q _ G H μ (Nx.refl rl) (.int _)⟩
  · cases e
/-- a list's items as ints, as truth values -/
def intsD : List PyData → Option (List Int)
  | [] => some []
  | .int i :: ds => (match intsD ds with
    | some r => some (i :: r)
    | none => none)
  | _ => none
def boolsD : List PyData → Option (List Bool)
  | [] => some []
  | .bool i :: ds => (match boolsD ds with
    | some r => some (i :: r)
    | none => none)
  | _ => none
theorem intsD_rd {H : Hp} : ∀ {ds : List PyData} {vs : List V} {ns : List Int}, RDs K H vs ds → intsD ds = some ns → vs = ns.map V.int
  | [], _, _, r, e => by cases r; simp only [intsD] at e; cases e; rfl
  | d :: ds, _, _, r, e => by
    cases r with
    | cons r t =>
      cases d with
      | int i =>
        simp only [intsD] at e
        split at e
        · rename_i ns hn
          cases e
          rw [int_of r, intsD_rd t hn]
          rfl
        · cases e
      | _ => cases e
theorem boolsD_rd {H : Hp} : ∀ {ds : List PyData} {vs : List V} {ns : List Bool}, RDs K H vs ds → boolsD ds = some ns → vs = ns.map V.bl
  | [], _, _, r, e => by cases r; simp only [boolsD] at e; cases e; rfl
  | d :: ds, _, _, r, e => by
    cases r with
    | cons r t =>
      cases d with
      | bool i =>
        simp only [boolsD] at e
        split at e
        · rename_i ns hn
          cases e
          rw [bool_of r, boolsD_rd t hn]
          rfl
        · cases e
      | _ => cases e
def listD (S : Store) (w : W) : Option (List PyData) := match snap S w with
  | some (.list ds) => some ds
  | _ => none
theorem listD_at {G H : Hp} {μ : List Addr} {S : Store} {v : V} {w : W} (rl : Rel K G H μ S) (r : RW K G μ v w) {ds : List PyData} (e : listD S w = some ds) : ∃ a us, v = .ref a ∧ Rd H a (.lst us) ∧ RDs K H us ds := by
  unfold listD at e
  split at e
  · rename_i ds' hs
    cases e
    have := snap_rd rl r hs
    cases this with
    | lst h1 h2 => exact ⟨_, _, rfl, h1, h2⟩
  · cases e
def sumW : Store → List W → Option (W × Store) := fun S ws => match ws with
  | [w] => (match listD S w with
    | some ds => (match intsD ds with
      | some ns => vI ns.sum S
      | none => none)
    | none => none)
  | _ => none
theorem sr_sum : SRs K (rSum K.k) sumW := fun S ws w S' G H μ vs Q rl rs e q => by
  unfold sumW at e
  split at e
  · rename_i w1
    obtain ⟨v, rfl, r⟩ := pd_one rs
    split at e
    · rename_i ds hd
      split at e
      · rename_i ns hn
        cases e
        obtain ⟨a, us, rfl, h1, h2⟩ := listD_at rl r hd
        exact ⟨a, ns, rfl, .inl (by rw [← intsD_rd h2 hn]; exact h1), q _ G H μ (Nx.refl rl) (.int _)⟩
      · cases e
    · cases e
  · cases e
def leastI (x : Int) (xs : List Int) : Int := xs.foldl (fun a b => if b < a then b else a) x
def mostI (x : Int) (xs : List Int) : Int := xs.foldl (fun a b => if a < b then b else a) x
theorem leastI_ok : ∀ (xs : List Int) (x m : Int), m ∈ x :: xs → (∀ y, y ∈ x :: xs → m ≤ y) → m = leastI x xs
  | [], x, m, h, _ => by simpa [leastI] using h
  | z :: xs, x, m, h, g => by
    show m = leastI (if z < x then z else x) xs
    refine leastI_ok xs _ m ?_ fun y hy => ?_
    · rcases List.mem_cons.mp h with e | h
      · subst e
        have := g z (by simp)
        by_cases hz : z < m
        · omega
        · rw [if_neg hz]; simp
      · rcases List.mem_cons.mp h with e | h
        · subst e
          have := g x (by simp)
          by_cases hz : m < x
          · rw [if_pos hz]; simp
          · rw [if_neg hz]
            have : m = x := by omega
            simp [this]
        · exact List.mem_cons_of_mem _ h
    · rcases List.mem_cons.mp hy with e | hy
      · subst e
        by_cases hz : z < x
        · rw [if_pos hz]; exact g z (by simp)
        · rw [if_neg hz]; exact g x (by simp)
      · exact g y (by simp [hy])
theorem mostI_ok : ∀ (xs : List Int) (x m : Int), m ∈ x :: xs → (∀ y, y ∈ x :: xs → y ≤ m) → m = mostI x xs
  | [], x, m, h, _ => by simpa [mostI] using h
  | z :: xs, x, m, h, g => by
    show m = mostI (if x < z then z else x) xs
    refine mostI_ok xs _ m ?_ fun y hy => ?_
    · rcases List.mem_cons.mp h with e | h
      · subst e
        have := g z (by simp)
        by_cases hz : m < z
        · omega
        · rw [if_neg hz]; simp
      · rcases List.mem_cons.mp h with e | h
        · subst e
          have := g x (by simp)
          by_cases hz : x < m
          · rw [if_pos hz]; simp
          · rw [if_neg hz]
            have : m = x := by omega
            simp [this]
        · exact List.mem_cons_of_mem _ h
    · rcases List.mem_cons.mp hy with e | hy
      · subst e
        by_cases hz : x < z
        · rw [if_pos hz]; exact g z (by simp)
        · rw [if_neg hz]; exact g x (by simp)
      · exact g y (by simp [hy])
def minW : Store → List W → Option (W × Store) := fun S ws => match ws with
  | [w] => (match listD S w with
    | some ds => (match intsD ds with
      | some (n :: ns) => vI (leastI n ns) S
      | _ => none)
    | none => none)
  | _ => none
def maxW : Store → List W → Option (W × Store) := fun S ws => match ws with
  | [w] => (match listD S w with
    | some ds => (match intsD ds with
      | some (n :: ns) => vI (mostI n ns) S
      | _ => none)
    | none => none)
  | _ => none
theorem sr_min : SRs K (rMin K.k) minW := fun S ws w S' G H μ vs Q rl rs e q => by
  unfold minW at e
  split at e
  · rename_i w1
    obtain ⟨v, rfl, r⟩ := pd_one rs
    split at e
    · rename_i ds hd
      split at e
      · rename_i n ns hn
        cases e
        obtain ⟨a, us, rfl, h1, h2⟩ := listD_at rl r hd
        exact ⟨a, n :: ns, rfl, .inl (by rw [← intsD_rd h2 hn]; exact h1), by simp, fun m hm hl => by rw [leastI_ok ns n m hm hl]; exact q _ G H μ (Nx.refl rl) (.int _)⟩
      · cases e
    · cases e
  · cases e
theorem sr_max : SRs K (rMax K.k) maxW := fun S ws w S' G H μ vs Q rl rs e q => by
  unfold maxW at e
  split at e
  · rename_i w1
    obtain ⟨v, rfl, r⟩ := pd_one rs
    split at e
    · rename_i ds hd
      split at e
      · rename_i n ns hn
        cases e
        obtain ⟨a, us, rfl, h1, h2⟩ := listD_at rl r hd
        exact ⟨a, n :: ns, rfl, .inl (by rw [← intsD_rd h2 hn]; exact h1), by simp, fun m hm hl => by rw [mostI_ok ns n m hm hl]; exact q _ G H μ (Nx.refl rl) (.int _)⟩
      · cases e
    · cases e
  · cases e
def anyW : Store → List W → Option (W × Store) := fun S ws => match ws with
  | [w] => (match listD S w with
    | some ds => (match boolsD ds with
      | some bs => vB (bs.any id) S
      | none => none)
    | none => none)
  | _ => none
def allW : Store → List W → Option (W × Store) := fun S ws => match ws with
  | [w] => (match listD S w with
    | some ds => (match boolsD ds with
      | some bs => vB (bs.all id) S
      | none => none)
    | none => none)
  | _ => none
theorem sr_any : SRs K (rAny K.k) anyW := fun S ws w S' G H μ vs Q rl rs e q => by
  unfold anyW at e
  split at e
  · rename_i w1
    obtain ⟨v, rfl, r⟩ := pd_one rs
    split at e
    · rename_i ds hd
      split at e
      · rename_i ns hn
        cases e
        obtain ⟨a, us, rfl, h1, h2⟩ := listD_at rl r hd
        exact ⟨a, ns, rfl, .inl (by rw [← boolsD_rd h2 hn]; exact h1), q _ G H μ (Nx.refl rl) (.bl _)⟩
      · cases e
    · cases e
  · cases e
theorem sr_all : SRs K (rAll K.k) allW := fun S ws w S' G H μ vs Q rl rs e q => by
  unfold allW at e
  split at e
  · rename_i w1
    obtain ⟨v, rfl, r⟩ := pd_one rs
    split at e
    · rename_i ds hd
      split at e
      · rename_i ns hn
        cases e
        obtain ⟨a, us, rfl, h1, h2⟩ := listD_at rl r hd
        exact ⟨a, ns, rfl, .inl (by rw [← boolsD_rd h2 hn]; exact h1), q _ G H μ (Nx.refl rl) (.bl _)⟩
      · cases e
    · cases e
  · cases e
/-! ### isinstance -/
def tyN : PyData → String
  | .none => "NoneType"
  | .bool _ => "bool"
  | .int _ => "int"
  | .str _ => "str"
  | .list _ => "list"
  | .tuple _ => "tuple"
  | .dict _ => "dict"
theorem tyx_of {H : Hp} {v : V} {d : PyData} (h : RD K H v d) (nd : ∀ ds, d ≠ .dict ds) : TyX K.k H v (.type (tyN d)) := by
  cases h with
  | non => exact .base .non
  | bl b => exact .base (.bl b)
  | int i => exact .base (.int i)
  | str x => exact .base (.str x)
  | lst h _ =>
    rcases h with h | ⟨o, h⟩
    · exact .base (.lst h)
    · exact .base (.frz h)
  | tup h _ => exact .base (.tup h)
  | dK h _ => exact .fDict h
  | dN h _ => exact absurd rfl (nd _)
/-- isinstance(d, T) of data, T one of six -/
def isaD (T : String) (d : PyData) : Bool := tyN d == T || (T == "int" && tyN d == "bool")
def isaW (T : String) : Store → W → Option (W × Store) := fun S w => match snap S w with
  | some (.dict _) => none
  | some x => vB (isaD T x) S
  | none => none
def Tys : List String := ["int", "str", "bool", "list", "tuple", "dict"]
def Kinds : List String := ["NoneType", "bool", "int", "str", "list", "tuple"]
theorem kits : (Kinds.all fun a => Tys.all fun T => kitB a T == some (a == T || (T == "int" && a == "bool"))) = true := by decide +kernel
theorem kit_at {T : String} (hT : T ∈ Tys) {d : PyData} (nd : ∀ ds, d ≠ .dict ds) : kitB (tyN d) T = some (isaD T d) := by
  have h := kits
  rw [List.all_eq_true] at h
  have hk : tyN d ∈ Kinds := by
    cases d <;> first | (exact absurd rfl (nd _)) | (simp [tyN, Kinds])
  have h2 := h _ hk
  rw [List.all_eq_true] at h2
  have h3 := h2 T hT
  exact eq_of_beq h3
theorem z_isa {e : Expr} {te : TE} {f : FE} {T : String} {x : Str} {p q pos : Pos} (hT : T ∈ Tys) (hK : X.kx = K) (hg : Gl X "isinstance") (hm : X.mg "isinstance" = none) (hgT : Gl X x) (hmT : X.mg x = none) (hvT : bootBuiltins x = some (.type T)) (he : ZE K X e te f)
    (hn : x ≠ "__name__" := by decide) (hd : (x == ("__debug__" : Str)) = false := by decide)
    (hs : starEach [e, .Name x q] X.env = (false, eval e X.env) :: starEach [.Name x q] X.env := by rfl) (hs2 : starEach [.Name x q] X.env = (false, eval (.Name x q) X.env) :: starEach [] X.env := by rfl) (hpl : (backTo pos (starEach [.Name x q] X.env)).any (·.1) = false := by rfl) :
    ZE K X (.Call (.Name "isinstance" p) [e, .Name x q] [] pos) (tCB (rIsi K.k) (tCons te (tCons (tC (.ty T)) tNil))) (op1X (isaW T) f) :=
  ⟨by
    subst hK
    exact pe_callB call_isi hg hm (by rfl) (pa_cons he.pe (pa_cons (pe_bltn hgT hmT hvT rfl hn hd) pa_nil hs2) hs) (by decide) (by decide) hs hpl, fun env S w S' σ G H μ Q rl er e q => by
    simp only [op1X] at e
    split at e
    · rename_i a S1 e1
      refine he.se env S a S1 σ G H μ _ rl er e1 fun v G1 H1 μ1 x1 r1 => ?_
      unfold isaW at e
      split at e
      · cases e
      · rename_i y hnd hy
        cases e
        have rd := snap_rd x1.rel r1 hy
        exact ⟨v, .ty T, _, .type T, isaD T y, rfl, .ty T, tyx_of rd fun ds z => hnd _ z, kit_ty (kit_at hT fun ds z => hnd _ z), q _ G1 H1 μ1 x1 (.bl _)⟩
      · cases e
    · cases e⟩
end Z

/-! Z8: comprehensions as rules; lists that are written. -/
namespace Z
open PySem PySem.Spec PyProof.Rows L2 Y
variable {K : Kx} {X : Cx}
/-! ### comprehensions -/
def yesT : FT := fun _ S => some (true, S)
structure ZTs (K : Kx) (X : Cx) (ifs : List Expr) (t : TT) (f : FT) : Prop where
  pe : PTs X ifs t
  se : ST K t f
theorem zts_nil : ZTs K X [] tYes yesT := ⟨pts_nil, fun env S b S' σ G H μ Q rl er e q => by cases e; exact q G H μ (Nx.refl rl)⟩
theorem zts_one {c : Expr} {t : TT} {f : FT} (h : ZT K X c t f) : ZTs K X [c] t f := ⟨pts_one h.pe, h.se⟩
section
variable {elt tg iter : Expr} {ifs : List Expr} {scope : Scope} {own : List (Str × Nat)} {pos : Pos} {wi : TI} {g : TG} {tt : TT} {te : TE} {L : List Nat} {fi : FI} {fg : FG} {ft : FT} {fe : FE} {nw : Store → List W → Option (W × Store)}
abbrev Bk (X : Cx) (scope : Scope) (s : Shared) (H : Hp) (C : Addr) (cl : List (Str × Addr)) (fp : List Addr) : Cx := X.blk s H scope (compEnvC scope cl C X.env) fp
theorem z_lc (hk : EndK K nw) (hc : X.calm = true) (hN : X.N.Nodup) (hi : ZI K X tg iter wi fi) (ok : BlkOk X.N X.env.scope scope own)
    (hg : ∀ (s : Shared) (H : Hp) (C : Addr) (cl : List (Str × Addr)) (fp : List Addr), ZG K (Bk X scope s H C cl fp) tg g L fg) (ht : ∀ (s : Shared) (H : Hp) (C : Addr) (cl : List (Str × Addr)) (fp : List Addr), ZTs K (Bk X scope s H C cl fp) ifs tt ft)
    (he : ∀ (s : Shared) (H : Hp) (C : Addr) (cl : List (Str × Addr)) (fp : List Addr), ZE K (Bk X scope s H C cl fp) elt te fe) (hL : ∀ i ∈ L, i ∈ own.map (·.2) := by decide) (hs : ∀ x, foldedSetIterable iter X.env x = pure x := by intro _; rfl) (s0 : Shared) (H0 : Hp) :
    ZE K X (.ListComp elt [⟨tg, iter, ifs, 0⟩] scope pos) (tLc wi g tt te (own.map (·.2))) (lcX nw (own.map (·.2)) fi fg ft fe) :=
  ⟨pe_lc hc hN hi.pe ok (fun s H C cl fp => (hg s H C cl fp).pe) (fun s H C cl fp => (ht s H C cl fp).pe) (fun s H C cl fp => (he s H C cl fp).pe) hs,
    se_lc hk hL hi.se (hg s0 H0 0 [] []).se (ht s0 H0 0 [] []).se (he s0 H0 0 [] []).se⟩
theorem zs_setLc {i : Nat} {y : Str} {py : Pos} {spos : Pos} (hk : EndK K nw) (hc : X.calm = true) (hN : X.N.Nodup) (hy : X.N[i]? = some y) (hyl : X.env.scope.names.lookup y = some .local) (sw : swapsWith (.ListComp elt [⟨tg, iter, ifs, 0⟩] scope pos) (some (.Name y py)) spos.line X.env = pure true) (hi : ZI K X tg iter wi fi) (ok : BlkOk X.N X.env.scope scope own)
    (hg : ∀ (s : Shared) (H : Hp) (C : Addr) (cl : List (Str × Addr)) (fp : List Addr), ZG K (Bk X scope s H C cl fp) tg g L fg) (ht : ∀ (s : Shared) (H : Hp) (C : Addr) (cl : List (Str × Addr)) (fp : List Addr), ZTs K (Bk X scope s H C cl fp) ifs tt ft)
    (he : ∀ (s : Shared) (H : Hp) (C : Addr) (cl : List (Str × Addr)) (fp : List Addr), ZE K (Bk X scope s H C cl fp) elt te fe) (s0 : Shared) (H0 : Hp) (hL : ∀ i ∈ L, i ∈ own.map (·.2) := by decide) (hs : ∀ x, foldedSetIterable iter X.env x = pure x := by intro _; rfl) :
    ZS K X (.Assign [.Name y py] (.ListComp elt [⟨tg, iter, ifs, 0⟩] scope pos) spos) (tAsg (tLc wi g tt te (own.map (·.2))) (gName i)) (asgX (lcX nw (own.map (·.2)) fi fg ft fe) (nameG i)) :=
  ⟨ps_setLc hc hN hy hyl sw hi.pe ok (fun s H C cl fp => (hg s H C cl fp).pe) (fun s H C cl fp => (ht s H C cl fp).pe) (fun s H C cl fp => (he s H C cl fp).pe) hs,
    ss_asg (se_lc hk hL hi.se (hg s0 H0 0 [] []).se (ht s0 H0 0 [] []).se (he s0 H0 0 [] []).se) sg_name⟩
end
/-! ### methods of lists -/
def SM (K : Kx) (r : V → List V → Hp → VK → Prop) (g : Store → W → List W → Option (W × Store)) : Prop := ∀ (S : Store) (w1 : W) (ws : List W) (w : W) (S' : Store) (G H : Hp) (μ : List Addr) (v1 : V) (vs : List V) (Q : VK), Rel K G H μ S → RW K G μ v1 w1 → Paired (RW K G μ) vs ws → g S w1 ws = some (w, S') →
  (∀ v G' H' μ', Nx K μ G H μ' G' H' S' → RW K G' μ' v w → Q v H') → r v1 vs H Q
def bmX (g : Store → W → List W → Option (W × Store)) (fo : FE) (fa : FA) : FE := fun env S => match fo env S with
  | some (w, S1) => (match itemsL S1 w with
    | some _ => (match fa env S1 with
      | some (ws, S2) => g S2 w ws
      | none => none)
    | none => none)
  | none => none
theorem se_bm {r : V → List V → Hp → VK → Prop} {g : Store → W → List W → Option (W × Store)} {to : TE} {t : TA} {fo : FE} {fa : FA} (hm : SM K r g) (ho : SE K to fo) (ha : SA K t fa) : SE K (tBM K.k "list" r to t) (bmX g fo fa) := fun env S w S' σ G H μ Q rl er e q => by
  simp only [bmX] at e
  split at e
  · rename_i w1 S1 e1
    split at e
    · rename_i xs hx
      split at e
      · rename_i ws S2 e2
        refine ho env S w1 S1 σ G H μ _ rl er e1 fun v1 G1 H1 μ1 x1 r1 => ?_
        obtain ⟨a, us, rfl, h1, h2⟩ := items_list x1.rel r1 hx
        refine ⟨.inl ⟨rfl, us, .inl h1⟩, ?_⟩
        refine ha env S1 ws S2 σ G1 H1 μ1 _ x1.rel (x1.envR er) e2 fun vs G2 H2 μ2 x2 r2 => ?_
        exact hm S2 w1 ws w S' G2 H2 μ2 _ vs Q x2.rel (x2.rw r1) r2 e fun v G' H' μ' x3 r3 => q v G' H' μ' ((x1.trans x2).trans x3) r3
      · cases e
    · cases e
  · cases e
theorem se_bm0 {r : V → List V → Hp → VK → Prop} {g : Store → W → List W → Option (W × Store)} {to : TE} {fo : FE} (hm : SM K r g) (ho : SE K to fo) : SE K (tBM0 K.k "list" r to) (bmX g fo nilX) := fun env S w S' σ G H μ Q rl er e q => by
  simp only [bmX] at e
  split at e
  · rename_i w1 S1 e1
    split at e
    · rename_i xs hx
      split at e
      · rename_i ws S2 e2
        cases e2
        refine ho env S w1 S1 σ G H μ _ rl er e1 fun v1 G1 H1 μ1 x1 r1 => ?_
        obtain ⟨a, us, rfl, h1, h2⟩ := items_list x1.rel r1 hx
        refine ⟨.inl ⟨rfl, us, .inl h1⟩, ?_⟩
        exact hm S1 w1 [] w S' G1 H1 μ1 _ [] Q x1.rel r1 .nil e fun v G' H' μ' x3 r3 => q v G' H' μ' (x1.trans x3) r3
      · cases e
    · cases e
  · cases e
def appW : Store → W → List W → Option (W × Store) := fun S w ws => match w, ws with
  | .c n, [y] => (match S[n]? with
    | some (.lst xs) => if xs.length < sizeLine then some (.d .none, S.set n (.lst (xs ++ [y]))) else none
    | _ => none)
  | _, _ => none
theorem sm_append : SM K rAppend appW := fun S w1 ws w S' G H μ v1 vs Q rl r1 rs e q => by
  unfold appW at e
  split at e
  · rename_i n y
    split at e
    · rename_i xs hx
      split at e
      · rename_i hl
        cases e
        obtain ⟨a, ha, rfl⟩ := r1
        obtain ⟨us, q1, q2, q3⟩ := rl.cell n a _ ha hx
        obtain ⟨v, rfl, r⟩ := pd_one rs
        exact ⟨a, us, v, rfl, rfl, q1, by rw [pd_len q2]; exact hl, q _ _ _ _ (nx_wr (c := .lst xs) rl ha q3 ⟨us ++ [v], upd_same, pd_snoc q2 r, q3⟩) .non⟩
      · cases e
    · cases e
  · cases e
def rExtL : V → List V → Hp → VK → Prop := fun x vs H Q => ∃ l b xs zs, x = .ref l ∧ vs = [.ref b] ∧ H l = some (.lst xs) ∧ Rd H b (.lst zs) ∧ xs.length + zs.length ≤ sizeLine ∧ Q .non (upd H l (.lst (xs ++ zs)))
theorem mt_extL : MtR X "list.extend" rExtL := by
  intro pins s σ H x vs v us Q I rx rv h
  obtain ⟨l, b, xs, zs, rfl, rfl, hH, hB, hz, q⟩ := h
  cases rx
  obtain ⟨u, rfl, ru⟩ := rv.one
  cases ru
  obtain ⟨z, its, n, r, hl, e⟩ := I.lstM hH
  obtain ⟨z2, its2, n2, r2, e2⟩ := hB.ok I.hok
  have hl2 := r2.length
  have hsz : its.toArray.size + its2.toArray.size ≤ sizeLine := by rw [List.size_toArray, List.size_toArray]; omega
  have hlong : ¬ (!its.toArray.isEmpty && Builtin.List.listTooLong (its.toArray.size + its2.toArray.size)) = true := by
    rw [notLongL hsz, Bool.and_false]
    exact Bool.false_ne_true
  refine call_meets F.slot_list_extend ⟨_, e, rfl⟩ F.entry_list_extend (F.args_list_extend_2 _ _)
    (AutoSeq1.list_extend_list_list_0 l its.toArray n b its2.toArray n2 hlong (by rw [List.size_toArray]; omega) (by omega)) ⟨e, e2, ?_⟩
  refine ⟨.non, _, I.lset (its' := its ++ its2) hH e (by simp) (r.append r2) ?_, rfl, q⟩
  rw [List.length_append]
  omega
def extW : Store → W → List W → Option (W × Store) := fun S w ws => match w, ws with
  | .c n, [y] => (match S[n]?, itemsL S y with
    | some (.lst xs), some zs => if xs.length + zs.length ≤ sizeLine then some (.d .none, S.set n (.lst (xs ++ zs))) else none
    | _, _ => none)
  | _, _ => none
theorem sm_extend : SM K rExtL extW := fun S w1 ws w S' G H μ v1 vs Q rl r1 rs e q => by
  unfold extW at e
  split at e
  · rename_i n y
    split at e
    · rename_i xs zs hx hz
      split at e
      · rename_i hl
        cases e
        obtain ⟨a, ha, rfl⟩ := r1
        obtain ⟨us, q1, q2, q3⟩ := rl.cell n a _ ha hx
        obtain ⟨v, rfl, r⟩ := pd_one rs
        obtain ⟨b, ts, rfl, h1, h2⟩ := items_list rl r hz
        exact ⟨a, b, us, ts, rfl, rfl, q1, h1, by rw [pd_len q2, pd_len h2]; exact hl, q _ _ _ _ (nx_wr (c := .lst xs) rl ha q3 ⟨us ++ ts, upd_same, pd_app q2 h2, q3⟩) .non⟩
      · cases e
    · cases e
  · cases e
section
variable {o e : Expr} {es : List Expr} {to : TE} {t : TA} {fo : FE} {fa : FA} {name : Str} {apos cpos : Pos} {id : String} {r : V → List V → Hp → VK → Prop} {g : Store → W → List W → Option (W × Store)}
theorem z_bm (hK : X.kx = K) (pa : PlainAttrs "list") (slot : Slot "list" name id) (hty : typeOf (.builtin id) = pure (.type "method_descriptor")) (hm : MtR X id r) (sm : SM K r g) (ho : ZE K X o to fo) (ha : ZA K X (e :: es) t fa)
    (hbase : attributeBase o name X.env (eval o X.env) = eval o X.env := by rfl)
    (hfew : ((backTo cpos (starEach (e :: es) X.env)).all (fun x => !x.1) && (backToKw cpos (keywordEach [] X.env)).all (fun x => x.1.isSome)
      && decide ((e :: es).length + ([] : List Keyword).length + (if ([] : List Keyword).isEmpty then 0 else 1) < 30)) = true := by rfl)
    (hline : (apos.endLine == cpos.line) = true := by rfl) (hs : starEach (e :: es) X.env = (false, eval e X.env) :: starEach es X.env := by rfl) (hplain : (backTo cpos (starEach es X.env)).any (·.1) = false := by rfl) :
    ZE K X (.Call (.Attribute o name apos) (e :: es) [] cpos) (tBM K.k "list" r to t) (bmX g fo fa) := ⟨pe_bmK (kOf hK) pa slot hty hm ho.pe ha.pe hbase hfew hline hs hplain, se_bm sm ho.se ha.se⟩
theorem z_bm0 (hK : X.kx = K) (pa : PlainAttrs "list") (slot : Slot "list" name id) (hty : typeOf (.builtin id) = pure (.type "method_descriptor")) (hm : MtR X id r) (sm : SM K r g) (ho : ZE K X o to fo)
    (hbase : attributeBase o name X.env (eval o X.env) = eval o X.env := by rfl) (hline : (apos.endLine == cpos.line) = true := by rfl) :
    ZE K X (.Call (.Attribute o name apos) [] [] cpos) (tBM0 K.k "list" r to) (bmX g fo nilX) := ⟨pe_bm0K (kOf hK) pa slot hty hm ho.pe hbase hline, se_bm0 sm ho.se⟩
end
end Z

/-! Z9: the rules as they are printed; stores to places; targets side by side. -/
namespace Z
open PySem PySem.Spec PyProof.Rows L2 Y
variable {K : Kx} {X : Cx}
theorem zv (i : Nat) {x : Str} {pos : Pos} (hN : X.N[i]? = some x := by rfl) (hv : Vis X.env.scope x := by first | exact Or.inl rfl | exact Or.inr (Or.inl rfl) | exact Or.inr (Or.inr rfl)) (hd : (x == ("__debug__" : Str)) = false := by decide)
    (hcd : (x == ("__classdict__" : Str)) = false := by decide) : ZE K X (.Name x pos) (tVar i) (varX i) := z_var hN hv hd hcd
theorem zs_let (i : Nat) {x : Str} {e : Expr} {te : TE} {f : FE} {p pos : Pos} (hN : X.N.Nodup) (he : ZE K X e te f) (hi : X.N[i]? = some x := by rfl) (hx : Loc X.env.scope x := by first | exact Or.inl rfl | exact Or.inr rfl) (hs : swapsWith e (some (.Name x p)) pos.line X.env = pure false := by rfl)
    (hf : X.fn x = true ∨ X.env.scope.names.lookup x = some .local := by first | exact .inl rfl | exact .inr rfl | assumption) : ZS K X (.Assign [.Name x p] e pos) (tAsg te (gName i)) (asgX f (nameG i)) := zs_set he (ps_set hN hi hx he.pe hs hf)
theorem zs_forK {tg iter : Expr} {body : List Stmt} {wi : TI} {g : TG} {tb : TS} {pos : Pos} {L : List Nat} {fi : FI} {fg : FG} {fb : FS} (hp : PassesOwn (model X.prog X.w) X.A X.env X.xe) (hc : X.calm = true) (hi : ZI K X tg iter wi fi) (hg : ZG K X tg g L fg) (hb : ZSs K X body tb fb)
    (hs : ∀ x, foldedSetIterable iter X.env x = pure x := by intro _; rfl) : ZS K X (.For tg iter body [] pos) (tFor wi g tb) (forX fi fg fb) := zs_for (ps_for hp hc hi.pe hg.pe hb.pe hs) hi hg hb
def parX (i j : Nat) (fa : FA) : FS := fun env S => match fa env S with
  | some ([v, w], S1) => some (.next, (env.set i (some v)).set j (some w), S1)
  | _ => none
theorem zs_par {i j : Nat} {x y : Str} {a b : Expr} {ta : TA} {fa : FA} {px py pt pos : Pos} {kt k2 : Nat} {pt2 : Pos} (hN : X.N.Nodup) (ha : ZA K X [a, b] ta fa) (hp : PS X (.Assign [.Tuple [.Name x px, .Name y py] kt pt] (.Tuple [a, b] k2 pt2) pos) (tPar i j ta)) : ZS K X (.Assign [.Tuple [.Name x px, .Name y py] kt pt] (.Tuple [a, b] k2 pt2) pos) (tPar i j ta) (parX i j fa) :=
  ⟨hp, fun env S c env' S' σ G H μ D rl er e q => by
    simp only [parX] at e
    split at e
    · rename_i v w S1 e1
      cases e
      refine ha.se env S _ _ σ G H μ _ rl er e1 fun vs G1 H1 μ1 x1 r1 => ?_
      obtain ⟨u, t, rfl, r, r2⟩ := pd_two r1
      exact ⟨u, t, rfl, q _ G1 H1 μ1 x1 (((x1.envR er).set i r).set j r2)⟩
    · cases e⟩
def setW : Store → W → W → W → Option Store := fun S o i v => match o, i with
  | .c n, .d (.int k) => (match S[n]? with
    | some (.lst ws) => (match ixN ws.length k with
      | some j => some (S.set n (.lst (ws.set j v)))
      | none => none)
    | _ => none)
  | _, _ => none
theorem pd_set {α β : Type} {F : α → β → Prop} {x : α} {y : β} (r : F x y) : ∀ {xs : List α} {ys : List β} (i : Nat), Paired F xs ys → Paired F (xs.set i x) (ys.set i y)
  | _, _, _, .nil => .nil
  | _, _, 0, .cons _ t => .cons r t
  | _, _, i + 1, .cons q t => .cons q (pd_set r i t)
def STs (K : Kx) (t : TSet) (g : Store → W → W → W → Option Store) : Prop := ∀ (S : Store) (w1 w2 w3 : W) (S' : Store) (G H : Hp) (μ : List Addr) (o i v : V) (Q : Hp → Prop), Rel K G H μ S → RW K G μ o w1 → RW K G μ i w2 → RW K G μ v w3 → g S w1 w2 w3 = some S' →
  (∀ G' H' μ', Nx K μ G H μ' G' H' S' → Q H') → t o i v H Q
theorem st_setL : STs K rSetL setW := fun S w1 w2 w3 S' G H μ o i v Q rl r1 r2 r3 e q => by
  unfold setW at e
  split at e
  · rename_i n k
    split at e
    · rename_i ws hws
      split at e
      · rename_i j hj
        cases e
        obtain ⟨a, ha, rfl⟩ := r1
        obtain ⟨us, q1, q2, q3⟩ := rl.cell n a _ ha hws
        exact ⟨a, us, k, j, rfl, int_of r2, q1, by rw [pd_len q2]; exact hj, q _ _ _ (nx_wr (c := .lst ws) rl ha q3 ⟨us.set j v, upd_same, pd_set r3 j q2, q3⟩)⟩
      · cases e
    · cases e
  · cases e
def subG (g : Store → W → W → W → Option Store) (fo fi : FE) : FG := fun w env S => match fo env S with
  | some (o, S1) => (match fi env S1 with
    | some (i, S2) => (match g S2 o i w with
      | some S3 => some (env, S3)
      | none => none)
    | none => none)
  | none => none
theorem sg_sub {t : TSet} {g : Store → W → W → W → Option Store} {to ti : TE} {fo fi : FE} (hg : STs K t g) (ho : SE K to fo) (hi : SE K ti fi) : SG K (gSub to ti t) [] (subG g fo fi) := fun w env S env' S' v σ G H μ Q rl er r e q => by
  simp only [subG] at e
  split at e
  · rename_i o S1 e1
    split at e
    · rename_i i S2 e2
      split at e
      · rename_i S3 e3
        cases e
        refine ho env S o S1 σ G H μ _ rl er e1 fun v1 G1 H1 μ1 x1 r1 => ?_
        refine hi env S1 i S2 σ G1 H1 μ1 _ x1.rel (x1.envR er) e2 fun v2 G2 H2 μ2 x2 r2 => ?_
        exact hg S2 o i w _ G2 H2 μ2 v1 v2 v _ x2.rel (x2.rw r1) r2 ((x1.trans x2).rw r) e3 fun G3 H3 μ3 x3 => q σ G3 H3 μ3 ((x1.trans x2).trans x3) (((x1.trans x2).trans x3).envR er) fun _ _ => rfl
      · cases e
    · cases e
  · cases e
theorem zg_sub {o i : Expr} {to ti : TE} {t : TSet} {g : Store → W → W → W → Option Store} {fo fi : FE} {pos : Pos} (hs : PSet X t) (hg : STs K t g) (ho : ZE K X o to fo) (hi : ZE K X i ti fi)
    (ha : ∀ v, assign (.Subscript o i pos) X.env v = (do
      let ov ← holding [v] (eval o X.env)
      let iv ← holding [v, ov] (eval i X.env)
      standAt pos
      holding [v, ov, iv] (setItem ov iv v)
      release [v, ov, iv] []) := by intro _; rfl) : ZG K X (.Subscript o i pos) (gSub to ti t) [] (subG g fo fi) := ⟨pg_sub ho.pe hi.pe hs ha, sg_sub hg ho.se hi.se⟩
end Z

/-! ZD: dicts: got, put, asked for. -/
namespace Z
open PySem PySem.Spec PyProof.Rows L2 Y
variable {K : Kx} {X : Cx}
def isTup : PyData → Bool
  | .tuple _ => true
  | _ => false
def leafK : PyData → Option Key
  | .int i => some (.inl i)
  | .str x => some (.inr x)
  | _ => none
def goodTup (k : PyData) : Bool := match keyD k with
  | some n => isTup k && decide (n.depth ≤ 8)
  | none => false
def headFits {β : Type} (t : Bool) : List (PyData × β) → Bool
  | [] => true
  | p :: _ => isTup p.1 == t
/-- the key is one of the dict's kind -/
def keyFits {β : Type} (k : PyData) (kvs : List (PyData × β)) : Bool := ((leafK k).isSome && headFits false kvs) || (goodTup k && headFits true kvs)
def lookD {β : Type} : List (PyData × β) → PyData → Option β
  | [], _ => none
  | p :: r, k => if PyData.eqv p.1 k = true then some p.2 else lookD r k
def hasD {β : Type} (kvs : List (PyData × β)) (k : PyData) : Bool := kvs.any fun p => PyData.eqv p.1 k
def putD {β : Type} (kvs : List (PyData × β)) (k : PyData) (v : β) : List (PyData × β) := if hasD kvs k = true then kvs.map (fun p => if PyData.eqv p.1 k = true then (p.1, v) else p) else kvs ++ [(k, v)]
def dropD {β : Type} (kvs : List (PyData × β)) (k : PyData) : List (PyData × β) := kvs.filter fun p => !PyData.eqv p.1 k
def dictOf (S : Store) : W → Option (List (PyData × W))
  | .d (.dict ds) => some (ds.map fun p => (p.1, W.d p.2))
  | .c n => match S[n]? with
    | some (.dic kvs) => some kvs
    | some (.frz (.dict ds)) => some (ds.map fun p => (p.1, W.d p.2))
    | _ => none
  | _ => none
/-! ### keys -/
theorem eqv_kD (a b : Key) : PyData.eqv (kD a) (kD b) = decide (a = b) := by
  cases a <;> cases b <;> simp [kD, PyData.eqv]
  all_goals (rename_i x y; by_cases h : x = y <;> simp [h])
mutual
theorem eqv_key : ∀ {d e : PyData} {k l : NK}, keyD d = some k → keyD e = some l → PyData.eqv d e = decide (k = l)
  | .none, e, k, l, h1, h2 => by
    simp only [keyD] at h1
    cases h1
    cases e <;> simp only [keyD] at h2 <;> first | (cases h2; simp [PyData.eqv]) | (split at h2 <;> cases h2; simp [PyData.eqv]) | cases h2
  | .int i, e, k, l, h1, h2 => by
    simp only [keyD] at h1
    cases h1
    cases e <;> simp only [keyD] at h2 <;> first | (cases h2; simp [PyData.eqv]; done) | (split at h2 <;> cases h2; simp [PyData.eqv]; done) | cases h2 | skip
    all_goals (rename_i j; by_cases h : i = j <;> simp [PyData.eqv, h])
  | .str i, e, k, l, h1, h2 => by
    simp only [keyD] at h1
    cases h1
    cases e <;> simp only [keyD] at h2 <;> first | (cases h2; simp [PyData.eqv]; done) | (split at h2 <;> cases h2; simp [PyData.eqv]; done) | cases h2 | skip
    all_goals (rename_i j; by_cases h : i = j <;> simp [PyData.eqv, h])
  | .tuple ds, e, k, l, h1, h2 => by
    simp only [keyD] at h1
    split at h1
    · rename_i ks hk
      cases h1
      cases e with
      | tuple es =>
        simp only [keyD] at h2
        split at h2
        · rename_i ls hl
          cases h2
          rw [PyData.eqv, eqv_keys hk hl]
          by_cases h : ks = ls <;> simp [h]
        · cases h2
      | _ => simp only [keyD] at h2 <;> first | (cases h2; simp [PyData.eqv]) | cases h2
    · cases h1
  | .bool _, _, _, _, h1, _ => by simp [keyD] at h1
  | .list _, _, _, _, h1, _ => by simp [keyD] at h1
  | .dict _, _, _, _, h1, _ => by simp [keyD] at h1
theorem eqv_keys : ∀ {ds es : List PyData} {ks ls : List NK}, keysD ds = some ks → keysD es = some ls → PyData.eqvAll ds es = decide (ks = ls)
  | [], es, ks, ls, h1, h2 => by
    simp only [keysD] at h1
    cases h1
    cases es with
    | nil => simp only [keysD] at h2; cases h2; simp [PyData.eqvAll]
    | cons e es =>
      simp only [keysD] at h2
      split at h2
      · cases h2; simp [PyData.eqvAll]
      · cases h2
  | d :: ds, es, ks, ls, h1, h2 => by
    simp only [keysD] at h1
    split at h1
    · rename_i k ks' hk hks
      cases h1
      cases es with
      | nil => simp only [keysD] at h2; cases h2; simp [PyData.eqvAll]
      | cons e es =>
        simp only [keysD] at h2
        split at h2
        · rename_i l ls' hl hls
          cases h2
          rw [PyData.eqvAll, eqv_key hk hl, eqv_keys hks hls]
          by_cases h : k = l <;> by_cases h' : ks' = ls' <;> simp [h, h']
        · cases h2
    · cases h1
end
section
variable {G H : Hp} {μ : List Addr} {S : Store} {v y : V} {w : W}
theorem leafK_rd {k : PyData} {kk : Key} (e : leafK k = some kk) (h : RD K G y k) : y = kV kk ∧ k = kD kk := by
  cases k <;> simp only [leafK] at e <;> first | cases e | skip
  · cases h; exact ⟨rfl, rfl⟩
  · cases h; exact ⟨rfl, rfl⟩
theorem goodTup_rd {k : PyData} (e : goodTup k = true) (h : RD K G y k) : ∃ n b, keyD k = some n ∧ n.depth ≤ 8 ∧ y = .ref b ∧ KeyAt G n (.ref b) := by
  unfold goodTup at e
  split at e
  · rename_i n hn
    simp only [Bool.and_eq_true, decide_eq_true_eq] at e
    cases k <;> simp only [isTup] at e <;> first | exact absurd e.1 (by decide) | skip
    have hk := h.key hn
    cases h with
    | tup h1 h2 => exact ⟨n, _, hn, e.2, rfl, hk⟩
  · cases e
/-- what a dict is, read now -/
inductive DicAt (K : Kx) (G H : Hp) (μ : List Addr) (a : Addr) (kvs : List (PyData × W)) : Prop
  | leaf {vs : List (Key × V)} : Rd H a (.dK vs) → Paired (RKd K G μ) vs kvs → DicAt K G H μ a kvs
  | tups {vs : NKV} : Rd H a (DNo K.P K.w a vs) → Paired (RKn K G μ) vs kvs → DicAt K G H μ a kvs
theorem rdk_w {vs : List (Key × V)} {ds : List (PyData × PyData)} (h : RDk K G vs ds) : Paired (RKd K G μ) vs (ds.map fun p => (p.1, W.d p.2)) := by
  have gen : ∀ {vs : List (Key × V)} {ds : List (PyData × PyData)}, RDk K G vs ds → Paired (RKd K G μ) vs (ds.map fun p => (p.1, W.d p.2)) := by
    intro vs
    induction vs with
    | nil => intro ds h; cases h; exact .nil
    | cons p vs ih =>
      intro ds h
      cases h with
      | cons r t => exact .cons ⟨rfl, r⟩ (ih t)
  exact gen h
theorem rdn_w {vs : NKV} {ds : List (PyData × PyData)} (h : RDn K G vs ds) : Paired (RKn K G μ) vs (ds.map fun p => (p.1, W.d p.2)) := by
  have gen : ∀ {vs : NKV} {ds : List (PyData × PyData)}, RDn K G vs ds → Paired (RKn K G μ) vs (ds.map fun p => (p.1, W.d p.2)) := by
    intro vs
    induction vs with
    | nil => intro ds h; cases h; exact .nil
    | cons p vs ih =>
      intro ds h
      cases h with
      | cons r h1 h2 r2 t => exact .cons ⟨r, h1, h2, r2⟩ (ih t)
  exact gen h
theorem dictOf_at (rl : Rel K G H μ S) (r : RW K G μ v w) {kvs : List (PyData × W)} (e : dictOf S w = some kvs) : ∃ a, v = .ref a ∧ DicAt K G H μ a kvs := by
  have dat : ∀ {x : PyData} {ds : List (PyData × PyData)}, RD K G v x → x = .dict ds → ∃ a, v = .ref a ∧ DicAt K G H μ a (ds.map fun p => (p.1, W.d p.2)) := by
    intro x ds q ex
    subst ex
    cases q with
    | dK h1 h2 => exact ⟨_, rfl, .leaf (.inr ⟨_, rl.sub _ _ h1⟩) (rdk_w h2)⟩
    | dN h1 h2 => exact ⟨_, rfl, .tups (.inr ⟨_, rl.sub _ _ h1⟩) (rdn_w h2)⟩
  cases w with
  | k ns => cases e
  | d x =>
    cases x with
    | dict ds => cases e; exact dat r rfl
    | _ => cases e
  | c n =>
    obtain ⟨a, h1, rfl⟩ := r
    simp only [dictOf] at e
    split at e
    · rename_i kvs' hs
      cases e
      obtain ⟨h, _⟩ := rl.cell n a _ h1 hs
      rcases h with ⟨vs, q1, q2⟩ | ⟨vs, q1, q2⟩
      · exact ⟨a, rfl, .leaf (.inl q1) q2⟩
      · exact ⟨a, rfl, .tups (.inl q1) q2⟩
    · rename_i ds hs
      cases e
      exact dat (rl.cell n a _ h1 hs) rfl
    · cases e
theorem look_leaf {kk : Key} : ∀ {vs : List (Key × V)} {kvs : List (PyData × W)}, Paired (RKd K G μ) vs kvs → (∀ w, lookD kvs (kD kk) = some w → ∃ v, valV vs kk = some v ∧ RW K G μ v w) ∧ (lookD kvs (kD kk) = none → valV vs kk = none)
  | _, _, .nil => ⟨fun w e => by simp [lookD] at e, fun _ => rfl⟩
  | p :: vs, q :: kvs, .cons h t => by
    obtain ⟨h1, h2⟩ := h
    have e1 : PyData.eqv q.1 (kD kk) = decide (p.1 = kk) := by rw [h1, eqv_kD]
    simp only [lookD, e1]
    by_cases e : p.1 = kk
    · rw [decide_eq_true e, if_pos rfl, valV_pos e]
      exact ⟨fun w z => by cases z; exact ⟨_, rfl, h2⟩, fun z => nomatch z⟩
    · rw [decide_eq_false e, if_neg Bool.false_ne_true, valV_neg e]
      exact look_leaf t
theorem look_tup {k : PyData} {n : NK} (hk : keyD k = some n) : ∀ {vs : NKV} {kvs : List (PyData × W)}, Paired (RKn K G μ) vs kvs → (∀ w, lookD kvs k = some w → ∃ v, lookN vs n = some v ∧ RW K G μ v w) ∧ (lookD kvs k = none → lookN vs n = none)
  | _, _, .nil => ⟨fun w e => by simp [lookD] at e, fun _ => rfl⟩
  | p :: vs, q :: kvs, .cons h t => by
    obtain ⟨h1, h2, h3, h4⟩ := h
    have e1 : PyData.eqv q.1 k = decide (p.1 = n) := eqv_key h2 hk
    have ih := look_tup hk t
    simp only [lookD, e1]
    unfold lookN at ih ⊢
    rw [List.find?_cons]
    by_cases e : p.1 = n
    · rw [decide_eq_true e, if_pos rfl]
      exact ⟨fun w z => by cases z; exact ⟨_, rfl, h4⟩, fun z => nomatch z⟩
    · rw [decide_eq_false e, if_neg Bool.false_ne_true]
      exact ih
theorem rkn_ok (sub : Same G H) {vs : NKV} {kvs : List (PyData × W)} (p : Paired (RKn K G μ) vs kvs) : KeysOk H vs := by
  intro z hz
  obtain ⟨i, hi⟩ := List.getElem?_of_mem hz
  obtain ⟨q, _, h1, h2, h3, _⟩ := pd_get p hi
  exact ⟨(h1.key h2).mono sub, h3⟩
/-- a leaf is no tuple -/
theorem leaf_nil {vs : NKV} {kvs : List (PyData × W)} (p : Paired (RKn K G μ) vs kvs) (h : headFits false kvs = true) : vs = [] ∧ kvs = [] := by
  cases p with
  | nil => exact ⟨rfl, rfl⟩
  | cons q t =>
    rename_i p1 q1 _ _
    obtain ⟨h1, h2, _⟩ := q
    obtain ⟨e, w⟩ := q1
    simp only [headFits] at h
    cases h1 with
    | tup _ _ => simp [isTup] at h
    | lst _ _ => simp [keyD] at h2
    | dK _ _ => simp [keyD] at h2
    | dN _ _ => simp [keyD] at h2
theorem tup_nil {vs : List (Key × V)} {kvs : List (PyData × W)} (p : Paired (RKd K G μ) vs kvs) (h : headFits true kvs = true) : vs = [] ∧ kvs = [] := by
  cases p with
  | nil => exact ⟨rfl, rfl⟩
  | cons q t =>
    rename_i p1 q1 _ _
    obtain ⟨h1, _⟩ := q
    simp only [headFits, h1] at h
    cases hp : p1.1 <;> rw [hp] at h <;> simp [kD, isTup] at h
/-- what a dict holds at a key -/
theorem get_at (rl : Rel K G H μ S) {a : Addr} {kvs : List (PyData × W)} (dc : DicAt K G H μ a kvs) {k : PyData} (hy : RD K G y k) (hf : keyFits k kvs = true) : ∃ r, GetZ K H a y r ∧ (∀ w, lookD kvs k = some w → ∃ v, r = some v ∧ RW K G μ v w) ∧ (lookD kvs k = none → r = none) := by
  simp only [keyFits, Bool.or_eq_true, Bool.and_eq_true] at hf
  rcases hf with ⟨h1, h2⟩ | ⟨h1, h2⟩
  · obtain ⟨kk, hk⟩ := Option.isSome_iff_exists.mp h1
    obtain ⟨rfl, rfl⟩ := leafK_rd hk hy
    cases dc with
    | leaf e p => exact ⟨_, .inl (.inl ⟨_, kk, e, rfl, rfl⟩), look_leaf p⟩
    | tups e p =>
      obtain ⟨rfl, rfl⟩ := leaf_nil p h2
      exact ⟨none, .inr (.inr ⟨kk, rfl, e, rfl⟩), fun w z => by simp [lookD] at z, fun _ => rfl⟩
  · obtain ⟨n, b, hn, hd, rfl, hk⟩ := goodTup_rd h1 hy
    have hkH := hk.mono rl.sub
    cases dc with
    | leaf e p =>
      obtain ⟨rfl, rfl⟩ := tup_nil p h2
      exact ⟨none, .inr (.inl ⟨n, b, rfl, hkH, hd, .inr ⟨e, rfl⟩⟩), fun w z => by simp [lookD] at z, fun _ => rfl⟩
    | tups e p => exact ⟨_, .inr (.inl ⟨n, b, rfl, hkH, hd, .inl ⟨_, e, rkn_ok rl.sub p, rfl⟩⟩), look_tup hn p⟩
theorem any_leaf {kk : Key} : ∀ {vs : List (Key × V)} {kvs : List (PyData × W)}, Paired (RKd K G μ) vs kvs → (vs.any fun kv => decide (kv.1 = kk)) = hasD kvs (kD kk)
  | _, _, .nil => rfl
  | p :: vs, q :: kvs, .cons h t => by
    show (_ || _) = (_ || hasD kvs (kD kk))
    rw [any_leaf t]
    dsimp only
    rw [h.1, eqv_kD]
theorem put_leaf {kk : Key} {v : V} {w : W} (r : RW K G μ v w) {vs : List (Key × V)} {kvs : List (PyData × W)} (p : Paired (RKd K G μ) vs kvs) : Paired (RKd K G μ) (putK vs kk v) (putD kvs (kD kk) w) := by
  unfold putK putD
  rw [any_leaf p]
  split
  · rename_i h
    clear h
    induction p with
    | nil => exact .nil
    | @cons p q ps qs h t ih =>
      refine .cons ?_ ih
      obtain ⟨h1, h2⟩ := h
      dsimp only
      rw [h1, eqv_kD]
      by_cases e : p.1 = kk
      · rw [if_pos e, decide_eq_true e, if_pos rfl]
        exact ⟨by simpa using h1.symm ▸ rfl, r⟩
      · rw [if_neg e, decide_eq_false e, if_neg Bool.false_ne_true]
        exact ⟨h1, h2⟩
  · exact pd_snoc p ⟨rfl, r⟩
theorem any_tup {k : PyData} {n : NK} (hk : keyD k = some n) : ∀ {vs : NKV} {kvs : List (PyData × W)}, Paired (RKn K G μ) vs kvs → (lookN vs n).isSome = hasD kvs k
  | _, _, .nil => rfl
  | p :: vs, q :: kvs, .cons h t => by
    have ih := any_tup hk t
    show _ = (_ || hasD kvs k)
    dsimp only
    rw [eqv_key h.2.1 hk, ← ih]
    unfold lookN
    rw [List.find?_cons]
    by_cases e : p.1 = n
    · rw [decide_eq_true e]; rfl
    · rw [decide_eq_false e]; simp
theorem put_tup {k : PyData} {n : NK} {b : Addr} {v : V} {w : W} (hk : keyD k = some n) (hd : n.depth ≤ 8) (hb : RD K G (.ref b) k) (r : RW K G μ v w) {vs : NKV} {kvs : List (PyData × W)} (p : Paired (RKn K G μ) vs kvs) : Paired (RKn K G μ) (putN vs n b v) (putD kvs k w) := by
  unfold putN putD
  rw [any_tup hk p]
  split
  · rename_i h
    clear h
    induction p with
    | nil => exact .nil
    | @cons p q ps qs h t ih =>
      refine .cons ?_ ih
      obtain ⟨h1, h2, h3, h4⟩ := h
      dsimp only
      rw [eqv_key h2 hk]
      by_cases e : p.1 = n
      · rw [if_pos e, decide_eq_true e, if_pos rfl]
        exact ⟨h1, h2, h3, r⟩
      · rw [if_neg e, decide_eq_false e, if_neg Bool.false_ne_true]
        exact ⟨h1, h2, h3, h4⟩
  · exact pd_snoc p ⟨hb, hk, hd, r⟩
end
/-! ### the rules: d[k], k in d, d.get(k), d.get(k, x), d[k] = v -/
def getX (S : Store) (x k : W) : Option (Option W) := match dictOf S x, dataOf S k with
  | some kvs, some k => if keyFits k kvs = true then some (lookD kvs k) else none
  | _, _ => none
theorem getX_at {G H : Hp} {μ : List Addr} {S : Store} {vx vy : V} {x k : W} (rl : Rel K G H μ S) (r1 : RW K G μ vx x) (r2 : RW K G μ vy k) {o : Option W} (e : getX S x k = some o) : ∃ a r, vx = .ref a ∧ GetZ K H a vy r ∧ (∀ w, o = some w → ∃ v, r = some v ∧ RW K G μ v w) ∧ (o = none → r = none) := by
  unfold getX at e
  split at e
  · rename_i kvs kd h1 h2
    split at e
    · rename_i hf
      cases e
      obtain ⟨a, rfl, dc⟩ := dictOf_at rl r1 h1
      obtain ⟨r, g, g1, g2⟩ := get_at rl dc (data_rd rl r2 h2) hf
      exact ⟨a, r, rfl, g, g1, g2⟩
    · cases e
  · cases e
def tGetZ (K : Kx) (td ty : TE) : TE := fun σ H Q => td σ H fun x H1 => ty σ H1 fun y H2 => ∃ a v, x = .ref a ∧ GetZ K H2 a y (some v) ∧ Q v H2
theorem getZ_typeIs {pins : List (Addr × Obj)} {σ : L2.St} {H : Hp} {s : Shared} {a : Addr} {y : V} {o : Option V} (I : Inv X pins σ H s) (g : GetZ X.kx H a y o) : s.TypeIs (.ref a) "dict" ∧ ∀ b, Value.ref a = .ref b → ∃ ob, s.heap.get? b = some ob ∧ ob.dict = none := by
  have fin : ∀ {ob : Obj}, s.heap.get? a = some ob → ob.ExactDict → s.TypeIs (.ref a) "dict" ∧ ∀ b, Value.ref a = .ref b → ∃ ob, s.heap.get? b = some ob ∧ ob.dict = none := fun {ob} h1 h2 => ⟨⟨ob, h1, h2.1⟩, fun b q => by cases q; exact ⟨ob, h1, h2.2.1⟩⟩
  rcases g with g | ⟨k, b, _, _, _, g⟩ | ⟨k, _, e, _⟩
  · exact ⟨dict_typeIs I g, dict_noDict I g⟩
  · rcases g with ⟨kvs, e, ko, _⟩ | ⟨e, _⟩
    · obtain ⟨_, _, _, _, o, _, _, h1, h2, _⟩ := dn_rd I.hok e ko
      exact fin h1 h2
    · obtain ⟨_, o, _, _, h1, h2, _⟩ := dk_nil I.hok e
      exact fin h1 h2
  · obtain ⟨_, o, _, _, h1, h2, _⟩ := dn_nil I.hok e
    exact fin h1 h2
section
variable {o i e e2 : Expr} {td ty tx : TE} {f f2 f3 : FE} {pos apos cpos : Pos}
theorem pe_getZ (hK : X.kx = K) (hu : X.A.units + 64 < cLine) (ho : PE X o td) (hi : PE X i ty) (hs : NoSl i) : PE X (.Subscript o i pos) (tGetZ K td ty) := by
  subst hK
  refine ⟨fun pins s σ H Q I h => ?_⟩
  refine subD_of (T := "dict") PySem.F.slot_dict_getitem.lookup hs (thn (ho.run pins s σ H _ I h) fun u s1 ⟨x, H1, I1, rx, q1⟩ => thn (hi.run pins s1 σ H1 _ I1 q1) fun iv s2 ⟨y, H2, I2, ry, a, v, ex, g, q2⟩ => ?_)
  subst ex
  obtain rfl : u = Value.ref a := rx
  exact ⟨(getZ_typeIs I2 g).1, z_getItem (by omega) I2 g ry fun w' s3 I3 rw' => ⟨v, H2, I3, rw', q2⟩⟩
def dgetX (fd fk : FE) : FE := fun env S => match fd env S with
  | some (x, S1) => (match fk env S1 with
    | some (k, S2) => (match getX S2 x k with
      | some (some w) => some (w, S2)
      | _ => none)
    | none => none)
  | none => none
theorem z_dget (hK : X.kx = K) (hu : X.A.units + 64 < cLine) (ho : ZE K X o td f) (hi : ZE K X i ty f2) (hs : NoSl i) : ZE K X (.Subscript o i pos) (tGetZ K td ty) (dgetX f f2) :=
  ⟨pe_getZ hK hu ho.pe hi.pe hs, fun env S w S' σ G H μ Q rl er e q => by
    simp only [dgetX] at e
    split at e
    · rename_i x S1 e1
      split at e
      · rename_i k S2 e2
        refine ho.se env S x S1 σ G H μ _ rl er e1 fun v1 G1 H1 μ1 x1 r1 => ?_
        refine hi.se env S1 k S2 σ G1 H1 μ1 _ x1.rel (x1.envR er) e2 fun v2 G2 H2 μ2 x2 r2 => ?_
        split at e
        · rename_i w1 hg
          cases e
          obtain ⟨a, r, rfl, g, g1, _⟩ := getX_at x2.rel (x2.rw r1) r2 hg
          obtain ⟨v, rfl, rv⟩ := g1 _ rfl
          exact ⟨a, v, rfl, g, q v G2 H2 μ2 (x1.trans x2) rv⟩
        · cases e
      · cases e
    · cases e⟩
def tInZ (K : Kx) (neg : Bool) (ty td : TE) : TE := fun σ H Q => ty σ H fun y H1 => td σ H1 fun x H2 => ∃ a r, x = .ref a ∧ GetZ K H2 a y r ∧ Q (.bl (if neg then !r.isSome else r.isSome)) H2
theorem pc_inZ (hK : X.kx = K) (hu : X.A.units + 64 < cLine) (hi : PE X i ty) (ho : PE X o td) : PC X .In i o (tInZ K false ty td) := by
  subst hK
  refine ⟨fun pins s σ H Q I h => ?_⟩
  refine thn (hi.run pins s σ H _ I h) fun iv s1 ⟨y, H1, I1, ry, q1⟩ => thn (ho.run pins s1 σ H1 _ I1 q1) fun u s2 ⟨x, H2, I2, rx, a, r, ex, g, q2⟩ => ?_
  subst ex
  obtain rfl : u = Value.ref a := rx
  exact z_in (by omega) I2 g ry fun s3 I3 => ⟨.bl r.isSome, H2, I3, rfl, q2⟩
theorem pc_notinZ (hK : X.kx = K) (hu : X.A.units + 64 < cLine) (hi : PE X i ty) (ho : PE X o td) : PC X .NotIn i o (tInZ K true ty td) := by
  subst hK
  refine ⟨fun pins s σ H Q I h => ?_⟩
  refine thn (hi.run pins s σ H _ I h) fun iv s1 ⟨y, H1, I1, ry, q1⟩ => thn (ho.run pins s1 σ H1 _ I1 q1) fun u s2 ⟨x, H2, I2, rx, a, r, ex, g, q2⟩ => ?_
  subst ex
  obtain rfl : u = Value.ref a := rx
  exact z_notIn (by omega) I2 g ry fun s3 I3 => ⟨.bl (!r.isSome), H2, I3, rfl, q2⟩
def dinX (neg : Bool) (fk fd : FE) : FE := fun env S => match fk env S with
  | some (k, S1) => (match fd env S1 with
    | some (x, S2) => (match getX S2 x k with
      | some o => some (.d (.bool (if neg then !o.isSome else o.isSome)), S2)
      | none => none)
    | none => none)
  | none => none
theorem se_din {neg : Bool} (hi : SE K ty f) (ho : SE K td f2) : SE K (tInZ K neg ty td) (dinX neg f f2) := fun env S w S' σ G H μ Q rl er e q => by
  simp only [dinX] at e
  split at e
  · rename_i k S1 e1
    split at e
    · rename_i x S2 e2
      refine hi env S k S1 σ G H μ _ rl er e1 fun v1 G1 H1 μ1 x1 r1 => ?_
      refine ho env S1 x S2 σ G1 H1 μ1 _ x1.rel (x1.envR er) e2 fun v2 G2 H2 μ2 x2 r2 => ?_
      split at e
      · rename_i o hg
        cases e
        obtain ⟨a, r, rfl, g, g1, g2⟩ := getX_at x2.rel r2 (x2.rw r1) hg
        have er : r.isSome = o.isSome := by
          cases o with
          | none => rw [g2 rfl]; rfl
          | some w => obtain ⟨v, rfl, _⟩ := g1 w rfl; rfl
        exact ⟨a, r, rfl, g, by rw [er]; exact q _ G2 H2 μ2 (x1.trans x2) (.bl _)⟩
      · cases e
    · cases e
  · cases e
theorem z_din (hK : X.kx = K) (hu : X.A.units + 64 < cLine) (hi : ZE K X i ty f) (ho : ZE K X o td f2) (hm : behindInMarks .In o = false := by rfl) : ZE K X (.Compare i [.In] [o] pos) (tInZ K false ty td) (dinX false f f2) := ⟨pe_cmp (pc_inZ hK hu hi.pe ho.pe) hm, se_din hi.se ho.se⟩
theorem z_dnotin (hK : X.kx = K) (hu : X.A.units + 64 < cLine) (hi : ZE K X i ty f) (ho : ZE K X o td f2) (hm : behindInMarks .NotIn o = false := by rfl) : ZE K X (.Compare i [.NotIn] [o] pos) (tInZ K true ty td) (dinX true f f2) := ⟨pe_cmp (pc_notinZ hK hu hi.pe ho.pe) hm, se_din hi.se ho.se⟩
theorem zt_din (hK : X.kx = K) (hu : X.A.units + 64 < cLine) (hi : ZE K X i ty f) (ho : ZE K X o td f2) (hm : behindInMarks .In o = false := by rfl) : ZT K X (.Compare i [.In] [o] pos) (tB (tInZ K false ty td)) (bbX (dinX false f f2)) := ⟨pt_cmp (pc_inZ hK hu hi.pe ho.pe) hm, st_b2 (se_din hi.se ho.se)⟩
theorem zt_dnotin (hK : X.kx = K) (hu : X.A.units + 64 < cLine) (hi : ZE K X i ty f) (ho : ZE K X o td f2) (hm : behindInMarks .NotIn o = false := by rfl) : ZT K X (.Compare i [.NotIn] [o] pos) (tB (tInZ K true ty td)) (bbX (dinX true f f2)) := ⟨pt_cmp (pc_notinZ hK hu hi.pe ho.pe) hm, st_b2 (se_din hi.se ho.se)⟩
/-- an object that is a dict -/
def IsDZ (K : Kx) (H : Hp) (a : Addr) : Prop := (∃ kvs, Rd H a (.dK kvs)) ∨ ∃ kvs, Rd H a (DNo K.P K.w a kvs)
theorem isDZ_at {pins : List (Addr × Obj)} {σ : L2.St} {H : Hp} {s : Shared} {a : Addr} (I : Inv X pins σ H s) (d : IsDZ X.kx H a) : s.TypeIs (.ref a) "dict" ∧ (∀ b, Value.ref a = .ref b → ∃ ob, s.heap.get? b = some ob ∧ ob.dict = none) ∧ (a == sysModules) = false := by
  have fin : ∀ {ob : Obj}, s.heap.get? a = some ob → ob.ExactDict → (a == sysModules) = false → s.TypeIs (.ref a) "dict" ∧ (∀ b, Value.ref a = .ref b → ∃ ob, s.heap.get? b = some ob ∧ ob.dict = none) ∧ (a == sysModules) = false := fun {ob} h1 h2 h3 => ⟨⟨ob, h1, h2.1⟩, fun b q => by cases q; exact ⟨ob, h1, h2.2.1⟩, h3⟩
  rcases d with ⟨kvs, e⟩ | ⟨kvs, e⟩
  · obtain ⟨_, y, _, _, o, _, _, h1, h2, _⟩ := dk_rd I.hok e
    exact fin h1 h2 y
  · obtain ⟨⟨_, y, _, _, o, _, _, h1, h2, _⟩, _, _⟩ := (show ObjOk X.prog X.w H s.heap a (DNo X.prog X.w a kvs) from e.ok I.hok)
    exact fin h1 h2 y
theorem DicAt.isD {G H : Hp} {μ : List Addr} {a : Addr} {kvs : List (PyData × W)} (d : DicAt K G H μ a kvs) : IsDZ K H a := by
  cases d with
  | leaf e _ => exact .inl ⟨_, e⟩
  | tups e _ => exact .inr ⟨_, e⟩
def tGetZ1 (K : Kx) (td ty : TE) : TE := fun σ H Q => td σ H fun x H1 => ∃ a, x = .ref a ∧ IsDZ K H1 a ∧ ty σ H1 fun y H2 => ∃ r, GetZ K H2 a y r ∧ Q (r.getD .non) H2
def tGetZ2 (K : Kx) (td ty tx : TE) : TE := fun σ H Q => td σ H fun x H1 => ∃ a, x = .ref a ∧ IsDZ K H1 a ∧ ty σ H1 fun y H2 => tx σ H2 fun z H3 => ∃ r, GetZ K H3 a y r ∧ Q (r.getD z) H3
theorem pe_getZ1 (hK : X.kx = K) (hu : X.A.units + 64 < cLine) (ho : PE X o td) (he : PE X e ty) (m : M1 X o "get" apos e cpos) : PE X (.Call (.Attribute o "get" apos) [e] [] cpos) (tGetZ1 K td ty) := by
  subst hK
  refine ⟨fun pins s σ H Q I h => ?_⟩
  refine wpAny_Call_method m.base m.few m.line PySem.F.plainAttrs_dict PySem.F.slot_dict_get PySem.F.type_dict_get (thn (ho.run pins s σ H _ I h) fun u s1 ⟨x, H1, I1, rx, a, ex, d, q1⟩ => ?_)
  subst ex
  obtain rfl : u = Value.ref a := rx
  obtain ⟨t1, t2, _⟩ := isDZ_at I1 d
  refine ⟨t1, t2, ?_⟩
  rw [m.trees]
  refine Calls.callWith_builtin rfl (Calls.evalArgs_plain (Calls.spliced_cons (thn (he.run pins s1 σ H1 _ I1 q1) fun iv s2 ⟨y, H2, I2, ry, r, g, q2⟩ => Calls.spliced_nil ?_)))
  exact z_get1 (by omega) I2 g ry fun w' s3 I3 rw' => ⟨_, H2, I3, rw', q2⟩
theorem pe_getZ2 (hK : X.kx = K) (hu : X.A.units + 64 < cLine) (ho : PE X o td) (he : PE X e ty) (hf : PE X e2 tx) (m : M2 X o "get" apos e e2 cpos) : PE X (.Call (.Attribute o "get" apos) [e, e2] [] cpos) (tGetZ2 K td ty tx) := by
  subst hK
  refine ⟨fun pins s σ H Q I h => ?_⟩
  refine wpAny_Call_method m.base m.few m.line PySem.F.plainAttrs_dict PySem.F.slot_dict_get PySem.F.type_dict_get (thn (ho.run pins s σ H _ I h) fun u s1 ⟨x, H1, I1, rx, a, ex, d, q1⟩ => ?_)
  subst ex
  obtain rfl : u = Value.ref a := rx
  obtain ⟨t1, t2, _⟩ := isDZ_at I1 d
  refine ⟨t1, t2, ?_⟩
  rw [m.trees]
  refine Calls.callWith_builtin rfl (Calls.evalArgs_plain (Calls.spliced_cons (thn (he.run pins s1 σ H1 _ I1 q1) fun iv s2 ⟨y, H2, I2, ry, q2⟩ =>
    Calls.spliced_cons (thn (hf.run pins s2 σ H2 _ I2 q2) fun fv s3 ⟨z, H3, I3, rz, r, g, q3⟩ => Calls.spliced_nil ?_))))
  exact z_get2 (by omega) I3 g ry rz fun w' s4 I4 rw' => ⟨_, H3, I4, rw', q3⟩
def get1X (fd fk : FE) : FE := fun env S => match fd env S with
  | some (x, S1) => if (dictOf S1 x).isSome = true then (match fk env S1 with
    | some (k, S2) => (match getX S2 x k with
      | some o => some (o.getD (.d .none), S2)
      | none => none)
    | none => none) else none
  | none => none
def get2X (fd fk fz : FE) : FE := fun env S => match fd env S with
  | some (x, S1) => if (dictOf S1 x).isSome = true then (match fk env S1 with
    | some (k, S2) => (match fz env S2 with
      | some (z, S3) => (match getX S3 x k with
        | some o => some (o.getD z, S3)
        | none => none)
      | none => none)
    | none => none) else none
  | none => none
theorem z_dget1 (hK : X.kx = K) (hu : X.A.units + 64 < cLine) (ho : ZE K X o td f) (hi : ZE K X e ty f2) (m : M1 X o "get" apos e cpos) : ZE K X (.Call (.Attribute o "get" apos) [e] [] cpos) (tGetZ1 K td ty) (get1X f f2) :=
  ⟨pe_getZ1 hK hu ho.pe hi.pe m, fun env S w S' σ G H μ Q rl er e q => by
    simp only [get1X] at e
    split at e
    · rename_i x S1 e1
      split at e
      · rename_i hd
        split at e
        · rename_i k S2 e2
          refine ho.se env S x S1 σ G H μ _ rl er e1 fun v1 G1 H1 μ1 x1 r1 => ?_
          obtain ⟨kvs, hkvs⟩ := Option.isSome_iff_exists.mp hd
          obtain ⟨a, rfl, dc⟩ := dictOf_at x1.rel r1 hkvs
          refine ⟨a, rfl, dc.isD, ?_⟩
          refine hi.se env S1 k S2 σ G1 H1 μ1 _ x1.rel (x1.envR er) e2 fun v2 G2 H2 μ2 x2 r2 => ?_
          split at e
          · rename_i o hg
            cases e
            obtain ⟨a', r, ea, g, g1, g2⟩ := getX_at x2.rel (x2.rw r1) r2 hg
            cases ea
            refine ⟨r, g, ?_⟩
            cases o with
            | none => rw [g2 rfl]; exact q _ G2 H2 μ2 (x1.trans x2) .non
            | some w => obtain ⟨v, rfl, rv⟩ := g1 w rfl; exact q _ G2 H2 μ2 (x1.trans x2) rv
          · cases e
        · cases e
      · cases e
    · cases e⟩
theorem z_dget2 (hK : X.kx = K) (hu : X.A.units + 64 < cLine) (ho : ZE K X o td f) (hi : ZE K X e ty f2) (hz : ZE K X e2 tx f3) (m : M2 X o "get" apos e e2 cpos) : ZE K X (.Call (.Attribute o "get" apos) [e, e2] [] cpos) (tGetZ2 K td ty tx) (get2X f f2 f3) :=
  ⟨pe_getZ2 hK hu ho.pe hi.pe hz.pe m, fun env S w S' σ G H μ Q rl er e q => by
    simp only [get2X] at e
    split at e
    · rename_i x S1 e1
      split at e
      · rename_i hd
        split at e
        · rename_i k S2 e2
          split at e
          · rename_i zw S3 e3
            refine ho.se env S x S1 σ G H μ _ rl er e1 fun v1 G1 H1 μ1 x1 r1 => ?_
            obtain ⟨kvs, hkvs⟩ := Option.isSome_iff_exists.mp hd
            obtain ⟨a, rfl, dc⟩ := dictOf_at x1.rel r1 hkvs
            refine ⟨a, rfl, dc.isD, ?_⟩
            refine hi.se env S1 k S2 σ G1 H1 μ1 _ x1.rel (x1.envR er) e2 fun v2 G2 H2 μ2 x2 r2 => ?_
            refine hz.se env S2 zw S3 σ G2 H2 μ2 _ x2.rel (x2.envR (x1.envR er)) e3 fun v3 G3 H3 μ3 x3 r3 => ?_
            split at e
            · rename_i o hg
              cases e
              obtain ⟨a', r, ea, g, g1, g2⟩ := getX_at x3.rel ((x2.trans x3).rw r1) (x3.rw r2) hg
              cases ea
              refine ⟨r, g, ?_⟩
              cases o with
              | none => rw [g2 rfl]; exact q _ G3 H3 μ3 ((x1.trans x2).trans x3) r3
              | some w => obtain ⟨v, rfl, rv⟩ := g1 w rfl; exact q _ G3 H3 μ3 ((x1.trans x2).trans x3) rv
            · cases e
          · cases e
        · cases e
      · cases e
    · cases e⟩
end
/-! d[k] = v -/
def dsetW : Store → W → W → W → Option Store := fun S o i v => match o, dataOf S i with
  | .c n, some k => (match S[n]? with
    | some (.dic kvs) => if keyFits k kvs = true ∧ kvs.length < sizeLine then some (S.set n (.dic (putD kvs k v))) else none
    | _ => none)
  | _, _ => none
theorem st_setD : STs K (rSetZ K) dsetW := fun S w1 w2 w3 S' G H μ o i v Q rl r1 r2 r3 e q => by
  unfold dsetW at e
  split at e
  · rename_i n k hk
    split at e
    · rename_i kvs hs
      split at e
      · rename_i hc
        obtain ⟨hf, hl⟩ := hc
        cases e
        have hy := data_rd rl r2 hk
        obtain ⟨a, ha, rfl⟩ := r1
        obtain ⟨h, gn⟩ := rl.cell n a _ ha hs
        simp only [keyFits, Bool.or_eq_true, Bool.and_eq_true] at hf
        rcases hf with ⟨h1, h2⟩ | ⟨h1, h2⟩
        · obtain ⟨kk, hk⟩ := Option.isSome_iff_exists.mp h1
          obtain ⟨rfl, rfl⟩ := leafK_rd hk hy
          rcases h with ⟨vs, q1, q2⟩ | ⟨vs, q1, q2⟩
          · exact ⟨a, _, rfl, .inl (.inl ⟨vs, kk, q1, rfl, by rw [pd_len q2]; exact hl, rfl⟩), q _ _ _ (nx_wr (c := .dic kvs) rl ha gn ⟨.inl ⟨_, upd_same, put_leaf r3 q2⟩, gn⟩)⟩
          · obtain ⟨rfl, rfl⟩ := leaf_nil q2 h2
            exact ⟨a, _, rfl, .inr (.inr ⟨kk, rfl, q1, rfl⟩), q _ _ _ (nx_wr (c := .dic []) rl ha gn ⟨.inl ⟨_, upd_same, .cons ⟨rfl, r3⟩ .nil⟩, gn⟩)⟩
        · obtain ⟨nn, b, hn, hd, rfl, hka⟩ := goodTup_rd h1 hy
          have hkH := hka.mono rl.sub
          rcases h with ⟨vs, q1, q2⟩ | ⟨vs, q1, q2⟩
          · obtain ⟨rfl, rfl⟩ := tup_nil q2 h2
            exact ⟨a, _, rfl, .inr (.inl ⟨nn, b, [], rfl, hkH, hd, .inr ⟨q1, rfl⟩, hl, rfl⟩), q _ _ _ (nx_wr (c := .dic []) rl ha gn ⟨.inr ⟨_, upd_same, .cons ⟨hy, hn, hd, r3⟩ .nil⟩, gn⟩)⟩
          · exact ⟨a, _, rfl, .inr (.inl ⟨nn, b, vs, rfl, hkH, hd, .inl ⟨q1, rkn_ok rl.sub q2⟩, by rw [pd_len q2]; exact hl, rfl⟩), q _ _ _ (nx_wr (c := .dic kvs) rl ha gn ⟨.inr ⟨_, upd_same, put_tup hn hd hy r3 q2⟩, gn⟩)⟩
      · cases e
    · cases e
  · cases e
/-! {} -/
def dnewX : FE := fun _ S => some (.c S.length, S ++ [.dic []])
theorem z_dnewC {pos : Pos} : ZE K X (.Dict [] [] pos) tDNewK dnewX := ⟨pe_dnewK, fun env S w S' σ G H μ Q rl er e q => by
  cases e
  intro p hp
  refine q _ _ _ _ (nx_cell rl hp (c := .dic []) ⟨.inl ⟨[], upd_same, .nil⟩, rl.gn hp⟩) ⟨p, ?_, rfl⟩
  rw [← rl.len, List.getElem?_append_right (Nat.le_refl _), Nat.sub_self]
  rfl⟩
end Z

/-! ZS: sorted(..) of data: alike ones; pairs whose firsts are alike and tell them apart. -/
namespace Z
open PySem PySem.Spec PySem.W PyProof.Rows L2 Y
variable {K : Kx} {X : Cx}
def sortD (ds : List PyData) : List PyData := ds.mergeSort (dataLe false id)
/-- pairs by their firsts -/
def sortP (ds : List (PyData × PyData)) : List (PyData × PyData) := ds.mergeSort (dataLe false Prod.fst)
def prD (p : PyData × PyData) : PyData := .tuple [p.1, p.2]
theorem map_sort {α β : Type} (f : α → β) (k : β → PyData) (l : List α) : (l.mergeSort (dataLe false fun a => k (f a))).map f = (l.map f).mergeSort (dataLe false k) := List.map_mergeSort fun _ _ _ _ => rfl
/-- the kind of pairs sorted by their firsts -/
noncomputable def pairKind (h : Heap) (ds : List (PyData × PyData)) : PyProof.Rows.KeyKind where
  toKeyOrd := listOrd itemOrd
  keyOf v := open Classical in if q : ∃ d, d ∈ ds ∧ ∃ as, Reads h v (prD d) as then some (keyToks q.choose.1) else none
  dflt := ([] : List (Int ⊕ List Nat))
structure Firsts (ds : List (PyData × PyData)) : Prop where
  alike : ∀ d ∈ ds, ∀ d' ∈ ds, PySem.W.alike d.1 d'.1 = true
  tell : ∀ d ∈ ds, ∀ d' ∈ ds, PyData.eqv d.1 d'.1 = true → d = d'
  self : ∀ d ∈ ds, PySem.W.alike d.2 d.2 = true
  non : ∀ d ∈ ds, d.1 ≠ .none
theorem pair_unique {h : Heap} {ds : List (PyData × PyData)} (F : Firsts ds) {v : Value} {d d' : PyData × PyData} {as bs : List Addr} (h1 : d ∈ ds) (h2 : d' ∈ ds) (r1 : Reads h v (prD d) as) (r2 : Reads h v (prD d') bs) : keyToks d.1 = keyToks d'.1 := by
  cases r1 with
  | tuple a1 a2 a3 a4 =>
    cases r2 with
    | tuple b1 b2 b3 b4 =>
      rw [a1] at b1; cases b1
      rw [a3] at b3; cases b3
      generalize hl : Array.toList _ = l at a4 b4
      cases a4 with
      | cons r t =>
        cases b4 with
        | cons r' t' => rw [alike_unique _ _ _ _ _ (F.alike _ h1 _ h2) r r']
theorem pairKind_some {h : Heap} {ds : List (PyData × PyData)} (F : Firsts ds) {v : Value} {d : PyData × PyData} {as : List Addr} (hd : d ∈ ds) (r : Reads h v (prD d) as) : (pairKind h ds).keyOf v = some (keyToks d.1) := by
  have q : ∃ d, d ∈ ds ∧ ∃ as, Reads h v (prD d) as := ⟨d, hd, as, r⟩
  have e : (pairKind h ds).keyOf v = some (keyToks q.choose.1) := by
    show (open Classical in if q : ∃ d, d ∈ ds ∧ ∃ as, Reads h v (prD d) as then some (keyToks q.choose.1) else none) = _
    rw [dif_pos q]
  obtain ⟨h1, as', h2⟩ := q.choose_spec
  rw [e, pair_unique F h1 hd h2 r]
theorem pairKind_inv {h : Heap} {ds : List (PyData × PyData)} {v : Value} {k : List (Int ⊕ List Nat)} (e : (pairKind h ds).keyOf v = some k) : ∃ d as, d ∈ ds ∧ Reads h v (prD d) as ∧ k = keyToks d.1 := by
  by_cases q : ∃ d, d ∈ ds ∧ ∃ as, Reads h v (prD d) as
  · have e' : (pairKind h ds).keyOf v = some (keyToks q.choose.1) := by
      show (open Classical in if q : ∃ d, d ∈ ds ∧ ∃ as, Reads h v (prD d) as then some (keyToks q.choose.1) else none) = _
      rw [dif_pos q]
    obtain ⟨h1, as', h2⟩ := q.choose_spec
    rw [e'] at e
    exact ⟨_, as', h1, h2, (Option.some.inj e).symm⟩
  · have e' : (pairKind h ds).keyOf v = none := by
      show (open Classical in if q : ∃ d, d ∈ ds ∧ ∃ as, Reads h v (prD d) as then some (keyToks q.choose.1) else none) = _
      rw [dif_neg q]
      rfl
    rw [e'] at e
    exact absurd e (by simp)
theorem sorts_pairs {prog : Program} {w : World} {A : Around} {s : Shared} {vs : List Value} {ds : List (PyData × PyData)} (e : EachIs (fun v d => ∃ as, Reads s.heap v (prD d) as) vs ds) (F : Firsts ds) (hu : ∀ d ∈ ds, A.units + 1 + d.1.depth < cLine ∧ A.units + 1 + d.2.depth < cLine) : SortsAt prog w A s (pairKind s.heap ds) vs := by
  refine ⟨fun v hv => ?_, ?_⟩
  · obtain ⟨d, hd, as, r⟩ := e.left v hv
    exact ⟨_, pairKind_some F hd r⟩
  · cases ds with
    | nil =>
      cases e
      exact ⟨general', fun E x y a b Q ha _ _ => (by
        obtain ⟨d, _, hd, _⟩ := pairKind_inv ha
        exact absurd hd (by simp)), fun h2 => absurd h2 (by simp)⟩
    | cons d₀ ds₀ =>
      have m0 : d₀ ∈ d₀ :: ds₀ := List.mem_cons_self
      refine ⟨tuples' (dataType d₀.1 != Value.type "tuple"), ?_, fun h2 E Q hq => ?_⟩
      · intro E x y a b Q ha hb hq
        obtain ⟨d, as, hd, ra, rfl⟩ := pairKind_inv ha
        obtain ⟨d', as', hd', rb, rfl⟩ := pairKind_inv hb
        have hdd := F.alike d hd d' hd'
        have hq' : Q (dataLt d.1 d'.1) s := hq
        cases ra with
        | @tuple l o xs n _ _ h1 h2 h3 h4 =>
          cases rb with
          | @tuple l' o' xs' n' _ _ k1 k2 k3 k4 =>
            have n1 : xs.size = 2 := by simpa using SeqAt.ReadsAll.length _ _ _ h4
            have n2 : xs'.size = 2 := by simpa using SeqAt.ReadsAll.length _ _ _ k4
            refine kat_lt h1 h3 k1 k3 ?_
            rw [n1, n2]
            generalize xs.toList = l1 at h4
            generalize xs'.toList = l2 at k4
            cases h4 with
            | cons r1 t1 =>
              cases k4 with
              | cons r2 t2 =>
                rw [List.zip_cons_cons]
                have hroom : A.units + min d.1.depth d'.1.depth < cLine := by have := (hu d hd).1; omega
                refine kat_cons (eqAt_alike d.1 d'.1 A s _ _ _ _ r1 r2 hdd hroom prog w _ _ ?_)
                cases hx : PyData.eqv d.1 d'.1 with
                | true =>
                  have ed := F.tell d hd d' hd' hx
                  subst ed
                  refine kat_yes ?_
                  cases t1 with
                  | cons r3 t3 =>
                    cases t2 with
                    | cons r4 t4 =>
                      cases t3
                      cases t4
                      rw [List.zip_cons_cons]
                      have lself : PyData.eqv d.2 d.2 = true := eqv_refl_alike d.2 (F.self d hd)
                      refine kat_cons (eqAt_alike d.2 d.2 A s _ _ _ _ r3 r4 (F.self d hd) (by have := (hu d hd).2; omega) prog w _ _ ?_)
                      rw [lself]
                      refine kat_yes (kat_nil ?_)
                      rw [dataLt_self] at hq'
                      exact hq'
                | false =>
                  refine kat_no (oneLt_alike (fun hbi t => ?_) r1 r2 hdd (ne_none_of hdd hx) hroom hq')
                  rw [Bool.and_eq_true] at hbi
                  have q := dataType_alike (F.alike d hd d₀ m0)
                  rw [← q] at hbi
                  exact dataType_tuple hbi.1 t
      · have ht : ∀ d, d ∈ (d₀ :: ds₀).map prD → ∃ x r, d = PyData.tuple (x :: r) := fun d hd => by
          obtain ⟨p, _, rfl⟩ := List.mem_map.mp hd
          exact ⟨p.1, [p.2], rfl⟩
        have e2 : EachIs (fun v d => ∃ as, Reads s.heap v d as) vs ((d₀ :: ds₀).map prD) := each_map (R := fun v d => ∃ as, Reads s.heap v d as) prD e
        obtain ⟨fs, t1, t2, t3⟩ := each_katTups e2 ht
        refine kat_kind (T := dataType d₀.1) t1 (by omega) (fun f hf => ?_) (beq_self_eq_true _) hq
        obtain ⟨x, r, as, m1, m2⟩ := t3 f hf
        obtain ⟨p, hp, ep⟩ := List.mem_map.mp m1
        have : p.1 = x := by
          have := PyData.tuple.inj ep
          exact (List.cons.inj this).1
        rw [← dataType_alike (F.alike p hp d₀ m0), this]
        exact looks_reads m2
theorem eachMap {α β γ : Type} {R : α → γ → Prop} (f : β → γ) : ∀ {as : List α} {bs : List β}, EachIs (fun a b => R a (f b)) as bs → EachIs R as (bs.map f)
  | _, _, .nil => .nil
  | _, _, .cons r t => .cons r (eachMap f t)
/-! ### over the layer -/
section
variable {pins : List (Addr × Obj)} {σ : L2.St} {H : Hp} {s : Shared}
theorem each_zip (I : Inv X pins σ H s) : ∀ {us : List V} {ds : List PyData} {its : List Value}, RDs X.kx H us ds → PyData.hasDictAll ds = false → Vals us its → EachIs (fun v b => RelV b.1 v ∧ ∃ as, Reads s.heap v b.2 as) its (us.zip ds)
  | _, _, _, .nil, _, r => by cases r; exact .nil
  | _, _, _, .cons h t, hd, r => by
    cases r with
    | cons r1 r2 =>
      simp only [PyData.hasDictAll, Bool.or_eq_false_iff] at hd
      obtain ⟨as, q⟩ := h.reads I hd.1 _ r1
      exact .cons ⟨r1, as, q⟩ (each_zip I t hd.2 r2)
theorem zip_rd {us : List V} {ds : List PyData} (h : RDs K H us ds) : (us.zip ds).map Prod.snd = ds ∧ ∀ b ∈ us.zip ds, RD K H b.1 b.2 := by
  have gen : ∀ {us : List V} {ds : List PyData}, RDs K H us ds → (us.zip ds).map Prod.snd = ds ∧ ∀ b ∈ us.zip ds, RD K H b.1 b.2 := by
    intro us
    induction us with
    | nil => intro ds h; cases h; exact ⟨rfl, fun b hb => by cases hb⟩
    | cons u us ih =>
      intro ds h
      cases h with
      | cons r t =>
        obtain ⟨h1, h2⟩ := ih t
        refine ⟨by rw [List.zip_cons_cons, List.map_cons, h1], fun b hb => ?_⟩
        rw [List.zip_cons_cons] at hb
        rcases List.mem_cons.mp hb with e | hb
        · rw [e]; exact r
        · exact h2 b hb
  exact gen h
theorem each_vals : ∀ {out : List Value} {bs : List (V × PyData)}, EachIs (fun v b => RelV b.1 v) out bs → Vals (bs.map Prod.fst) out
  | _, _, .nil => .nil
  | _, _, .cons r t => .cons r (each_vals t)
theorem rds_of_all : ∀ {bs : List (V × PyData)}, (∀ b ∈ bs, RD K H b.1 b.2) → RDs K H (bs.map Prod.fst) (bs.map Prod.snd)
  | [], _ => .nil
  | b :: bs, h => .cons (h b List.mem_cons_self) (rds_of_all fun c hc => h c (List.mem_cons_of_mem _ hc))
theorem sorted_laid {vs out : List Value} {us : List V} (I : Inv X pins σ H s) (rv : Vals us out) (hl : us.length ≤ sizeLine) : H (s.heap.objs.size + 1) = none ∧ Inv X pins σ (upd H (s.heap.objs.size + 1) (.lst us)) { s with heap := sortedAll s.heap vs out.toArray } := by
  obtain ⟨c, hc⟩ := sortedAll_at s.heap vs out.toArray
  refine ⟨I.hok.fresh (Nat.le_succ _), I.laid (t' := s.toks) (fun b o e => sortedAll_old e) (Nat.le_succ _) ?_⟩
  exact ⟨hl, out, c, rv, hc⟩
def rSortD (K : Kx) : List V → Hp → VK → Prop := fun vs H Q => ∃ a us ds, vs = [.ref a] ∧ Rd H a (.lst us) ∧ RDs K H us ds ∧ PyData.hasDictAll ds = false ∧ AllAlike ds ∧ Sortable ds ∧ (∀ d ∈ ds, d.depth ≤ 50) ∧
  ∀ p us', H p = none → (∀ G : Hp, RDs K G us ds → RDs K G us' (sortD ds)) → Q (.ref p) (upd H p (.lst us'))
theorem cr_sortD (hK : X.kx = K) (hu : X.A.units + 64 < cLine) : CallR X (.builtin "sorted") (rSortD K) := by
  subst hK
  intro pins s σ H xs us0 Q I r h
  obtain ⟨a, us, ds, rfl, hs, hd, nd, hal, hk, dep, q⟩ := h
  obtain ⟨u, rfl, ru⟩ := vals1 r
  cases ru
  obtain ⟨its, rv, hl, hz⟩ := I.list (.inl hs)
  have ez := each_zip I hd nd rv
  obtain ⟨z1, z2⟩ := zip_rd hd
  have lz : (us.zip ds).length ≤ sizeLine := by
    have := hd.len
    rw [List.length_zip]; omega
  refine sorted_data (R := fun v b => RelV b.1 v) (enc := Prod.snd) (bs := us.zip ds) hl.isList (ez.mono fun _ _ q => q.1) (ez.mono fun _ _ q => q.2) (by rw [z1]; exact hal) (by rw [z1]; exact hk) lz (fun b hb => ?_) fun out ho eo => ?_
  · have : b.2 ∈ ds := by rw [← z1]; exact List.mem_map_of_mem hb
    have := dep _ this
    omega
  · have hp : ((us.zip ds).mergeSort (dataLe false Prod.snd)).Perm (us.zip ds) := List.mergeSort_perm _ _
    have e2 : ((us.zip ds).mergeSort (dataLe false Prod.snd)).map Prod.snd = sortD ds := by
      have := map_sort (Prod.snd : V × PyData → PyData) id (us.zip ds)
      rw [z1] at this
      exact this
    have rd : ∀ G : Hp, RDs X.kx G us ds → RDs X.kx G (((us.zip ds).mergeSort (dataLe false Prod.snd)).map Prod.fst) (sortD ds) := fun G hG => by
      have rd := rds_of_all (K := X.kx) (H := G) (bs := (us.zip ds).mergeSort (dataLe false Prod.snd)) fun b hb => (zip_rd hG).2 b (hp.mem_iff.mp hb)
      rwa [e2] at rd
    obtain ⟨fr, I2⟩ := sorted_laid (vs := its) (out := out) I (each_vals eo) (by rw [List.length_map, hp.length_eq]; exact lz)
    exact ⟨.ref _, _, I2, rfl, q _ _ fr rd⟩
/-- pairs by their firsts -/
def pairsOf : List PyData → Option (List (PyData × PyData))
  | [] => some []
  | .tuple [a, b] :: r => (match pairsOf r with
    | some ps => some ((a, b) :: ps)
    | none => none)
  | _ => none
theorem pairsOf_eq : ∀ {ds : List PyData} {ps : List (PyData × PyData)}, pairsOf ds = some ps → ds = ps.map prD
  | [], _, e => by simp only [pairsOf] at e; cases e; rfl
  | d :: ds, ps, e => by
    unfold pairsOf at e
    split at e
    · rename_i h; cases h
    · rename_i a b r h
      cases h
      split at e
      · rename_i ps' hp
        cases e
        rw [List.map_cons, ← pairsOf_eq hp]
        rfl
      · cases e
    · cases e
def rSortP (K : Kx) : List V → Hp → VK → Prop := fun vs H Q => ∃ a us ps, vs = [.ref a] ∧ Rd H a (.lst us) ∧ RDs K H us (ps.map prD) ∧ PyData.hasDictAll (ps.map prD) = false ∧ Firsts ps ∧ (∀ d ∈ ps, d.1.depth ≤ 50 ∧ d.2.depth ≤ 50) ∧
  ∀ p us', H p = none → (∀ G : Hp, RDs K G us (ps.map prD) → RDs K G us' ((sortP ps).map prD)) → Q (.ref p) (upd H p (.lst us'))
theorem each_get {α β : Type} {R : α → β → Prop} : ∀ {as : List α} {bs : List β}, EachIs R as bs → ∀ {γ : Type} {S : α → γ → Prop} (f : γ → β) {cs : List γ}, bs = cs.map f → (∀ a c, R a (f c) → S a c) → EachIs S as cs
  | _, _, .nil, _, _, f, cs, e, h => by
    cases cs with
    | nil => exact .nil
    | cons => simp at e
  | _, _, .cons r t, _, _, f, cs, e, h => by
    cases cs with
    | nil => simp at e
    | cons c cs =>
      rw [List.map_cons] at e
      obtain ⟨e1, e2⟩ := List.cons.inj e
      subst e1
      exact .cons (h _ _ r) (each_get t f e2 h)
theorem cr_sortP (hK : X.kx = K) (hu : X.A.units + 64 < cLine) : CallR X (.builtin "sorted") (rSortP K) := by
  subst hK
  intro pins s σ H xs us0 Q I r h
  obtain ⟨a, us, ps, rfl, hs, hd, nd, F, dep, q⟩ := h
  obtain ⟨u, rfl, ru⟩ := vals1 r
  cases ru
  obtain ⟨its, rv, hl, hz⟩ := I.list (.inl hs)
  have ez := each_zip I hd nd rv
  obtain ⟨z1, z2⟩ := zip_rd hd
  have lu : us.length = ps.length := by have := hd.len; rwa [List.length_map] at this
  -- the pairs, each with its value
  have ez2 : EachIs (fun v (b : V × (PyData × PyData)) => RelV b.1 v ∧ ∃ as, Reads s.heap v (prD b.2) as) its (us.zip ps) := by
    refine each_get ez (fun b : V × (PyData × PyData) => (b.1, prD b.2)) ?_ fun a c q => q
    rw [List.zip_map_right]
    rfl
  have sn : (us.zip ps).map Prod.snd = ps := by rw [List.map_snd_zip]; omega
  have er' : EachIs (fun v (b : PyData × PyData) => ∃ as, Reads (sortingHeap (copyHeap s.heap its) (s.heap.objs.size + 1) its) v (prD b) as) its ps := by
    have e3 : EachIs (fun v (b : V × (PyData × PyData)) => ∃ as, Reads (sortingHeap (copyHeap s.heap its) (s.heap.objs.size + 1) its) v (prD b.2) as) its (us.zip ps) := ez2.mono fun _ _ ⟨_, as, r⟩ => ⟨as, PyProof.Rows.Reads.keeps (fun _ _ => sorting_copy_old) r⟩
    have := eachMap (R := fun v (d : PyData × PyData) => ∃ as, Reads (sortingHeap (copyHeap s.heap its) (s.heap.objs.size + 1) its) v (prD d) as) (Prod.snd : V × (PyData × PyData) → PyData × PyData) e3
    rwa [sn] at this
  have li : its.length = ps.length := by rw [← rv.length]; exact lu
  refine sorted_vals hl.isList (sorts_pairs (s := { s with heap := sortingHeap (copyHeap s.heap its) (s.heap.objs.size + 1) its }) er' F fun d hd => ?_) (by rw [← rv.length]; exact hz) ?_
  · obtain ⟨d1, d2⟩ := dep d hd
    show X.A.units + 1 + 1 + 1 + d.1.depth < cLine ∧ X.A.units + 1 + 1 + 1 + d.2.depth < cLine
    omega
  · have key : EachIs (fun v (b : V × (PyData × PyData)) => (pairKind (sortingHeap (copyHeap s.heap its) (s.heap.objs.size + 1) its) ps).keyOf v = some (keyToks b.2.1)) its (us.zip ps) := by
      have e3 : EachIs (fun v (b : V × (PyData × PyData)) => ∃ as, Reads (sortingHeap (copyHeap s.heap its) (s.heap.objs.size + 1) its) v (prD b.2) as) its (us.zip ps) := ez2.mono fun _ _ ⟨_, as, r⟩ => ⟨as, PyProof.Rows.Reads.keeps (fun _ _ => sorting_copy_old) r⟩
      have mem : ∀ {as : List Value} {bs : List (V × (PyData × PyData))}, EachIs (fun v (b : V × (PyData × PyData)) => ∃ as, Reads (sortingHeap (copyHeap s.heap its) (s.heap.objs.size + 1) its) v (prD b.2) as) as bs → (∀ b ∈ bs, b.2 ∈ ps) → EachIs (fun v (b : V × (PyData × PyData)) => (pairKind (sortingHeap (copyHeap s.heap its) (s.heap.objs.size + 1) its) ps).keyOf v = some (keyToks b.2.1)) as bs := by
        intro as bs e
        induction e with
        | nil => intro _; exact .nil
        | cons r t ih =>
          intro hb
          obtain ⟨as', r'⟩ := r
          exact .cons (pairKind_some F (hb _ List.mem_cons_self) r') (ih fun b h => hb b (List.mem_cons_of_mem _ h))
      exact mem e3 fun b hb => by rw [← sn]; exact List.mem_map_of_mem hb
    have eo := sortVals_each (R := fun v (b : V × (PyData × PyData)) => RelV b.1 v) (κ := pairKind (sortingHeap (copyHeap s.heap its) (s.heap.objs.size + 1) its) ps) (rev := false) (fun b => keyToks b.2.1) (ez2.mono fun _ _ q => q.1) key
    have hp : ((us.zip ps).mergeSort (sortLe (listOrd itemOrd) false fun b : V × (PyData × PyData) => keyToks b.2.1)).Perm (us.zip ps) := List.mergeSort_perm _ _
    have eo2 := each_vals (bs := ((us.zip ps).mergeSort (sortLe (listOrd itemOrd) false fun b : V × (PyData × PyData) => keyToks b.2.1)).map fun b => (b.1, prD b.2)) (eachMap (R := fun v (b : V × PyData) => RelV b.1 v) (fun b : V × (PyData × PyData) => (b.1, prD b.2)) eo)
    have e2 : (((us.zip ps).mergeSort (sortLe (listOrd itemOrd) false fun b : V × (PyData × PyData) => keyToks b.2.1)).map fun b => (b.1, prD b.2)).map Prod.snd = (sortP ps).map prD := by
      have := map_sort (Prod.snd : V × (PyData × PyData) → PyData × PyData) Prod.fst (us.zip ps)
      rw [sn] at this
      rw [List.map_map]
      show List.map (fun b : V × (PyData × PyData) => prD b.2) _ = _
      have e3 : ∀ l : List (V × (PyData × PyData)), l.map (fun b : V × (PyData × PyData) => prD b.2) = (l.map Prod.snd).map prD := fun l => by rw [List.map_map]; rfl
      rw [e3]
      exact congrArg (List.map prD) this
    have rd : ∀ G : Hp, RDs X.kx G us (ps.map prD) → RDs X.kx G ((((us.zip ps).mergeSort (sortLe (listOrd itemOrd) false fun b : V × (PyData × PyData) => keyToks b.2.1)).map fun b => (b.1, prD b.2)).map Prod.fst) ((sortP ps).map prD) := fun G hG => by
      have rd := rds_of_all (K := X.kx) (H := G) (bs := ((us.zip ps).mergeSort (sortLe (listOrd itemOrd) false fun b : V × (PyData × PyData) => keyToks b.2.1)).map fun b => (b.1, prD b.2)) fun b hb => by
        obtain ⟨c, hc, rfl⟩ := List.mem_map.mp hb
        have hc := hp.mem_iff.mp hc
        refine (zip_rd hG).2 _ ?_
        rw [List.zip_map_right]
        exact List.mem_map.mpr ⟨c, hc, rfl⟩
      rwa [e2] at rd
    obtain ⟨fr, I2⟩ := sorted_laid (vs := its) I eo2 (by rw [List.length_map, List.length_map, hp.length_eq, List.length_zip]; omega)
    exact ⟨.ref _, _, I2, rfl, q _ _ fr rd⟩
end
end Z

/-! ZI: d.items(), sorted(d.items()). -/
namespace Z
open PySem PySem.Spec PySem.W PyProof.Rows L2 L2.DX Y DT
variable {K : Kx} {X : Cx}
/-- a dict's pairs, as values -/
def Prs (K : Kx) (H : Hp) (a : Addr) (prs : List (V × V)) : Prop := (∃ vs, Rd H a (.dK vs) ∧ prs = vs.map fun p => (kV p.1, p.2)) ∨ ∃ vs, Rd H a (DNo K.P K.w a vs) ∧ prs = vs.map fun p => (V.ref p.2.1, p.2.2)
theorem kV_rel {P : Program} {w : World} {k : Key} {u : Value} (h : (mixKind P w).is k u = true) : RelV (kV k) u := by
  rcases keyIs_shape (show keyIs k u = true from h) with ⟨i, t, rfl, rfl⟩ | ⟨x, t, rfl, rfl⟩
  · exact ⟨t, rfl⟩
  · exact ⟨t, rfl⟩
theorem Prs.raw {pins : List (Addr × Obj)} {σ : L2.St} {H : Hp} {s : Shared} {a : Addr} {prs : List (V × V)} (I : Inv X pins σ H s) (g : Prs X.kx H a prs) : (a == sysModules) = false ∧ prs.length ≤ sizeLine ∧ ∃ es ep, Raw s.heap a es ep ∧ es.size = prs.length ∧
    ∀ (j : Nat) (e : DictEntry), es[j]? = some e → ∃ z, prs[j]? = some z ∧ RelV z.1 e.key ∧ RelV z.2 e.val := by
  rcases g with ⟨vs, e, rfl⟩ | ⟨vs, e, rfl⟩
  · obtain ⟨z, hs, xs, rel, o, es, ep, h1, h2, h3, h4, h5, h6⟩ := dk_rd I.hok e
    obtain ⟨l2, pat⟩ := pairs_at h5
    rw [Array.length_toList] at l2
    have l1 : vs.length = xs.length := Paired.length rel
    refine ⟨hs, by rw [List.length_map]; exact z, es, ep, ⟨o, h1, h2, h3⟩, by rw [List.length_map]; omega, fun j en he => ?_⟩
    obtain ⟨kv, hkv, his, hval⟩ := pat j en (by simpa using he)
    obtain ⟨p, hp, r1, r2⟩ := pd_get' rel hkv
    refine ⟨_, by rw [List.getElem?_map, hp]; rfl, ?_, ?_⟩
    · rw [← r1] at his
      exact kV_rel his
    · rw [hval]; exact r2
  · obtain ⟨⟨z, hs, xs, rel, o, es, ep, h1, h2, h3, h4, h5⟩, _, _⟩ := (show ObjOk X.prog X.w H s.heap a (DNo X.prog X.w a vs) from e.ok I.hok)
    have l1 : vs.length = xs.length := Paired.length rel
    have l2 : es.size = xs.length := size_of_entries h4
    refine ⟨hs, by rw [List.length_map]; exact z, es, ep, ⟨o, h1, h2, h3⟩, by rw [List.length_map]; omega, fun j en he => ?_⟩
    rw [entry_at h4] at he
    cases hx : xs[j]? with
    | none => rw [hx] at he; cases he
    | some x =>
      rw [hx] at he
      cases he
      obtain ⟨p, hp, r1, r2, r3⟩ := pd_get' rel hx
      refine ⟨_, by rw [List.getElem?_map, hp]; rfl, ?_, r3⟩
      show Value.ref x.2.1 = Value.ref p.2.1
      rw [r2]
/-- d.items() -/
def rItemsZ (K : Kx) : V → List V → Hp → VK → Prop := fun x xs H Q => ∃ (a : Addr) (prs : List (V × V)), x = .ref a ∧ xs = [] ∧ Prs K H a prs ∧ ∀ p, H p = none → Q (.ref p) (upd H p (itemsO p a))
theorem mt_itemsZ (hK : X.kx = K) : MtR X "dict.items" (rItemsZ K) := by
  subst hK
  intro pins s σ H x xs v us Q I rx rxs h
  obtain ⟨a, prs, rfl, rfl, hp, q⟩ := h
  cases rx
  cases rxs
  obtain ⟨hs, _, es, ep, raw, _⟩ := hp.raw I
  refine DT.callItems (es := es) (ep := ep) hs raw ?_
  have hf : H s.heap.objs.size = none := I.hok.fresh (Nat.le_refl _)
  exact ⟨.ref s.heap.objs.size, upd H s.heap.objs.size (itemsO s.heap.objs.size a), I.laid (t' := s.toks) (fun b u e => Heap.get?_push_of_some _ e) (Nat.le_refl _) (itemsO_ok (Heap.get?_push_size _ rfl)), rfl, q _ hf⟩
/-- what comes of it -/
def ItRes (H H' : Hp) (l : Addr) (prs : List (V × V)) (ps qs : List (PyData × PyData)) : Prop := ∃ zs : List (Addr × (V × V) × (PyData × PyData)), zs.map (·.2.2) = qs ∧ H' l = some (.lst (zs.map fun z => V.ref z.1)) ∧
  ∀ z ∈ zs, (z.2.1, z.2.2) ∈ prs.zip ps ∧ H z.1 = none ∧ H' z.1 = some (.tup [z.2.1.1, z.2.1.2])
def rSortIt (K : Kx) : List V → Hp → VK → Prop := fun vs H Q => ∃ (p a : Addr) (prs : List (V × V)) (ps : List (PyData × PyData)), vs = [.ref p] ∧ H p = some (itemsO p a) ∧ Prs K H a prs ∧ Paired (fun z d => RD K H z.1 d.1 ∧ RD K H z.2 d.2) prs ps ∧ PyData.hasDictAll (ps.map prD) = false ∧ Firsts ps ∧
  (∀ d ∈ ps, d.1.depth ≤ 50 ∧ d.2.depth ≤ 50) ∧ ∀ (H' : Hp) (l : Addr), (∀ b o, H b = some o → H' b = some o) → H l = none → ItRes H H' l prs ps (sortP ps) → Q (.ref l) H'
theorem noDict_prs : ∀ {ps : List (PyData × PyData)}, PyData.hasDictAll (ps.map prD) = false → ∀ d ∈ ps, d.1.hasDict = false ∧ d.2.hasDict = false
  | [], _, d, h => by cases h
  | p :: ps, e, d, h => by
    rw [List.map_cons] at e
    simp only [PyData.hasDictAll, prD, PyData.hasDict, Bool.or_eq_false_iff] at e
    rcases List.mem_cons.mp h with z | z
    · rw [z]; exact ⟨e.1.1, e.1.2.1⟩
    · exact noDict_prs (by simpa [prD] using e.2) d z
theorem cr_sortItZ (hK : X.kx = K) (hc : X.calm = true) (hu : X.A.units + 64 < cLine) : CallR X (.builtin "sorted") (rSortIt K) := by
  subst hK
  intro pins s σ H xs us Q I r h
  obtain ⟨p, a, prs, ps, rfl, hp, hprs, hrd, nd, F, dep, q⟩ := h
  obtain rfl := Vals.ref1 r
  have view : s.heap.IsItemsView p a := (show ObjOk X.prog X.w H s.heap p (itemsO p a) from I.hok p _ hp).1
  obtain ⟨hs, hz, es, ep, raw, le, pat⟩ := hprs.raw I
  have hh : X.A.handled = none := I.ok.hd hc
  refine DT.sortedI (es := es) (ep := ep) hh view raw (by omega) fun h' tk as hk hlt hl hG => ?_
  have lps := pd_len hrd
  have lak : as.length = ps.length := by omega
  have ndas : as.Nodup := List.Pairwise.imp (fun h => Nat.ne_of_lt h) hG.rise
  have hob : (h'.push { cls := .type "list", data := .seq (as.map Value.ref).toArray }).get? h'.objs.size = some (seqObj "list" (as.map Value.ref).toArray 0) := Heap.get?_push_size _ rfl
  have kb : ∀ b o, s.heap.get? b = some o → (h'.push { cls := .type "list", data := .seq (as.map Value.ref).toArray }).get? b = some o := fun b o e => Heap.get?_push_of_some _ (hk b o e)
  have ne0 : ∀ b o, h'.get? b = some o → b ≠ h'.objs.size := fun b o e => Nat.ne_of_lt (Heap.lt_size e)
  generalize hh2 : h'.push { cls := .type "list", data := .seq (as.map Value.ref).toArray } = h2 at hob kb ⊢
  have ka : ∀ b o, h'.get? b = some o → h2.get? b = some o := fun b o e => by rw [← hh2]; exact Heap.get?_push_of_some _ e
  -- each new tuple, its pair
  have pr : ∀ (j : Nat) (b : Addr), as[j]? = some b → ∃ (z : V × V) (d : PyData × PyData) (u1 u2 : Value), prs[j]? = some z ∧ ps[j]? = some d ∧ RelV z.1 u1 ∧ RelV z.2 u2 ∧ RD X.kx H z.1 d.1 ∧ RD X.kx H z.2 d.2 ∧ h'.get? b = some { cls := .type "tuple", data := .seq #[u1, u2] } := fun j b hj => by
    obtain ⟨en, he, hg⟩ := hG.pairs j b hj
    obtain ⟨z, hz, r1, r2⟩ := pat j en he
    obtain ⟨d, hd, d1, d2⟩ := pd_get hrd hz
    exact ⟨z, d, en.key, en.val, hz, hd, r1, r2, d1, d2, hg⟩
  have I1 : Inv X pins σ H { s with heap := h2, toks := tk } := I.kept (t' := tk) kb
  -- the reads
  have reads : ∀ (j : Nat) (b : Addr) (d : PyData × PyData), as[j]? = some b → ps[j]? = some d → ∀ hx : Heap, (∀ c o, h'.get? c = some o → hx.get? c = some o) → ∃ ws, Reads hx (.ref b) (prD d) ws := fun j b d hj hd hx kx => by
    obtain ⟨z, d', u1, u2, hz, hd', r1, r2, d1, d2, hg⟩ := pr j b hj
    have ed : d' = d := Option.some.inj (hd'.symm.trans hd)
    subst ed
    obtain ⟨n1, n2⟩ := noDict_prs nd d' (List.mem_of_getElem? hd')
    have Ix : Inv X pins σ H { s with heap := h', toks := tk } := I.kept (t' := tk) hk
    obtain ⟨a1, q1⟩ := d1.reads Ix n1 u1 r1
    obtain ⟨a2, q2⟩ := d2.reads Ix n2 u2 r2
    exact ⟨_, Reads.tuple (kx _ _ hg) rfl rfl (ReadsAll.cons (PyProof.Rows.Reads.keeps (fun _ _ e => kx _ _ e) q1) (ReadsAll.cons (PyProof.Rows.Reads.keeps (fun _ _ e => kx _ _ e) q2) ReadsAll.nil))⟩
  have eachR : ∀ hx : Heap, (∀ c o, h'.get? c = some o → hx.get? c = some o) → EachIs (fun v (b : Addr × (PyData × PyData)) => v = .ref b.1 ∧ ∃ ws, Reads hx v (prD b.2) ws) (as.map Value.ref) (as.zip ps) := fun hx kx => by
    refine EachIs.of_zip (by rw [List.length_map, List.length_zip]; omega) fun z hz => ?_
    obtain ⟨j, hj⟩ := List.mem_iff_getElem?.mp hz
    obtain ⟨h1, h3⟩ := List.getElem?_zip_eq_some.mp hj
    obtain ⟨h4, h5⟩ := List.getElem?_zip_eq_some.mp h3
    rw [List.getElem?_map, h4] at h1
    have h1 := Option.some.inj h1
    exact ⟨h1.symm, by rw [← h1]; exact reads j _ _ h4 h5 hx kx⟩
  have sn : (as.zip ps).map Prod.snd = ps := by rw [List.map_snd_zip]; omega
  -- the sort
  have kS : ∀ c o, h'.get? c = some o → (sortingHeap h2 h'.objs.size (as.map Value.ref)).get? c = some o := fun c o e => sortingHeap_old (ne0 c o e) (ka c o e)
  have eS := eachR _ kS
  have e1 : EachIs (fun v (d : PyData × PyData) => ∃ ws, Reads (sortingHeap h2 h'.objs.size (as.map Value.ref)) v (prD d) ws) (as.map Value.ref) ps := by
    have := eachMap (R := fun v (d : PyData × PyData) => ∃ ws, Reads (sortingHeap h2 h'.objs.size (as.map Value.ref)) v (prD d) ws) (Prod.snd : Addr × (PyData × PyData) → PyData × PyData) (eS.mono fun _ _ q => q.2)
    rwa [sn] at this
  have lenR : (as.map Value.ref).length ≤ sizeLine := by rw [List.length_map]; omega
  refine wpAny_call_entry PyProof.Rows.slot_list_sort ⟨_, hob, rfl⟩ PyProof.Rows.entry_list_sort (list_sort_vals (s := { s with heap := h2, toks := tk }) hob (sorts_pairs (s := { s with heap := sortingHeap h2 h'.objs.size (as.map Value.ref), toks := tk }) e1 F fun d hd => ?_) lenR ⟨.none, rfl, ?_⟩) (PyProof.Rows.args_list_sort _)
  · obtain ⟨d1, d2⟩ := dep d hd
    show X.A.units + 1 + 1 + 1 + d.1.depth < cLine ∧ X.A.units + 1 + 1 + 1 + d.2.depth < cLine
    omega
  have key : EachIs (fun v (b : Addr × (PyData × PyData)) => (pairKind (sortingHeap h2 h'.objs.size (as.map Value.ref)) ps).keyOf v = some (keyToks b.2.1)) (as.map Value.ref) (as.zip ps) := by
    have mem : ∀ {l : List Value} {bs : List (Addr × (PyData × PyData))}, EachIs (fun v (b : Addr × (PyData × PyData)) => v = .ref b.1 ∧ ∃ ws, Reads (sortingHeap h2 h'.objs.size (as.map Value.ref)) v (prD b.2) ws) l bs → (∀ b ∈ bs, b.2 ∈ ps) → EachIs (fun v (b : Addr × (PyData × PyData)) => (pairKind (sortingHeap h2 h'.objs.size (as.map Value.ref)) ps).keyOf v = some (keyToks b.2.1)) l bs := by
      intro l bs e
      induction e with
      | nil => intro _; exact .nil
      | cons r t ih =>
        intro hb
        obtain ⟨_, as', r'⟩ := r
        exact .cons (pairKind_some F (hb _ List.mem_cons_self) r') (ih fun b h => hb b (List.mem_cons_of_mem _ h))
    exact mem eS fun b hb => by rw [← sn]; exact List.mem_map_of_mem hb
  have eo := sortVals_each (R := fun v (b : Addr × (PyData × PyData)) => v = Value.ref b.1) (κ := pairKind (sortingHeap h2 h'.objs.size (as.map Value.ref)) ps) (rev := false) (fun b => keyToks b.2.1) (eS.mono fun _ _ q => q.1) key
  generalize hout : sortVals (pairKind (sortingHeap h2 h'.objs.size (as.map Value.ref)) ps) false (as.map Value.ref) (as.map Value.ref) = out at eo
  obtain ⟨bs, hbs⟩ : ∃ bs, ((as.zip ps).mergeSort (sortLe (listOrd itemOrd) false fun b : Addr × (PyData × PyData) => keyToks b.2.1)) = bs := ⟨_, rfl⟩
  have eo : EachIs (fun v (b : Addr × (PyData × PyData)) => v = Value.ref b.1) out bs := by
    rw [← hbs]
    exact eo
  have hperm : bs.Perm (as.zip ps) := by rw [← hbs]; exact List.mergeSort_perm _ _
  have hbp : bs.map Prod.snd = sortP ps := by
    rw [← hbs]
    have := map_sort (Prod.snd : Addr × (PyData × PyData) → PyData × PyData) Prod.fst (as.zip ps)
    rw [sn] at this
    exact this
  have eout : out = bs.map fun b => Value.ref b.1 := by
    have gen : ∀ {l : List Value} {bs : List (Addr × (PyData × PyData))}, EachIs (fun v (b : Addr × (PyData × PyData)) => v = Value.ref b.1) l bs → l = bs.map fun b => Value.ref b.1 := by
      intro l bs e
      induction e with
      | nil => rfl
      | cons r t ih => rw [List.map_cons, r, ih]
    exact gen eo
  show EP X pins σ Q (.ref h'.objs.size) { s with heap := sortedHeap h2 h'.objs.size (as.map Value.ref) out.toArray, toks := tk }
  have kF : ∀ b o, b ≠ h'.objs.size → h2.get? b = some o → (sortedHeap h2 h'.objs.size (as.map Value.ref) out.toArray).get? b = some o := fun b o hb e => (PyProof.Rows.sortedHeap_old hb (Heap.lt_size e)).trans e
  have kS2 : ∀ b o, s.heap.get? b = some o → (sortedHeap h2 h'.objs.size (as.map Value.ref) out.toArray).get? b = some o := fun b o e => kF b o (ne0 _ _ (hk b o e)) (kb b o e)
  obtain ⟨eF, heF⟩ := PyProof.Rows.sortedHeap_at (vs := as.map Value.ref) (out := out.toArray) hob
  have I2 : Inv X pins σ H { s with heap := sortedHeap h2 h'.objs.size (as.map Value.ref) out.toArray, toks := tk } := I.kept (t' := tk) kS2
  have hn0 : H h'.objs.size = none := I.hok.fresh (Nat.le_of_lt hlt)
  have hlen : (bs.map fun b => V.ref b.1).length ≤ sizeLine := by rw [List.length_map, hperm.length_eq, List.length_zip]; omega
  have rv : Vals (bs.map fun b => V.ref b.1) out := by
    rw [eout]
    exact vals_maps (fun b : Addr × (PyData × PyData) => V.ref b.1) (fun b => Value.ref b.1) bs fun _ _ => rfl
  have I3 : Inv X pins σ (upd H h'.objs.size (.lst (bs.map fun b => V.ref b.1))) { s with heap := sortedHeap h2 h'.objs.size (as.map Value.ref) out.toArray, toks := tk } :=
    I2.take (h' := sortedHeap h2 h'.objs.size (as.map Value.ref) out.toArray) (t' := tk) (fun b ob _ e => e) (I.fpOk (Nat.le_of_lt hlt) hn0) ⟨hlen, out, eF, rv, heF⟩
  obtain ⟨H2, I4, g, qt⟩ := L2.DX.takeT (P := fun b vs => ∃ (j : Nat) (z : V × V) (d : PyData × PyData), as[j]? = some b ∧ prs[j]? = some z ∧ ps[j]? = some d ∧ vs = [z.1, z.2]) I as _ I3 ndas fun b hb => by
    obtain ⟨j, hj⟩ := List.mem_iff_getElem?.mp hb
    obtain ⟨z, d, u1, u2, hz, hd, r1, r2, _, _, hg⟩ := pr j b hj
    have hbl : s.heap.objs.size ≤ b := Nat.le_of_lt (hG.above b hb)
    refine ⟨hbl, ?_, [z.1, z.2], ⟨j, z, d, hj, hz, hd, rfl⟩, fun H3 => ⟨(by rw [sizeLine_eq]; show 2 ≤ 16777216; omega), [u1, u2], .cons r1 (.cons r2 .nil), ⟨_, kF _ _ (ne0 _ _ hg) (ka _ _ hg), rfl, 0, rfl⟩⟩⟩
    rw [upd_ne (ne0 _ _ hg)]
    exact I.hok.fresh hbl
  have gr : ∀ b o, H b = some o → H2 b = some o := fun b o e => g b o (by rw [upd_ne (ne_of_none e hn0)]; exact e)
  -- each item of the list
  have inv : ∀ c ∈ bs, ∃ j : Nat, as[j]? = some c.1 ∧ ps[j]? = some c.2 := fun c hc => by
    obtain ⟨j, hj⟩ := List.mem_iff_getElem?.mp (hperm.mem_iff.mp hc)
    exact ⟨j, List.getElem?_zip_eq_some.mp hj⟩
  have ex : ∀ l : List (Addr × (PyData × PyData)), (∀ c ∈ l, c ∈ bs) → ∃ zs : List (Addr × (V × V) × (PyData × PyData)), zs.map (fun z => (z.1, z.2.2)) = l ∧ ∀ z ∈ zs, (z.2.1, z.2.2) ∈ prs.zip ps ∧ H z.1 = none ∧ H2 z.1 = some (.tup [z.2.1.1, z.2.1.2]) := by
    intro l
    induction l with
    | nil => intro _; exact ⟨[], rfl, fun z hz => by cases hz⟩
    | cons c l ih =>
      intro hl
      obtain ⟨zs, h1, h3⟩ := ih fun c hc => hl c (List.mem_cons_of_mem _ hc)
      obtain ⟨i, i1, i2⟩ := inv c (hl c List.mem_cons_self)
      obtain ⟨vs, ⟨j, z, d, j1, j2, j3, ev⟩, hH⟩ := qt c.1 (List.mem_of_getElem? i1)
      have eij : i = j := (List.getElem?_inj (List.getElem?_eq_some_iff.mp i1).1 ndas).mp (i1.trans j1.symm)
      subst eij
      have ed : d = c.2 := Option.some.inj (j3.symm.trans i2)
      subst ed
      rw [ev] at hH
      refine ⟨(c.1, z, c.2) :: zs, by rw [List.map_cons, h1], fun y hy => ?_⟩
      rcases List.mem_cons.mp hy with e | hy
      · rw [e]
        exact ⟨List.mem_of_getElem? (List.getElem?_zip_eq_some.mpr ⟨j2, j3⟩), I.hok.fresh (Nat.le_of_lt (hG.above _ (List.mem_of_getElem? i1))), hH⟩
      · exact h3 y hy
  obtain ⟨zs, z1, z2⟩ := ex bs fun _ h => h
  refine ⟨.ref h'.objs.size, H2, I4, rfl, q H2 h'.objs.size gr hn0 ⟨zs, ?_, ?_, z2⟩⟩
  · have := congrArg (List.map Prod.snd) z1
    rw [List.map_map, hbp] at this
    exact this
  · rw [g _ _ upd_same, ← z1, List.map_map]
    rfl
end Z

/-! ZE: dict(..), d.update(..). -/
namespace Z
open PySem PySem.Spec PyProof.Rows L2 Y
variable {K : Kx} {X : Cx}
/-! ### hashes that no world changes -/
mutual
def ihash : NK → Option Int
  | .num i => some (hashInt i)
  | .tup ks => match ihashes ks with
    | some hs => some (reduceHash (Builtin.Tuple.tupleHashOf hs))
    | none => none
  | _ => none
def ihashes : List NK → Option (List Int)
  | [] => some []
  | k :: ks => match ihash k, ihashes ks with
    | some h, some hs => some (h :: hs)
    | _, _ => none
end
mutual
theorem ihash_is (w : World) : ∀ (k : NK) {h : Int}, ihash k = some h → k.hash w = h
  | .num i, h, e => by simp only [ihash] at e; cases e; rfl
  | .tup ks, h, e => by
    simp only [ihash] at e
    split at e
    · rename_i hs hh
      cases e
      show reduceHash (Builtin.Tuple.tupleHashOf (NestedKey.hashes w ks)) = _
      rw [ihashes_is w ks hh]
    · cases e
  | .none, h, e => by simp [ihash] at e
  | .text _, h, e => by simp [ihash] at e
theorem ihashes_is (w : World) : ∀ (k : List NK) {h : List Int}, ihashes k = some h → NestedKey.hashes w k = h
  | [], h, e => by simp only [ihashes] at e; cases e; rfl
  | k :: ks, h, e => by
    simp only [ihashes] at e
    split at e
    · rename_i x xs h1 h2
      cases e
      show NestedKey.hash w k :: NestedKey.hashes w ks = _
      rw [ihash_is w k h1, ihashes_is w ks h2]
    · cases e
end
/-- the keys' hashes, where they are no world's -/
def hashesD {β : Type} : List (PyData × β) → Option (List Int)
  | [] => some []
  | p :: r => match keyD p.1 with
    | some k => (match ihash k, hashesD r with
      | some h, some hs => some (h :: hs)
      | _, _ => none)
    | none => none
def apartD {β : Type} (kvs : List (PyData × β)) : Bool := match hashesD kvs with
  | some hs => decide hs.Nodup
  | none => false
theorem hashes_at {G : Hp} {μ : List Addr} (w : World) : ∀ {vs : NKV} {kvs : List (PyData × W)}, Paired (RKn K G μ) vs kvs → ∀ {hs : List Int}, hashesD kvs = some hs → vs.map (fun x => x.1.hash w) = hs
  | _, _, .nil, hs, e => by simp only [hashesD] at e; cases e; rfl
  | _, _, .cons r t, hs, e => by
    simp only [hashesD] at e
    rw [r.2.1] at e
    dsimp only at e
    split at e
    · rename_i h hs' h1 h2
      cases e
      rw [List.map_cons, ihash_is w _ h1, hashes_at w t h2]
    · cases e
theorem apart_at {G : Hp} {μ : List Addr} (w : World) {vs : NKV} {kvs : List (PyData × W)} (p : Paired (RKn K G μ) vs kvs) (h : apartD kvs = true) : (vs.map fun x => x.1.hash w).Nodup := by
  unfold apartD at h
  split at h
  · rename_i hs e
    rw [hashes_at w p e]
    exact of_decide_eq_true h
  · cases h
section
variable {pins : List (Addr × Obj)} {σ : L2.St} {H : Hp} {s : Shared} {a : Addr}
theorem nrel_map (f : NK → Int) {vs : NKV} {xs : List (NK × Addr × Value)} (r : NRel vs xs) : xs.map (fun x => f x.1) = vs.map fun x => f x.1 := by
  unfold NRel at r
  induction r with
  | nil => rfl
  | cons h t ih => rw [List.map_cons, List.map_cons, ih, h.1]
theorem typ_of (ok : HOk X.prog X.w H s.heap) {vs : NKV} {xs : List (NK × Addr × Value)} (r : NRel vs xs) (dd : s.heap.DictOfH (nestedKind X.prog X.w) a xs) (ht : ∀ x ∈ vs, ∃ ys, H x.2.1 = some (.tup ys)) : ∀ x ∈ xs, s.TypeIs (.ref x.2.1) "tuple" := by
  intro x hx
  obtain ⟨i, hi⟩ := List.getElem?_of_mem hx
  obtain ⟨p, hp, q1, q2, _⟩ := pd_get' r hi
  obtain ⟨ys, hy⟩ := ht p (List.mem_of_getElem? hp)
  rw [q2] at hy
  obtain ⟨_, its, _, o, h1, h2, _⟩ := ok _ _ hy
  exact ⟨o, h1, h2⟩
/-- the keys stay where they stand -/
theorem keys_stay (ok : HOk X.prog X.w H s.heap) {vs : NKV} (ko : KeysOk H vs) {h' : Heap} (hk : ∀ b o, s.heap.get? b = some o → h'.get? b = some o) : ∀ x ∈ vs, (nestedKind X.prog X.w).is h' x.1 x.2.1 := fun x hx => by
  obtain ⟨k1, k2⟩ := ko x hx
  have := keyN_is (P := X.prog) (w := X.w) ok k1 k2
  exact ⟨NestedIs.at (fun b ob _ _ e _ => hk b ob e) _ _ this.1, this.2⟩
theorem stay_rel {vs : NKV} {xs : List (NK × Addr × Value)} (r : NRel vs xs) {h' : Heap} (h : ∀ x ∈ vs, (nestedKind X.prog X.w).is h' x.1 x.2.1) : ∀ x ∈ xs, (nestedKind X.prog X.w).is h' x.1 x.2.1 := fun x hx => by
  obtain ⟨i, hi⟩ := List.getElem?_of_mem hx
  obtain ⟨p, hp, q1, q2, _⟩ := pd_get' r hi
  have := h p (List.mem_of_getElem? hp)
  rwa [q1, q2] at this
/-! ### dict(d): a copy, keys tuples -/
def TupKeys (H : Hp) (vs : NKV) : Prop := ∀ x ∈ vs, ∃ ys, H x.2.1 = some (.tup ys)
def rCopyN (K : Kx) : List V → Hp → VK → Prop := fun xs H Q => ∃ (a : Addr) (kvs : NKV), xs = [.ref a] ∧ Rd H a (DNo K.P K.w a kvs) ∧ KeysOk H kvs ∧ TupKeys H kvs ∧ (kvs.map fun x => x.1.hash K.w).Nodup ∧ ∀ p, H p = none → Q (.ref p) (upd H p (DNo K.P K.w p kvs))
theorem cr_copyN (hK : X.kx = K) (hu : X.A.units + 64 < cLine) : CallR X (.type "dict") (rCopyN K) := by
  subst hK
  intro pins s σ H xs us Q I r q
  obtain ⟨a, kvs, ex, hd, ko, tk, ap, q⟩ := q
  subst ex
  obtain ⟨u, eu, rx⟩ := vals1 r
  subst eu
  cases rx
  obtain ⟨z, lo, vs, rel, dd⟩ := dn_rd I.hok hd ko
  have hbig : (s.heap.objs.size == sysModules) = false := beq_eq_false_iff_ne.mpr (Nat.ne_of_gt I.big)
  refine callType_codes (Q₁ := fun obj s₁ => obj = .ref s.heap.objs.size ∧ s₁ = { s with heap := s.heap.push { cls := .type "dict", data := .dict #[] } }) PySem.F.kt_called_dict (PySem.F.kt_typeCall_dict_1 _) PySem.F.entry_dict_init (kt_code_dict_new _ ⟨rfl, rfl⟩) ?_
  rintro obj s₁ ⟨rfl, rfl⟩
  have hpush : ∀ b o, s.heap.get? b = some o → (s.heap.push { cls := .type "dict", data := .dict #[] }).get? b = some o := fun b o e => Heap.get?_push_of_some _ e
  have hnew : (s.heap.push { cls := .type "dict", data := .dict #[] }).DictOfH (nestedKind X.prog X.w) s.heap.objs.size [] := Heap.DictOfH.new s.heap
  have ho' : (s.heap.push { cls := .type "dict", data := .dict #[] }).DictOfH (nestedKind X.prog X.w) a vs := dd.at' (fun o e => hpush _ _ e) (stay_rel rel (keys_stay I.hok ko hpush))
  have hdo : s.heap.objs.size ≠ a := fun e => absurd dd.lt_size (by rw [← e]; exact Nat.lt_irrefl _)
  refine ⟨hnew.typeIs, PySem.F.args_dict_init_2 _ _, ?_⟩
  unfold Builtin.«dict.__init__»
  refine wpAny_bind ?_
  unfold Builtin.Dict.selfAndRest
  refine wpAny_bind (wpAny_notOrdered_dict hnew.typeIs ?_)
  show wpAny _ _ (pure (s.heap.objs.size, [Value.ref a])) _ _ _
  refine wpAny_pure ?_
  have ht : ∀ x ∈ vs, Shared.TypeIs { s with heap := s.heap.push { cls := .type "dict", data := .dict #[] } } (.ref x.2.1) "tuple" := fun x hx => by
    obtain ⟨o, h1, h2⟩ := typ_of I.hok rel dd tk x hx
    exact ⟨o, hpush _ _ h1, h2⟩
  refine updateFrom_dictH (knd := nestedKind X.prog X.w) .none (show X.A.in1.in1.units + 8 < cLine by show X.A.units + 1 + 1 + 8 < cLine; omega) hdo lo hnew ho' (.inr ⟨ht, ?_⟩) (by rw [List.length_nil, Nat.zero_add, ← rel.len]; exact z) fun h' hd' _ hs => ?_
  · have := nrel_map (fun k => k.hash X.w) rel
    show (vs.map fun x => x.1.hash X.w).Nodup
    rw [this]
    exact ap
  · rw [storedAllH_nil_of_nodup vs dd.nodup] at hd'
    refine ⟨rfl, .ref s.heap.objs.size, upd H s.heap.objs.size (DNo X.prog X.w s.heap.objs.size kvs), I.laid (t' := s.toks) (fun b o e => ?_) (Nat.le_refl _) (dno_new (dn_of z hbig rel hd')), rfl, q _ (I.hok.fresh (Nat.le_refl _))⟩
    exact (hs.2 b (Nat.ne_of_lt (Heap.lt_size e))).trans (hpush b o e)
/-! ### dict(pairs), keys tuples -/
def putsN (kvs ps : NKV) : NKV := ps.foldl (fun acc p => putN acc p.1 p.2.1 p.2.2) kvs
theorem NRel.puts : ∀ {ps : NKV} {qs : List (NK × Addr × Value)} {kvs : NKV} {vs : List (NK × Addr × Value)}, NRel ps qs → NRel kvs vs → NRel (putsN kvs ps) (storedAllH vs qs)
  | _, _, _, _, .nil, r => r
  | p :: ps, q :: qs, kvs, vs, .cons h t, r => by
    show NRel (putsN (putN kvs p.1 p.2.1 p.2.2) ps) (storedAllH (storedH vs q.1 q.2.1 q.2.2) qs)
    rw [h.1, h.2.1]
    exact NRel.puts t (r.put _ _ h.2.2)
theorem putsN_len : ∀ (ps kvs : NKV), (putsN kvs ps).length ≤ kvs.length + ps.length
  | [], kvs => by simp [putsN]
  | p :: ps, kvs => by
    have h1 := putsN_len ps (putN kvs p.1 p.2.1 p.2.2)
    have h2 := putN_len kvs p.1 p.2.1 p.2.2
    have h3 : putsN kvs (p :: ps) = putsN (putN kvs p.1 p.2.1 p.2.2) ps := rfl
    rw [h3, List.length_cons]
    omega
theorem pairsN_of (I : Inv X pins σ H s) : ∀ {ps : List Addr} {kvs : NKV}, Paired (fun p z => SqT X.K H p [.ref z.2.1, z.2.2]) ps kvs →
    ∃ prs : List (NK × Addr × Value), NRel kvs prs ∧ prs.length = ps.length ∧ ∀ (j : Nat) (q : NK × Addr × Value), prs[j]? = some q → ∃ b : Addr, ps[j]? = some b ∧ IsTup s.heap b #[.ref q.2.1, q.2.2]
  | _, _, .nil => ⟨[], .nil, rfl, fun j q e => by simp at e⟩
  | _, _, .cons (a := p) (b := kv) h t => by
    obtain ⟨prs, r, hl, hp⟩ := pairsN_of I t
    obtain ⟨its, rv, ht, _⟩ := I.tuple h
    obtain ⟨u, y, ei, ru, ry⟩ := vals2 rv
    subst ei
    cases (show u = Value.ref kv.2.1 from ru)
    refine ⟨(kv.1, kv.2.1, y) :: prs, .cons ⟨rfl, rfl, ry⟩ r, by rw [List.length_cons, List.length_cons, hl], fun j q e => ?_⟩
    cases j with
    | zero =>
      have e' : (kv.1, kv.2.1, y) = q := Option.some.inj e
      subst e'
      exact ⟨p, rfl, ht⟩
    | succ j =>
      obtain ⟨b, e1, e2⟩ := hp j q (by simpa using e)
      exact ⟨b, by simpa using e1, e2⟩
def rDictPN (K : Kx) : List V → Hp → VK → Prop := fun xs H Q => ∃ (a : Addr) (ps : List Addr) (kvs : NKV), xs = [.ref a] ∧ SqL K.k H a (ps.map V.ref) ∧ Paired (fun p z => SqT K.k H p [.ref z.2.1, z.2.2]) ps kvs ∧ KeysOk H kvs ∧
  ∀ p, H p = none → Q (.ref p) (upd H p (DNo K.P K.w p (putsN [] kvs)))
theorem cr_dictPN (hK : X.kx = K) (hcalm : X.calm = true) (hu : X.A.units + 64 < cLine) : CallR X (.type "dict") (rDictPN K) := by
  subst hK
  intro pins s σ H xs us Q I r q
  obtain ⟨a, ps, kvs, ex, hq, hp, ko, q⟩ := q
  subst ex
  obtain ⟨u, eu, rx⟩ := vals1 r
  subst eu
  cases rx
  obtain ⟨its, rv, pl, hz⟩ := I.list hq
  have ei := refs_at rv
  subst ei
  rw [List.length_map] at hz
  obtain ⟨prs, rel, hl, hpr⟩ := pairsN_of I hp
  obtain ⟨o, n, ho, hc, hd, hdat⟩ := pl
  have hbig : (s.heap.objs.size == sysModules) = false := beq_eq_false_iff_ne.mpr (Nat.ne_of_gt I.big)
  have hln : kvs.length = prs.length := rel.len
  refine call_dict_pairsH (knd := nestedKind X.prog X.w) (ps := prs) (PairArg.list (prog := X.prog) (w := X.w) a (ps.map Value.ref).toArray (fun j => ps.getD j 0) (prs.map fun x => (Value.ref x.2.1, x.2.2))) (I.ok.hd hcalm) (show X.A.in1.in1.units + 8 < cLine by show X.A.units + 1 + 1 + 8 < cLine; omega)
    ⟨⟨o, n, ho, hc, hd, hdat⟩, by simp [hl], fun j k v e => ?_⟩ ⟨by simp, fun i key v e => ?_⟩ (fun h' hk x hx => ?_) (by simp [hl]; exact hz) fun h' tk hd' k => ?_
  · rw [List.getElem?_map] at e
    cases hj : prs[j]? with
    | none => rw [hj] at e; cases e
    | some x =>
      rw [hj] at e
      cases e
      obtain ⟨b, e1, e2⟩ := hpr j x hj
      have e3 : ps.getD j 0 = b := by simp [e1]
      dsimp only
      rw [e3]
      exact ⟨by simp [e1], .inl e2⟩
  · rw [PairRel, List.getElem?_map] at e
    cases hj : prs[i]? with
    | none => rw [hj] at e; cases e
    | some x =>
      rw [hj] at e
      cases e
      exact ⟨x.1, x.2.1, rfl, rfl⟩
  · exact stay_rel rel (keys_stay I.hok ko (fun b o e => hk b o (Nat.ne_of_lt (Heap.lt_size e)) (fun z => nomatch z) e)) x hx
  · have h1 := putsN_len kvs []
    rw [List.length_nil, Nat.zero_add] at h1
    refine ⟨.ref s.heap.objs.size, upd H s.heap.objs.size (DNo X.prog X.w s.heap.objs.size (putsN [] kvs)), I.laid (t' := tk) (fun b o e => k b o (fun z => nomatch z) e) (Nat.le_refl _) (dno_new (dn_of (by omega) hbig (NRel.puts rel .nil) hd')), rfl, q _ (I.hok.fresh (Nat.le_refl _))⟩
/-! ### d.update(d2) -/
def UpdZ (K : Kx) (H : Hp) (d a : Addr) (H' : Hp) : Prop := (∃ vs ms, H d = some (.dK vs) ∧ Rd H a (.dK ms) ∧ vs.length + ms.length ≤ sizeLine ∧ H' = upd H d (.dK (mergeK vs ms))) ∨
  ∃ vs ms, NAt K H d vs ∧ ((Rd H a (DNo K.P K.w a ms) ∧ KeysOk H ms ∧ TupKeys H ms ∧ (vs ≠ [] ∨ (ms.map fun x => x.1.hash K.w).Nodup)) ∨ (Rd H a (.dK []) ∧ ms = [])) ∧ vs.length + ms.length ≤ sizeLine ∧ H' = upd H d (DNo K.P K.w d (putsN vs ms))
def rUpdateZ (K : Kx) : V → List V → Hp → VK → Prop := fun x xs H Q => ∃ (d a : Addr) (H' : Hp), x = .ref d ∧ xs = [.ref a] ∧ d ≠ a ∧ UpdZ K H d a H' ∧ Q .non H'
theorem mt_updateZ (hK : X.kx = K) (hu : X.A.units + 64 < cLine) : MtR X "dict.update" (rUpdateZ K) := by
  subst hK
  intro pins s σ H x xs v us Q I rx rxs q
  obtain ⟨d, a, H', ex, exs, hda, up, q⟩ := q
  subst ex; subst exs
  cases rx
  obtain ⟨u, eu, ra⟩ := vals1 rxs
  subst eu
  cases ra
  rcases up with ⟨vs, ms, hd, ha, hl, rfl⟩ | ⟨vs, ms, na, ⟨ha, ko, tk, ap⟩ | ⟨ha, rfl⟩, hl, rfl⟩
  · obtain ⟨_, hs, ws, rel, dd⟩ := dk_rd I.hok (.inl hd)
    obtain ⟨_, lo, ns, rel2, dd2⟩ := dk_rd I.hok ha
    refine call_meetsIn PySem.F.slot_dict_update dd.typeIs PySem.F.entry_dict_update (PySem.F.args_dict_update_2 _ _) (meets_dict_update (mixKind X.prog X.w) d a hda lo) ⟨ws, ns, dd, dd2, by rw [← rel.length, ← rel2.length]; exact hl, fun h' hm' _ hsb => ?_⟩
    have he : ∃ q, h'.get? d = some q := let ⟨q, _, _, hq, _⟩ := hm'; ⟨q, hq⟩
    exact ⟨.non, _, d_write I (by rw [hd]; exact True.intro) hsb he (dk_new (Nat.le_trans (length_mergeK ms vs) hl) hs (KV.merge rel2 rel) hm'), rfl, q⟩
  · obtain ⟨z, hs, mu, ws, rel, dd⟩ := na.low I
    obtain ⟨_, lo, ns, rel2, dd2⟩ := dn_rd I.hok ha ko
    refine call_update_dictH (knd := nestedKind X.prog X.w) (show X.A.in1.units + 8 < cLine by show X.A.units + 1 + 8 < cLine; omega) hda lo dd dd2 ?_ (by rw [← rel.len, ← rel2.len]; exact hl) fun h' hm' _ hsb => ?_
    · rcases ap with ap | ap
      · exact .inl fun e => ap (by
          subst e
          cases rel
          rfl)
      · refine .inr ⟨typ_of I.hok rel2 dd2 tk, ?_⟩
        have := nrel_map (fun k => k.hash X.w) rel2
        show (ns.map fun x => x.1.hash X.w).Nodup
        rw [this]
        exact ap
    · have he : ∃ q, h'.get? d = some q := let ⟨q, _, _, hq, _⟩ := hm'; ⟨q, hq⟩
      exact ⟨.non, _, d_write I mu hsb he (dno_new (dn_of (Nat.le_trans (putsN_len ms vs) hl) hs (NRel.puts rel2 rel) hm')), rfl, q⟩
  · obtain ⟨z, hs, mu, ws, rel, dd⟩ := na.low I
    obtain ⟨lo, dd2⟩ := dk_nil I.hok ha
    refine call_update_dictH (knd := nestedKind X.prog X.w) (show X.A.in1.units + 8 < cLine by show X.A.units + 1 + 8 < cLine; omega) hda lo dd dd2 (.inr ⟨fun x hx => (by cases hx), List.nodup_nil⟩) (by rw [← rel.len]; exact hl) fun h' hm' _ hsb => ?_
    have he : ∃ q, h'.get? d = some q := let ⟨q, _, _, hq, _⟩ := hm'; ⟨q, hq⟩
    exact ⟨.non, _, d_write I mu hsb he (dno_new (dn_of (Nat.le_trans (putsN_len [] vs) hl) hs (NRel.puts .nil rel) hm')), rfl, q⟩
end
end Z

/-! ZF: dict(..), d.update(..), sorted(..) as rules. -/
namespace Z
open PySem PySem.Spec PyProof.Rows L2 Y
variable {K : Kx} {X : Cx}
section
variable {G H : Hp} {μ : List Addr} {S : Store}
/-! ### dict(x) -/
def pairW : W → Option (PyData × PyData)
  | .d (.tuple [k, v]) => some (k, v)
  | _ => none
def pairsW : List W → Option (List (PyData × PyData))
  | [] => some []
  | w :: ws => match pairW w, pairsW ws with
    | some p, some ps => some (p :: ps)
    | _, _ => none
def putsD {β : Type} (kvs ps : List (PyData × β)) : List (PyData × β) := ps.foldl (fun acc p => putD acc p.1 p.2) kvs
def wpairs (ps : List (PyData × PyData)) : List (PyData × W) := ps.map fun p => (p.1, W.d p.2)
def dictW : Store → List W → Option (W × Store) := fun S ws => match ws with
  | [w] => (match dictOf S w with
    | some kvs => if (headFits false kvs || apartD kvs) = true then some (.c S.length, S ++ [.dic kvs]) else none
    | none => (match itemsL S w with
      | some xs => (match pairsW xs with
        | some ps => if ((ps.all fun p => (leafK p.1).isSome) || (ps.all fun p => goodTup p.1)) = true then some (.c S.length, S ++ [.dic (putsD [] (wpairs ps))]) else none
        | none => none)
      | none => none))
  | _ => none
theorem tupKeys_of {vs : NKV} {kvs : List (PyData × W)} (sub : Same G H) (p : Paired (RKn K G μ) vs kvs) : TupKeys H vs := by
  intro x hx
  obtain ⟨i, hi⟩ := List.getElem?_of_mem hx
  obtain ⟨⟨qd, qw⟩, _, h1, h2, _⟩ := pd_get p hi
  dsimp only at h1 h2
  clear p hx hi
  generalize hr : V.ref x.2.1 = r at h1
  cases h1 with
  | tup h3 h4 => cases hr; exact ⟨_, sub _ _ h3⟩
  | lst h3 h4 => simp only [keyD] at h2; cases h2
  | dK h3 h4 => simp only [keyD] at h2; cases h2
  | dN h3 h4 => simp only [keyD] at h2; cases h2
  | _ => cases hr
theorem leafP : ∀ {xs : List W} {us : List V} {ps : List (PyData × PyData)}, Same G H → Paired (RW K G μ) us xs → pairsW xs = some ps → (ps.all fun p => (leafK p.1).isSome) = true →
    ∃ (as : List Addr) (kvs : List (Key × V)), us = as.map V.ref ∧ Paired (fun p kv => SqT K.k H p [kV kv.1, kv.2]) as kvs ∧ Paired (RKd K G μ) kvs (wpairs ps)
  | [], _, ps, sub, p, e, _ => by
    cases p
    simp only [pairsW] at e
    cases e
    exact ⟨[], [], rfl, .nil, .nil⟩
  | w :: ws, _, ps, sub, p, e, ha => by
    cases p with
    | cons r t =>
      simp only [pairsW] at e
      split at e
      · rename_i q qs h1 h2
        cases e
        rw [List.all_cons, Bool.and_eq_true] at ha
        obtain ⟨as, kvs, e1, e2, e3⟩ := leafP sub t h2 ha.2
        unfold pairW at h1
        split at h1
        · rename_i k v
          cases h1
          obtain ⟨kk, hk⟩ := Option.isSome_iff_exists.mp ha.1
          cases r with
          | tup h3 h4 =>
            cases h4 with
            | cons r1 h4 =>
              cases h4 with
              | cons r2 h4 =>
                cases h4
                obtain ⟨rfl, e5⟩ := leafK_rd hk r1
                refine ⟨_ :: as, (kk, _) :: kvs, by rw [List.map_cons, e1], .cons (SqT.of (sub _ _ h3)) e2, .cons ⟨e5, r2⟩ e3⟩
        · cases h1
      · cases e
theorem tupP : ∀ {xs : List W} {us : List V} {ps : List (PyData × PyData)}, Same G H → Paired (RW K G μ) us xs → pairsW xs = some ps → (ps.all fun p => goodTup p.1) = true →
    ∃ (as : List Addr) (kvs : NKV), us = as.map V.ref ∧ Paired (fun p z => SqT K.k H p [.ref z.2.1, z.2.2]) as kvs ∧ Paired (RKn K G μ) kvs (wpairs ps)
  | [], _, ps, sub, p, e, _ => by
    cases p
    simp only [pairsW] at e
    cases e
    exact ⟨[], [], rfl, .nil, .nil⟩
  | w :: ws, _, ps, sub, p, e, ha => by
    cases p with
    | cons r t =>
      simp only [pairsW] at e
      split at e
      · rename_i q qs h1 h2
        cases e
        rw [List.all_cons, Bool.and_eq_true] at ha
        obtain ⟨as, kvs, e1, e2, e3⟩ := tupP sub t h2 ha.2
        unfold pairW at h1
        split at h1
        · rename_i k v
          cases h1
          cases r with
          | tup h3 h4 =>
            cases h4 with
            | cons r1 h4 =>
              cases h4 with
              | cons r2 h4 =>
                cases h4
                obtain ⟨n, b, hn, hd, rfl, _⟩ := goodTup_rd ha.1 r1
                refine ⟨_ :: as, (n, b, _) :: kvs, by rw [List.map_cons, e1], .cons (SqT.of (sub _ _ h3)) e2, .cons ⟨r1, hn, hd, r2⟩ e3⟩
        · cases h1
      · cases e
theorem puts_leaf : ∀ {ms : List (Key × V)} {ps : List (PyData × W)} {vs : List (Key × V)} {kvs : List (PyData × W)}, Paired (RKd K G μ) ms ps → Paired (RKd K G μ) vs kvs → Paired (RKd K G μ) (mergeK vs ms) (putsD kvs ps)
  | _, _, _, _, .nil, r => r
  | m :: ms, p :: ps, vs, kvs, .cons h t, r => by
    show Paired _ (mergeK (putK vs m.1 m.2) ms) (putsD (putD kvs p.1 p.2) ps)
    rw [h.1]
    exact puts_leaf t (put_leaf h.2 r)
theorem puts_tup : ∀ {ms : NKV} {ps : List (PyData × W)} {vs : NKV} {kvs : List (PyData × W)}, Paired (RKn K G μ) ms ps → Paired (RKn K G μ) vs kvs → Paired (RKn K G μ) (putsN vs ms) (putsD kvs ps)
  | _, _, _, _, .nil, r => r
  | m :: ms, p :: ps, vs, kvs, .cons h t, r => by
    show Paired _ (putsN (putN vs m.1 m.2.1 m.2.2) ms) (putsD (putD kvs p.1 p.2) ps)
    exact puts_tup t (put_tup h.2.1 h.2.2.1 h.1 h.2.2.2 r)
def rDictZ (K : Kx) : List V → Hp → VK → Prop := fun vs H Q =>
  ((∃ (a : Addr) (kvs : List (Key × V)), vs = [.ref a] ∧ Rd H a (.dK kvs) ∧ ∀ p, H p = none → Q (.ref p) (upd H p (.dK kvs))) ∨ rCopyN K vs H Q) ∨
  ((∃ (a : Addr) (ps : List Addr) (kvs : List (Key × V)), vs = [.ref a] ∧ SqL K.k H a (ps.map V.ref) ∧ Paired (fun p kv => SqT K.k H p [kV kv.1, kv.2]) ps kvs ∧ ∀ p, H p = none → Q (.ref p) (upd H p (.dK (mergeK [] kvs)))) ∨ rDictPN K vs H Q)
theorem cr_dictZ (hK : X.kx = K) (hc : X.calm = true) (hu : X.A.units + 64 < cLine) : CallR X (.type "dict") (rDictZ K) := by
  subst hK
  exact callR_or (callR_or call_dictD (cr_copyN rfl hu)) (callR_or (call_dictP hc) (cr_dictPN rfl hc hu))
theorem newDic {S' : Store} {w : W} {Q : VK} {kvs : List (PyData × W)} (rl : Rel K G H μ S) {p : Addr} {o : HO} (hp : H p = none) (hc : ∀ μ', μ' = μ ++ [p] → CellR K G (upd H p o) μ' p (.dic kvs)) (e : some (W.c S.length, S ++ [Cell.dic kvs]) = some (w, S')) (q : ∀ v G' H' μ', Nx K μ G H μ' G' H' S' → RW K G' μ' v w → Q v H') : Q (.ref p) (upd H p o) := by
  cases e
  exact q _ _ _ _ (nx_cell rl hp (c := .dic kvs) (hc _ rfl)) ⟨p, by rw [← rl.len, List.getElem?_append_right (Nat.le_refl _), Nat.sub_self]; rfl, rfl⟩
theorem sr_dict : SRs K (rDictZ K) dictW := fun S ws w S' G H μ vs Q rl rs e q => by
  unfold dictW at e
  split at e
  · rename_i w1
    obtain ⟨v, rfl, r⟩ := pd_one rs
    split at e
    · rename_i kvs hk
      split at e
      · rename_i hc
        obtain ⟨a, rfl, d⟩ := dictOf_at rl r hk
        cases d with
        | leaf h1 h2 => exact .inl (.inl ⟨a, _, rfl, h1, fun p hp => newDic rl hp (fun μ' em => ⟨.inl ⟨_, upd_same, by rw [em]; exact pkd_mono (Same.refl _) [p] h2⟩, rl.gn hp⟩) e q⟩)
        | @tups vs h1 h2 =>
          refine .inl (.inr ⟨a, vs, rfl, h1, rkn_ok rl.sub h2, tupKeys_of rl.sub h2, ?_, fun p hp => newDic rl hp (fun μ' em => ⟨.inr ⟨_, upd_same, by rw [em]; exact pkn_mono (Same.refl _) [p] h2⟩, rl.gn hp⟩) e q⟩)
          rw [Bool.or_eq_true] at hc
          rcases hc with hc | hc
          · obtain ⟨rfl, _⟩ := leaf_nil h2 hc
            exact List.nodup_nil
          · exact apart_at K.w h2 hc
      · cases e
    · split at e
      · rename_i xs hx
        split at e
        · rename_i ps hp
          split at e
          · rename_i hc
            obtain ⟨a, us, rfl, h1, h2⟩ := items_list rl r hx
            rw [Bool.or_eq_true] at hc
            by_cases hl : (ps.all fun p => (leafK p.1).isSome) = true
            · obtain ⟨as, kvs, rfl, h4, h5⟩ := leafP rl.sub h2 hp hl
              exact .inr (.inl ⟨a, as, kvs, rfl, .inl h1, h4, fun p hp => newDic rl hp (fun μ' em => ⟨.inl ⟨_, upd_same, by rw [em]; exact pkd_mono (Same.refl _) [p] (puts_leaf h5 .nil)⟩, rl.gn hp⟩) e q⟩)
            · obtain ⟨as, kvs, rfl, h4, h5⟩ := tupP rl.sub h2 hp (hc.resolve_left hl)
              exact .inr (.inr ⟨a, as, kvs, rfl, .inl h1, h4, rkn_ok rl.sub h5, fun p hp => newDic rl hp (fun μ' em => ⟨.inr ⟨_, upd_same, by rw [em]; exact pkn_mono (Same.refl _) [p] (puts_tup h5 .nil)⟩, rl.gn hp⟩) e q⟩)
          · cases e
        · cases e
      · cases e
  · cases e
end
end Z

/-! ZG: d.update(..), sorted(..) as rules. -/
namespace Z
open PySem PySem.Spec PyProof.Rows L2 Y PySem.W L2.DX
variable {K : Kx} {X : Cx}
/-! ### a dict's method with one argument -/
def tDM (K : Kx) (r : V → List V → Hp → VK → Prop) (td ty : TE) : TE := fun σ H Q => td σ H fun x H1 => ∃ a, x = .ref a ∧ IsDZ K H1 a ∧ ty σ H1 fun y H2 => r x [y] H2 Q
def tDM0 (K : Kx) (r : V → List V → Hp → VK → Prop) (td : TE) : TE := fun σ H Q => td σ H fun x H1 => ∃ a, x = .ref a ∧ IsDZ K H1 a ∧ r x [] H1 Q
section
variable {o e : Expr} {td ty : TE} {apos cpos : Pos} {name : Str} {id : String} {r : V → List V → Hp → VK → Prop}
theorem pe_dm (hK : X.kx = K) (slot : Slot "dict" name id) (hty : typeOf (.builtin id) = pure (.type "method_descriptor")) (hm : MtR X id r) (ho : PE X o td) (he : PE X e ty) (m : M1 X o name apos e cpos) : PE X (.Call (.Attribute o name apos) [e] [] cpos) (tDM K r td ty) := by
  subst hK
  refine ⟨fun pins s σ H Q I h => ?_⟩
  refine wpAny_Call_method m.base m.few m.line PySem.F.plainAttrs_dict slot hty (thn (ho.run pins s σ H _ I h) fun u s1 ⟨x, H1, I1, rx, a, ex, d, q1⟩ => ?_)
  subst ex
  obtain rfl : u = Value.ref a := rx
  obtain ⟨t1, t2, _⟩ := isDZ_at I1 d
  refine ⟨t1, t2, ?_⟩
  rw [m.trees]
  refine Calls.callWith_builtin rfl (Calls.evalArgs_plain (Calls.spliced_cons (thn (he.run pins s1 σ H1 _ I1 q1) fun iv s2 ⟨y, H2, I2, ry, q2⟩ => Calls.spliced_nil ?_)))
  exact hm pins s2 σ H2 (.ref a) [y] (.ref a) [iv] Q I2 rfl (.cons ry .nil) q2
theorem pe_dm0 (hK : X.kx = K) (slot : Slot "dict" name id) (hty : typeOf (.builtin id) = pure (.type "method_descriptor")) (hm : MtR X id r) (ho : PE X o td)
    (hbase : attributeBase o name X.env (eval o X.env) = eval o X.env := by rfl) (hline : (apos.endLine == cpos.line) = true := by rfl) : PE X (.Call (.Attribute o name apos) [] [] cpos) (tDM0 K r td) := by
  subst hK
  refine ⟨fun pins s σ H Q I h => ?_⟩
  refine wpAny_Call_method0_late hbase hline (thn (ho.run pins s σ H _ I h) fun v s1 ⟨x, H1, I1, r1, a, ex, d, q1⟩ => ?_)
  subst ex
  obtain rfl : v = Value.ref a := r1
  obtain ⟨t1, t2, _⟩ := isDZ_at I1 d
  exact ⟨"dict", id, PySem.F.plainAttrs_dict, slot, hty, t1, t2, Calls.callWith_builtin rfl (PySem.evalArgs_none (hm pins s1 σ H1 (.ref a) [] (.ref a) [] Q I1 rfl .nil q1))⟩
end
/-! ### d.update(d2) -/
def otherW (n : Nat) : W → Bool
  | .c m => decide (m ≠ n)
  | _ => true
def updW : Store → W → W → Option Store := fun S o w => match o with
  | .c n => (match S[n]?, dictOf S w with
    | some (.dic kvs), some ms => if otherW n w = true ∧ kvs.length + ms.length ≤ sizeLine ∧ ((headFits false kvs = true ∧ headFits false ms = true ∧ kvs ≠ [] ∧ ms ≠ []) ∨ (headFits true kvs = true ∧ headFits true ms = true ∧ (kvs ≠ [] ∨ apartD ms = true)))
      then some (S.set n (.dic (putsD kvs ms))) else none
    | _, _ => none)
  | _ => none
def updX (fd fk : FE) : FE := fun env S => match fd env S with
  | some (o, S1) => (match dictOf S1 o with
    | some _ => (match fk env S1 with
      | some (w, S2) => (match updW S2 o w with
        | some S3 => some (.d .none, S3)
        | none => none)
      | none => none)
    | none => none)
  | none => none
section
variable {o e : Expr} {td ty : TE} {apos cpos : Pos} {f f2 : FE}
theorem upd_ne_cell {G H : Hp} {μ : List Addr} {S : Store} {n : Nat} {a b : Addr} {w : W} (rl : Rel K G H μ S) (ha : μ[n]? = some a) (gn : G a = none) (hb : RW K G μ (.ref b) w) {ms : List (PyData × W)} (hd : dictOf S w = some ms) (h : otherW n w = true) : a ≠ b := by
  cases w with
  | k ns => cases hd
  | d x =>
    intro e
    subst e
    cases x with
    | dict ds =>
      cases hb with
      | dK h1 _ => rw [gn] at h1; cases h1
      | dN h1 _ => rw [gn] at h1; cases h1
    | _ => cases hd
  | c m =>
    intro e
    subst e
    obtain ⟨c, h1, h2⟩ := hb
    cases h2
    exact of_decide_eq_true h (nodup_at rl.nd h1 ha)
theorem z_update (hK : X.kx = K) (hu : X.A.units + 64 < cLine) (ho : ZE K X o td f) (hi : ZE K X e ty f2) (m : M1 X o "update" apos e cpos) : ZE K X (.Call (.Attribute o "update" apos) [e] [] cpos) (tDM K (rUpdateZ K) td ty) (updX f f2) :=
  ⟨pe_dm hK PySem.F.slot_dict_update (by rfl) (mt_updateZ hK hu) ho.pe hi.pe m, fun env S w S' σ G H μ Q rl er e q => by
    simp only [updX] at e
    split at e
    · rename_i o1 S1 e1
      split at e
      · rename_i kvs0 hk0
        split at e
        · rename_i w2 S2 e2
          split at e
          · rename_i S3 e3
            cases e
            refine ho.se env S _ S1 σ G H μ _ rl er e1 fun v1 G1 H1 μ1 x1 r1 => ?_
            obtain ⟨a, rfl, dc⟩ := dictOf_at x1.rel r1 hk0
            refine ⟨a, rfl, dc.isD, ?_⟩
            refine hi.se env S1 _ S2 σ G1 H1 μ1 _ x1.rel (x1.envR er) e2 fun v2 G2 H2 μ2 x2 r2 => ?_
            have r1' := x2.rw r1
            unfold updW at e3
            split at e3
            · rename_i n
              split at e3
              · rename_i kvs ms hs hd
                split at e3
                · rename_i hc
                  cases e3
                  obtain ⟨hne, hl, hc⟩ := hc
                  obtain ⟨a', ha, ea⟩ := r1'
                  cases ea
                  obtain ⟨b, rfl, dm⟩ := dictOf_at x2.rel r2 hd
                  obtain ⟨h, gn⟩ := x2.rel.cell n a _ ha hs
                  have hab := upd_ne_cell x2.rel ha gn r2 hd hne
                  have fin : ∀ o, CellR K G2 (upd H2 a o) μ2 a (.dic (putsD kvs ms)) → Q .non (upd H2 a o) := fun o hcell =>
                    q .non G2 (upd H2 a o) μ2 ((x1.trans x2).trans (nx_wr (c := .dic kvs) x2.rel ha gn hcell)) .non
                  rcases hc with ⟨c1, c2, c3, c4⟩ | ⟨c1, c2, c3⟩
                  · rcases h with ⟨vs, q1, q2⟩ | ⟨vs, q1, q2⟩
                    · cases dm with
                      | @leaf ws d1 d2 => exact ⟨a, b, _, rfl, rfl, hab, .inl ⟨vs, ws, q1, d1, by rw [pd_len q2, pd_len d2]; exact hl, rfl⟩, fin _ ⟨.inl ⟨_, upd_same, puts_leaf d2 q2⟩, gn⟩⟩
                      | tups d1 d2 => exact absurd (leaf_nil d2 c2).2 c4
                    · exact absurd (leaf_nil q2 c1).2 c3
                  · have na : ∃ vs, NAt K H2 a vs ∧ Paired (RKn K G2 μ2) vs kvs := by
                      rcases h with ⟨vs, q1, q2⟩ | ⟨vs, q1, q2⟩
                      · obtain ⟨rfl, rfl⟩ := tup_nil q2 c1
                        exact ⟨[], .inr ⟨q1, rfl⟩, .nil⟩
                      · exact ⟨vs, .inl ⟨q1, rkn_ok x2.rel.sub q2⟩, q2⟩
                    obtain ⟨vs, na, q2⟩ := na
                    cases dm with
                    | leaf d1 d2 =>
                      obtain ⟨rfl, rfl⟩ := tup_nil d2 c2
                      exact ⟨a, b, _, rfl, rfl, hab, .inr ⟨vs, [], na, .inr ⟨d1, rfl⟩, by rw [pd_len q2]; exact hl, rfl⟩, fin _ ⟨.inr ⟨_, upd_same, q2⟩, gn⟩⟩
                    | @tups ws d1 d2 =>
                      refine ⟨a, b, _, rfl, rfl, hab, .inr ⟨vs, ws, na, .inl ⟨d1, rkn_ok x2.rel.sub d2, tupKeys_of x2.rel.sub d2, ?_⟩, by rw [pd_len q2, pd_len d2]; exact hl, rfl⟩, fin _ ⟨.inr ⟨_, upd_same, puts_tup d2 q2⟩, gn⟩⟩
                      rcases c3 with c3 | c3
                      · exact .inl fun z => c3 (by subst z; cases q2; rfl)
                      · exact .inr (apart_at K.w d2 c3)
                · cases e3
              · cases e3
            · cases e3
          · cases e
        · cases e
      · cases e
    · cases e⟩
end
/-! ### sorted -/
def SortOk (ds : List PyData) : Prop := PyData.hasDictAll ds = false ∧ AllAlike ds ∧ Sortable ds ∧ ∀ d ∈ ds, d.depth ≤ 50
def PairsOk (ps : List (PyData × PyData)) : Prop := PyData.hasDictAll (ps.map prD) = false ∧ Firsts ps ∧ ∀ d ∈ ps, d.1.depth ≤ 50 ∧ d.2.depth ≤ 50
noncomputable def sortDW (nw : Store → List W → Option (W × Store)) : Store → List W → Option (W × Store) := open Classical in fun S ws => match ws with
  | [w] => (match itemsL S w with
    | some xs => (match datas S xs with
      | some ds => if SortOk ds then nw S ((sortD ds).map W.d) else none
      | none => none)
    | none => none)
  | _ => none
noncomputable def sortPW (nw : Store → List W → Option (W × Store)) : Store → List W → Option (W × Store) := open Classical in fun S ws => match ws with
  | [w] => (match itemsL S w with
    | some xs => (match pairsW xs with
      | some ps => if PairsOk ps then nw S ((sortP ps).map fun p => W.d (prD p)) else none
      | none => none)
    | none => none)
  | _ => none
theorem sr_sortD {nw : Store → List W → Option (W × Store)} (hn : NewOk K .lst nw) : SRs K (rSortD K) (sortDW nw) := fun S ws w S' G H μ vs Q rl rs e q => by
  unfold sortDW at e
  split at e
  · rename_i w1
    obtain ⟨v, rfl, r⟩ := pd_one rs
    split at e
    · rename_i xs hx
      split at e
      · rename_i ds hd
        split at e
        · rename_i hc
          obtain ⟨h1, h2, h3, h4⟩ := hc
          obtain ⟨a, us, rfl, g1, g2⟩ := items_list rl r hx
          have rd := datas_rd rl g2 hd
          refine ⟨a, us, ds, rfl, g1, RDs.mono rl.sub rd, h1, h2, h3, h4, fun p us' hp hh => ?_⟩
          exact (hn rl (rds_w (μ := μ) (hh G rd)) e q).2 p hp
        · cases e
      · cases e
    · cases e
  · cases e
theorem pairsW_rd {G H : Hp} {μ : List Addr} : ∀ {xs : List W} {us : List V} {ps : List (PyData × PyData)}, Paired (RW K G μ) us xs → pairsW xs = some ps → RDs K G us (ps.map prD)
  | [], _, ps, p, e => by
    cases p
    simp only [pairsW] at e
    cases e
    exact .nil
  | w :: ws, _, ps, p, e => by
    cases p with
    | cons r t =>
      simp only [pairsW] at e
      split at e
      · rename_i q qs h1 h2
        cases e
        unfold pairW at h1
        split at h1
        · cases h1
          exact .cons r (pairsW_rd (H := H) t h2)
        · cases h1
      · cases e
theorem sr_sortP {nw : Store → List W → Option (W × Store)} (hn : NewOk K .lst nw) : SRs K (rSortP K) (sortPW nw) := fun S ws w S' G H μ vs Q rl rs e q => by
  unfold sortPW at e
  split at e
  · rename_i w1
    obtain ⟨v, rfl, r⟩ := pd_one rs
    split at e
    · rename_i xs hx
      split at e
      · rename_i ps hd
        split at e
        · rename_i hc
          obtain ⟨h1, h2, h3⟩ := hc
          obtain ⟨a, us, rfl, g1, g2⟩ := items_list rl r hx
          have rd := pairsW_rd (H := H) g2 hd
          refine ⟨a, us, ps, rfl, g1, RDs.mono rl.sub rd, h1, h2, h3, fun p us' hp hh => ?_⟩
          have := rds_w (μ := μ) (hh G rd)
          rw [List.map_map] at this
          exact (hn rl this e q).2 p hp
        · cases e
      · cases e
    · cases e
  · cases e
/-! ### what is new becomes data -/
open Classical in
noncomputable def grown (G H H' : Hp) : Hp := fun b => if H b = none then H' b else G b
theorem nx_grow {G H H' : Hp} {μ : List Addr} {S : Store} (rl : Rel K G H μ S) (k : ∀ b o, H b = some o → H' b = some o) : Nx K μ G H μ (grown G H H') H' S := by
  have sg : Same G (grown G H H') := fun b u e => by
    have : H b ≠ none := by rw [rl.sub b u e]; exact fun z => nomatch z
    unfold grown
    rw [if_neg this]
    exact e
  have old : ∀ b, H b ≠ none → grown G H H' b = G b := fun b h => by unfold grown; rw [if_neg h]
  have al : ∀ b, H b ≠ none → H' b ≠ none := fun b h => by
    cases hb : H b with
    | none => exact absurd hb h
    | some u => rw [k b u hb]; exact fun z => nomatch z
  refine ⟨⟨fun b u e => ?_, rl.len, rl.nd, fun b hb => al b (rl.there b hb), fun n a c h1 h2 => ?_⟩, ⟨[], by simp, fun _ z => nomatch z⟩, sg, fun b u e _ => k b u e, fun b h1 _ h3 => by rw [old b h1]; exact h3, al⟩
  · unfold grown at e
    split at e
    · exact e
    · exact k b u (rl.sub b u e)
  · have := (rl.cell n a c h1 h2).mono (H' := H') sg [] (fun u h => k a u h) (fun h => by rw [old a (rl.there a (List.mem_of_getElem? h1))]; exact h)
    simpa using this
/-! ### sorted(d.items()) -/
noncomputable def sortItX (fo : FE) : FE := open Classical in fun env S => match fo env S with
  | some (w, S1) => (match dictOf S1 w with
    | some kvs => (match kvData S1 kvs with
      | some ps => if PairsOk ps then some (.d (.list ((sortP ps).map prD)), S1) else none
      | none => none)
    | none => none)
  | none => none
theorem kV_rd {K : Kx} {G : Hp} (k : Key) : RD K G (kV k) (kD k) := by
  cases k with
  | inl i => exact .int i
  | inr x => exact .str x
theorem rdk_prs {G : Hp} : ∀ {vs : List (Key × V)} {ps : List (PyData × PyData)}, RDk K G vs ps → Paired (fun (z : V × V) (d : PyData × PyData) => RD K G z.1 d.1 ∧ RD K G z.2 d.2) (vs.map fun p => (kV p.1, p.2)) ps := by
  intro vs
  induction vs with
  | nil => intro ps h; cases h; exact .nil
  | cons p vs ih =>
    intro ps h
    cases h with
    | cons r t => exact .cons ⟨kV_rd _, r⟩ (ih t)
theorem rdn_prs {G : Hp} : ∀ {vs : NKV} {ps : List (PyData × PyData)}, RDn K G vs ps → Paired (fun (z : V × V) (d : PyData × PyData) => RD K G z.1 d.1 ∧ RD K G z.2 d.2) (vs.map fun p => (V.ref p.2.1, p.2.2)) ps := by
  intro vs
  induction vs with
  | nil => intro ps h; cases h; exact .nil
  | cons p vs ih =>
    intro ps h
    cases h with
    | cons r _ _ r2 t => exact .cons ⟨r, r2⟩ (ih t)
theorem zip_of {α β : Type} {R : α → β → Prop} : ∀ {as : List α} {bs : List β}, Paired R as bs → ∀ {x : α} {y : β}, (x, y) ∈ as.zip bs → R x y
  | _, _, .nil, _, _, h => by cases h
  | _, _, .cons r t, x, y, h => by
    rw [List.zip_cons_cons] at h
    rcases List.mem_cons.mp h with e | h
    · cases e; exact r
    · exact zip_of t h
theorem Prs.at {H : Hp} {a p : Addr} {o : HO} {prs : List (V × V)} (h : Prs K H a prs) (hp : a ≠ p) : Prs K (upd H p o) a prs := by
  have rd : ∀ u, Rd H a u → Rd (upd H p o) a u := fun u h => h.elim (fun h => .inl (by rw [upd_ne hp]; exact h)) fun ⟨q, h⟩ => .inr ⟨q, by rw [upd_ne hp]; exact h⟩
  rcases h with ⟨vs, h1, h2⟩ | ⟨vs, h1, h2⟩
  · exact .inl ⟨vs, rd _ h1, h2⟩
  · exact .inr ⟨vs, rd _ h1, h2⟩
theorem se_sortIt {fo : FE} {td : TE} (ho : SE K td fo) : SE K (tCB (rSortIt K) (tCons (tDM0 K (rItemsZ K) td) tNil)) (sortItX fo) := fun env S w S' σ G H μ Q rl er e q => by
  unfold sortItX at e
  split at e
  · rename_i w1 S1 e1
    split at e
    · rename_i kvs hk
      split at e
      · rename_i ps hp
        split at e
        · rename_i hc
          cases e
          obtain ⟨c1, c2, c3⟩ := hc
          refine ho env S _ _ σ G H μ _ rl er e1 fun v1 G1 H1 μ1 x1 r1 => ?_
          obtain ⟨a, rfl, dc⟩ := dictOf_at x1.rel r1 hk
          have prs : ∃ prs, Prs K H1 a prs ∧ Paired (fun (z : V × V) (d : PyData × PyData) => RD K G1 z.1 d.1 ∧ RD K G1 z.2 d.2) prs ps := by
            cases dc with
            | @leaf vs d1 d2 => exact ⟨_, .inl ⟨vs, d1, rfl⟩, rdk_prs (kvData_rd x1.rel d2 hp)⟩
            | @tups vs d1 d2 => exact ⟨_, .inr ⟨vs, d1, rfl⟩, rdn_prs (kvData_rn x1.rel d2 hp)⟩
          obtain ⟨prs, h1, h2⟩ := prs
          refine ⟨a, rfl, dc.isD, a, prs, rfl, rfl, h1, fun p hp => ?_⟩
          have hap : a ≠ p := fun z => by
            subst z
            rcases h1 with ⟨_, (h | ⟨_, h⟩), _⟩ | ⟨_, (h | ⟨_, h⟩), _⟩ <;> (rw [hp] at h; cases h)
          show rSortIt K [.ref p] (upd H1 p (itemsO p a)) Q
          have s12 : Same H1 (upd H1 p (itemsO p a)) := same_data hp
          refine ⟨p, a, prs, ps, rfl, upd_same, h1.at hap, pd_mono (fun _ _ z => ⟨(z.1.mono x1.rel.sub).mono s12, (z.2.mono x1.rel.sub).mono s12⟩) h2, c1, c2, c3, fun H' l gr hl it => ?_⟩
          have k : ∀ b o, H1 b = some o → H' b = some o := fun b o e => gr b o (s12 b o e)
          have n1 : ∀ b, upd H1 p (itemsO p a) b = none → H1 b = none := fun b hb => by
            by_cases e : b = p
            · subst e; exact hp
            · rw [upd_ne e] at hb; exact hb
          have new : ∀ b, upd H1 p (itemsO p a) b = none → grown G1 H1 H' b = H' b := fun b hb => by unfold grown; rw [if_pos (n1 b hb)]
          have nx := nx_grow x1.rel k
          refine q _ _ _ _ (x1.trans nx) ?_
          obtain ⟨zs, z1, z2, z3⟩ := it
          show RD K _ (.ref l) (.list ((sortP ps).map prD))
          refine .lst (vs := zs.map fun z => V.ref z.1) (.inl (by rw [new l hl]; exact z2)) ?_
          rw [← z1, List.map_map]
          have gen : ∀ l : List (Addr × (V × V) × (PyData × PyData)), (∀ z ∈ l, z ∈ zs) → RDs K (grown G1 H1 H') (l.map fun z => V.ref z.1) (l.map (prD ∘ fun z => z.2.2)) := by
            intro l
            induction l with
            | nil => intro _; exact .nil
            | cons z l ih =>
              intro hz
              obtain ⟨y1, y2, y3⟩ := z3 z (hz z List.mem_cons_self)
              have r := zip_of h2 y1
              exact .cons (.tup (by rw [new _ y2]; exact y3) (.cons (r.1.mono nx.gg) (.cons (r.2.mono nx.gg) .nil))) (ih fun y hy => hz y (List.mem_cons_of_mem _ hy))
          exact gen zs fun _ h => h
        · cases e
      · cases e
    · cases e
  · cases e
theorem z_sortIt {o : Expr} {td : TE} {f : FE} {apos cpos p pos : Pos} (hK : X.kx = K) (hc : X.calm = true) (hu : X.A.units + 64 < cLine) (hg : Gl X "sorted") (hm : X.mg "sorted" = none) (hv : bootBuiltins "sorted" = some (.builtin "sorted")) (ho : ZE K X o td f)
    (hbase : attributeBase o "items" X.env (eval o X.env) = eval o X.env := by rfl) (hline : (apos.endLine == cpos.line) = true := by rfl) (hs : starEach [Expr.Call (.Attribute o "items" apos) [] [] cpos] X.env = (false, eval (Expr.Call (.Attribute o "items" apos) [] [] cpos) X.env) :: starEach [] X.env := by rfl)
    (hpl : (backTo pos (starEach [] X.env)).any (·.1) = false := by rfl) :
    ZE K X (.Call (.Name "sorted" p) [.Call (.Attribute o "items" apos) [] [] cpos] [] pos) (tCB (rSortIt K) (tCons (tDM0 K (rItemsZ K) td) tNil)) (sortItX f) :=
  ⟨pe_callB (cr_sortItZ hK hc hu) hg hm hv (pa_cons (pe_dm0 hK PySem.F.slot_dict_items (by rfl) (mt_itemsZ hK) ho.pe hbase hline) pa_nil hs) (by decide) (by decide) hs hpl, se_sortIt ho.se⟩
end Z

/-! ZH: chains, products, locks of all that a list holds, displays of dicts, comprehensions of dicts. -/
namespace Z
open PySem PySem.Spec PyProof.Rows L2 Y PySem.W
variable {K : Kx} {X : Cx}
theorem z_mul {a b : Expr} {ta tb : TE} {fa fb : FE} {pos : Pos} (ha : ZE K X a ta fa) (hb : ZE K X b tb fb) : ZE K X (.BinOp a .Mult b pos) (tOp (rI CMulW fun i j => .int (i * j)) ta tb) (op2X (numX mulI) fa fb) := ⟨pe_op op_mulW ha.pe hb.pe, se_op sr_mul ha.se hb.se⟩
/-! ### a < b < c -/
def chX (g g' : Store → W → W → Option (W × Store)) (fa fb fc : FE) : FE := fun env S => match fa env S with
  | some (x, S1) => (match fb env S1 with
    | some (y, S2) => (match g S2 x y with
      | some (.d (.bool k), S3) => if k = true then (match fc env S3 with
        | some (z, S4) => g' S4 y z
        | none => none) else some (.d (.bool false), S3)
      | _ => none)
    | none => none)
  | none => none
section
variable {op op' : CmpOp} {r r' : R2} {g g' : Store → W → W → Option (W × Store)} {a b c : Expr} {ta tb tc : TE} {fa fb fc : FE} {pos : Pos}
theorem se_chain (h : SR2 K r g) (h' : SR2 K r' g') (ha : SE K ta fa) (hb : SE K tb fb) (hc : SE K tc fc) : SE K (tChain r r' ta tb tc) (chX g g' fa fb fc) := fun env S w S' σ G H μ Q rl er e q => by
  simp only [chX] at e
  split at e
  · rename_i x S1 e1
    split at e
    · rename_i y S2 e2
      split at e
      · rename_i k S3 e3
        refine ha env S x S1 σ G H μ _ rl er e1 fun v1 G1 H1 μ1 x1 r1 => ?_
        refine hb env S1 y S2 σ G1 H1 μ1 _ x1.rel (x1.envR er) e2 fun v2 G2 H2 μ2 x2 r2 => ?_
        refine h S2 x y _ S3 G2 H2 μ2 v1 v2 _ x2.rel (x2.rw r1) r2 e3 fun v3 G3 H3 μ3 x3 r3 => ?_
        refine ⟨k, bool_of r3, ?_⟩
        cases k with
        | false =>
          rw [if_neg Bool.false_ne_true] at e ⊢
          cases e
          exact q _ G3 H3 μ3 ((x1.trans x2).trans x3) (.bl false)
        | true =>
          rw [if_pos rfl] at e ⊢
          split at e
          · rename_i z S4 e4
            refine hc env S3 z S4 σ G3 H3 μ3 _ x3.rel (x3.envR (x2.envR (x1.envR er))) e4 fun v4 G4 H4 μ4 x4 r4 => ?_
            exact h' S4 y z w S' G4 H4 μ4 v2 v4 Q x4.rel (x4.rw (x3.rw r2)) r4 e fun v5 G5 H5 μ5 x5 r5 => q v5 G5 H5 μ5 ((((x1.trans x2).trans x3).trans x4).trans x5) r5
          · cases e
      · cases e
    · cases e
  · cases e
theorem z_chain (h : ZC K X op r g) (h' : ZC K X op' r' g') (ha : ZE K X a ta fa) (hb : ZE K X b tb fb) (hc : ZE K X c tc fc) (hm : lastMarks [op, op'] [b, c] = false := by with_unfolding_all rfl) : ZE K X (.Compare a [op, op'] [b, c] pos) (tChain r r' ta tb tc) (chX g g' fa fb fc) :=
  ⟨pe_chain h.op h'.op ha.pe hb.pe hc.pe hm, se_chain h.sr h'.sr ha.se hb.se hc.se⟩
theorem zt_chain (h : ZC K X op r g) (h' : ZC K X op' r' g') (ha : ZE K X a ta fa) (hb : ZE K X b tb fb) (hc : ZE K X c tc fc) (hm : lastMarks [op, op'] [b, c] = false := by with_unfolding_all rfl) : ZT K X (.Compare a [op, op'] [b, c] pos) (tTest (tChain r r' ta tb tc)) (bbX (chX g g' fa fb fc)) :=
  ⟨pt_chain h.op h'.op ha.pe hb.pe hc.pe hm, st_b (se_chain h.sr h'.sr ha.se hb.se hc.se)⟩
end
/-! ### all that a list holds is locked -/
inductive Lks (Q : VK) (v : V) : Hp → Prop
  | done {H : Hp} : Q v H → Lks Q v H
  | step {H : Hp} {d : Addr} {u : HO} : H d = some u → Mut (some u) → (∀ od, Lks Q v (upd H d (.frz od u))) → Lks Q v H
def tLock (t : TE) : TE := fun σ H Q => t σ H fun v H1 => Lks Q v H1
theorem pe_lock {e : Expr} {t : TE} (h : PE X e t) : PE X e (tLock t) := ⟨fun pins s σ H Q I hw => by
  refine thn (h.run pins s σ H _ I hw) fun u s1 ⟨v, H1, I1, r1, q1⟩ => ?_
  have gen : ∀ {H1 : Hp}, Lks Q v H1 → Inv X pins σ H1 s1 → EP X pins σ Q u s1 := by
    intro H1 q1
    induction q1 with
    | done q => intro I1; exact ⟨v, _, I1, r1, q⟩
    | step hd mu _ ih =>
      intro I1
      obtain ⟨od, I2⟩ := I1.lock hd mu
      exact ih od I2
  exact gen q1 I1⟩
def lockAll : List W → Store → Option Store
  | [], S => some S
  | .d _ :: ws, S => lockAll ws S
  | .k _ :: ws, S => lockAll ws S
  | .c m :: ws, S => match S[m]? with
    | some (.frz _) => lockAll ws S
    | some (.dic kvs) => (match kvData S kvs with
      | some ds => lockAll ws (S.set m (.frz (.dict ds)))
      | none => none)
    | _ => none
def lockX (f : FE) : FE := fun env S => match f env S with
  | some (w, S1) => (match itemsL S1 w with
    | some ws => (match lockAll ws S1 with
      | some S2 => some (w, S2)
      | none => none)
    | none => none)
  | none => none
theorem lks_all {Q : VK} {v : V} : ∀ {ws : List W} {vs : List V} {G H : Hp} {μ : List Addr} {S S' : Store}, Rel K G H μ S → Paired (RW K G μ) vs ws → lockAll ws S = some S' → (∀ G' H' μ', Nx K μ G H μ' G' H' S' → Q v H') → Lks Q v H
  | [], _, G, H, μ, S, S', rl, p, e, q => by
    simp only [lockAll] at e
    cases e
    exact .done (q G H μ (Nx.refl rl))
  | .d x :: ws, _, G, H, μ, S, S', rl, p, e, q => by
    cases p with
    | cons r t =>
      simp only [lockAll] at e
      exact lks_all rl t e q
  | .k x :: ws, _, G, H, μ, S, S', rl, p, e, q => by
    cases p with
    | cons r t =>
      simp only [lockAll] at e
      exact lks_all rl t e q
  | .c m :: ws, _, G, H, μ, S, S', rl, p, e, q => by
    cases p with
    | cons r t =>
      simp only [lockAll] at e
      split at e
      · exact lks_all rl t e q
      · rename_i kvs hs
        split at e
        · rename_i ds hds
          obtain ⟨a, ha, rfl⟩ := r
          obtain ⟨h, q3⟩ := rl.cell m a _ ha hs
          rcases h with ⟨vs, q1, q2⟩ | ⟨vs, q1, q2⟩
          · refine .step q1 True.intro fun od => ?_
            have rd : RD K (upd G a (.frz od (.dK vs))) (.ref a) (.dict ds) := .dK upd_same (RDk.mono (same_data q3) (kvData_rd rl q2 hds))
            have nx := nx_frz rl ha q3 rd
            exact lks_all nx.rel (nx.rws t) e fun G' H' μ' x => q G' H' μ' (nx.trans x)
          · refine .step q1 True.intro fun od => ?_
            have rd : RD K (upd G a (.frz od (DNo K.P K.w a vs))) (.ref a) (.dict ds) := .dN upd_same (RDn.mono (same_data q3) (kvData_rn rl q2 hds))
            have nx := nx_frz rl ha q3 rd
            exact lks_all nx.rel (nx.rws t) e fun G' H' μ' x => q G' H' μ' (nx.trans x)
        · cases e
      · cases e
theorem z_lock {e : Expr} {t : TE} {f : FE} (h : ZE K X e t f) : ZE K X e (tLock t) (lockX f) := ⟨pe_lock h.pe, fun env S w S' σ G H μ Q rl er e q => by
  simp only [lockX] at e
  split at e
  · rename_i w1 S1 e1
    split at e
    · rename_i ws hws
      split at e
      · rename_i S2 e2
        cases e
        refine h.se env S _ S1 σ G H μ _ rl er e1 fun v G1 H1 μ1 x1 r1 => ?_
        obtain ⟨a, us, rfl, h1, h2⟩ := items_list x1.rel r1 hws
        exact lks_all x1.rel h2 e2 fun G' H' μ' x2 => q _ G' H' μ' (x1.trans x2) (x2.rw r1)
      · cases e
    · cases e
  · cases e⟩
/-! ### {k: v, ..} -/
abbrev FP := Env → Store → Option (List (W × W) × Store)
def SPs (K : Kx) (trs : List (TE × TE)) (f : FP) : Prop := ∀ (env : Env) (S : Store) (ps : List (W × W)) (S' : Store) (σ : L2.St) (G H : Hp) (μ : List Addr) (R : List (V × V) → Hp → Prop), Rel K G H μ S → EnvR K G μ σ env → f env S = some (ps, S') →
  (∀ vs G' H' μ', Nx K μ G H μ' G' H' S' → Paired (fun (z : V × V) (w : W × W) => RW K G' μ' z.1 w.1 ∧ RW K G' μ' z.2 w.2) vs ps → R vs H') → tPairs trs σ H R
structure ZPs (K : Kx) (X : Cx) (pos : Pos) (ks : List (Option Expr)) (vs : List Expr) (trs : List (TE × TE)) (f : FP) : Prop where
  pe : PPs X pos ks vs trs
  se : SPs K trs f
def pnilX : FP := fun _ S => some ([], S)
def pconsX (fk fv : FE) (fr : FP) : FP := fun env S => match fk env S with
  | some (k, S1) => (match fv env S1 with
    | some (v, S2) => (match fr env S2 with
      | some (ps, S3) => some ((k, v) :: ps, S3)
      | none => none)
    | none => none)
  | none => none
section
variable {pos : Pos} {k v : Expr} {ks : List (Option Expr)} {vs : List Expr} {tk tv : TE} {trs : List (TE × TE)} {fk fv : FE} {fr : FP}
theorem zps_nil : ZPs K X pos [] [] [] pnilX := ⟨pps_nil, fun env S ps S' σ G H μ R rl er e q => by cases e; exact q [] G H μ (Nx.refl rl) .nil⟩
theorem zps_cons (hk : ZE K X k tk fk) (hv : ZE K X v tv fv) (hr : ZPs K X pos ks vs trs fr) : ZPs K X pos (some k :: ks) (v :: vs) ((tk, tv) :: trs) (pconsX fk fv fr) := ⟨pps_cons hk.pe hv.pe hr.pe, fun env S ps S' σ G H μ R rl er e q => by
  simp only [pconsX] at e
  split at e
  · rename_i k1 S1 e1
    split at e
    · rename_i v1 S2 e2
      split at e
      · rename_i ps1 S3 e3
        cases e
        refine hk.se env S _ S1 σ G H μ _ rl er e1 fun x G1 H1 μ1 x1 r1 => ?_
        refine hv.se env S1 _ S2 σ G1 H1 μ1 _ x1.rel (x1.envR er) e2 fun y G2 H2 μ2 x2 r2 => ?_
        refine hr.se env S2 _ _ σ G2 H2 μ2 _ x2.rel (x2.envR (x1.envR er)) e3 fun zs G3 H3 μ3 x3 r3 => ?_
        exact q ((x, y) :: zs) G3 H3 μ3 ((x1.trans x2).trans x3) (.cons ⟨x3.rw (x2.rw r1), x3.rw r2⟩ r3)
      · cases e
    · cases e
  · cases e⟩
def leafPs (S : Store) : List (W × W) → Option (List (PyData × W))
  | [] => some []
  | p :: ps => match dataOf S p.1, leafPs S ps with
    | some k, some r => if (leafK k).isSome = true then some ((k, p.2) :: r) else none
    | _, _ => none
def dispX (f : FP) : FE := fun env S => match f env S with
  | some (ps, S1) => (match leafPs S1 ps with
    | some kvs => if ps.length ≤ 15 then some (.c S1.length, S1 ++ [.dic (putsD [] kvs)]) else none
    | none => none)
  | none => none
theorem leafPs_at {G H : Hp} {μ : List Addr} {S : Store} (rl : Rel K G H μ S) : ∀ {ps : List (W × W)} {vs : List (V × V)} {kvs : List (PyData × W)}, Paired (fun (z : V × V) (w : W × W) => RW K G μ z.1 w.1 ∧ RW K G μ z.2 w.2) vs ps → leafPs S ps = some kvs →
    ∃ ms : List (Key × V), vs = ms.map (fun kv => (kV kv.1, kv.2)) ∧ Paired (RKd K G μ) ms kvs
  | [], _, kvs, p, e => by
    cases p
    simp only [leafPs] at e
    cases e
    exact ⟨[], rfl, .nil⟩
  | p :: ps, _, kvs, pd, e => by
    cases pd with
    | cons r t =>
      simp only [leafPs] at e
      split at e
      · rename_i k rr hk hr
        split at e
        · rename_i hl
          cases e
          obtain ⟨ms, e1, e2⟩ := leafPs_at rl t hr
          obtain ⟨kk, hkk⟩ := Option.isSome_iff_exists.mp hl
          obtain ⟨h1, h2⟩ := leafK_rd hkk (data_rd rl r.1 hk)
          refine ⟨(kk, _) :: ms, ?_, .cons ⟨h2, r.2⟩ e2⟩
          rw [List.map_cons, e1, ← h1]
        · cases e
      · cases e
theorem z_disp {f : FP} (h : ZPs K X pos ks vs trs f) (hall : ks.all (·.isSome) = true) (hl : ks.length = vs.length) (h0 : ks ≠ []) (h15 : ks.length ≤ 15) : ZE K X (.Dict ks vs pos) (tDisp trs) (dispX f) :=
  ⟨pe_disp h.pe hall hl h0 h15, fun env S w S' σ G H μ Q rl er e q => by
    simp only [dispX] at e
    split at e
    · rename_i ps S1 e1
      split at e
      · rename_i kvs hk
        split at e
        · rename_i hle
          cases e
          intro p hp
          have ow := own_new (o := .dK []) rl hp
          refine h.se env S ps S1 σ G _ μ _ ow.nx.rel er e1 fun zs G1 H1 μ1 x1 r1 => ?_
          have ow1 := ow.step x1
          have hlen := pd_len r1
          obtain ⟨ms, rfl, h2⟩ := leafPs_at x1.rel r1 hk
          rw [List.length_map] at hlen
          refine ⟨ow1.at', ms, rfl, by omega, ?_⟩
          have ow2 := ow1.write (o' := .dK (mergeK [] ms))
          refine q _ G1 _ (μ1 ++ [p]) (ow2.cell (c := .dic (putsD [] kvs)) ⟨.inl ⟨_, upd_same, pkd_mono (Same.refl _) [p] (puts_leaf h2 .nil)⟩, ow1.gn⟩) ⟨p, ?_, rfl⟩
          rw [← x1.rel.len, List.getElem?_append_right (Nat.le_refl _), Nat.sub_self]
          rfl
        · cases e
      · cases e
    · cases e⟩
end
/-! ### {k: v for ..} -/
open Classical in
noncomputable def dcL (g : Gd) (tg : FG) (tt : FT) (tk tv : FE) (env : Env) : List W → Store → Option (List (PyData × W) × Store)
  | [], S => if HoldsG S g then some ([], S) else none
  | w :: ws, S => if HoldsG S g then (match tg w env S with
    | some (env1, S1) => (match tt env1 S1 with
      | some (b, S2) => if b = true then (match tk env1 S2 with
        | some (k, S3) => (match tv env1 S3 with
          | some (y, S4) => (match dataOf S4 k, dcL g tg tt tk tv env ws S4 with
            | some kd, some (ys, S5) => if (leafK kd).isSome = true then some ((kd, y) :: ys, S5) else none
            | _, _ => none)
          | none => none)
        | none => none) else dcL g tg tt tk tv env ws S2
      | none => none)
    | none => none) else none
noncomputable def dcX (vs : List Nat) (fi : FI) (tg : FG) (tt : FT) (tk tv : FE) : FE := fun env S => match fi env S with
  | some (ws, g, S1) => (match dcL g tg tt tk tv (wipeE env vs) ws S1 with
    | some (ys, S2) => if ys.length ≤ sizeLine then some (.c S2.length, S2 ++ [.dic (putsD [] ys)]) else none
    | none => none)
  | none => none
theorem dcL_hold {g : Gd} {tg : FG} {tt : FT} {tk tv : FE} {env : Env} {ws : List W} {S : Store} {r : List (PyData × W) × Store} (e : dcL g tg tt tk tv env ws S = some r) : HoldsG S g := by
  cases ws with
  | nil =>
    unfold dcL at e
    split at e
    · assumption
    · cases e
  | cons w ws =>
    unfold dcL at e
    split at e
    · assumption
    · cases e
theorem wipe_in (σ : L2.St) (vs L : List Nat) (hL : ∀ i ∈ L, i ∈ vs) : wipe (wipe σ vs) L = wipe σ vs := by
  have one : ∀ i ∈ vs, (wipe σ vs).set i none = wipe σ vs := by
    intro i hi
    have key : ∀ (vs : List Nat), i ∈ vs → (wipe σ vs).set i none = wipe σ vs := by
      intro vs
      induction vs with
      | nil => intro h; cases h
      | cons k vs ih =>
        intro h
        show ((wipe σ vs).set k none).set i none = (wipe σ vs).set k none
        by_cases hk : i = k
        · subst hk; rw [List.set_set]
        · rw [List.set_comm _ _ (fun z => hk z.symm), ih (by
            rcases List.mem_cons.mp h with z | z
            · exact absurd z hk
            · exact z)]
    exact key vs hi
  induction L with
  | nil => rfl
  | cons k l ih =>
    show (wipe (wipe σ vs) l).set k none = wipe σ vs
    rw [ih fun i hi => hL i (List.mem_cons_of_mem _ hi)]
    exact one k (hL k List.mem_cons_self)
theorem se_dc {vs L : List Nat} {wi : TI} {g : TG} {tt : TT} {tk tv : TE} {fi : FI} {fg : FG} {ft : FT} {fk fv : FE} (hL : ∀ i ∈ L, i ∈ vs) (hi : SI K wi fi) (hg : SG K g L fg) (ht : ST K tt ft) (hk : SE K tk fk) (hv : SE K tv fv) :
    SE K (tDc wi g tt tk tv vs) (dcX vs fi fg ft fk fv) := fun env S w S' σ G H μ Q rl er e q => by
  simp only [dcX] at e
  split at e
  · rename_i ws gd S1 e1
    split at e
    · rename_i ys S2 ec
      split at e
      · rename_i hlen
        cases e
        refine hi env S ws gd S1 σ G H μ _ rl er e1 fun J G0 H0 μ0 x0 src => ?_
        intro D hD
        refine ⟨fun i m H2 => m = ws.length - i ∧ i ≤ ws.length ∧ ∃ S3 G2 μ2 us acc rest, Own K μ0 G0 H0 μ2 G2 H2 S3 D (.dK us) ∧ Paired (RKd K G2 μ2) us (putsD [] acc) ∧ us.length ≤ acc.length ∧ dcL gd fg ft fk fv (wipeE env vs) (ws.drop i) S3 = some (rest, S2) ∧ ys = acc ++ rest,
          ⟨_, rfl, Nat.zero_le _, S1, G0, μ0, [], [], ys, own_new x0.rel hD, .nil, Nat.le_refl _, by simpa using ec, rfl⟩, ?_⟩
        rintro i m H2 ⟨rfl, hi2, S3, G2, μ2, us, acc, rest, ow, pa, la, e2, ey⟩
        have hgd := dcL_hold e2
        obtain ⟨it, stp⟩ := src G2 H2 μ2 S3 ow.nx.gg ⟨_, ow.nx.pre.choose_spec.1⟩ ow.nx.rel hgd
        by_cases hlt : i < ws.length
        · have hget : ws[i]? = some ws[i] := List.getElem?_eq_getElem hlt
          rw [List.drop_eq_getElem_cons hlt] at e2
          unfold dcL at e2
          rw [if_pos hgd] at e2
          obtain ⟨hgo, hy⟩ := it i ws[i] hget
          refine .inr ⟨hgo, fun H' => ∃ S3 G2 μ2 us acc rest, Own K μ0 G0 H0 μ2 G2 H' S3 D (.dK us) ∧ Paired (RKd K G2 μ2) us (putsD [] acc) ∧ us.length ≤ acc.length ∧ dcL gd fg ft fk fv (wipeE env vs) (ws.drop (i + 1)) S3 = some (rest, S2) ∧ ys = acc ++ rest, fun H' h => ⟨_, by omega, rfl, hlt, h⟩, fun v H' y => ?_⟩
          obtain ⟨G3, x3, r3⟩ := hy v H' y
          split at e2
          · rename_i env3 S4 et
            have ow3 := ow.step x3
            refine hg ws[i] (wipeE env vs) S3 env3 S4 v (wipe σ vs) G3 H' μ2 _ x3.rel (EnvR.wipe (ow3.nx.envR (x0.envR er)) vs) r3 et fun σ4 G4 H4 μ4 x4 er4 hw => ?_
            refine ⟨?_, ?_⟩
            · rw [hw vs hL]
              exact wipe_in σ vs vs fun i h => h
            · have ow4 := ow3.step x4
              split at e2
              · rename_i b S5 eb
                refine ht env3 S4 b S5 σ4 G4 H4 μ4 _ x4.rel er4 eb fun G5 H5 μ5 x5 => ?_
                have ow5 := ow4.step x5
                have xx : Nx K μ2 G2 H2 μ5 G5 H5 S5 := (x3.trans x4).trans x5
                have kd : ∀ {μ μ' : List Addr} {G H G' H' : Hp} {S' : Store} {vs : List (Key × V)} {kvs : List (PyData × W)}, Nx K μ G H μ' G' H' S' → Paired (RKd K G μ) vs kvs → Paired (RKd K G' μ') vs kvs := fun x p => by
                  obtain ⟨l, rfl, _⟩ := x.pre
                  exact pkd_mono x.gg l p
                have pa5 := kd xx pa
                cases b with
                | false =>
                  rw [if_neg Bool.false_ne_true] at e2 ⊢
                  exact ⟨S5, G5, μ5, us, acc, rest, ow5, pa5, la, e2, ey⟩
                | true =>
                  rw [if_pos rfl] at e2 ⊢
                  split at e2
                  · rename_i kv S6 ek
                    split at e2
                    · rename_i yv S7 ee
                      split at e2
                      · rename_i kd' ys' S8 hkd er7
                        split at e2
                        · rename_i hlf
                          cases e2
                          refine hk env3 S5 kv S6 σ4 G5 H5 μ5 _ x5.rel (x5.envR er4) ek fun v6 G6 H6 μ6 x6 r6 => ?_
                          refine hv env3 S6 yv S7 σ4 G6 H6 μ6 _ x6.rel (x6.envR (x5.envR er4)) ee fun v7 G7 H7 μ7 x7 r7 => ?_
                          have ow7 := (ow5.step x6).step x7
                          obtain ⟨kk, hkk⟩ := Option.isSome_iff_exists.mp hlf
                          obtain ⟨h1, h2⟩ := leafK_rd hkk (data_rd x7.rel (x7.rw r6) hkd)
                          subst h1; subst h2
                          have l2 : ys.length = acc.length + (ys'.length + 1) := by rw [ey]; simp
                          have l4 := length_putK us kk v7
                          refine ⟨us, kk, rfl, ow7.at', by omega, ⟨S7, G7, μ7, putK us kk v7, acc ++ [(kD kk, yv)], ys', ow7.write, ?_, ?_, er7, by rw [ey]; simp⟩⟩
                          · have e9 : putsD [] (acc ++ [(kD kk, yv)]) = putD (putsD [] acc) (kD kk) yv := by unfold putsD; rw [List.foldl_append]; rfl
                            rw [e9]
                            exact put_leaf r7 (kd x7 (kd x6 pa5))
                          · rw [List.length_append, List.length_cons, List.length_nil]; omega
                        · cases e2
                      · cases e2
                    · cases e2
                  · cases e2
              · cases e2
          · cases e2
        · have e3 : i = ws.length := by omega
          subst e3
          rw [List.drop_length] at e2
          unfold dcL at e2
          rw [if_pos hgd] at e2
          cases e2
          rw [List.append_nil] at ey
          subst ey
          refine .inl ⟨stp, q _ G2 H2 (μ2 ++ [D]) (x0.trans (ow.cell (c := .dic (putsD [] ys)) ⟨.inl ⟨_, ow.at', pkd_mono (Same.refl _) [D] pa⟩, ow.gn⟩)) ⟨D, ?_, rfl⟩⟩
          rw [← ow.nx.rel.len, List.getElem?_append_right (Nat.le_refl _), Nat.sub_self]
          rfl
      · cases e
    · cases e
  · cases e
section
variable {kx vx tg iter : Expr} {ifs : List Expr} {scope : Scope} {own : List (Str × Nat)} {pos : Pos} {wi : TI} {g : TG} {tt : TT} {tk tv : TE} {L : List Nat} {fi : FI} {fg : FG} {ft : FT} {fk fv : FE}
theorem z_dc (hc : X.calm = true) (hN : X.N.Nodup) (hi : ZI K X tg iter wi fi) (ok : BlkOk X.N X.env.scope scope own)
    (hg : ∀ (s : Shared) (H : Hp) (C : Addr) (cl : List (Str × Addr)) (fp : List Addr), ZG K (Bk X scope s H C cl fp) tg g L fg) (ht : ∀ (s : Shared) (H : Hp) (C : Addr) (cl : List (Str × Addr)) (fp : List Addr), ZTs K (Bk X scope s H C cl fp) ifs tt ft)
    (hk : ∀ (s : Shared) (H : Hp) (C : Addr) (cl : List (Str × Addr)) (fp : List Addr), ZE K (Bk X scope s H C cl fp) kx tk fk) (hv : ∀ (s : Shared) (H : Hp) (C : Addr) (cl : List (Str × Addr)) (fp : List Addr), ZE K (Bk X scope s H C cl fp) vx tv fv) (s0 : Shared) (H0 : Hp) (hL : ∀ i ∈ L, i ∈ own.map (·.2) := by decide) (hs : ∀ x, foldedSetIterable iter X.env x = pure x := by intro _; rfl) :
    ZE K X (.DictComp kx vx [⟨tg, iter, ifs, 0⟩] scope pos) (tDc wi g tt tk tv (own.map (·.2))) (dcX (own.map (·.2)) fi fg ft fk fv) :=
  ⟨pe_dc hc hN hi.pe ok (fun s H C cl fp => (hg s H C cl fp).pe) (fun s H C cl fp => (ht s H C cl fp).pe) (fun s H C cl fp => (hk s H C cl fp).pe) (fun s H C cl fp => (hv s H C cl fp).pe) hs,
    se_dc hL hi.se (hg s0 H0 0 [] []).se (ht s0 H0 0 [] []).se (hk s0 H0 0 [] []).se (hv s0 H0 0 [] []).se⟩
end
end Z

/-! ZJ: isinstance of two types, sorted by a place, repr, defs where no repr is under way. -/
namespace Z
open PySem PySem.Spec PyProof.Rows L2 Y PySem.W
variable {K : Kx} {X : Cx}
/-! ### a comprehension of a dict, stored -/
section
variable {kx vx tg iter : Expr} {ifs : List Expr} {scope : Scope} {own : List (Str × Nat)} {pos : Pos} {wi : TI} {g : TG} {tt : TT} {tk tv : TE} {L : List Nat} {fi : FI} {fg : FG} {ft : FT} {fk fv : FE}
theorem zs_setDc {i : Nat} {y : Str} {py : Pos} {spos : Pos} (hc : X.calm = true) (hN : X.N.Nodup) (hy : X.N[i]? = some y) (hyl : X.env.scope.names.lookup y = some .local) (sw : swapsWith (.DictComp kx vx [⟨tg, iter, ifs, 0⟩] scope pos) (some (.Name y py)) spos.line X.env = pure true) (hi : ZI K X tg iter wi fi) (ok : BlkOk X.N X.env.scope scope own)
    (hg : ∀ (s : Shared) (H : Hp) (C : Addr) (cl : List (Str × Addr)) (fp : List Addr), ZG K (Bk X scope s H C cl fp) tg g L fg) (ht : ∀ (s : Shared) (H : Hp) (C : Addr) (cl : List (Str × Addr)) (fp : List Addr), ZTs K (Bk X scope s H C cl fp) ifs tt ft)
    (hk : ∀ (s : Shared) (H : Hp) (C : Addr) (cl : List (Str × Addr)) (fp : List Addr), ZE K (Bk X scope s H C cl fp) kx tk fk) (hv : ∀ (s : Shared) (H : Hp) (C : Addr) (cl : List (Str × Addr)) (fp : List Addr), ZE K (Bk X scope s H C cl fp) vx tv fv) (s0 : Shared) (H0 : Hp) (hL : ∀ i ∈ L, i ∈ own.map (·.2) := by decide) (hs : ∀ x, foldedSetIterable iter X.env x = pure x := by intro _; rfl) :
    ZS K X (.Assign [.Name y py] (.DictComp kx vx [⟨tg, iter, ifs, 0⟩] scope pos) spos) (tAsg (tDc wi g tt tk tv (own.map (·.2))) (gName i)) (asgX (dcX (own.map (·.2)) fi fg ft fk fv) (nameG i)) :=
  ⟨ps_setDc hc hN hy hyl sw hi.pe ok (fun s H C cl fp => (hg s H C cl fp).pe) (fun s H C cl fp => (ht s H C cl fp).pe) (fun s H C cl fp => (hk s H C cl fp).pe) (fun s H C cl fp => (hv s H C cl fp).pe) hs,
    ss_asg (se_dc hL hi.se (hg s0 H0 0 [] []).se (ht s0 H0 0 [] []).se (hk s0 H0 0 [] []).se (hv s0 H0 0 [] []).se) sg_name⟩
end
/-! ### isinstance(x, (T, U)) -/
def isaW2 (T U : String) : Store → W → Option (W × Store) := fun S w => match snap S w with
  | some (.dict _) => none
  | some x => vB (isaD T x || isaD U x) S
  | none => none
theorem z_isa2 {e : Expr} {te : TE} {f : FE} {T U : String} {x y : Str} {p q q2 pt pos : Pos} {kt : Nat} (hT : T ∈ Tys) (hU : U ∈ Tys) (hK : X.kx = K) (hg : Gl X "isinstance") (hm : X.mg "isinstance" = none) (hgT : Gl X x) (hmT : X.mg x = none) (hvT : bootBuiltins x = some (.type T)) (hgU : Gl X y) (hmU : X.mg y = none) (hvU : bootBuiltins y = some (.type U)) (he : ZE K X e te f)
    (hn : x ≠ "__name__" := by decide) (hd : (x == ("__debug__" : Str)) = false := by decide) (hn2 : y ≠ "__name__" := by decide) (hd2 : (y == ("__debug__" : Str)) = false := by decide)
    (ht1 : starEach [.Name x q, .Name y q2] X.env = (false, eval (.Name x q) X.env) :: starEach [.Name y q2] X.env := by rfl) (ht2 : starEach [.Name y q2] X.env = (false, eval (.Name y q2) X.env) :: starEach [] X.env := by rfl)
    (hs : starEach [e, .Tuple [.Name x q, .Name y q2] kt pt] X.env = (false, eval e X.env) :: starEach [.Tuple [.Name x q, .Name y q2] kt pt] X.env := by rfl) (hs2 : starEach [.Tuple [.Name x q, .Name y q2] kt pt] X.env = (false, eval (.Tuple [.Name x q, .Name y q2] kt pt) X.env) :: starEach [] X.env := by rfl) (hpl : (backTo pos (starEach [.Tuple [.Name x q, .Name y q2] kt pt] X.env)).any (·.1) = false := by rfl) :
    ZE K X (.Call (.Name "isinstance" p) [e, .Tuple [.Name x q, .Name y q2] kt pt] [] pos) (tCB (rIsiT K.k) (tCons te (tCons (tTup (tCons (tC (.ty T)) (tCons (tC (.ty U)) tNil))) tNil))) (op1X (isaW2 T U) f) :=
  ⟨by
    subst hK
    exact pe_callB call_isiT hg hm (by rfl) (pa_cons he.pe (pa_cons (pe_tup (pa_cons (pe_bltn hgT hmT hvT rfl hn hd) (pa_cons (pe_bltn hgU hmU hvU rfl hn2 hd2) pa_nil ht2) ht1)) pa_nil hs2) hs) (by decide) (by decide) hs hpl, fun env S w S' σ G H μ Q rl er e q => by
    simp only [op1X] at e
    split at e
    · rename_i a S1 e1
      refine he.se env S a S1 σ G H μ _ rl er e1 fun v G1 H1 μ1 x1 r1 => ?_
      unfold isaW2 at e
      split at e
      · cases e
      · rename_i y hnd hy
        cases e
        refine ⟨(by rw [sizeLine_eq]; show 2 ≤ _; omega), fun p hp => ?_⟩
        have ow := own_new (o := .tup [.ty T, .ty U]) x1.rel hp
        have rd := (snap_rd x1.rel r1 hy).mono (same_data (o := .tup [.ty T, .ty U]) hp)
        refine ⟨v, p, [.ty T, .ty U], .type (tyN y), [.type T, .type U], isaD T y || isaD U y, rfl, upd_same, .cons (.ty T) (.cons (.ty U) .nil), tyx_of rd fun ds z => hnd _ z, ?_, q _ _ _ _ (x1.trans ow.nx) (.bl _)⟩
        refine kitAny_cons (kit_ty (kit_at hT fun ds z => hnd _ z)) (fun h => ?_) fun h => by rw [h]; rfl
        rw [h, Bool.false_or]
        exact kitAny_cons (kit_ty (kit_at hU fun ds z => hnd _ z)) (fun h => by rw [h]; rfl) fun h => h
      · cases e
    · cases e⟩
/-! ### sorted(xs, key=f), f telling a place of a row -/
def spKey (K : PySem.W.Frag) (c : Nat) : Sp := fun vs H Q _ => ∃ (a : Addr) (xs : List V) (i : Int), vs = [.ref a] ∧ SqT K H a xs ∧ xs[c]? = some (.int i) ∧ Q (.int i) H
def keyAt (c : Nat) : PyData → Option Int
  | .tuple ds => match ds[c]? with
    | some (.int i) => some i
    | _ => none
  | _ => none
def keysAt (c : Nat) : List PyData → Option (List Int)
  | [] => some []
  | d :: ds => match keyAt c d, keysAt c ds with
    | some i, some is => some (i :: is)
    | _, _ => none
def sortK (c : Nat) (ds : List PyData) : List PyData := ds.mergeSort fun a b => decide (((keyAt c a).getD 0) ≤ ((keyAt c b).getD 0))
def sortKX (c : Nat) (nw : Store → List W → Option (W × Store)) (fa : FA) : FE := fun env S => match fa env S with
  | some ([w], S1) => (match itemsL S1 w with
    | some xs => (match datas S1 xs with
      | some ds => (match keysAt c ds with
        | some ks => if ds.length < 64 ∧ ks.Nodup then nw S1 ((sortK c ds).map W.d) else none
        | none => none)
      | none => none)
    | none => none)
  | _ => none
theorem sort_uniq {α : Type} (κ : α → Int) : ∀ {l1 l2 : List α}, l1.Perm l2 → l1.Pairwise (fun a b => κ a ≤ κ b) → l2.Pairwise (fun a b => κ a ≤ κ b) → (l1.map κ).Nodup → l1 = l2
  | [], l2, p, _, _, _ => (List.nil_perm.mp p).symm
  | a :: l1, [], p, _, _, _ => absurd p.length_eq (by simp)
  | a :: l1, b :: l2, p, h1, h2, nd => by
    have ha : a ∈ b :: l2 := p.mem_iff.mp List.mem_cons_self
    have hb : b ∈ a :: l1 := p.mem_iff.mpr List.mem_cons_self
    obtain ⟨g1, g1'⟩ := List.pairwise_cons.mp h1
    obtain ⟨g2, g2'⟩ := List.pairwise_cons.mp h2
    rw [List.map_cons, List.nodup_cons] at nd
    have e : a = b := by
      rcases List.mem_cons.mp hb with e | hb
      · exact e.symm
      · rcases List.mem_cons.mp ha with e | ha
        · exact e
        · have e3 : κ a = κ b := Int.le_antisymm (g1 b hb) (g2 a ha)
          exact absurd (List.mem_map.mpr ⟨b, hb, e3.symm⟩) nd.1
    subst e
    rw [sort_uniq κ p.cons_inv g1' g2' nd.2]
def KTell (G : Hp) (c : Nat) (v : V) (i : Int) : Prop := ∃ a vs, v = .ref a ∧ G a = some (.tup vs) ∧ vs[c]? = some (.int i)
open Classical in
noncomputable def κOf (K : Kx) (G : Hp) (c : Nat) (v : V) : Int := if h : ∃ i, KTell G c v i then h.choose else 0
theorem κOf_is {G : Hp} {c : Nat} {a : Addr} {vs : List V} {i : Int} (h1 : G a = some (.tup vs)) (h2 : vs[c]? = some (.int i)) : κOf K G c (.ref a) = i := by
  have h : ∃ i', KTell G c (.ref a) i' := ⟨i, a, vs, rfl, h1, h2⟩
  unfold κOf
  rw [dif_pos h]
  have hs := h.choose_spec
  generalize h.choose = j at hs ⊢
  obtain ⟨b, us, e1, e2, e3⟩ := hs
  cases e1
  rw [h1] at e2
  cases e2
  rw [h2] at e3
  injection e3 with e3
  injection e3 with e3
  exact e3.symm
theorem keyAt_rd {G : Hp} {c : Nat} {v : V} {d : PyData} {i : Int} (r : RD K G v d) (h : keyAt c d = some i) : ∃ a vs, v = .ref a ∧ G a = some (.tup vs) ∧ vs[c]? = some (.int i) := by
  unfold keyAt at h
  split at h
  · rename_i ds
    split at h
    · rename_i j hj
      cases h
      cases r with
      | tup h1 h2 =>
        obtain ⟨v, hv, hr⟩ := pd_get' h2.pd hj
        cases hr
        exact ⟨_, _, rfl, h1, hv⟩
    · cases h
  · cases h
theorem keysAt_rd {G : Hp} {c : Nat} : ∀ {vs : List V} {ds : List PyData} {ks : List Int}, RDs K G vs ds → keysAt c ds = some ks → vs.map (κOf K G c) = ks ∧ (∀ v ∈ vs, ∃ a us, v = .ref a ∧ G a = some (.tup us) ∧ us[c]? = some (.int (κOf K G c v))) ∧ ∀ z ∈ vs.zip ds, (keyAt c z.2).getD 0 = κOf K G c z.1
  | _, _, ks, .nil, e => by
    simp only [keysAt] at e
    cases e
    exact ⟨rfl, fun v h => (by cases h), fun v h => (by cases h)⟩
  | _, _, ks, .cons r t, e => by
    simp only [keysAt] at e
    split at e
    · rename_i i is h1 h2
      cases e
      obtain ⟨a, us, rfl, g1, g2⟩ := keyAt_rd r h1
      obtain ⟨q1, q2, q3⟩ := keysAt_rd t h2
      have hk := κOf_is (K := K) g1 g2
      refine ⟨by rw [List.map_cons, q1, hk], fun v hv => ?_, fun z hz => ?_⟩
      · rcases List.mem_cons.mp hv with e | hv
        · rw [e, hk]
          exact ⟨a, us, rfl, g1, g2⟩
        · exact q2 v hv
      · rw [List.zip_cons_cons] at hz
        rcases List.mem_cons.mp hz with e | hz
        · rw [e, hk, h1]
          rfl
        · exact q3 z hz
    · cases e
theorem z_sortF {nw : Store → List W → Option (W × Store)} {c k : Nat} {x : Str} {e : Expr} {t : TA} {fa : FA} {p xp pos kpos : Pos} {ps : List Str} (hK : X.kx = K) (hn : NewOk K .lst nw) (L : FnC X.prog X.w X.K X.mg X.base x k ps (spKey K.k c)) (hr : Room (k + 2) X.A) (hg : Gl X "sorted") (hm : X.mg "sorted" = none) (hx : Gl X x) (ha : ZA K X [e] t fa)
    (hdx : (x == ("__debug__" : Str)) = false := by decide)
    (he : backTo pos (starEach [e] X.env) = (false, eval e X.env) :: backTo pos (starEach [] X.env) := by rfl) (hpl : (backTo pos (starEach [e] X.env)).any (·.1) = false := by rfl)
    (hall : (backToKw pos (keywordEach [⟨some (Str.ofString "key"), .Name x xp, kpos⟩] X.env)).all (·.1.isSome) = true := by rfl) (hnone : (backToKw pos (keywordEach [⟨some (Str.ofString "key"), .Name x xp, kpos⟩] X.env)).any (·.1.isNone) = false := by rfl)
    (hks : (backToKw pos (keywordEach [⟨some (Str.ofString "key"), .Name x xp, kpos⟩] X.env)).filterMap (·.1) = [Str.ofString "key"] := by rfl) :
    ZE K X (.Call (.Name "sorted" p) [e] [⟨some (Str.ofString "key"), .Name x xp, kpos⟩] pos) (tSortF K.k (spKey K.k c) t) (sortKX c nw fa) :=
  ⟨pe_sortF (kOf hK) L hr hg hm hx ha.pe hdx he hpl hall hnone hks, fun env S w S' σ G H μ Q rl er e q => by
    simp only [sortKX] at e
    intro f
    split at e
    · rename_i w1 S1 e1
      split at e
      · rename_i xs hx1
        split at e
        · rename_i ds hd
          split at e
          · rename_i ks hks
            split at e
            · rename_i hc
              refine ha.se env S _ S1 σ G H μ _ rl er e1 fun vs G1 H1 μ1 x1 r1 => ?_
              obtain ⟨v, rfl, r⟩ := pd_one r1
              obtain ⟨a, us, rfl, g1, g2⟩ := items_list x1.rel r hx1
              have rd := datas_rd x1.rel g2 hd
              obtain ⟨q1, q2, q3⟩ := keysAt_rd rd hks
              have hlen := rd.len
              refine ⟨a, us, κOf K G1 c, rfl, rfl, .inl g1, by rw [hlen]; exact hc.1, fun v hv => ?_, fun ys p perm sorted hp => ?_⟩
              · obtain ⟨b, vs, rfl, h1, h2⟩ := q2 v hv
                exact ⟨b, vs, _, rfl, SqT.of (x1.rel.sub _ _ h1), h2, rfl, rfl⟩
              · have hz := (zip_rd rd)
                have hmem : ∀ z ∈ (us.zip ds).mergeSort (fun a b => decide (((keyAt c a.2).getD 0) ≤ ((keyAt c b.2).getD 0))), z ∈ us.zip ds := fun z h => (List.mergeSort_perm _ _).mem_iff.mp h
                have e2 : ((us.zip ds).mergeSort (fun a b => decide (((keyAt c a.2).getD 0) ≤ ((keyAt c b.2).getD 0)))).map Prod.snd = sortK c ds := by
                  have e5 := List.map_mergeSort (r := fun a b : V × PyData => decide (((keyAt c a.2).getD 0) ≤ ((keyAt c b.2).getD 0))) (s := fun a b : PyData => decide (((keyAt c a).getD 0) ≤ ((keyAt c b).getD 0))) (f := Prod.snd) (l := us.zip ds) (fun _ _ _ _ => rfl)
                  rw [hz.1] at e5
                  exact e5
                have e3 : ((us.zip ds).mergeSort (fun a b => decide (((keyAt c a.2).getD 0) ≤ ((keyAt c b.2).getD 0)))).map Prod.fst = ys := by
                  have hfst : (us.zip ds).map Prod.fst = us := by rw [List.map_fst_zip]; omega
                  have p1 : (((us.zip ds).mergeSort (fun a b => decide (((keyAt c a.2).getD 0) ≤ ((keyAt c b.2).getD 0)))).map Prod.fst).Perm us := by
                    have := (List.mergeSort_perm (us.zip ds) (fun a b => decide (((keyAt c a.2).getD 0) ≤ ((keyAt c b.2).getD 0)))).map Prod.fst
                    rwa [hfst] at this
                  refine sort_uniq (κOf K G1 c) (p1.trans perm.symm) ?_ sorted ?_
                  · rw [List.pairwise_map]
                    have hp := List.pairwise_mergeSort (le := fun a b : V × PyData => decide (((keyAt c a.2).getD 0) ≤ ((keyAt c b.2).getD 0))) (fun a b c h1 h2 => by simp only [decide_eq_true_eq] at *; omega) (fun a b => by simp only [Bool.or_eq_true, decide_eq_true_eq]; omega) (us.zip ds)
                    refine List.Pairwise.imp_of_mem (fun {a b} ha hb h => ?_) hp
                    rw [← q3 a (hmem a ha), ← q3 b (hmem b hb)]
                    exact of_decide_eq_true h
                  · refine ((p1.map (κOf K G1 c)).nodup_iff).mpr ?_
                    rw [q1]
                    exact hc.2
                have rds : RDs K G1 ys (sortK c ds) := by
                  have := rds_of_all (K := K) (H := G1) (bs := (us.zip ds).mergeSort (fun a b => decide (((keyAt c a.2).getD 0) ≤ ((keyAt c b.2).getD 0)))) fun b hb => hz.2 b (hmem b hb)
                  rwa [e2, e3] at this
                exact (hn x1.rel (rds_w rds) e fun v G' H' μ' x2 r2 => q v G' H' μ' (x1.trans x2) r2).2 p hp
            · cases e
          · cases e
        · cases e
      · cases e
    · cases e⟩
/-! ### repr -/
def rReprN : List V → Hp → VK → Prop := fun xs H Q => xs = [.non] ∧ Q (.str "None") H
def rReprV (K : PySem.W.Frag) : List V → Hp → VK → Prop := fun xs H Q => rRepr K xs H Q ∨ rReprN xs H Q
theorem cr_reprN : CallR X (.builtin "repr") rReprN := by
  intro pins s σ H xs us Q I r q
  obtain ⟨rfl, q⟩ := q
  obtain ⟨u, rfl, ru⟩ := vals1 r
  cases ru
  exact PySem.P.repr_of_none ⟨.str "None", H, I.tok _, ⟨_, rfl⟩, q⟩
theorem cr_reprV (hK : X.kx = K) (hg : X.A.guards = some []) (hu : X.A.units + 64 < cLine) : CallR X (.builtin "repr") (rReprV K.k) := by
  subst hK
  exact callR_or (cr_repr hg hu) cr_reprN
def isSeq : PyData → Bool
  | .list _ => true
  | .tuple _ => true
  | _ => false
def reprW : Store → List W → Option (W × Store) := fun S ws => match ws with
  | [.d .none] => some (.d (.str "None"), S)
  | [w] => (match snap S w with
    | some d => if isSeq d = true ∧ d.showable = true ∧ d.hasDict = false ∧ d.depth ≤ 60 ∧ d.shown.length ≤ sizeLine then some (.d (.str d.shown), S) else none
    | none => none)
  | _ => none
theorem sr_repr : SRs K (rReprV K.k) reprW := fun S ws w S' G H μ vs Q rl rs e q => by
  unfold reprW at e
  split at e
  · obtain ⟨v, rfl, r⟩ := pd_one rs
    cases r
    cases e
    exact .inr ⟨rfl, q _ G H μ (Nx.refl rl) (.str _)⟩
  · rename_i w1 _
    obtain ⟨v, rfl, r⟩ := pd_one rs
    split at e
    · rename_i d hd
      split at e
      · rename_i hc
        cases e
        obtain ⟨h0, h1, h2, h3, h4⟩ := hc
        have rd := snap_rd rl r hd
        have : ∃ a, v = .ref a := by
          cases rd <;> first | exact ⟨_, rfl⟩ | exact absurd h0 Bool.false_ne_true
        obtain ⟨a, rfl⟩ := this
        exact .inl ⟨a, d, rfl, rd.dp h2, h1, h2, h3, h4, q _ G H μ (Nx.refl rl) (.str _)⟩
      · cases e
    · cases e
  · cases e
/-! ### defs where no repr is under way -/
section
variable {P : Program} {w : World} {mg : Str → Option Value} {base : Heap} {x qual : Str} {st : Stmt} {f : Addr} {fd : FuncData}
theorem fn_zG {N ps : List Str} {k : Nat} {body : FS} (F : Fun K.k x qual st f fd) (S : FnScope N ps (defScope st))
    (hb : ∀ (cdv : Value) (A : Around) (outer : List PySem.Env) (s : Shared) (H : Hp) (E : XK), Room k (A.deeper (envOfC qual (defScope st) s.heap.objs.size f cdv)) → A.guards = some [] →
      ∃ t, ZSs K (cxOf CX0 P w K.k mg base N qual (defScope st) f cdv A outer s H E).nox (defBody st) t body) : FnG P w K.k mg base CX0 (k + 1) f fd ps (spD K ps.length (fnD ps.length (N.length - ps.length) body)) := by
  refine FunG.ok F S (fun vs H Q E h => ?_) (fun cdv A outer s H vs Q E hr hg h => ?_)
  · obtain ⟨ws, _, _, _, _, _, hl, _, p, _⟩ := h
    rw [pd_len p, hl]
  · obtain ⟨ws, S0, w0, S', G, μ, hl, rl, p, e, q⟩ := h
    obtain ⟨t, hz⟩ := hb cdv A outer s H E hr hg
    refine ⟨t, hz.pe, ?_⟩
    have hv : vs.length = ps.length := by rw [pd_len p, hl]
    unfold fnD at e
    rw [if_pos hl] at e
    have er : EnvR K G μ (L2.start N vs) (ws.map some ++ List.replicate (N.length - ps.length) none) := by
      unfold L2.start
      rw [hv]
      exact envR_start _ p
    split at e
    · rename_i w1 env' S1 e1
      cases e
      exact hz.se _ S0 _ _ _ _ G H μ _ rl er e1 fun σ' G' H' μ' x' er' v r => q v G' H' μ' x' r
    · rename_i env' S1 e1
      cases e
      exact hz.se _ S0 _ _ _ _ G H μ _ rl er e1 fun σ' G' H' μ' x' er' => q .non G' H' μ' x' .non
    · cases e
/-- a def that tells a place of a row -/
theorem fn_key {N ps : List Str} {k c : Nat} (F : Fun K.k x qual st f fd) (S : FnScope N ps (defScope st)) (hp : ps.length = 1)
    (hb : ∀ (cdv : Value) (A : Around) (outer : List PySem.Env) (s : Shared) (H : Hp) (E : XK), Room k (A.deeper (envOfC qual (defScope st) s.heap.objs.size f cdv)) →
      PSs (cxOf CX0 P w K.k mg base N qual (defScope st) f cdv A outer s H E).nox (defBody st) (tRet (tOp (rIx K.k) (tVar 0) (tC (.int c))))) : FnOk P w K.k mg base CX0 (k + 1) f fd ps (spKey K.k c) := by
  refine F.ok S (fun vs H Q E h => ?_) (fun cdv A outer s H vs Q E hr h => ?_)
  · obtain ⟨a, xs, i, rfl, _⟩ := h
    exact hp.symm
  · obtain ⟨a, xs, i, rfl, hs, hi, q⟩ := h
    refine ⟨_, hb cdv A outer s H E hr, ?_⟩
    exact ⟨_, rfl, .inr (.inl ⟨a, _, _, _, rfl, rfl, hs, at_of (j := c) rfl hi, q⟩)⟩
end
end Z
namespace Z
open PySem PySem.Spec PyProof.Rows L2 Y PySem.W
theorem fn_never {K : Kx} {P : Program} {w : World} {mg : Str → Option Value} {base : Heap} {f : Addr} {fd : FuncData} {k np : Nat} {ps : List Str} (h : ps.length = np) : FnOk P w K.k mg base CX0 k f fd ps (spD K np fun _ _ => none) :=
  ⟨fun vs H Q E h1 => by
    obtain ⟨ws, _, _, _, _, _, hl, _, p, _⟩ := h1
    rw [pd_len p, hl, h], fun A out t H ar us vs Q E _ _ _ _ h1 => by
    obtain ⟨ws, _, _, _, _, _, _, _, _, e, _⟩ := h1
    cases e⟩
end Z
namespace Z
open PySem PySem.Spec PyProof.Rows L2 Y PySem.W
variable {K : Kx} {X : Cx}
def negW : Store → W → Option (W × Store) := fun S a => match a with
  | .d (.int i) => some (.d (.int (-i)), S)
  | _ => none
theorem z_neg {a : Expr} {ta : TE} {fa : FE} {pos : Pos} (ha : ZE K X a ta fa) : ZE K X (.UnaryOp .USub a pos) (tUn (rU fun i => .int (-i)) ta) (op1X negW fa) := ⟨pe_un un_neg ha.pe, se_un (fun S w1 w S' G H μ v1 Q rl r e q => by
  unfold negW at e
  split at e
  · cases e
    exact ⟨_, int_of r, q _ G H μ (Nx.refl rl) (.int _)⟩
  · cases e) ha.se⟩
end Z

/-! ZR: running the functions. -/
namespace Z
open PySem PySem.Spec PyProof.Rows L2 Y
/-- the store behind a call -/
noncomputable def se (f : FnD) (as : List W) : Store := ((f as []).map Prod.snd).getD []
theorem se_of {f : FnD} {as : List W} {r : W} (h : ∃ S, f as [] = some (r, S)) : f as [] = some (r, se f as) := by
  obtain ⟨S, h⟩ := h
  unfold se
  rw [h]
  rfl
section
variable {c : FT} {f g : FS} {env e1 : Env} {S S1 : Store} {b : Bool} {w : W} {k : Ctl}
theorem ifS_b (h : c env S = some (b, S1)) : ifS c f g env S = if b = true then f env S1 else g env S1 := by unfold ifS; rw [h]
theorem seqX_n (h : f env S = some (.next, e1, S1)) : seqX f g env S = g e1 S1 := by unfold seqX; rw [h]
theorem seqX_r (h : f env S = some (.ret w, e1, S1)) : seqX f g env S = some (.ret w, e1, S1) := by unfold seqX; rw [h]
theorem seqX_c (h : f env S = some (.cnt, e1, S1)) : seqX f g env S = some (.cnt, e1, S1) := by unfold seqX; rw [h]
theorem asgX_n {fa : FE} {t : FG} {e2 : Env} {S2 : Store} (h : fa env S = some (w, S1)) (h2 : t w env S1 = some (e2, S2)) : asgX fa t env S = some (.next, e2, S2) := by unfold asgX; rw [h]; dsimp only; rw [h2]
theorem retX_n {fa : FE} (h : fa env S = some (w, S1)) : retX fa env S = some (.ret w, env, S1) := by unfold retX; rw [h]
theorem dropX_n {fa : FE} (h : fa env S = some (w, S1)) : dropX fa env S = some (.next, env, S1) := by unfold dropX; rw [h]
theorem fnD_r {np nl : Nat} {body : FS} {ws : List W} (hl : ws.length = np) (h : body (ws.map some ++ List.replicate nl none) S = some (.ret w, e1, S1)) : fnD np nl body ws S = some (w, S1) := by unfold fnD; rw [if_pos hl, h]
theorem fnD_n {np nl : Nat} {body : FS} {ws : List W} (hl : ws.length = np) (h : body (ws.map some ++ List.replicate nl none) S = some (.next, e1, S1)) : fnD np nl body ws S = some (.d .none, S1) := by unfold fnD; rw [if_pos hl, h]
theorem forX_l {fi : FI} {tg : FG} {ws : List W} {gd : Gd} (h : fi env S = some (ws, gd, S1)) : forX fi tg f env S = forL gd tg f ws env S1 := by unfold forX; rw [h]
theorem for_nil {gd : Gd} {tg : FG} (h : HoldsG S gd) : forL gd tg f [] env S = some (.next, env, S) := by unfold forL; rw [if_pos h]
theorem for_next {gd : Gd} {tg : FG} {ws : List W} {e2 : Env} {S2 : Store} (h : HoldsG S gd) (h1 : tg w env S = some (e1, S1)) (h2 : f e1 S1 = some (.next, e2, S2)) : forL gd tg f (w :: ws) env S = forL gd tg f ws e2 S2 := by
  rw [forL, if_pos h, h1]; dsimp only; rw [h2]
theorem for_cnt {gd : Gd} {tg : FG} {ws : List W} {e2 : Env} {S2 : Store} (h : HoldsG S gd) (h1 : tg w env S = some (e1, S1)) (h2 : f e1 S1 = some (.cnt, e2, S2)) : forL gd tg f (w :: ws) env S = forL gd tg f ws e2 S2 := by
  rw [forL, if_pos h, h1]; dsimp only; rw [h2]
theorem for_ret {gd : Gd} {tg : FG} {ws : List W} {e2 : Env} {S2 : Store} {r : W} (h : HoldsG S gd) (h1 : tg w env S = some (e1, S1)) (h2 : f e1 S1 = some (.ret r, e2, S2)) : forL gd tg f (w :: ws) env S = some (.ret r, e2, S2) := by
  rw [forL, if_pos h, h1]; dsimp only; rw [h2]
theorem comp_nil {gd : Gd} {tg : FG} {tt : FT} {te : FE} (h : HoldsG S gd) : compL gd tg tt te env [] S = some ([], S) := by unfold compL; rw [if_pos h]
theorem comp_yes {gd : Gd} {tg : FG} {tt : FT} {te : FE} {ws ys : List W} {y : W} {S2 S3 S4 : Store} (h : HoldsG S gd) (h1 : tg w env S = some (e1, S1)) (h2 : tt e1 S1 = some (true, S2)) (h3 : te e1 S2 = some (y, S3)) (h4 : compL gd tg tt te env ws S3 = some (ys, S4)) : compL gd tg tt te env (w :: ws) S = some (y :: ys, S4) := by
  rw [compL, if_pos h, h1]; dsimp only; rw [h2]; dsimp only; rw [if_pos rfl, h3]; dsimp only; rw [h4]
theorem comp_no {gd : Gd} {tg : FG} {tt : FT} {te : FE} {ws : List W} {S2 : Store} (h : HoldsG S gd) (h1 : tg w env S = some (e1, S1)) (h2 : tt e1 S1 = some (false, S2)) : compL gd tg tt te env (w :: ws) S = compL gd tg tt te env ws S2 := by
  rw [compL, if_pos h, h1]; dsimp only; rw [h2]; dsimp only; rw [if_neg Bool.false_ne_true]
/-- a comprehension that takes all, and changes nothing -/
theorem comp_filter {α : Type} (a : α → W) (b : α → W) (p : α → Bool) {tg : FG} {tt : FT} {te : FE} {gd : Gd} (hg : HoldsG S gd) : ∀ xs : List α, (∀ x ∈ xs, ∃ e1, tg (a x) env S = some (e1, S) ∧ tt e1 S = some (p x, S) ∧ (p x = true → te e1 S = some (b x, S))) → compL gd tg tt te env (xs.map a) S = some ((xs.filter p).map b, S)
  | [], _ => comp_nil hg
  | x :: xs, h => by
    obtain ⟨e1, h1, h2, h3⟩ := h x List.mem_cons_self
    have ih := comp_filter a b p hg xs fun y hy => h y (List.mem_cons_of_mem _ hy)
    cases hp : p x with
    | true =>
      rw [List.filter_cons_of_pos (by rw [hp])]
      exact comp_yes hg h1 (by rw [h2, hp]) (h3 hp) ih
    | false =>
      rw [List.filter_cons_of_neg (by rw [hp]; exact Bool.false_ne_true)]
      exact (comp_no (gd := gd) (S := S) hg h1 (by rw [h2, hp])).trans ih
end
theorem datas_d (S : Store) : ∀ ds : List PyData, datas S (ds.map W.d) = some ds
  | [] => rfl
  | d :: ds => by
    rw [List.map_cons]
    unfold datas
    rw [datas_d S ds]
    rfl
theorem newL_d (S : Store) {ds : List PyData} (h : ds.length ≤ sizeLine) : newL S (ds.map W.d) = some (.d (.list ds), S) := by unfold newL; rw [datas_d]; dsimp only; rw [if_pos h]
/-! a body that returns -/
def Rets (f : FS) (env : Env) (S : Store) (w : W) : Prop := ∃ e1 S1, f env S = some (.ret w, e1, S1)
section
variable {c : FT} {f g : FS} {env e1 : Env} {S S1 : Store} {b : Bool} {w : W}
theorem rets_seq (h : f env S = some (.next, e1, S1)) (r : Rets g e1 S1 w) : Rets (seqX f g) env S w := by
  obtain ⟨e2, S2, r⟩ := r
  exact ⟨e2, S2, (seqX_n h).trans r⟩
theorem rets_seqr (r : Rets f env S w) : Rets (seqX f g) env S w := by
  obtain ⟨e2, S2, r⟩ := r
  exact ⟨e2, S2, seqX_r r⟩
theorem rets_if (h : c env S = some (b, S1)) (r : if b = true then Rets f env S1 w else Rets g env S1 w) : Rets (ifS c f g) env S w := by
  unfold Rets
  rw [ifS_b h]
  cases b with
  | true => rw [if_pos rfl] at r ⊢; exact r
  | false => rw [if_neg Bool.false_ne_true] at r ⊢; exact r
theorem rets_ret {fa : FE} (h : fa env S = some (w, S1)) : Rets (retX fa) env S w := ⟨env, S1, retX_n h⟩
theorem rets_fn {np nl : Nat} {body : FS} {ws : List W} (hl : ws.length = np) (h : Rets body (ws.map some ++ List.replicate nl none) [] w) : fnD np nl body ws [] = some (w, se (fnD np nl body) ws) := se_of (by
  obtain ⟨e1, S1, h⟩ := h
  exact ⟨S1, fnD_r hl h⟩)
theorem next_fn {np nl : Nat} {body : FS} {ws : List W} (hl : ws.length = np) (h : ∃ e1 S1, body (ws.map some ++ List.replicate nl none) [] = some (.next, e1, S1)) : fnD np nl body ws [] = some (.d .none, se (fnD np nl body) ws) := se_of (by
  obtain ⟨e1, S1, h⟩ := h
  exact ⟨S1, fnD_n hl h⟩)
end
/-- a loop that may return -/
def foldE {α β : Type} (f : β → α → Except W β) : β → List α → Except W β
  | b, [] => .ok b
  | b, x :: xs => match f b x with
    | .ok b' => foldE f b' xs
    | .error w => .error w
theorem for_ex {α β : Type} (a : α → W) (f : β → α → Except W β) (I : List α → β → Env → Store → Prop) {gd : Gd} {tg : FG} {body : FS} (he : ∀ xs b env S, I xs b env S → HoldsG S gd)
    (hs : ∀ b x xs env S, I (x :: xs) b env S → ∃ e1 S1, tg (a x) env S = some (e1, S1) ∧ match f b x with
      | .ok b' => ∃ c e2 S2, body e1 S1 = some (c, e2, S2) ∧ (c = .next ∨ c = .cnt) ∧ I xs b' e2 S2
      | .error w => ∃ e2 S2, body e1 S1 = some (.ret w, e2, S2)) : ∀ xs b env S, I xs b env S → match foldE f b xs with
      | .ok b' => ∃ e2 S2, forL gd tg body (xs.map a) env S = some (.next, e2, S2) ∧ I [] b' e2 S2
      | .error w => ∃ e2 S2, forL gd tg body (xs.map a) env S = some (.ret w, e2, S2)
  | [], b, env, S, h => ⟨env, S, for_nil (he _ _ _ _ h), h⟩
  | x :: xs, b, env, S, h => by
    obtain ⟨e1, S1, h1, h2⟩ := hs b x xs env S h
    unfold foldE
    cases hf : f b x with
    | ok b' =>
      rw [hf] at h2
      obtain ⟨c, e2, S2, h3, h4, h5⟩ := h2
      have ih := for_ex a f I he hs xs b' e2 S2 h5
      have e : forL gd tg body ((x :: xs).map a) env S = forL gd tg body (xs.map a) e2 S2 := by
        rcases h4 with rfl | rfl
        · exact for_next (he _ _ _ _ h) h1 h3
        · exact for_cnt (he _ _ _ _ h) h1 h3
      dsimp only
      rw [e]
      exact ih
    | error w =>
      rw [hf] at h2
      obtain ⟨e2, S2, h3⟩ := h2
      exact ⟨e2, S2, for_ret (he _ _ _ _ h) h1 h3⟩
theorem for_fold {α β : Type} (a : α → W) (f : β → α → β) (I : List α → β → Env → Store → Prop) {gd : Gd} {tg : FG} {body : FS} (he : ∀ xs b env S, I xs b env S → HoldsG S gd)
    (hs : ∀ b x xs env S, I (x :: xs) b env S → ∃ e1 S1, tg (a x) env S = some (e1, S1) ∧ ∃ c e2 S2, body e1 S1 = some (c, e2, S2) ∧ (c = .next ∨ c = .cnt) ∧ I xs (f b x) e2 S2) :
    ∀ xs b env S, I xs b env S → ∃ e2 S2, forL gd tg body (xs.map a) env S = some (.next, e2, S2) ∧ I [] (xs.foldl f b) e2 S2
  | [], b, env, S, h => ⟨env, S, for_nil (he _ _ _ _ h), h⟩
  | x :: xs, b, env, S, h => by
    obtain ⟨e1, S1, h1, c, e2, S2, h3, h4, h5⟩ := hs b x xs env S h
    obtain ⟨e3, S3, h6, h7⟩ := for_fold a f I he hs xs (f b x) e2 S2 h5
    refine ⟨e3, S3, ?_, h7⟩
    rcases h4 with rfl | rfl
    · exact (for_next (he _ _ _ _ h) h1 h3).trans h6
    · exact (for_cnt (he _ _ _ _ h) h1 h3).trans h6
theorem frz_list {fa : FE} {env : Env} {S S1 : Store} {n : Nat} {ds : List PyData} (h : fa env S = some (.c n, S1)) (hn : S1[n]? = some (.lst (ds.map W.d))) : ∃ S2, frzX fa env S = some (.d (.list ds), S2) := by
  unfold frzX
  rw [h]
  dsimp only
  rw [hn]
  dsimp only
  rw [datas_d]
  exact ⟨_, rfl⟩
theorem app_d {fo : FE} {fa : FA} {env : Env} {S S1 S2 : Store} {n : Nat} {xs : List W} {y : W} (h : fo env S = some (.c n, S1)) (h1 : S1[n]? = some (.lst xs)) (h2 : fa env S1 = some ([y], S2)) (h3 : S2[n]? = some (.lst xs)) (hl : xs.length < sizeLine) : bmX appW fo fa env S = some (.d .none, S2.set n (.lst (xs ++ [y]))) := by
  unfold bmX
  rw [h]
  dsimp only
  have : itemsL S1 (.c n) = some xs := by simp only [itemsL]; rw [h1]
  rw [this]
  dsimp only
  rw [h2]
  dsimp only [appW]
  rw [h3]
  dsimp only
  rw [if_pos hl]
theorem call_d {f : FnD} {fa : FA} {env : Env} {S S1 : Store} {ds : List PyData} {r : PyData} {S2 : Store} (h : fa env S = some (ds.map W.d, S1)) (hf : f (ds.map W.d) [] = some (.d r, S2)) : callL [] f fa env S = some (.d r, S1) := by
  have e1 : ∀ ds : List PyData, cellIx [] (ds.map W.d) = [] := fun ds => by cases ds <;> rfl
  have e2 : ∀ ds : List PyData, argsW S1 [] [] (ds.map W.d) = some (ds.map W.d) := by
    intro ds
    induction ds with
    | nil => rfl
    | cons d ds ih =>
      rw [List.map_cons]
      unfold argsW
      rw [show ([] : List Bool).tail = [] from rfl, ih]
  unfold callL
  rw [h]
  dsimp only
  rw [e1, e2]
  dsimp only [cellsAt]
  rw [hf]
  simp only [putBack, backW]
theorem add_lists (S : Store) {as bs : List PyData} (h : as.length + bs.length ≤ sizeLine) : addW newL S (.d (.list as)) (.d (.list bs)) = some (.d (.list (as ++ bs)), S) := by
  have e : catL newL S (.d (.list as)) (.d (.list bs)) = some (.d (.list (as ++ bs)), S) := by
    show newL S (as.map W.d ++ bs.map W.d) = _
    rw [← List.map_append]
    exact newL_d S (by rw [List.length_append]; exact h)
  show (numX addI S (.d (.list as)) (.d (.list bs))).or ((addS S (.d (.list as)) (.d (.list bs))).or ((catL newL S (.d (.list as)) (.d (.list bs))).or (catT S (.d (.list as)) (.d (.list bs))))) = _
  rw [e]
  rfl
section
variable {fa fb fc : FE} {fr : FA} {env : Env} {S S1 S2 : Store} {a b : W} {as : List W}
theorem op2_n {g : Store → W → W → Option (W × Store)} {r : Option (W × Store)} (h1 : fa env S = some (a, S1)) (h2 : fb env S1 = some (b, S2)) (h3 : g S2 a b = r) : op2X g fa fb env S = r := by unfold op2X; rw [h1]; dsimp only; rw [h2]; exact h3
theorem op1_n {g : Store → W → Option (W × Store)} {r : Option (W × Store)} (h1 : fa env S = some (a, S1)) (h3 : g S1 a = r) : op1X g fa env S = r := by unfold op1X; rw [h1]; exact h3
theorem arg_n {g : Store → List W → Option (W × Store)} {r : Option (W × Store)} (h1 : fr env S = some (as, S1)) (h3 : g S1 as = r) : argX g fr env S = r := by unfold argX; rw [h1]; exact h3
theorem cons_n (h1 : fa env S = some (a, S1)) (h2 : fr env S1 = some (as, S2)) : consX fa fr env S = some (a :: as, S2) := by unfold consX; rw [h1]; dsimp only; rw [h2]
theorem bb_n {k : Bool} (h : fa env S = some (.d (.bool k), S1)) : bbX fa env S = some (k, S1) := by unfold bbX; rw [h]
theorem if_n {c : FT} {k : Bool} {r : Option (W × Store)} (h : c env S = some (k, S1)) (h2 : (if k = true then fa env S1 else fb env S1) = r) : ifX c fa fb env S = r := by unfold ifX; rw [h]; exact h2
theorem or_n {c d : FT} {k : Bool} {r : Option (Bool × Store)} (h : c env S = some (k, S1)) (h2 : (if k = true then some (true, S1) else d env S1) = r) : orT c d env S = r := by unfold orT; rw [h]; exact h2
theorem and_n {c d : FT} {k : Bool} {r : Option (Bool × Store)} (h : c env S = some (k, S1)) (h2 : (if k = true then d env S1 else some (false, S1)) = r) : andT c d env S = r := by unfold andT; rw [h]; exact h2
theorem not_n {c : FT} {k : Bool} (h : c env S = some (k, S1)) : notT c env S = some (!k, S1) := by unfold notT; rw [h]
theorem lc_n {nw : Store → List W → Option (W × Store)} {vs : List Nat} {fi : FI} {tg : FG} {tt : FT} {te : FE} {ws ys : List W} {g : Gd} {r : Option (W × Store)} (h : fi env S = some (ws, g, S1)) (h2 : compL g tg tt te (wipeE env vs) ws S1 = some (ys, S2)) (h3 : nw S2 ys = r) : lcX nw vs fi tg tt te env S = r := by unfold lcX; rw [h]; dsimp only; rw [h2]; exact h3
theorem dc_n {vs : List Nat} {fi : FI} {tg : FG} {tt : FT} {tk tv : FE} {ws : List W} {ys : List (PyData × W)} {g : Gd} (h : fi env S = some (ws, g, S1)) (h2 : dcL g tg tt tk tv (wipeE env vs) ws S1 = some (ys, S2)) (hl : ys.length ≤ sizeLine) : dcX vs fi tg tt tk tv env S = some (.c S2.length, S2 ++ [.dic (putsD [] ys)]) := by unfold dcX; rw [h]; dsimp only; rw [h2]; dsimp only; rw [if_pos hl]
end
theorem lc_filterG {α : Type} (a : α → W) (b : α → PyData) (p : α → Bool) {vs : List Nat} {fi : FI} {tg : FG} {tt : FT} {te : FE} {env : Env} {S : Store} {gd : Gd} (hg : HoldsG S gd) (xs : List α) (hi : fi env S = some (xs.map a, gd, S)) (h : ∀ x ∈ xs, ∃ e1, tg (a x) (wipeE env vs) S = some (e1, S) ∧ tt e1 S = some (p x, S) ∧ (p x = true → te e1 S = some (.d (b x), S))) (hl : xs.length ≤ sizeLine) :
    lcX newL vs fi tg tt te env S = some (.d (.list ((xs.filter p).map b)), S) := by
  refine lc_n hi (comp_filter a (fun x => .d (b x)) p hg xs h) ?_
  rw [show (xs.filter p).map (fun x => W.d (b x)) = ((xs.filter p).map b).map W.d by rw [List.map_map]; rfl]
  refine newL_d S ?_
  rw [List.length_map]
  exact Nat.le_trans (List.length_filter_le _ _) hl
theorem lc_mapG {α : Type} (a : α → W) (b : α → PyData) {vs : List Nat} {fi : FI} {tg : FG} {te : FE} {env : Env} {S : Store} {gd : Gd} (hg : HoldsG S gd) (xs : List α) (hi : fi env S = some (xs.map a, gd, S)) (h : ∀ x ∈ xs, ∃ e1, tg (a x) (wipeE env vs) S = some (e1, S) ∧ te e1 S = some (.d (b x), S)) (hl : xs.length ≤ sizeLine) :
    lcX newL vs fi tg yesT te env S = some (.d (.list (xs.map b)), S) := by
  have := lc_filterG a b (fun _ => true) (tt := yesT) hg xs hi (fun x hx => by
    obtain ⟨e1, h1, h2⟩ := h x hx
    exact ⟨e1, h1, rfl, fun _ => h2⟩) hl
  rwa [List.filter_eq_self.mpr fun _ _ => rfl] at this
theorem lc_filter {α : Type} (a : α → W) (b : α → PyData) (p : α → Bool) {vs : List Nat} {fi : FI} {tg : FG} {tt : FT} {te : FE} {env : Env} {S : Store} (xs : List α) (hi : fi env S = some (xs.map a, none, S)) (h : ∀ x ∈ xs, ∃ e1, tg (a x) (wipeE env vs) S = some (e1, S) ∧ tt e1 S = some (p x, S) ∧ (p x = true → te e1 S = some (.d (b x), S))) (hl : xs.length ≤ sizeLine) :
    lcX newL vs fi tg tt te env S = some (.d (.list ((xs.filter p).map b)), S) := lc_filterG a b p (gd := none) True.intro xs hi h hl
theorem lc_map {α : Type} (a : α → W) (b : α → PyData) {vs : List Nat} {fi : FI} {tg : FG} {te : FE} {env : Env} {S : Store} (xs : List α) (hi : fi env S = some (xs.map a, none, S)) (h : ∀ x ∈ xs, ∃ e1, tg (a x) (wipeE env vs) S = some (e1, S) ∧ te e1 S = some (.d (b x), S)) (hl : xs.length ≤ sizeLine) :
    lcX newL vs fi tg yesT te env S = some (.d (.list (xs.map b)), S) := lc_mapG a b (gd := none) True.intro xs hi h hl
/-! a body that returns, and leaves the store as told -/
def RetS (f : FS) (env : Env) (S : Store) (w : W) (S1 : Store) : Prop := ∃ e1, f env S = some (.ret w, e1, S1)
section
variable {c : FT} {f g : FS} {env e1 : Env} {S S1 S2 : Store} {b : Bool} {w : W}
theorem ret_seq (h : f env S = some (.next, e1, S1)) (r : RetS g e1 S1 w S2) : RetS (seqX f g) env S w S2 := by
  obtain ⟨e2, r⟩ := r
  exact ⟨e2, (seqX_n h).trans r⟩
theorem ret_seqr (r : RetS f env S w S2) : RetS (seqX f g) env S w S2 := by
  obtain ⟨e2, r⟩ := r
  exact ⟨e2, seqX_r r⟩
theorem ret_ret {fa : FE} (h : fa env S = some (w, S1)) : RetS (retX fa) env S w S1 := ⟨env, retX_n h⟩
theorem ret_fn {np nl : Nat} {body : FS} {ws : List W} (hl : ws.length = np) (h : RetS body (ws.map some ++ List.replicate nl none) S w S1) : fnD np nl body ws S = some (w, S1) := by
  obtain ⟨e1, h⟩ := h
  exact fnD_r hl h
/-- if c: return a -/
theorem ret_if {fa : FE} {v : W} (h : c env S = some (b, S)) (h1 : b = true → fa env S = some (v, S)) (h2 : b = false → RetS g env S w S1) : RetS (seqX (ifS c (retX fa) skipX) g) env S (if b = true then v else w) (if b = true then S else S1) := by
  cases b with
  | true =>
    rw [if_pos rfl, if_pos rfl]
    exact ret_seqr ⟨env, (ifS_b h).trans (retX_n (h1 rfl))⟩
  | false =>
    rw [if_neg Bool.false_ne_true, if_neg Bool.false_ne_true]
    exact ret_seq ((ifS_b h).trans rfl) (h2 rfl)
end
theorem mem_ints (S : Store) (t : Int) (is : List Int) : memW false S (.d (.int t)) (.d (.list (is.map PyData.int))) = some (.d (.bool (decide (t ∈ is))), S) := by
  have h1 : (is.map PyData.int).all flatD = true := by
    rw [List.all_eq_true]
    intro x hx
    obtain ⟨i, _, rfl⟩ := List.mem_map.mp hx
    rfl
  have h2 : ∀ is : List Int, anyD (.int t) (is.map PyData.int) = decide (t ∈ is) := by
    intro is
    induction is with
    | nil => rfl
    | cons i is ih =>
      unfold anyD at ih ⊢
      rw [List.map_cons, List.any_cons, ih]
      by_cases h : t = i
      · subst h
        simp [PyData.eqv]
      · have h' : ¬ i = t := fun z => h z.symm
        simp [PyData.eqv, h, h']
  unfold memW
  dsimp only [snap]
  rw [if_pos (.inl ⟨rfl, h1⟩), h2]
  rfl
theorem mem_strs (S : Store) (t : Str) (is : List Str) : memW false S (.d (.str t)) (.d (.list (is.map PyData.str))) = some (.d (.bool (decide (t ∈ is))), S) := by
  have h1 : (is.map PyData.str).all flatD = true := by
    rw [List.all_eq_true]
    intro x hx
    obtain ⟨i, _, rfl⟩ := List.mem_map.mp hx
    rfl
  have h2 : ∀ is : List Str, anyD (.str t) (is.map PyData.str) = decide (t ∈ is) := by
    intro is
    induction is with
    | nil => rfl
    | cons i is ih =>
      unfold anyD at ih ⊢
      rw [List.map_cons, List.any_cons, ih]
      by_cases h : t = i
      · subst h
        simp [PyData.eqv]
      · have h' : ¬ i = t := fun z => h z.symm
        simp [PyData.eqv, h, h']
  unfold memW
  dsimp only [snap]
  rw [if_pos (.inl ⟨rfl, h1⟩), h2]
  rfl
theorem call_io (io : List Bool) {f : FnD} {fa : FA} {env : Env} {S S1 : Store} {ds : List PyData} {r : PyData} {S2 : Store} (h : fa env S = some (ds.map W.d, S1)) (hf : f (ds.map W.d) [] = some (.d r, S2)) : callL io f fa env S = some (.d r, S1) := by
  have e1 : ∀ (io : List Bool) (ds : List PyData), cellIx io (ds.map W.d) = [] := by
    intro io ds
    induction ds generalizing io with
    | nil => cases io with
      | nil => rfl
      | cons b io => cases b <;> rfl
    | cons d ds ih =>
      cases io with
      | nil => rfl
      | cons b io =>
        cases b
        · rw [List.map_cons]; unfold cellIx; exact ih io
        · rw [List.map_cons]; unfold cellIx; exact ih io
  have e2 : ∀ (io : List Bool) (ds : List PyData), argsW S1 [] io (ds.map W.d) = some (ds.map W.d) := by
    intro io ds
    induction ds generalizing io with
    | nil => simp [argsW]
    | cons d ds ih =>
      rw [List.map_cons]
      unfold argsW
      rw [ih]
  unfold callL
  rw [h]
  dsimp only
  rw [e1, e2]
  dsimp only [cellsAt]
  rw [hf]
  simp only [putBack, backW]
section
variable {c : FT} {f g : FS} {env : Env} {S S1 S2 : Store} {w : W}
theorem ret_ift (h : c env S = some (true, S1)) (r : RetS f env S1 w S2) : RetS (ifS c f g) env S w S2 := by
  obtain ⟨e, r⟩ := r
  exact ⟨e, (ifS_b h).trans r⟩
theorem ret_iff (h : c env S = some (false, S1)) : ifS c f skipX env S = some (.next, env, S1) := (ifS_b h).trans rfl
end
theorem at_zero {α : Type} (w : α) (ws : List α) : atI (w :: ws) 0 = some w := by
  unfold atI ixN
  rw [if_pos (Int.le_refl 0), List.length_cons]
  rw [if_pos (by omega)]
  rfl
theorem ix_zero (d : PyData) (ds : List PyData) (S : Store) : ixW S (.d (.list (d :: ds))) (.d (.int 0)) = some (.d d, S) := by
  show (match atI (W.d d :: ds.map W.d) 0 with
    | some w => some (w, S)
    | none => none) = _
  rw [at_zero]
theorem dget_n {fd fk : FE} {env : Env} {S S1 S2 : Store} {w v : W} {k : PyData} {kvs : List (PyData × W)} (h1 : fd env S = some (w, S1)) (h2 : fk env S1 = some (.d k, S2)) (h3 : dictOf S2 w = some kvs) (h4 : keyFits k kvs = true) (h5 : lookD kvs k = some v) : dgetX fd fk env S = some (v, S2) := by
  unfold dgetX
  rw [h1]
  dsimp only
  rw [h2]
  simp only [getX, dataOf, h3, h4, if_true, h5]
theorem set_same {S : Store} {n : Nat} {c : Cell} (h : S[n]? = some c) : S.set n c = S := by
  apply List.ext_getElem?
  intro i
  by_cases e : i = n
  · subst e
    rw [List.getElem?_set_self (List.getElem?_eq_some_iff.mp h).1, h]
  · rw [List.getElem?_set_ne fun z => e z.symm]
theorem plain_data (ds : List PyData) : plainC (.lst (ds.map W.d)) = true := by
  show (ds.map W.d).all plainW = true
  rw [List.all_eq_true]
  intro x hx
  obtain ⟨d, _, rfl⟩ := List.mem_map.mp hx
  rfl
/-- f(x, c): a cell handed in second, read or written -/
theorem call_c2 {f : FnD} {fa : FA} {env : Env} {S S1 : Store} {x r : PyData} {n : Nat} {c c' : Cell} (h : fa env S = some ([.d x, .c n], S1)) (hn : S1[n]? = some c) (hp : plainC c = true) (hp' : plainC c' = true) (hf : f [.d x, .c 0] [c] = some (.d r, [c'])) : callL [false, true] f fa env S = some (.d r, S1.set n c') := by
  unfold callL
  rw [h]
  have e1 : cellIx [false, true] [.d x, .c n] = [n] := by simp [cellIx]
  have e2 : argsW S1 [n] [false, true] [.d x, .c n] = some [.d x, .c 0] := by simp [argsW, posOf]
  have e3 : cellsAt S1 [n] = some [c] := by simp [cellsAt, hn, hp]
  dsimp only
  rw [e1, e2, e3]
  dsimp only
  rw [hf]
  simp [putBack, hp', backW]
/-- f(c, x): a cell handed in first -/
theorem call_c1 {f : FnD} {fa : FA} {env : Env} {S S1 : Store} {ds : List PyData} {r : PyData} {n : Nat} {c c' : Cell} {S2 : Store} {io : List Bool} (h : fa env S = some (.c n :: ds.map W.d, S1)) (hio : io = true :: ds.map fun _ => false) (hn : S1[n]? = some c) (hp : plainC c = true) (hp' : plainC c' = true) (hf : f (.c 0 :: ds.map W.d) [c] = some (.d r, c' :: S2)) : callL io f fa env S = some (.d r, S1.set n c') := by
  subst hio
  have a1 : ∀ ds : List PyData, cellIx (ds.map fun _ => false) (ds.map W.d) = [] := by
    intro ds
    induction ds with
    | nil => rfl
    | cons d ds ih => rw [List.map_cons, List.map_cons]; unfold cellIx; exact ih
  have a2 : ∀ ds : List PyData, argsW S1 [n] (ds.map fun _ => false) (ds.map W.d) = some (ds.map W.d) := by
    intro ds
    induction ds with
    | nil => simp [argsW]
    | cons d ds ih => rw [List.map_cons, List.map_cons]; unfold argsW; rw [List.tail_cons, ih]
  have e1 : cellIx (true :: ds.map fun _ => false) (.c n :: ds.map W.d) = [n] := by
    unfold cellIx
    rw [a1]
    simp
  have e2 : argsW S1 [n] (true :: ds.map fun _ => false) (.c n :: ds.map W.d) = some (.c 0 :: ds.map W.d) := by
    unfold argsW
    rw [a2]
    simp [posOf]
  have e3 : cellsAt S1 [n] = some [c] := by simp [cellsAt, hn, hp]
  unfold callL
  rw [h]
  dsimp only
  rw [e1, e2, e3]
  dsimp only
  rw [hf]
  simp [putBack, hp', backW]
end Z

/-! ZA: the program's defs, taken over. -/
namespace K02
open PySem PySem.Spec PyProof.Rows L2 Y Z
def top (i : Nat) : Stmt := PySem.Challenge.pw_stonestairs_k02_shapes_of_tables.main.body.getD i (.Pass ⟨0, 0, 0, 0⟩)
structure Tx (mg : Str → Option Value) (t_MOST_TAG : Tok) : Prop where
  b_all : mg "all" = none
  b_bool : mg "bool" = none
  b_dict : mg "dict" = none
  b_enumerate : mg "enumerate" = none
  b_int : mg "int" = none
  b_isinstance : mg "isinstance" = none
  b_len : mg "len" = none
  b_list : mg "list" = none
  b_range : mg "range" = none
  b_repr : mg "repr" = none
  b_sorted : mg "sorted" = none
  b_str : mg "str" = none
  b_tuple : mg "tuple" = none
  c_MOST_TAG : mg "MOST_TAG" = some (.int 200 t_MOST_TAG)

abbrev s_born : Stmt := top 2
theorem sc_born : FnScope ["column", "at", "tag", "name", "kind", "default"] ["column", "at"] (defScope s_born) := ⟨rfl, rfl, rfl, by decide +kernel, rfl, by decide +kernel, by decide +kernel⟩
noncomputable def pk_born : Σ' b : FS, ∀ {P : Program} {w : World} {K : PySem.W.Frag} {mg : Str → Option Value} {base : Heap} {t_MOST_TAG : Tok} (T : Tx mg t_MOST_TAG) (f : Addr) (cdv : Value) (A : Around) (outer : List PySem.Env) (st : Shared) (H : Hp) (E : XK) (hr : Room 0 (A.deeper (envOfC "born" (defScope s_born) st.heap.objs.size f cdv))),
    ∃ t, ZSs ⟨K, P, w⟩ (cxOf CX0 P w K mg base ["column", "at", "tag", "name", "kind", "default"] "born" (defScope s_born) f cdv A outer st H E).nox (defBody s_born) t b := by
  exact ⟨_, fun {P w K mg base t_MOST_TAG} T f cdv A outer st H E hr => ⟨_, (zss_cons (zs_asg (zv 0) (zg_tup (K := ⟨K, P, w⟩) (n := 4) rfl rfl (zgs_cons (zg_name (i := 2) sc_born.nd rfl (Or.inl rfl)) (zgs_cons (zg_name (i := 3) sc_born.nd rfl (Or.inl rfl)) (zgs_cons (zg_name (i := 4) sc_born.nd rfl (Or.inl rfl)) (zgs_cons (zg_name (i := 5) sc_born.nd rfl (Or.inl rfl)) zgs_nil))))))
    (zss_one (zs_ret (z_tup (za_cons (zv 1) (za_cons (zv 2) (za_cons (zv 3) (za_cons (zv 4) (za_cons (zv 5) (za_cons z_int za_nil))))))))))⟩⟩
noncomputable def b_born : FS := (pk_born).1
noncomputable def fn_born : FnD := fnD 2 4 b_born
theorem ok_born {P : Program} {w : World} {K : PySem.W.Frag} {mg : Str → Option Value} {base : Heap} {t_MOST_TAG : Tok} {f : Addr} {fd : FuncData} (F : Fun K "born" "born" s_born f fd) (T : Tx mg t_MOST_TAG) : FnOk P w K mg base CX0 1 f fd ["column", "at"] (spD ⟨K, P, w⟩ 2 fn_born) :=
  fn_z (K := ⟨K, P, w⟩) F sc_born fun cdv A outer s H E hr => pk_born.2 T f cdv A outer s H E hr

abbrev s_tag_of : Stmt := top 4
theorem sc_tag_of : FnScope ["column"] ["column"] (defScope s_tag_of) := ⟨rfl, rfl, rfl, by decide +kernel, rfl, by decide +kernel, by decide +kernel⟩
theorem ok_tag_of {P : Program} {w : World} {K : PySem.W.Frag} {mg : Str → Option Value} {base : Heap} {f : Addr} {fd : FuncData} (F : Fun K "tag_of" "tag_of" s_tag_of f fd) : FnOk P w K mg base CX0 1 f fd ["column"] (spKey K 1) :=
  fn_key (K := ⟨K, P, w⟩) (c := 1) F sc_tag_of rfl fun cdv A outer st H E hr => ((zss_one (zs_ret (z_ix (K := ⟨K, P, w⟩) rfl (zv 0) z_int (fun _ _ => rfl)))) : ZSs ⟨K, P, w⟩ (cxOf CX0 P w K mg base ["column"] "tag_of" (defScope s_tag_of) f cdv A outer st H E).nox (defBody s_tag_of) _ _).pe

abbrev s_stepped : Stmt := top 5
theorem sc_stepped : FnScope ["columns", "step", "at", "found", "column"] ["columns", "step", "at"] (defScope s_stepped) := ⟨rfl, rfl, rfl, by decide +kernel, rfl, by decide +kernel, by decide +kernel⟩
noncomputable def pk_stepped : Σ' b : FS, ∀ {P : Program} {w : World} {K : PySem.W.Frag} {mg : Str → Option Value} {base : Heap} {t_MOST_TAG : Tok} (T : Tx mg t_MOST_TAG) (L_born : FnC P w K mg base "born" 1 ["column", "at"] (spD ⟨K, P, w⟩ 2 fn_born)) (f : Addr) (cdv : Value) (A : Around) (outer : List PySem.Env) (st : Shared) (H : Hp) (E : XK) (hr : Room 1 (A.deeper (envOfC "stepped" (defScope s_stepped) st.heap.objs.size f cdv))),
    ∃ t, ZSs ⟨K, P, w⟩ (cxOf CX0 P w K mg base ["columns", "step", "at", "found", "column"] "stepped" (defScope s_stepped) f cdv A outer st H E).nox (defBody s_stepped) t b := by
  exact ⟨_, fun {P w K mg base t_MOST_TAG} T L_born f cdv A outer st H E hr => ⟨_, (zss_cons (zs_if (zt_cmp (zc_eq (K := ⟨K, P, w⟩) rfl hr.units) (z_ix (K := ⟨K, P, w⟩) rfl (zv 1) z_int (fun _ _ => rfl)) z_str (nomark _))
    (zss_one (zs_ret (z_add (K := ⟨K, P, w⟩) rfl nL (zv 0) (z_lst nL (za_cons (z_call [] L_born (hr.mono (by decide)) (by rfl) (za_cons (z_sl (K := ⟨K, P, w⟩) rfl nL (zv 1) (zo_some z_int) zo_none) (za_cons (zv 2) za_nil))) za_nil)))))
    zss_nil)
    (zss_cons (zs_let 3 sc_stepped.nd (z_lst nC za_nil))
    (zss_cons (zs_forK PassesOwn.never rfl (zi_seq (K := ⟨K, P, w⟩) rfl (zv 0)) (zg_name (i := 4) sc_stepped.nd rfl (Or.inl rfl))
    (zss_one (zs_if (zt_cmp (zc_ne (K := ⟨K, P, w⟩) rfl hr.units) (z_ix (K := ⟨K, P, w⟩) rfl (zv 4) z_int (fun _ _ => rfl)) (z_ix (K := ⟨K, P, w⟩) rfl (zv 1) z_int (fun _ _ => rfl)) (nomark _))
    (zss_one (zs_expr (z_bm (K := ⟨K, P, w⟩) rfl PySem.F.plainAttrs_list PySem.F.slot_list_append PySem.F.type_list_append mt_append sm_append (zv 3) (za_cons (zv 4) za_nil))))
    (zss_one (zs_if (zt_cmp (zc_eq (K := ⟨K, P, w⟩) rfl hr.units) (z_ix (K := ⟨K, P, w⟩) rfl (zv 1) z_int (fun _ _ => rfl)) z_str (nomark _))
    (zss_one (zs_expr (z_bm (K := ⟨K, P, w⟩) rfl PySem.F.plainAttrs_list PySem.F.slot_list_append PySem.F.type_list_append mt_append sm_append (zv 3) (za_cons (z_add (K := ⟨K, P, w⟩) rfl nL (z_add (K := ⟨K, P, w⟩) rfl nL (z_sl (K := ⟨K, P, w⟩) rfl nL (zv 4) zo_none (zo_some z_int)) (z_tup (za_cons (z_ix (K := ⟨K, P, w⟩) rfl (zv 1) z_int (fun _ _ => rfl)) za_nil))) (z_sl (K := ⟨K, P, w⟩) rfl nL (zv 4) (zo_some z_int) zo_none)) za_nil))))
    (zss_one (zs_if (zt_cmp (zc_eq (K := ⟨K, P, w⟩) rfl hr.units) (z_ix (K := ⟨K, P, w⟩) rfl (zv 1) z_int (fun _ _ => rfl)) z_str (nomark _))
    (zss_one (zs_expr (z_bm (K := ⟨K, P, w⟩) rfl PySem.F.plainAttrs_list PySem.F.slot_list_append PySem.F.type_list_append mt_append sm_append (zv 3) (za_cons (z_add (K := ⟨K, P, w⟩) rfl nL (z_sl (K := ⟨K, P, w⟩) rfl nL (zv 4) zo_none (zo_some z_int)) (z_tup (za_cons (z_add (K := ⟨K, P, w⟩) rfl nL (z_ix (K := ⟨K, P, w⟩) rfl (zv 4) z_int (fun _ _ => rfl)) (z_ix (K := ⟨K, P, w⟩) rfl (zv 1) z_int (fun _ _ => rfl))) za_nil))) za_nil))))
    zss_nil)))))))
    (zss_one (zs_ret (z_frz (zv 3)))))))⟩⟩
noncomputable def b_stepped : FS := (pk_stepped).1
noncomputable def fn_stepped : FnD := fnD 3 2 b_stepped
theorem ok_stepped {P : Program} {w : World} {K : PySem.W.Frag} {mg : Str → Option Value} {base : Heap} {t_MOST_TAG : Tok} {f : Addr} {fd : FuncData} (F : Fun K "stepped" "stepped" s_stepped f fd) (T : Tx mg t_MOST_TAG) (L_born : FnC P w K mg base "born" 1 ["column", "at"] (spD ⟨K, P, w⟩ 2 fn_born)) : FnOk P w K mg base CX0 2 f fd ["columns", "step", "at"] (spD ⟨K, P, w⟩ 3 fn_stepped) :=
  fn_z (K := ⟨K, P, w⟩) F sc_stepped fun cdv A outer s H E hr => pk_stepped.2 T L_born f cdv A outer s H E hr

abbrev s_columns_at : Stmt := top 3
theorem sc_columns_at : FnScope ["table", "shape", "found", "column", "at", "step"] ["table", "shape"] (defScope s_columns_at) := ⟨rfl, rfl, rfl, by decide +kernel, rfl, by decide +kernel, by decide +kernel⟩
noncomputable def pk_columns_at : Σ' b : FS, ∀ {P : Program} {w : World} {K : PySem.W.Frag} {mg : Str → Option Value} {base : Heap} {t_MOST_TAG : Tok} (T : Tx mg t_MOST_TAG) (L_born : FnC P w K mg base "born" 1 ["column", "at"] (spD ⟨K, P, w⟩ 2 fn_born)) (L_stepped : FnC P w K mg base "stepped" 2 ["columns", "step", "at"] (spD ⟨K, P, w⟩ 3 fn_stepped)) (L_tag_of : FnC P w K mg base "tag_of" 1 ["column"] (spKey K 1)) (f : Addr) (cdv : Value) (A : Around) (outer : List PySem.Env) (st : Shared) (H : Hp) (E : XK) (hr : Room 3 (A.deeper (envOfC "columns_at" (defScope s_columns_at) st.heap.objs.size f cdv))),
    ∃ t, ZSs ⟨K, P, w⟩ (cxOf CX0 P w K mg base ["table", "shape", "found", "column", "at", "step"] "columns_at" (defScope s_columns_at) f cdv A outer st H E).nox (defBody s_columns_at) t b := by
  exact ⟨_, fun {P w K mg base t_MOST_TAG} T L_born L_stepped L_tag_of f cdv A outer st H E hr => ⟨_, (zss_cons (zs_setLc (K := ⟨K, P, w⟩) (i := 2) (own := [("column", 3)]) eL rfl sc_columns_at.nd rfl rfl (sw_true rfl rfl rfl (by decide +kernel)) (zi_seq (K := ⟨K, P, w⟩) rfl (z_ix (K := ⟨K, P, w⟩) rfl (zv 0) z_int (fun _ _ => rfl))) (blkOk_by (own := [("column", 3)]) (N := ["table", "shape", "found", "column", "at", "step"]) (sc := defScope s_columns_at) (by decide +kernel)) (fun _ _ _ _ _ => (zg_name (i := 3) sc_columns_at.nd rfl (Or.inl rfl))) (fun _ _ _ _ _ => zts_nil) (fun _ _ _ _ _ => (z_call [] L_born (hr.mono (by decide)) (by rfl) (za_cons (zv 3) (za_cons z_int za_nil)))) st H)
    (zss_cons (zs_forK PassesOwn.never rfl (zi_enum (K := ⟨K, P, w⟩) rfl rfl T.b_enumerate (za_cons (z_sl (K := ⟨K, P, w⟩) rfl nL (z_ix (K := ⟨K, P, w⟩) rfl (zv 0) z_int (fun _ _ => rfl)) zo_none (zo_some (zv 1))) za_nil)) (zg_tup (K := ⟨K, P, w⟩) (n := 2) rfl rfl (zgs_cons (zg_name (i := 4) sc_columns_at.nd rfl (Or.inl rfl)) (zgs_cons (zg_name (i := 5) sc_columns_at.nd rfl (Or.inl rfl)) zgs_nil)))
    (zss_one (zs_let 2 sc_columns_at.nd (z_call [] L_stepped (hr.mono (by decide)) (by rfl) (za_cons (zv 2) (za_cons (zv 5) (za_cons (z_add (K := ⟨K, P, w⟩) rfl nL (zv 4) z_int) za_nil)))))))
    (zss_one (zs_ret (z_sortF (c := 1) (K := ⟨K, P, w⟩) rfl nL L_tag_of (hr.mono (by decide)) (by rfl) T.b_sorted (by rfl) (za_cons (zv 2) za_nil))))))⟩⟩
noncomputable def b_columns_at : FS := (pk_columns_at).1
noncomputable def fn_columns_at : FnD := fnD 2 4 b_columns_at
theorem ok_columns_at {P : Program} {w : World} {K : PySem.W.Frag} {mg : Str → Option Value} {base : Heap} {t_MOST_TAG : Tok} {f : Addr} {fd : FuncData} (F : Fun K "columns_at" "columns_at" s_columns_at f fd) (T : Tx mg t_MOST_TAG) (L_born : FnC P w K mg base "born" 1 ["column", "at"] (spD ⟨K, P, w⟩ 2 fn_born)) (L_stepped : FnC P w K mg base "stepped" 2 ["columns", "step", "at"] (spD ⟨K, P, w⟩ 3 fn_stepped)) (L_tag_of : FnC P w K mg base "tag_of" 1 ["column"] (spKey K 1)) : FnOk P w K mg base CX0 4 f fd ["table", "shape"] (spD ⟨K, P, w⟩ 2 fn_columns_at) :=
  fn_z (K := ⟨K, P, w⟩) F sc_columns_at fun cdv A outer s H E hr => pk_columns_at.2 T L_born L_stepped L_tag_of f cdv A outer s H E hr

abbrev s_column_fault : Stmt := top 6
theorem sc_column_fault : FnScope ["column", "others", "tag", "name", "kind", "default", "other"] ["column", "others"] (defScope s_column_fault) := ⟨rfl, rfl, rfl, by decide +kernel, rfl, by decide +kernel, by decide +kernel⟩
noncomputable def pk_column_fault : Σ' b : FS, ∀ {P : Program} {w : World} {K : PySem.W.Frag} {mg : Str → Option Value} {base : Heap} {t_MOST_TAG : Tok} (T : Tx mg t_MOST_TAG) (f : Addr) (cdv : Value) (A : Around) (outer : List PySem.Env) (st : Shared) (H : Hp) (E : XK) (hr : Room 0 (A.deeper (envOfC "column_fault" (defScope s_column_fault) st.heap.objs.size f cdv))),
    ∃ t, ZSs ⟨K, P, w⟩ (cxOf CX0 P w K mg base ["column", "others", "tag", "name", "kind", "default", "other"] "column_fault" (defScope s_column_fault) f cdv A outer st H E).nox (defBody s_column_fault) t b := by
  exact ⟨_, fun {P w K mg base t_MOST_TAG} T f cdv A outer st H E hr => ⟨_, (zss_cons (zs_asg (zv 0) (zg_tup (K := ⟨K, P, w⟩) (n := 4) rfl rfl (zgs_cons (zg_name (i := 2) sc_column_fault.nd rfl (Or.inl rfl)) (zgs_cons (zg_name (i := 3) sc_column_fault.nd rfl (Or.inl rfl)) (zgs_cons (zg_name (i := 4) sc_column_fault.nd rfl (Or.inl rfl)) (zgs_cons (zg_name (i := 5) sc_column_fault.nd rfl (Or.inl rfl)) zgs_nil))))))
    (zss_cons (zs_if (ZW.zt (zw_or (zt_not (zt_chain (zc_le (K := ⟨K, P, w⟩) rfl hr.units) (zc_le (K := ⟨K, P, w⟩) rfl hr.units) z_int (zv 2) (z_glob (v := .int 200) (y := .int 200) rfl T.c_MOST_TAG ⟨_, rfl⟩ (fun _ => by constructor)))) (zw_or1 (zt_cmp (zc_in (K := ⟨K, P, w⟩) rfl (units65 hr)) (zv 2) (z_lc (K := ⟨K, P, w⟩) (own := [("other", 6)]) eL rfl sc_column_fault.nd (zi_seq (K := ⟨K, P, w⟩) rfl (zv 1)) (blkOk_by (own := [("other", 6)]) (N := ["column", "others", "tag", "name", "kind", "default", "other"]) (sc := defScope s_column_fault) (by decide +kernel)) (fun _ _ _ _ _ => (zg_name (i := 6) sc_column_fault.nd rfl (Or.inl rfl))) (fun _ _ _ _ _ => zts_nil) (fun _ _ _ _ _ => (z_ix (K := ⟨K, P, w⟩) rfl (zv 6) z_int (fun _ _ => rfl))) (s0 := st) (H0 := H)) rfl))))
    (zss_one (zs_ret z_str))
    zss_nil)
    (zss_cons (zs_if (zt_cmp (zc_in (K := ⟨K, P, w⟩) rfl (units65 hr)) (zv 3) (z_lc (K := ⟨K, P, w⟩) (own := [("other", 6)]) eL rfl sc_column_fault.nd (zi_seq (K := ⟨K, P, w⟩) rfl (zv 1)) (blkOk_by (own := [("other", 6)]) (N := ["column", "others", "tag", "name", "kind", "default", "other"]) (sc := defScope s_column_fault) (by decide +kernel)) (fun _ _ _ _ _ => (zg_name (i := 6) sc_column_fault.nd rfl (Or.inl rfl))) (fun _ _ _ _ _ => zts_nil) (fun _ _ _ _ _ => (z_ix (K := ⟨K, P, w⟩) rfl (zv 6) z_int (fun _ _ => rfl))) (s0 := st) (H0 := H)) rfl)
    (zss_one (zs_ret z_str))
    zss_nil)
    (zss_one (zs_ret (z_if (zt_cmp (zc_eq (K := ⟨K, P, w⟩) rfl hr.units) (z_isa (T := "str") (K := ⟨K, P, w⟩) (by decide) rfl (by rfl) T.b_isinstance (by rfl) T.b_str (by decide +kernel) (zv 5)) (z_cmp (zc_eq (K := ⟨K, P, w⟩) rfl hr.units) (zv 4) z_str (nomark _)) (nomark _)) z_non z_str))))))⟩⟩
noncomputable def b_column_fault : FS := (pk_column_fault).1
noncomputable def fn_column_fault : FnD := fnD 2 5 b_column_fault
theorem ok_column_fault {P : Program} {w : World} {K : PySem.W.Frag} {mg : Str → Option Value} {base : Heap} {t_MOST_TAG : Tok} {f : Addr} {fd : FuncData} (F : Fun K "column_fault" "column_fault" s_column_fault f fd) (T : Tx mg t_MOST_TAG) : FnOk P w K mg base CX0 1 f fd ["column", "others"] (spD ⟨K, P, w⟩ 2 fn_column_fault) :=
  fn_z (K := ⟨K, P, w⟩) F sc_column_fault fun cdv A outer s H E hr => pk_column_fault.2 T f cdv A outer s H E hr

abbrev s_table_fault : Stmt := top 7
theorem sc_table_fault : FnScope ["columns", "found", "column", "fault"] ["columns"] (defScope s_table_fault) := ⟨rfl, rfl, rfl, by decide +kernel, rfl, by decide +kernel, by decide +kernel⟩
noncomputable def pk_table_fault : Σ' b : FS, ∀ {P : Program} {w : World} {K : PySem.W.Frag} {mg : Str → Option Value} {base : Heap} {t_MOST_TAG : Tok} (T : Tx mg t_MOST_TAG) (L_column_fault : FnC P w K mg base "column_fault" 1 ["column", "others"] (spD ⟨K, P, w⟩ 2 fn_column_fault)) (L_born : FnC P w K mg base "born" 1 ["column", "at"] (spD ⟨K, P, w⟩ 2 fn_born)) (f : Addr) (cdv : Value) (A : Around) (outer : List PySem.Env) (st : Shared) (H : Hp) (E : XK) (hr : Room 1 (A.deeper (envOfC "table_fault" (defScope s_table_fault) st.heap.objs.size f cdv))),
    ∃ t, ZSs ⟨K, P, w⟩ (cxOf CX0 P w K mg base ["columns", "found", "column", "fault"] "table_fault" (defScope s_table_fault) f cdv A outer st H E).nox (defBody s_table_fault) t b := by
  exact ⟨_, fun {P w K mg base t_MOST_TAG} T L_column_fault L_born f cdv A outer st H E hr => ⟨_, (zss_cons (zs_let 1 sc_table_fault.nd (z_lst nC za_nil))
    (zss_cons (zs_forK PassesOwn.never rfl (zi_seq (K := ⟨K, P, w⟩) rfl (zv 0)) (zg_name (i := 2) sc_table_fault.nd rfl (Or.inl rfl))
    (zss_cons (zs_let 3 sc_table_fault.nd (z_call [false, true] L_column_fault (hr.mono (by decide)) (by rfl) (za_cons (zv 2) (za_cons (zv 1) za_nil))))
    (zss_cons (zs_if (zt_notN (zv 3))
    (zss_one (zs_ret (zv 3)))
    zss_nil)
    (zss_one (zs_expr (z_bm (K := ⟨K, P, w⟩) rfl PySem.F.plainAttrs_list PySem.F.slot_list_append PySem.F.type_list_append mt_append sm_append (zv 1) (za_cons (z_call [] L_born (hr.mono (by decide)) (by rfl) (za_cons (zv 2) (za_cons z_int za_nil))) za_nil)))))))
    (zss_one (zs_ret z_non))))⟩⟩
noncomputable def b_table_fault : FS := (pk_table_fault).1
noncomputable def fn_table_fault : FnD := fnD 1 3 b_table_fault
theorem ok_table_fault {P : Program} {w : World} {K : PySem.W.Frag} {mg : Str → Option Value} {base : Heap} {t_MOST_TAG : Tok} {f : Addr} {fd : FuncData} (F : Fun K "table_fault" "table_fault" s_table_fault f fd) (T : Tx mg t_MOST_TAG) (L_column_fault : FnC P w K mg base "column_fault" 1 ["column", "others"] (spD ⟨K, P, w⟩ 2 fn_column_fault)) (L_born : FnC P w K mg base "born" 1 ["column", "at"] (spD ⟨K, P, w⟩ 2 fn_born)) : FnOk P w K mg base CX0 2 f fd ["columns"] (spD ⟨K, P, w⟩ 1 fn_table_fault) :=
  fn_z (K := ⟨K, P, w⟩) F sc_table_fault fun cdv A outer s H E hr => pk_table_fault.2 T L_column_fault L_born f cdv A outer s H E hr

abbrev s_step_fault : Stmt := top 8
theorem sc_step_fault : FnScope ["columns", "step", "mine", "column"] ["columns", "step"] (defScope s_step_fault) := ⟨rfl, rfl, rfl, by decide +kernel, rfl, by decide +kernel, by decide +kernel⟩
noncomputable def pk_step_fault : Σ' b : FS, ∀ {P : Program} {w : World} {K : PySem.W.Frag} {mg : Str → Option Value} {base : Heap} {t_MOST_TAG : Tok} (T : Tx mg t_MOST_TAG) (L_column_fault : FnC P w K mg base "column_fault" 1 ["column", "others"] (spD ⟨K, P, w⟩ 2 fn_column_fault)) (f : Addr) (cdv : Value) (A : Around) (outer : List PySem.Env) (st : Shared) (H : Hp) (E : XK) (hr : Room 1 (A.deeper (envOfC "step_fault" (defScope s_step_fault) st.heap.objs.size f cdv))),
    ∃ t, ZSs ⟨K, P, w⟩ (cxOf CX0 P w K mg base ["columns", "step", "mine", "column"] "step_fault" (defScope s_step_fault) f cdv A outer st H E).nox (defBody s_step_fault) t b := by
  exact ⟨_, fun {P w K mg base t_MOST_TAG} T L_column_fault f cdv A outer st H E hr => ⟨_, (zss_cons (zs_if (zt_cmp (zc_eq (K := ⟨K, P, w⟩) rfl hr.units) (z_ix (K := ⟨K, P, w⟩) rfl (zv 1) z_int (fun _ _ => rfl)) z_str (nomark _))
    (zss_one (zs_ret (z_call [false, true] L_column_fault (hr.mono (by decide)) (by rfl) (za_cons (z_sl (K := ⟨K, P, w⟩) rfl nL (zv 1) (zo_some z_int) zo_none) (za_cons (zv 0) za_nil)))))
    zss_nil)
    (zss_cons (zs_setLc (K := ⟨K, P, w⟩) (i := 2) (own := [("column", 3)]) eL rfl sc_step_fault.nd rfl rfl (sw_true rfl rfl rfl (by decide +kernel)) (zi_seq (K := ⟨K, P, w⟩) rfl (zv 0)) (blkOk_by (own := [("column", 3)]) (N := ["columns", "step", "mine", "column"]) (sc := defScope s_step_fault) (by decide +kernel)) (fun _ _ _ _ _ => (zg_name (i := 3) sc_step_fault.nd rfl (Or.inl rfl))) (fun _ _ _ _ _ => (zts_one (zt_cmp (zc_eq (K := ⟨K, P, w⟩) rfl hr.units) (z_ix (K := ⟨K, P, w⟩) rfl (zv 3) z_int (fun _ _ => rfl)) (z_ix (K := ⟨K, P, w⟩) rfl (zv 1) z_int (fun _ _ => rfl)) (nomark _)))) (fun _ _ _ _ _ => (zv 3)) st H)
    (zss_cons (zs_if (zt_cmp (zc_eq (K := ⟨K, P, w⟩) rfl hr.units) (z_cb (cr_len (K := ⟨K, P, w⟩) rfl) sr_len (by rfl) T.b_len (by decide +kernel) (za_cons (zv 2) za_nil)) z_int (nomark _))
    (zss_one (zs_ret z_str))
    zss_nil)
    (zss_cons (zs_if (zt_cmp (zc_eq (K := ⟨K, P, w⟩) rfl hr.units) (z_ix (K := ⟨K, P, w⟩) rfl (zv 1) z_int (fun _ _ => rfl)) z_str (nomark _))
    (zss_one (zs_ret (z_if (zt_cmp (zc_eq (K := ⟨K, P, w⟩) rfl hr.units) (z_cb (cr_len (K := ⟨K, P, w⟩) rfl) sr_len (by rfl) T.b_len (by decide +kernel) (za_cons (zv 0) za_nil)) z_int (nomark _)) z_str z_non)))
    zss_nil)
    (zss_cons (zs_if (zt_cmp (zc_eq (K := ⟨K, P, w⟩) rfl hr.units) (z_ix (K := ⟨K, P, w⟩) rfl (zv 1) z_int (fun _ _ => rfl)) z_str (nomark _))
    (zss_one (zs_ret (z_if (zt_cmp (zc_ne (K := ⟨K, P, w⟩) rfl hr.units) (z_ix (K := ⟨K, P, w⟩) rfl (z_ix (K := ⟨K, P, w⟩) rfl (zv 2) z_int (fun _ _ => rfl)) z_int (fun _ _ => rfl)) z_str (nomark _)) z_str z_non)))
    zss_nil)
    (zss_one (zs_ret (z_if (zt_cmp (zc_in (K := ⟨K, P, w⟩) rfl (units65 hr)) (z_ix (K := ⟨K, P, w⟩) rfl (zv 1) z_int (fun _ _ => rfl)) (z_lc (K := ⟨K, P, w⟩) (own := [("column", 3)]) eL rfl sc_step_fault.nd (zi_seq (K := ⟨K, P, w⟩) rfl (zv 0)) (blkOk_by (own := [("column", 3)]) (N := ["columns", "step", "mine", "column"]) (sc := defScope s_step_fault) (by decide +kernel)) (fun _ _ _ _ _ => (zg_name (i := 3) sc_step_fault.nd rfl (Or.inl rfl))) (fun _ _ _ _ _ => zts_nil) (fun _ _ _ _ _ => (z_ix (K := ⟨K, P, w⟩) rfl (zv 3) z_int (fun _ _ => rfl))) (s0 := st) (H0 := H)) rfl) z_str z_non))))))))⟩⟩
noncomputable def b_step_fault : FS := (pk_step_fault).1
noncomputable def fn_step_fault : FnD := fnD 2 2 b_step_fault
theorem ok_step_fault {P : Program} {w : World} {K : PySem.W.Frag} {mg : Str → Option Value} {base : Heap} {t_MOST_TAG : Tok} {f : Addr} {fd : FuncData} (F : Fun K "step_fault" "step_fault" s_step_fault f fd) (T : Tx mg t_MOST_TAG) (L_column_fault : FnC P w K mg base "column_fault" 1 ["column", "others"] (spD ⟨K, P, w⟩ 2 fn_column_fault)) : FnOk P w K mg base CX0 2 f fd ["columns", "step"] (spD ⟨K, P, w⟩ 2 fn_step_fault) :=
  fn_z (K := ⟨K, P, w⟩) F sc_step_fault fun cdv A outer s H E hr => pk_step_fault.2 T L_column_fault f cdv A outer s H E hr

end K02

/-! ZB: the program's defs, taken over. -/
namespace K02
open PySem PySem.Spec PyProof.Rows L2 Y Z
abbrev s_value_at : Stmt := top 10
theorem sc_value_at : FnScope ["known", "column", "birth", "tag", "name", "kind", "default", "shift", "value"] ["known", "column"] (defScope s_value_at) := ⟨rfl, rfl, rfl, by decide +kernel, rfl, by decide +kernel, by decide +kernel⟩
noncomputable def pk_value_at : Σ' b : FS, ∀ {P : Program} {w : World} {K : PySem.W.Frag} {mg : Str → Option Value} {base : Heap} {t_MOST_TAG : Tok} (T : Tx mg t_MOST_TAG) (f : Addr) (cdv : Value) (A : Around) (outer : List PySem.Env) (st : Shared) (H : Hp) (E : XK) (hr : Room 0 (A.deeper (envOfC "value_at" (defScope s_value_at) st.heap.objs.size f cdv))),
    ∃ t, ZSs ⟨K, P, w⟩ (cxOf CX0 P w K mg base ["known", "column", "birth", "tag", "name", "kind", "default", "shift", "value"] "value_at" (defScope s_value_at) f cdv A outer st H E).nox (defBody s_value_at) t b := by
  exact ⟨_, fun {P w K mg base t_MOST_TAG} T f cdv A outer st H E hr => ⟨_, (zss_cons (zs_asg (zv 1) (zg_tup (K := ⟨K, P, w⟩) (n := 6) rfl rfl (zgs_cons (zg_name (i := 2) sc_value_at.nd rfl (Or.inl rfl)) (zgs_cons (zg_name (i := 3) sc_value_at.nd rfl (Or.inl rfl)) (zgs_cons (zg_name (i := 4) sc_value_at.nd rfl (Or.inl rfl)) (zgs_cons (zg_name (i := 5) sc_value_at.nd rfl (Or.inl rfl)) (zgs_cons (zg_name (i := 6) sc_value_at.nd rfl (Or.inl rfl)) (zgs_cons (zg_name (i := 7) sc_value_at.nd rfl (Or.inl rfl)) zgs_nil))))))))
    (zss_cons (zs_let 8 sc_value_at.nd (z_dget2 (K := ⟨K, P, w⟩) rfl hr.units (zv 0) (z_tup (za_cons (zv 2) (za_cons (zv 3) za_nil))) z_non ⟨rfl, rfl, rfl, rfl⟩))
    (zss_cons (zs_if (zt_isN (zv 8))
    (zss_one (zs_let 8 sc_value_at.nd (zv 6)))
    zss_nil)
    (zss_one (zs_ret (z_if (zt_cmp (zc_eq (K := ⟨K, P, w⟩) rfl hr.units) (zv 5) z_str (nomark _)) (z_add (K := ⟨K, P, w⟩) rfl nL (zv 8) (zv 7)) (zv 8)))))))⟩⟩
noncomputable def b_value_at : FS := (pk_value_at).1
noncomputable def fn_value_at : FnD := fnD 2 7 b_value_at
theorem ok_value_at {P : Program} {w : World} {K : PySem.W.Frag} {mg : Str → Option Value} {base : Heap} {t_MOST_TAG : Tok} {f : Addr} {fd : FuncData} (F : Fun K "value_at" "value_at" s_value_at f fd) (T : Tx mg t_MOST_TAG) : FnOk P w K mg base CX0 1 f fd ["known", "column"] (spD ⟨K, P, w⟩ 2 fn_value_at) :=
  fn_z (K := ⟨K, P, w⟩) F sc_value_at fun cdv A outer s H E hr => pk_value_at.2 T f cdv A outer s H E hr

abbrev s_row_at : Stmt := top 9
theorem sc_row_at : FnScope ["table", "shape", "record", "known", "column"] ["table", "shape", "record"] (defScope s_row_at) := ⟨rfl, rfl, rfl, by decide +kernel, rfl, by decide +kernel, by decide +kernel⟩
noncomputable def pk_row_at : Σ' b : FS, ∀ {P : Program} {w : World} {K : PySem.W.Frag} {mg : Str → Option Value} {base : Heap} {t_MOST_TAG : Tok} (T : Tx mg t_MOST_TAG) (L_value_at : FnC P w K mg base "value_at" 1 ["known", "column"] (spD ⟨K, P, w⟩ 2 fn_value_at)) (L_columns_at : FnC P w K mg base "columns_at" 4 ["table", "shape"] (spD ⟨K, P, w⟩ 2 fn_columns_at)) (f : Addr) (cdv : Value) (A : Around) (outer : List PySem.Env) (st : Shared) (H : Hp) (E : XK) (hr : Room 4 (A.deeper (envOfC "row_at" (defScope s_row_at) st.heap.objs.size f cdv))),
    ∃ t, ZSs ⟨K, P, w⟩ (cxOf CX0 P w K mg base ["table", "shape", "record", "known", "column"] "row_at" (defScope s_row_at) f cdv A outer st H E).nox (defBody s_row_at) t b := by
  exact ⟨_, fun {P w K mg base t_MOST_TAG} T L_value_at L_columns_at f cdv A outer st H E hr => ⟨_, (zss_cons (zs_let 3 sc_row_at.nd (z_frzD (z_ct (cr_dictZ (K := ⟨K, P, w⟩) rfl rfl hr.units) sr_dict (by rfl) T.b_dict (by decide +kernel) (za_cons (zv 2) za_nil))))
    (zss_one (zs_ret (z_lc (K := ⟨K, P, w⟩) (own := [("column", 4)]) eL rfl sc_row_at.nd (zi_seq (K := ⟨K, P, w⟩) rfl (z_call [] L_columns_at (hr.mono (by decide)) (by rfl) (za_cons (zv 0) (za_cons (zv 1) za_nil)))) (blkOk_by (own := [("column", 4)]) (N := ["table", "shape", "record", "known", "column"]) (sc := defScope s_row_at) (by decide +kernel)) (fun _ _ _ _ _ => (zg_name (i := 4) sc_row_at.nd rfl (Or.inl rfl))) (fun _ _ _ _ _ => zts_nil) (fun _ _ _ _ _ => (z_tup (za_cons (z_ix (K := ⟨K, P, w⟩) rfl (zv 4) z_int (fun _ _ => rfl)) (za_cons (z_call [] L_value_at (hr.mono (by decide)) (by rfl) (za_cons (zv 3) (za_cons (zv 4) za_nil))) za_nil)))) (s0 := st) (H0 := H)))))⟩⟩
noncomputable def b_row_at : FS := (pk_row_at).1
noncomputable def fn_row_at : FnD := fnD 3 2 b_row_at
theorem ok_row_at {P : Program} {w : World} {K : PySem.W.Frag} {mg : Str → Option Value} {base : Heap} {t_MOST_TAG : Tok} {f : Addr} {fd : FuncData} (F : Fun K "row_at" "row_at" s_row_at f fd) (T : Tx mg t_MOST_TAG) (L_value_at : FnC P w K mg base "value_at" 1 ["known", "column"] (spD ⟨K, P, w⟩ 2 fn_value_at)) (L_columns_at : FnC P w K mg base "columns_at" 4 ["table", "shape"] (spD ⟨K, P, w⟩ 2 fn_columns_at)) : FnOk P w K mg base CX0 5 f fd ["table", "shape", "record"] (spD ⟨K, P, w⟩ 3 fn_row_at) :=
  fn_z (K := ⟨K, P, w⟩) F sc_row_at fun cdv A outer s H E hr => pk_row_at.2 T L_value_at L_columns_at f cdv A outer s H E hr

abbrev s_given_fault : Stmt := top 11
theorem sc_given_fault : FnScope ["columns", "given", "kinds", "column", "met", "name", "value"] ["columns", "given"] (defScope s_given_fault) := ⟨rfl, rfl, rfl, by decide +kernel, rfl, by decide +kernel, by decide +kernel⟩
noncomputable def pk_given_fault : Σ' b : FS, ∀ {P : Program} {w : World} {K : PySem.W.Frag} {mg : Str → Option Value} {base : Heap} {t_MOST_TAG : Tok} (T : Tx mg t_MOST_TAG) (f : Addr) (cdv : Value) (A : Around) (outer : List PySem.Env) (st : Shared) (H : Hp) (E : XK) (hr : Room 0 (A.deeper (envOfC "given_fault" (defScope s_given_fault) st.heap.objs.size f cdv))),
    ∃ t, ZSs ⟨K, P, w⟩ (cxOf CX0 P w K mg base ["columns", "given", "kinds", "column", "met", "name", "value"] "given_fault" (defScope s_given_fault) f cdv A outer st H E).nox (defBody s_given_fault) t b := by
  exact ⟨_, fun {P w K mg base t_MOST_TAG} T f cdv A outer st H E hr => ⟨_, (zss_cons (zs_setDc (K := ⟨K, P, w⟩) (i := 2) (own := [("column", 3)]) rfl sc_given_fault.nd rfl rfl (sw_trueD rfl rfl rfl (by decide +kernel)) (zi_seq (K := ⟨K, P, w⟩) rfl (zv 0)) (blkOk_by (own := [("column", 3)]) (N := ["columns", "given", "kinds", "column", "met", "name", "value"]) (sc := defScope s_given_fault) (by decide +kernel)) (fun _ _ _ _ _ => (zg_name (i := 3) sc_given_fault.nd rfl (Or.inl rfl))) (fun _ _ _ _ _ => zts_nil) (fun _ _ _ _ _ => (z_ix (K := ⟨K, P, w⟩) rfl (zv 3) z_int (fun _ _ => rfl))) (fun _ _ _ _ _ => (z_ix (K := ⟨K, P, w⟩) rfl (zv 3) z_int (fun _ _ => rfl))) st H)
    (zss_cons (zs_let 4 sc_given_fault.nd (z_lst nC za_nil))
    (zss_cons (zs_forK PassesOwn.never rfl (zi_seq (K := ⟨K, P, w⟩) rfl (zv 1)) (zg_tup (K := ⟨K, P, w⟩) (n := 2) rfl rfl (zgs_cons (zg_name (i := 5) sc_given_fault.nd rfl (Or.inl rfl)) (zgs_cons (zg_name (i := 6) sc_given_fault.nd rfl (Or.inl rfl)) zgs_nil)))
    (zss_cons (zs_if (zt_dnotin (K := ⟨K, P, w⟩) rfl hr.units (zv 5) (zv 2))
    (zss_one (zs_ret z_str))
    zss_nil)
    (zss_cons (zs_if (zt_cmp (zc_in (K := ⟨K, P, w⟩) rfl (units65 hr)) (zv 5) (zv 4) rfl)
    (zss_one (zs_ret z_str))
    zss_nil)
    (zss_cons (zs_if (zt_cmp (zc_ne (K := ⟨K, P, w⟩) rfl hr.units) (z_isa (T := "str") (K := ⟨K, P, w⟩) (by decide) rfl (by rfl) T.b_isinstance (by rfl) T.b_str (by decide +kernel) (zv 6)) (z_cmp (zc_eq (K := ⟨K, P, w⟩) rfl hr.units) (z_dget (K := ⟨K, P, w⟩) rfl hr.units (zv 2) (zv 5) (fun _ _ => rfl)) z_str (nomark _)) (nomark _))
    (zss_one (zs_ret z_str))
    zss_nil)
    (zss_one (zs_expr (z_bm (K := ⟨K, P, w⟩) rfl PySem.F.plainAttrs_list PySem.F.slot_list_append PySem.F.type_list_append mt_append sm_append (zv 4) (za_cons (zv 5) za_nil))))))))
    (zss_one (zs_ret z_non)))))⟩⟩
noncomputable def b_given_fault : FS := (pk_given_fault).1
noncomputable def fn_given_fault : FnD := fnD 2 5 b_given_fault
theorem ok_given_fault {P : Program} {w : World} {K : PySem.W.Frag} {mg : Str → Option Value} {base : Heap} {t_MOST_TAG : Tok} {f : Addr} {fd : FuncData} (F : Fun K "given_fault" "given_fault" s_given_fault f fd) (T : Tx mg t_MOST_TAG) : FnOk P w K mg base CX0 1 f fd ["columns", "given"] (spD ⟨K, P, w⟩ 2 fn_given_fault) :=
  fn_z (K := ⟨K, P, w⟩) F sc_given_fault fun cdv A outer s H E hr => pk_given_fault.2 T f cdv A outer s H E hr

abbrev s_written : Stmt := top 12
theorem sc_written : FnScope ["columns", "given", "told", "found", "birth", "tag", "name", "kind", "default", "shift"] ["columns", "given"] (defScope s_written) := ⟨rfl, rfl, rfl, by decide +kernel, rfl, by decide +kernel, by decide +kernel⟩
noncomputable def pk_written : Σ' b : FS, ∀ {P : Program} {w : World} {K : PySem.W.Frag} {mg : Str → Option Value} {base : Heap} {t_MOST_TAG : Tok} (T : Tx mg t_MOST_TAG) (f : Addr) (cdv : Value) (A : Around) (outer : List PySem.Env) (st : Shared) (H : Hp) (E : XK) (hr : Room 0 (A.deeper (envOfC "written" (defScope s_written) st.heap.objs.size f cdv))),
    ∃ t, ZSs ⟨K, P, w⟩ (cxOf CX0 P w K mg base ["columns", "given", "told", "found", "birth", "tag", "name", "kind", "default", "shift"] "written" (defScope s_written) f cdv A outer st H E).nox (defBody s_written) t b := by
  exact ⟨_, fun {P w K mg base t_MOST_TAG} T f cdv A outer st H E hr => ⟨_, (zss_cons (zs_let 2 sc_written.nd (z_frzD (z_ct (cr_dictZ (K := ⟨K, P, w⟩) rfl rfl hr.units) sr_dict (by rfl) T.b_dict (by decide +kernel) (za_cons (zv 1) za_nil))))
    (zss_cons (zs_let 3 sc_written.nd (z_lst nC za_nil))
    (zss_cons (zs_forK PassesOwn.never rfl (zi_seq (K := ⟨K, P, w⟩) rfl (zv 0)) (zg_tup (K := ⟨K, P, w⟩) (n := 6) rfl rfl (zgs_cons (zg_name (i := 4) sc_written.nd rfl (Or.inl rfl)) (zgs_cons (zg_name (i := 5) sc_written.nd rfl (Or.inl rfl)) (zgs_cons (zg_name (i := 6) sc_written.nd rfl (Or.inl rfl)) (zgs_cons (zg_name (i := 7) sc_written.nd rfl (Or.inl rfl)) (zgs_cons (zg_name (i := 8) sc_written.nd rfl (Or.inl rfl)) (zgs_cons (zg_name (i := 9) sc_written.nd rfl (Or.inl rfl)) zgs_nil)))))))
    (zss_one (zs_if (zt_din (K := ⟨K, P, w⟩) rfl hr.units (zv 6) (zv 2))
    (zss_one (zs_expr (z_bm (K := ⟨K, P, w⟩) rfl PySem.F.plainAttrs_list PySem.F.slot_list_append PySem.F.type_list_append mt_append sm_append (zv 3) (za_cons (z_tup (za_cons (z_tup (za_cons (zv 4) (za_cons (zv 5) za_nil))) (za_cons (z_if (zt_cmp (zc_eq (K := ⟨K, P, w⟩) rfl hr.units) (zv 7) z_str (nomark _)) (z_sub (z_dget (K := ⟨K, P, w⟩) rfl hr.units (zv 2) (zv 6) (fun _ _ => rfl)) (zv 9)) (z_dget (K := ⟨K, P, w⟩) rfl hr.units (zv 2) (zv 6) (fun _ _ => rfl))) za_nil))) za_nil))))
    zss_nil)))
    (zss_one (zs_ret (z_cb (callR_or (cr_sortP (K := ⟨K, P, w⟩) rfl hr.units) (cr_sortD (K := ⟨K, P, w⟩) rfl hr.units)) (SRs.or (sr_sortP nL) (sr_sortD nL)) (by rfl) T.b_sorted (by decide +kernel) (za_cons (zv 3) za_nil)))))))⟩⟩
noncomputable def b_written : FS := (pk_written).1
noncomputable def fn_written : FnD := fnD 2 8 b_written
theorem ok_written {P : Program} {w : World} {K : PySem.W.Frag} {mg : Str → Option Value} {base : Heap} {t_MOST_TAG : Tok} {f : Addr} {fd : FuncData} (F : Fun K "written" "written" s_written f fd) (T : Tx mg t_MOST_TAG) : FnOk P w K mg base CX0 1 f fd ["columns", "given"] (spD ⟨K, P, w⟩ 2 fn_written) :=
  fn_z (K := ⟨K, P, w⟩) F sc_written fun cdv A outer s H E hr => pk_written.2 T f cdv A outer s H E hr

abbrev s_new_record : Stmt := top 13
theorem sc_new_record : FnScope ["table", "shape", "given", "columns", "told", "rows", "column"] ["table", "shape", "given"] (defScope s_new_record) := ⟨rfl, rfl, rfl, by decide +kernel, rfl, by decide +kernel, by decide +kernel⟩
noncomputable def pk_new_record : Σ' b : FS, ∀ {P : Program} {w : World} {K : PySem.W.Frag} {mg : Str → Option Value} {base : Heap} {t_MOST_TAG : Tok} (T : Tx mg t_MOST_TAG) (L_columns_at : FnC P w K mg base "columns_at" 4 ["table", "shape"] (spD ⟨K, P, w⟩ 2 fn_columns_at)) (L_written : FnC P w K mg base "written" 1 ["columns", "given"] (spD ⟨K, P, w⟩ 2 fn_written)) (L_value_at : FnC P w K mg base "value_at" 1 ["known", "column"] (spD ⟨K, P, w⟩ 2 fn_value_at)) (f : Addr) (cdv : Value) (A : Around) (outer : List PySem.Env) (st : Shared) (H : Hp) (E : XK) (hr : Room 4 (A.deeper (envOfC "new_record" (defScope s_new_record) st.heap.objs.size f cdv))),
    ∃ t, ZSs ⟨K, P, w⟩ (cxOf CX0 P w K mg base ["table", "shape", "given", "columns", "told", "rows", "column"] "new_record" (defScope s_new_record) f cdv A outer st H E).nox (defBody s_new_record) t b := by
  exact ⟨_, fun {P w K mg base t_MOST_TAG} T L_columns_at L_written L_value_at f cdv A outer st H E hr => ⟨_, (zss_cons (zs_let 3 sc_new_record.nd (z_call [] L_columns_at (hr.mono (by decide)) (by rfl) (za_cons (zv 0) (za_cons (zv 1) za_nil))))
    (zss_cons (zs_let 4 sc_new_record.nd (z_frzD (z_ct (cr_dictZ (K := ⟨K, P, w⟩) rfl rfl hr.units) sr_dict (by rfl) T.b_dict (by decide +kernel) (za_cons (zv 2) za_nil))))
    (zss_cons (zs_setLc (K := ⟨K, P, w⟩) (i := 5) (own := [("column", 6)]) eL rfl sc_new_record.nd rfl rfl (sw_true rfl rfl rfl (by decide +kernel)) (zi_seq (K := ⟨K, P, w⟩) rfl (zv 3)) (blkOk_by (own := [("column", 6)]) (N := ["table", "shape", "given", "columns", "told", "rows", "column"]) (sc := defScope s_new_record) (by decide +kernel)) (fun _ _ _ _ _ => (zg_name (i := 6) sc_new_record.nd rfl (Or.inl rfl))) (fun _ _ _ _ _ => zts_nil) (fun _ _ _ _ _ => (z_tup (za_cons (z_ix (K := ⟨K, P, w⟩) rfl (zv 6) z_int (fun _ _ => rfl)) (za_cons (z_dget2 (K := ⟨K, P, w⟩) rfl hr.units (zv 4) (z_ix (K := ⟨K, P, w⟩) rfl (zv 6) z_int (fun _ _ => rfl)) (z_call [] L_value_at (hr.mono (by decide)) (by rfl) (za_cons (z_frzD z_dnewC) (za_cons (zv 6) za_nil))) ⟨rfl, rfl, rfl, rfl⟩) za_nil)))) st H)
    (zss_one (zs_ret (z_call [] L_written (hr.mono (by decide)) (by rfl) (za_cons (zv 3) (za_cons (zv 5) za_nil))))))))⟩⟩
noncomputable def b_new_record : FS := (pk_new_record).1
noncomputable def fn_new_record : FnD := fnD 3 4 b_new_record
theorem ok_new_record {P : Program} {w : World} {K : PySem.W.Frag} {mg : Str → Option Value} {base : Heap} {t_MOST_TAG : Tok} {f : Addr} {fd : FuncData} (F : Fun K "new_record" "new_record" s_new_record f fd) (T : Tx mg t_MOST_TAG) (L_columns_at : FnC P w K mg base "columns_at" 4 ["table", "shape"] (spD ⟨K, P, w⟩ 2 fn_columns_at)) (L_written : FnC P w K mg base "written" 1 ["columns", "given"] (spD ⟨K, P, w⟩ 2 fn_written)) (L_value_at : FnC P w K mg base "value_at" 1 ["known", "column"] (spD ⟨K, P, w⟩ 2 fn_value_at)) : FnOk P w K mg base CX0 5 f fd ["table", "shape", "given"] (spD ⟨K, P, w⟩ 3 fn_new_record) :=
  fn_z (K := ⟨K, P, w⟩) F sc_new_record fun cdv A outer s H E hr => pk_new_record.2 T L_columns_at L_written L_value_at f cdv A outer s H E hr

abbrev s_set_record : Stmt := top 14
theorem sc_set_record : FnScope ["table", "shape", "record", "given", "known"] ["table", "shape", "record", "given"] (defScope s_set_record) := ⟨rfl, rfl, rfl, by decide +kernel, rfl, by decide +kernel, by decide +kernel⟩
noncomputable def pk_set_record : Σ' b : FS, ∀ {P : Program} {w : World} {K : PySem.W.Frag} {mg : Str → Option Value} {base : Heap} {t_MOST_TAG : Tok} (T : Tx mg t_MOST_TAG) (L_written : FnC P w K mg base "written" 1 ["columns", "given"] (spD ⟨K, P, w⟩ 2 fn_written)) (L_columns_at : FnC P w K mg base "columns_at" 4 ["table", "shape"] (spD ⟨K, P, w⟩ 2 fn_columns_at)) (f : Addr) (cdv : Value) (A : Around) (outer : List PySem.Env) (st : Shared) (H : Hp) (E : XK) (hr : Room 4 (A.deeper (envOfC "set_record" (defScope s_set_record) st.heap.objs.size f cdv))),
    ∃ t, ZSs ⟨K, P, w⟩ (cxOf CX0 P w K mg base ["table", "shape", "record", "given", "known"] "set_record" (defScope s_set_record) f cdv A outer st H E).nox (defBody s_set_record) t b := by
  exact ⟨_, fun {P w K mg base t_MOST_TAG} T L_written L_columns_at f cdv A outer st H E hr => ⟨_, (zss_cons (zs_let 4 sc_set_record.nd (z_ct (cr_dictZ (K := ⟨K, P, w⟩) rfl rfl hr.units) sr_dict (by rfl) T.b_dict (by decide +kernel) (za_cons (zv 2) za_nil)))
    (zss_cons (zs_expr (z_update (K := ⟨K, P, w⟩) rfl hr.units (zv 4) (z_ct (cr_dictZ (K := ⟨K, P, w⟩) rfl rfl hr.units) sr_dict (by rfl) T.b_dict (by decide +kernel) (za_cons (z_call [] L_written (hr.mono (by decide)) (by rfl) (za_cons (z_call [] L_columns_at (hr.mono (by decide)) (by rfl) (za_cons (zv 0) (za_cons (zv 1) za_nil))) (za_cons (zv 3) za_nil))) za_nil)) ⟨rfl, rfl, rfl, rfl⟩))
    (zss_one (zs_ret (z_sortIt (K := ⟨K, P, w⟩) rfl rfl hr.units (by rfl) T.b_sorted (by rfl) (zv 4))))))⟩⟩
noncomputable def b_set_record : FS := (pk_set_record).1
noncomputable def fn_set_record : FnD := fnD 4 1 b_set_record
theorem ok_set_record {P : Program} {w : World} {K : PySem.W.Frag} {mg : Str → Option Value} {base : Heap} {t_MOST_TAG : Tok} {f : Addr} {fd : FuncData} (F : Fun K "set_record" "set_record" s_set_record f fd) (T : Tx mg t_MOST_TAG) (L_written : FnC P w K mg base "written" 1 ["columns", "given"] (spD ⟨K, P, w⟩ 2 fn_written)) (L_columns_at : FnC P w K mg base "columns_at" 4 ["table", "shape"] (spD ⟨K, P, w⟩ 2 fn_columns_at)) : FnOk P w K mg base CX0 5 f fd ["table", "shape", "record", "given"] (spD ⟨K, P, w⟩ 4 fn_set_record) :=
  fn_z (K := ⟨K, P, w⟩) F sc_set_record fun cdv A outer s H E hr => pk_set_record.2 T L_written L_columns_at f cdv A outer s H E hr

end K02

/-! ZC: the law's defs, taken over. -/
namespace K02
open PySem PySem.Spec PyProof.Rows L2 Y Z
abbrev s__law_draws : Stmt := top 16
theorem sc__law_draws : FnScope ["script"] ["script"] (defScope s__law_draws) := ⟨rfl, rfl, rfl, by decide +kernel, rfl, by decide +kernel, by decide +kernel⟩
noncomputable def pk__law_draws : Σ' b : FS, ∀ {P : Program} {w : World} {K : PySem.W.Frag} {mg : Str → Option Value} {base : Heap} {t_MOST_TAG : Tok} (T : Tx mg t_MOST_TAG) (f : Addr) (cdv : Value) (A : Around) (outer : List PySem.Env) (st : Shared) (H : Hp) (E : XK) (hr : Room 0 (A.deeper (envOfC "_law_draws" (defScope s__law_draws) st.heap.objs.size f cdv))),
    ∃ t, ZSs ⟨K, P, w⟩ (cxOf CX0 P w K mg base ["script"] "_law_draws" (defScope s__law_draws) f cdv A outer st H E).nox (defBody s__law_draws) t b := by
  exact ⟨_, fun {P w K mg base t_MOST_TAG} T f cdv A outer st H E hr => ⟨_, (zss_one (zs_ret (z_lst nC (za_cons (z_ct (call_list_ofK (K := K) rfl) (sr_list nL) (by rfl) T.b_list (by decide +kernel) (za_cons (zv 0) za_nil)) (za_cons z_int (za_cons z_int (za_cons z_int za_nil)))))))⟩⟩
noncomputable def b__law_draws : FS := (pk__law_draws).1
noncomputable def fn__law_draws : FnD := fnD 1 0 b__law_draws
theorem ok__law_draws {P : Program} {w : World} {K : PySem.W.Frag} {mg : Str → Option Value} {base : Heap} {t_MOST_TAG : Tok} {f : Addr} {fd : FuncData} (F : Fun K "_law_draws" "_law_draws" s__law_draws f fd) (T : Tx mg t_MOST_TAG) : FnOk P w K mg base CX0 1 f fd ["script"] (spD ⟨K, P, w⟩ 1 fn__law_draws) :=
  fn_z (K := ⟨K, P, w⟩) F sc__law_draws fun cdv A outer s H E hr => pk__law_draws.2 T f cdv A outer s H E hr

abbrev s__law_draw : Stmt := top 17
theorem sc__law_draw : FnScope ["draws", "limit", "cell", "value"] ["draws", "limit"] (defScope s__law_draw) := ⟨rfl, rfl, rfl, by decide +kernel, rfl, by decide +kernel, by decide +kernel⟩
noncomputable def pk__law_draw : Σ' b : FS, ∀ {P : Program} {w : World} {K : PySem.W.Frag} {mg : Str → Option Value} {base : Heap} {t_MOST_TAG : Tok} (T : Tx mg t_MOST_TAG) (f : Addr) (cdv : Value) (A : Around) (outer : List PySem.Env) (st : Shared) (H : Hp) (E : XK) (hr : Room 0 (A.deeper (envOfC "_law_draw" (defScope s__law_draw) st.heap.objs.size f cdv))),
    ∃ t, ZSs ⟨K, P, w⟩ (cxOf CX0 P w K mg base ["draws", "limit", "cell", "value"] "_law_draw" (defScope s__law_draw) f cdv A outer st H E).nox (defBody s__law_draw) t b := by
  exact ⟨_, fun {P w K mg base t_MOST_TAG} T f cdv A outer st H E hr => ⟨_, (zss_cons (zs_if (ZW.zt (zw_and (zt_cmp (zc_eq (K := ⟨K, P, w⟩) rfl hr.units) (z_ix (K := ⟨K, P, w⟩) rfl (zv 0) z_int (fun _ _ => rfl)) z_int (nomark _)) (zw_and1 (zt_cmp (zc_lt (K := ⟨K, P, w⟩) rfl hr.units) (z_ix (K := ⟨K, P, w⟩) rfl (zv 0) z_int (fun _ _ => rfl)) (z_cb (cr_len (K := ⟨K, P, w⟩) rfl) sr_len (by rfl) T.b_len (by decide +kernel) (za_cons (z_ix (K := ⟨K, P, w⟩) rfl (zv 0) z_int (fun _ _ => rfl)) za_nil)) (nomark _)))))
    (zss_cons (zs_let 2 sc__law_draw.nd (z_ix (K := ⟨K, P, w⟩) rfl (z_ix (K := ⟨K, P, w⟩) rfl (zv 0) z_int (fun _ _ => rfl)) (z_ix (K := ⟨K, P, w⟩) rfl (zv 0) z_int (fun _ _ => rfl)) (fun _ _ => rfl)))
    (zss_cons (zs_asg (z_add (K := ⟨K, P, w⟩) rfl nL (z_ix (K := ⟨K, P, w⟩) rfl (zv 0) z_int (fun _ _ => rfl)) z_int) (zg_sub set_list st_setL (zv 0) z_int))
    (zss_cons (zs_if (zt_cmp (zc_ge (K := ⟨K, P, w⟩) rfl hr.units) (zv 2) (z_pow z_int z_int) (nomark _))
    (zss_one (zs_asg (zv 2) (zg_sub set_list st_setL (zv 0) z_int)))
    zss_nil)
    (zss_one (zs_asg (z_mod (z_ct call_int1 sr_int (by rfl) T.b_int (by decide +kernel) (za_cons (z_add (K := ⟨K, P, w⟩) rfl nL (z_add (K := ⟨K, P, w⟩) rfl nL (z_mul (z_ix (K := ⟨K, P, w⟩) rfl (zv 0) z_int (fun _ _ => rfl)) z_int) (zv 2)) z_int) za_nil)) z_int) (zg_sub set_list st_setL (zv 0) z_int))))))
    zss_nil)
    (zss_cons (zs_if (zt_cmp (zc_gt (K := ⟨K, P, w⟩) rfl hr.units) (z_ix (K := ⟨K, P, w⟩) rfl (zv 0) z_int (fun _ _ => rfl)) z_int (nomark _))
    (zss_cons (zs_let 3 sc__law_draw.nd (z_mod (z_ct call_int1 sr_int (by rfl) T.b_int (by decide +kernel) (za_cons (z_ix (K := ⟨K, P, w⟩) rfl (zv 0) z_int (fun _ _ => rfl)) za_nil)) (zv 1)))
    (zss_cons (zs_asg (z_div (z_ix (K := ⟨K, P, w⟩) rfl (zv 0) z_int (fun _ _ => rfl)) (zv 1)) (zg_sub set_list st_setL (zv 0) z_int))
    (zss_one (zs_ret (zv 3)))))
    zss_nil)
    (zss_cons (zs_asg (z_mod (z_ct call_int1 sr_int (by rfl) T.b_int (by decide +kernel) (za_cons (z_add (K := ⟨K, P, w⟩) rfl nL (z_mul (z_ix (K := ⟨K, P, w⟩) rfl (zv 0) z_int (fun _ _ => rfl)) z_int) z_int) za_nil)) z_int) (zg_sub set_list st_setL (zv 0) z_int))
    (zss_one (zs_ret (z_mod (z_ct call_int1 sr_int (by rfl) T.b_int (by decide +kernel) (za_cons (z_div (z_ix (K := ⟨K, P, w⟩) rfl (zv 0) z_int (fun _ _ => rfl)) z_int) za_nil)) (zv 1)))))))⟩⟩
noncomputable def b__law_draw : FS := (pk__law_draw).1
noncomputable def fn__law_draw : FnD := fnD 2 2 b__law_draw
theorem ok__law_draw {P : Program} {w : World} {K : PySem.W.Frag} {mg : Str → Option Value} {base : Heap} {t_MOST_TAG : Tok} {f : Addr} {fd : FuncData} (F : Fun K "_law_draw" "_law_draw" s__law_draw f fd) (T : Tx mg t_MOST_TAG) : FnOk P w K mg base CX0 1 f fd ["draws", "limit"] (spD ⟨K, P, w⟩ 2 fn__law_draw) :=
  fn_z (K := ⟨K, P, w⟩) F sc__law_draw fun cdv A outer s H E hr => pk__law_draw.2 T f cdv A outer s H E hr

abbrev s__law_is : Stmt := top 18
theorem sc__law_is : FnScope ["told", "due", "alike", "k"] ["told", "due"] (defScope s__law_is) := ⟨rfl, rfl, rfl, by decide +kernel, rfl, by decide +kernel, by decide +kernel⟩
noncomputable def pk__law_is (fs : FnD) : Σ' b : FS, ∀ {P : Program} {w : World} {K : PySem.W.Frag} {mg : Str → Option Value} {base : Heap} {t_MOST_TAG : Tok} {m : Nat} (T : Tx mg t_MOST_TAG) (L__law_is : FnC P w K mg base "_law_is" m ["told", "due"] (spD ⟨K, P, w⟩ 2 fs)) (f : Addr) (cdv : Value) (A : Around) (outer : List PySem.Env) (st : Shared) (H : Hp) (E : XK) (hr : Room m (A.deeper (envOfC "_law_is" (defScope s__law_is) st.heap.objs.size f cdv))),
    ∃ t, ZSs ⟨K, P, w⟩ (cxOf CX0 P w K mg base ["told", "due", "alike", "k"] "_law_is" (defScope s__law_is) f cdv A outer st H E).nox (defBody s__law_is) t b := by
  exact ⟨_, fun {P w K mg base t_MOST_TAG m} T L__law_is f cdv A outer st H E hr => ⟨_, (zss_cons (zs_if (zt_bool (z_isa2 (T := "list") (U := "tuple") (K := ⟨K, P, w⟩) (by decide) (by decide) rfl (by rfl) T.b_isinstance (by rfl) T.b_list (by decide +kernel) (by rfl) T.b_tuple (by decide +kernel) (zv 1)))
    (zss_cons (zs_let 2 sc__law_is.nd (z_if (zt_bool (z_isa (T := "list") (K := ⟨K, P, w⟩) (by decide) rfl (by rfl) T.b_isinstance (by rfl) T.b_list (by decide +kernel) (zv 1))) (z_isa (T := "list") (K := ⟨K, P, w⟩) (by decide) rfl (by rfl) T.b_isinstance (by rfl) T.b_list (by decide +kernel) (zv 0)) (z_isa (T := "tuple") (K := ⟨K, P, w⟩) (by decide) rfl (by rfl) T.b_isinstance (by rfl) T.b_tuple (by decide +kernel) (zv 0))))
    (zss_one (zs_ret (z_and (zv 2) (z_and (z_cmp (zc_eq (K := ⟨K, P, w⟩) rfl hr.units) (z_cb (cr_len (K := ⟨K, P, w⟩) rfl) sr_len (by rfl) T.b_len (by decide +kernel) (za_cons (zv 0) za_nil)) (z_cb (cr_len (K := ⟨K, P, w⟩) rfl) sr_len (by rfl) T.b_len (by decide +kernel) (za_cons (zv 1) za_nil)) (nomark _)) (z_one (z_cb (cr_allK (K := K) rfl rfl) sr_all (by rfl) T.b_all (by decide +kernel) (za_cons (z_lc (K := ⟨K, P, w⟩) (own := [("k", 3)]) eL rfl sc__law_is.nd (zi_range1 rfl T.b_range (za_cons (z_cb (cr_len (K := ⟨K, P, w⟩) rfl) sr_len (by rfl) T.b_len (by decide +kernel) (za_cons (zv 1) za_nil)) za_nil)) (blkOk_by (own := [("k", 3)]) (N := ["told", "due", "alike", "k"]) (sc := defScope s__law_is) (by decide +kernel)) (fun _ _ _ _ _ => (zg_name (i := 3) sc__law_is.nd rfl (Or.inl rfl))) (fun _ _ _ _ _ => zts_nil) (fun _ _ _ _ _ => (z_call [] L__law_is (hr.mono (Nat.le_refl _)) (by rfl) (za_cons (z_ix (K := ⟨K, P, w⟩) rfl (zv 0) (zv 3) (fun _ _ => rfl)) (za_cons (z_ix (K := ⟨K, P, w⟩) rfl (zv 1) (zv 3) (fun _ _ => rfl)) za_nil)))) (s0 := st) (H0 := H)) za_nil))))))))
    zss_nil)
    (zss_cons (zs_if (ZW.zt (zw_or (zt_bool (z_isa (T := "bool") (K := ⟨K, P, w⟩) (by decide) rfl (by rfl) T.b_isinstance (by rfl) T.b_bool (by decide +kernel) (zv 1))) (zw_or1 (zt_bool (z_isa (T := "bool") (K := ⟨K, P, w⟩) (by decide) rfl (by rfl) T.b_isinstance (by rfl) T.b_bool (by decide +kernel) (zv 0))))))
    (zss_one (zs_ret (z_and (z_isa (T := "bool") (K := ⟨K, P, w⟩) (by decide) rfl (by rfl) T.b_isinstance (by rfl) T.b_bool (by decide +kernel) (zv 1)) (z_and (z_isa (T := "bool") (K := ⟨K, P, w⟩) (by decide) rfl (by rfl) T.b_isinstance (by rfl) T.b_bool (by decide +kernel) (zv 0)) (z_one (z_cmp (zc_eq (K := ⟨K, P, w⟩) rfl hr.units) (zv 0) (zv 1) (nomark _)))))))
    zss_nil)
    (zss_one (zs_ret (z_if (zt_notN (zv 1)) (z_and (z_isa2 (T := "int") (U := "str") (K := ⟨K, P, w⟩) (by decide) (by decide) rfl (by rfl) T.b_isinstance (by rfl) T.b_int (by decide +kernel) (by rfl) T.b_str (by decide +kernel) (zv 0)) (z_one (z_cmp (zc_eq (K := ⟨K, P, w⟩) rfl hr.units) (zv 0) (zv 1) (nomark _)))) (z_isN (zv 0)))))))⟩⟩
noncomputable def b__law_is (fs : FnD) : FS := (pk__law_is fs).1
noncomputable def fn__law_is_ : Nat → FnD
  | 0 => fun _ _ => none
  | n + 1 => fnD 2 2 (b__law_is (fn__law_is_ n))
noncomputable def fn__law_is : FnD := fn__law_is_ 4
theorem ok__law_is {P : Program} {w : World} {K : PySem.W.Frag} {mg : Str → Option Value} {base : Heap} {t_MOST_TAG : Tok} {f : Addr} {fd : FuncData} (F : Fun K "_law_is" "_law_is" s__law_is f fd) (T : Tx mg t_MOST_TAG) (hmg : mg "_law_is" = some (.ref f)) (hkp : PySem.W.keepIn K (.ref f) = true) (hbd : Binds K fd ["told", "due"] []) : FnOk P w K mg base CX0 4 f fd ["told", "due"] (spD ⟨K, P, w⟩ 2 fn__law_is) := by
  have gen : ∀ n, FnOk P w K mg base CX0 (n + 1) f fd ["told", "due"] (spD ⟨K, P, w⟩ 2 (fn__law_is_ (n + 1))) := by
    intro n
    induction n with
    | zero => exact fn_z (K := ⟨K, P, w⟩) F sc__law_is fun cdv A outer s H E hr => (pk__law_is (fn__law_is_ 0)).2 T ⟨⟨_, _, fn_never (K := ⟨K, P, w⟩) rfl, hmg, hkp, hbd⟩⟩ f cdv A outer s H E hr
    | succ n ih => exact fn_z (K := ⟨K, P, w⟩) F sc__law_is fun cdv A outer s H E hr => (pk__law_is (fn__law_is_ (n + 1))).2 T ⟨⟨_, _, ih, hmg, hkp, hbd⟩⟩ f cdv A outer s H E hr
  exact gen 3

abbrev s__law_pick : Stmt := top 19
theorem sc__law_pick : FnScope ["draws", "some"] ["draws", "some"] (defScope s__law_pick) := ⟨rfl, rfl, rfl, by decide +kernel, rfl, by decide +kernel, by decide +kernel⟩
noncomputable def pk__law_pick : Σ' b : FS, ∀ {P : Program} {w : World} {K : PySem.W.Frag} {mg : Str → Option Value} {base : Heap} {t_MOST_TAG : Tok} (T : Tx mg t_MOST_TAG) (L__law_draw : FnC P w K mg base "_law_draw" 1 ["draws", "limit"] (spD ⟨K, P, w⟩ 2 fn__law_draw)) (f : Addr) (cdv : Value) (A : Around) (outer : List PySem.Env) (st : Shared) (H : Hp) (E : XK) (hr : Room 1 (A.deeper (envOfC "_law_pick" (defScope s__law_pick) st.heap.objs.size f cdv))),
    ∃ t, ZSs ⟨K, P, w⟩ (cxOf CX0 P w K mg base ["draws", "some"] "_law_pick" (defScope s__law_pick) f cdv A outer st H E).nox (defBody s__law_pick) t b := by
  exact ⟨_, fun {P w K mg base t_MOST_TAG} T L__law_draw f cdv A outer st H E hr => ⟨_, (zss_one (zs_ret (z_ix (K := ⟨K, P, w⟩) rfl (zv 1) (z_call [true, false] L__law_draw (hr.mono (by decide)) (by rfl) (za_cons (zv 0) (za_cons (z_cb (cr_len (K := ⟨K, P, w⟩) rfl) sr_len (by rfl) T.b_len (by decide +kernel) (za_cons (zv 1) za_nil)) za_nil))) (fun _ _ => rfl))))⟩⟩
noncomputable def b__law_pick : FS := (pk__law_pick).1
noncomputable def fn__law_pick : FnD := fnD 2 0 b__law_pick
theorem ok__law_pick {P : Program} {w : World} {K : PySem.W.Frag} {mg : Str → Option Value} {base : Heap} {t_MOST_TAG : Tok} {f : Addr} {fd : FuncData} (F : Fun K "_law_pick" "_law_pick" s__law_pick f fd) (T : Tx mg t_MOST_TAG) (L__law_draw : FnC P w K mg base "_law_draw" 1 ["draws", "limit"] (spD ⟨K, P, w⟩ 2 fn__law_draw)) : FnOk P w K mg base CX0 2 f fd ["draws", "some"] (spD ⟨K, P, w⟩ 2 fn__law_pick) :=
  fn_z (K := ⟨K, P, w⟩) F sc__law_pick fun cdv A outer s H E hr => pk__law_pick.2 T L__law_draw f cdv A outer s H E hr

abbrev s__law_value : Stmt := top 20
theorem sc__law_value : FnScope ["draws", "kind"] ["draws", "kind"] (defScope s__law_value) := ⟨rfl, rfl, rfl, by decide +kernel, rfl, by decide +kernel, by decide +kernel⟩
noncomputable def pk__law_value : Σ' b : FS, ∀ {P : Program} {w : World} {K : PySem.W.Frag} {mg : Str → Option Value} {base : Heap} {t_MOST_TAG : Tok} (T : Tx mg t_MOST_TAG) (L__law_draw : FnC P w K mg base "_law_draw" 1 ["draws", "limit"] (spD ⟨K, P, w⟩ 2 fn__law_draw)) (f : Addr) (cdv : Value) (A : Around) (outer : List PySem.Env) (st : Shared) (H : Hp) (E : XK) (hr : Room 1 (A.deeper (envOfC "_law_value" (defScope s__law_value) st.heap.objs.size f cdv))),
    ∃ t, ZSs ⟨K, P, w⟩ (cxOf CX0 P w K mg base ["draws", "kind"] "_law_value" (defScope s__law_value) f cdv A outer st H E).nox (defBody s__law_value) t b := by
  exact ⟨_, fun {P w K mg base t_MOST_TAG} T L__law_draw f cdv A outer st H E hr => ⟨_, (zss_one (zs_ret (z_if (zt_cmp (zc_eq (K := ⟨K, P, w⟩) rfl hr.units) (zv 1) z_str (nomark _)) (z_sub (z_call [true, false] L__law_draw (hr.mono (by decide)) (by rfl) (za_cons (zv 0) (za_cons z_int za_nil))) z_int) (z_ix (K := ⟨K, P, w⟩) rfl (z_lst nL (za_cons z_str (za_cons z_str (za_cons z_str (za_cons z_str za_nil))))) (z_call [true, false] L__law_draw (hr.mono (by decide)) (by rfl) (za_cons (zv 0) (za_cons z_int za_nil))) (fun _ _ => rfl)))))⟩⟩
noncomputable def b__law_value : FS := (pk__law_value).1
noncomputable def fn__law_value : FnD := fnD 2 0 b__law_value
theorem ok__law_value {P : Program} {w : World} {K : PySem.W.Frag} {mg : Str → Option Value} {base : Heap} {t_MOST_TAG : Tok} {f : Addr} {fd : FuncData} (F : Fun K "_law_value" "_law_value" s__law_value f fd) (T : Tx mg t_MOST_TAG) (L__law_draw : FnC P w K mg base "_law_draw" 1 ["draws", "limit"] (spD ⟨K, P, w⟩ 2 fn__law_draw)) : FnOk P w K mg base CX0 2 f fd ["draws", "kind"] (spD ⟨K, P, w⟩ 2 fn__law_value) :=
  fn_z (K := ⟨K, P, w⟩) F sc__law_value fun cdv A outer s H E hr => pk__law_value.2 T L__law_draw f cdv A outer s H E hr

abbrev s__law_column : Stmt := top 21
theorem sc__law_column : FnScope ["draws", "kind", "default"] ["draws"] (defScope s__law_column) := ⟨rfl, rfl, rfl, by decide +kernel, rfl, by decide +kernel, by decide +kernel⟩
noncomputable def pk__law_column : Σ' b : FS, ∀ {P : Program} {w : World} {K : PySem.W.Frag} {mg : Str → Option Value} {base : Heap} {t_MOST_TAG : Tok} (T : Tx mg t_MOST_TAG) (L__law_value : FnC P w K mg base "_law_value" 2 ["draws", "kind"] (spD ⟨K, P, w⟩ 2 fn__law_value)) (L__law_draw : FnC P w K mg base "_law_draw" 1 ["draws", "limit"] (spD ⟨K, P, w⟩ 2 fn__law_draw)) (L__law_pick : FnC P w K mg base "_law_pick" 2 ["draws", "some"] (spD ⟨K, P, w⟩ 2 fn__law_pick)) (f : Addr) (cdv : Value) (A : Around) (outer : List PySem.Env) (st : Shared) (H : Hp) (E : XK) (hr : Room 2 (A.deeper (envOfC "_law_column" (defScope s__law_column) st.heap.objs.size f cdv))),
    ∃ t, ZSs ⟨K, P, w⟩ (cxOf CX0 P w K mg base ["draws", "kind", "default"] "_law_column" (defScope s__law_column) f cdv A outer st H E).nox (defBody s__law_column) t b := by
  exact ⟨_, fun {P w K mg base t_MOST_TAG} T L__law_value L__law_draw L__law_pick f cdv A outer st H E hr => ⟨_, (zss_cons (zs_let 1 sc__law_column.nd (z_ix (K := ⟨K, P, w⟩) rfl (z_lst nL (za_cons z_str (za_cons z_str za_nil))) (z_call [true, false] L__law_draw (hr.mono (by decide)) (by rfl) (za_cons (zv 0) (za_cons z_int za_nil))) (fun _ _ => rfl)))
    (zss_cons (zs_let 2 sc__law_column.nd (z_call [true, false] L__law_value (hr.mono (by decide)) (by rfl) (za_cons (zv 0) (za_cons (z_if (zt_cmp (zc_gt (K := ⟨K, P, w⟩) rfl hr.units) (z_call [true, false] L__law_draw (hr.mono (by decide)) (by rfl) (za_cons (zv 0) (za_cons z_int za_nil))) z_int (nomark _)) (zv 1) z_str) za_nil))))
    (zss_one (zs_ret (z_tup (za_cons (z_call [true, false] L__law_pick (hr.mono (by decide)) (by rfl) (za_cons (zv 0) (za_cons (z_lst nL (za_cons z_int (za_cons z_int (za_cons z_int (za_cons z_int (za_cons z_int (za_cons z_int (za_cons z_int (za_cons z_int za_nil))))))))) za_nil))) (za_cons (z_call [true, false] L__law_pick (hr.mono (by decide)) (by rfl) (za_cons (zv 0) (za_cons (z_lst nL (za_cons z_str (za_cons z_str (za_cons z_str (za_cons z_str za_nil))))) za_nil))) (za_cons (zv 1) (za_cons (zv 2) za_nil)))))))))⟩⟩
noncomputable def b__law_column : FS := (pk__law_column).1
noncomputable def fn__law_column : FnD := fnD 1 2 b__law_column
theorem ok__law_column {P : Program} {w : World} {K : PySem.W.Frag} {mg : Str → Option Value} {base : Heap} {t_MOST_TAG : Tok} {f : Addr} {fd : FuncData} (F : Fun K "_law_column" "_law_column" s__law_column f fd) (T : Tx mg t_MOST_TAG) (L__law_value : FnC P w K mg base "_law_value" 2 ["draws", "kind"] (spD ⟨K, P, w⟩ 2 fn__law_value)) (L__law_draw : FnC P w K mg base "_law_draw" 1 ["draws", "limit"] (spD ⟨K, P, w⟩ 2 fn__law_draw)) (L__law_pick : FnC P w K mg base "_law_pick" 2 ["draws", "some"] (spD ⟨K, P, w⟩ 2 fn__law_pick)) : FnOk P w K mg base CX0 3 f fd ["draws"] (spD ⟨K, P, w⟩ 1 fn__law_column) :=
  fn_z (K := ⟨K, P, w⟩) F sc__law_column fun cdv A outer s H E hr => pk__law_column.2 T L__law_value L__law_draw L__law_pick f cdv A outer s H E hr

abbrev s__law_column_fault : Stmt := top 22
theorem sc__law_column_fault : FnScope ["column", "lives", "one"] ["column", "lives"] (defScope s__law_column_fault) := ⟨rfl, rfl, rfl, by decide +kernel, rfl, by decide +kernel, by decide +kernel⟩
noncomputable def pk__law_column_fault : Σ' b : FS, ∀ {P : Program} {w : World} {K : PySem.W.Frag} {mg : Str → Option Value} {base : Heap} {t_MOST_TAG : Tok} (T : Tx mg t_MOST_TAG) (f : Addr) (cdv : Value) (A : Around) (outer : List PySem.Env) (st : Shared) (H : Hp) (E : XK) (hr : Room 0 (A.deeper (envOfC "_law_column_fault" (defScope s__law_column_fault) st.heap.objs.size f cdv))),
    ∃ t, ZSs ⟨K, P, w⟩ (cxOf CX0 P w K mg base ["column", "lives", "one"] "_law_column_fault" (defScope s__law_column_fault) f cdv A outer st H E).nox (defBody s__law_column_fault) t b := by
  exact ⟨_, fun {P w K mg base t_MOST_TAG} T f cdv A outer st H E hr => ⟨_, (zss_cons (zs_if (ZW.zt (zw_or (zt_cmp (zc_lt (K := ⟨K, P, w⟩) rfl hr.units) (z_ix (K := ⟨K, P, w⟩) rfl (zv 0) z_int (fun _ _ => rfl)) z_int (nomark _)) (zw_or (zt_cmp (zc_gt (K := ⟨K, P, w⟩) rfl hr.units) (z_ix (K := ⟨K, P, w⟩) rfl (zv 0) z_int (fun _ _ => rfl)) z_int (nomark _)) (zw_or1 (zt_cmp (zc_in (K := ⟨K, P, w⟩) rfl (units65 hr)) (z_ix (K := ⟨K, P, w⟩) rfl (zv 0) z_int (fun _ _ => rfl)) (z_lc (K := ⟨K, P, w⟩) (own := [("one", 2)]) eL rfl sc__law_column_fault.nd (zi_seq (K := ⟨K, P, w⟩) rfl (zv 1)) (blkOk_by (own := [("one", 2)]) (N := ["column", "lives", "one"]) (sc := defScope s__law_column_fault) (by decide +kernel)) (fun _ _ _ _ _ => (zg_name (i := 2) sc__law_column_fault.nd rfl (Or.inl rfl))) (fun _ _ _ _ _ => zts_nil) (fun _ _ _ _ _ => (z_dget (K := ⟨K, P, w⟩) rfl hr.units (zv 2) z_str (fun _ _ => rfl))) (s0 := st) (H0 := H)) rfl)))))
    (zss_one (zs_ret z_str))
    zss_nil)
    (zss_cons (zs_if (zt_cmp (zc_in (K := ⟨K, P, w⟩) rfl (units65 hr)) (z_ix (K := ⟨K, P, w⟩) rfl (zv 0) z_int (fun _ _ => rfl)) (z_lc (K := ⟨K, P, w⟩) (own := [("one", 2)]) eL rfl sc__law_column_fault.nd (zi_seq (K := ⟨K, P, w⟩) rfl (zv 1)) (blkOk_by (own := [("one", 2)]) (N := ["column", "lives", "one"]) (sc := defScope s__law_column_fault) (by decide +kernel)) (fun _ _ _ _ _ => (zg_name (i := 2) sc__law_column_fault.nd rfl (Or.inl rfl))) (fun _ _ _ _ _ => zts_nil) (fun _ _ _ _ _ => (z_dget (K := ⟨K, P, w⟩) rfl hr.units (zv 2) z_str (fun _ _ => rfl))) (s0 := st) (H0 := H)) rfl)
    (zss_one (zs_ret z_str))
    zss_nil)
    (zss_one (zs_ret (z_if (zt_cmp (zc_ne (K := ⟨K, P, w⟩) rfl hr.units) (z_cmp (zc_eq (K := ⟨K, P, w⟩) rfl hr.units) (z_ix (K := ⟨K, P, w⟩) rfl (zv 0) z_int (fun _ _ => rfl)) z_str (nomark _)) (z_isa (T := "str") (K := ⟨K, P, w⟩) (by decide) rfl (by rfl) T.b_isinstance (by rfl) T.b_str (by decide +kernel) (z_ix (K := ⟨K, P, w⟩) rfl (zv 0) z_int (fun _ _ => rfl))) (nomark _)) z_str z_non)))))⟩⟩
noncomputable def b__law_column_fault : FS := (pk__law_column_fault).1
noncomputable def fn__law_column_fault : FnD := fnD 2 1 b__law_column_fault
theorem ok__law_column_fault {P : Program} {w : World} {K : PySem.W.Frag} {mg : Str → Option Value} {base : Heap} {t_MOST_TAG : Tok} {f : Addr} {fd : FuncData} (F : Fun K "_law_column_fault" "_law_column_fault" s__law_column_fault f fd) (T : Tx mg t_MOST_TAG) : FnOk P w K mg base CX0 1 f fd ["column", "lives"] (spD ⟨K, P, w⟩ 2 fn__law_column_fault) :=
  fn_z (K := ⟨K, P, w⟩) F sc__law_column_fault fun cdv A outer s H E hr => pk__law_column_fault.2 T f cdv A outer s H E hr

abbrev s__law_born : Stmt := top 23
theorem sc__law_born : FnScope ["column", "shape"] ["column", "shape"] (defScope s__law_born) := ⟨rfl, rfl, rfl, by decide +kernel, rfl, by decide +kernel, by decide +kernel⟩
noncomputable def pk__law_born : Σ' b : FS, ∀ {P : Program} {w : World} {K : PySem.W.Frag} {mg : Str → Option Value} {base : Heap} {t_MOST_TAG : Tok} (T : Tx mg t_MOST_TAG) (f : Addr) (cdv : Value) (A : Around) (outer : List PySem.Env) (st : Shared) (H : Hp) (E : XK) (hr : Room 0 (A.deeper (envOfC "_law_born" (defScope s__law_born) st.heap.objs.size f cdv))),
    ∃ t, ZSs ⟨K, P, w⟩ (cxOf CX0 P w K mg base ["column", "shape"] "_law_born" (defScope s__law_born) f cdv A outer st H E).nox (defBody s__law_born) t b := by
  exact ⟨_, fun {P w K mg base t_MOST_TAG} T f cdv A outer st H E hr => ⟨_, (zss_one (zs_ret (z_frzD (z_disp (zps_cons z_str (zv 1) (zps_cons z_str (z_ix (K := ⟨K, P, w⟩) rfl (zv 0) z_int (fun _ _ => rfl)) (zps_cons z_str (z_ix (K := ⟨K, P, w⟩) rfl (zv 0) z_int (fun _ _ => rfl)) (zps_cons z_str (z_ix (K := ⟨K, P, w⟩) rfl (zv 0) z_int (fun _ _ => rfl)) (zps_cons z_str (z_ix (K := ⟨K, P, w⟩) rfl (zv 0) z_int (fun _ _ => rfl)) (zps_cons z_str z_int zps_nil)))))) (by rfl) (by rfl) (fun z => by cases z) (by decide)))))⟩⟩
noncomputable def b__law_born : FS := (pk__law_born).1
noncomputable def fn__law_born : FnD := fnD 2 0 b__law_born
theorem ok__law_born {P : Program} {w : World} {K : PySem.W.Frag} {mg : Str → Option Value} {base : Heap} {t_MOST_TAG : Tok} {f : Addr} {fd : FuncData} (F : Fun K "_law_born" "_law_born" s__law_born f fd) (T : Tx mg t_MOST_TAG) : FnOk P w K mg base CX0 1 f fd ["column", "shape"] (spD ⟨K, P, w⟩ 2 fn__law_born) :=
  fn_z (K := ⟨K, P, w⟩) F sc__law_born fun cdv A outer s H E hr => pk__law_born.2 T f cdv A outer s H E hr

abbrev s__law_step : Stmt := top 24
theorem sc__law_step : FnScope ["draws", "lives", "kind", "tag"] ["draws", "lives"] (defScope s__law_step) := ⟨rfl, rfl, rfl, by decide +kernel, rfl, by decide +kernel, by decide +kernel⟩
noncomputable def pk__law_step : Σ' b : FS, ∀ {P : Program} {w : World} {K : PySem.W.Frag} {mg : Str → Option Value} {base : Heap} {t_MOST_TAG : Tok} (T : Tx mg t_MOST_TAG) (L__law_draw : FnC P w K mg base "_law_draw" 1 ["draws", "limit"] (spD ⟨K, P, w⟩ 2 fn__law_draw)) (L__law_pick : FnC P w K mg base "_law_pick" 2 ["draws", "some"] (spD ⟨K, P, w⟩ 2 fn__law_pick)) (L__law_column : FnC P w K mg base "_law_column" 3 ["draws"] (spD ⟨K, P, w⟩ 1 fn__law_column)) (f : Addr) (cdv : Value) (A : Around) (outer : List PySem.Env) (st : Shared) (H : Hp) (E : XK) (hr : Room 3 (A.deeper (envOfC "_law_step" (defScope s__law_step) st.heap.objs.size f cdv))),
    ∃ t, ZSs ⟨K, P, w⟩ (cxOf CX0 P w K mg base ["draws", "lives", "kind", "tag"] "_law_step" (defScope s__law_step) f cdv A outer st H E).nox (defBody s__law_step) t b := by
  exact ⟨_, fun {P w K mg base t_MOST_TAG} T L__law_draw L__law_pick L__law_column f cdv A outer st H E hr => ⟨_, (zss_cons (zs_let 2 sc__law_step.nd (z_call [true, false] L__law_draw (hr.mono (by decide)) (by rfl) (za_cons (zv 0) (za_cons z_int za_nil))))
    (zss_cons (zs_let 3 sc__law_step.nd (z_if (zt_cmp (zc_gt (K := ⟨K, P, w⟩) rfl hr.units) (z_call [true, false] L__law_draw (hr.mono (by decide)) (by rfl) (za_cons (zv 0) (za_cons z_int za_nil))) z_int (nomark _)) (z_dget (K := ⟨K, P, w⟩) rfl hr.units (z_call [true, false] L__law_pick (hr.mono (by decide)) (by rfl) (za_cons (zv 0) (za_cons (zv 1) za_nil))) z_str (fun _ _ => rfl)) z_int))
    (zss_cons (zs_if (zt_cmp (zc_lt (K := ⟨K, P, w⟩) rfl hr.units) (zv 2) z_int (nomark _))
    (zss_one (zs_ret (z_add (K := ⟨K, P, w⟩) rfl nL (z_tup (za_cons z_str za_nil)) (z_call [true] L__law_column (hr.mono (by decide)) (by rfl) (za_cons (zv 0) za_nil)))))
    zss_nil)
    (zss_one (zs_ret (z_ix (K := ⟨K, P, w⟩) rfl (z_lst nL (za_cons (z_tup (za_cons z_str (za_cons (zv 3) za_nil))) (za_cons (z_tup (za_cons z_str (za_cons (zv 3) (za_cons (z_call [true, false] L__law_pick (hr.mono (by decide)) (by rfl) (za_cons (zv 0) (za_cons (z_lst nL (za_cons z_str (za_cons z_str (za_cons z_str (za_cons z_str za_nil))))) za_nil))) za_nil)))) (za_cons (z_tup (za_cons z_str (za_cons (zv 3) (za_cons (z_sub (z_call [true, false] L__law_draw (hr.mono (by decide)) (by rfl) (za_cons (zv 0) (za_cons z_int za_nil))) z_int) za_nil)))) (za_cons (z_tup (za_cons z_str (za_cons (zv 3) (za_cons z_int za_nil)))) za_nil))))) (z_sub (zv 2) z_int) (fun _ _ => rfl)))))))⟩⟩
noncomputable def b__law_step : FS := (pk__law_step).1
noncomputable def fn__law_step : FnD := fnD 2 2 b__law_step
theorem ok__law_step {P : Program} {w : World} {K : PySem.W.Frag} {mg : Str → Option Value} {base : Heap} {t_MOST_TAG : Tok} {f : Addr} {fd : FuncData} (F : Fun K "_law_step" "_law_step" s__law_step f fd) (T : Tx mg t_MOST_TAG) (L__law_draw : FnC P w K mg base "_law_draw" 1 ["draws", "limit"] (spD ⟨K, P, w⟩ 2 fn__law_draw)) (L__law_pick : FnC P w K mg base "_law_pick" 2 ["draws", "some"] (spD ⟨K, P, w⟩ 2 fn__law_pick)) (L__law_column : FnC P w K mg base "_law_column" 3 ["draws"] (spD ⟨K, P, w⟩ 1 fn__law_column)) : FnOk P w K mg base CX0 4 f fd ["draws", "lives"] (spD ⟨K, P, w⟩ 2 fn__law_step) :=
  fn_z (K := ⟨K, P, w⟩) F sc__law_step fun cdv A outer s H E hr => pk__law_step.2 T L__law_draw L__law_pick L__law_column f cdv A outer s H E hr

abbrev s__law_step_fault : Stmt := top 25
theorem sc__law_step_fault : FnScope ["lives", "step", "mine", "one"] ["lives", "step"] (defScope s__law_step_fault) := ⟨rfl, rfl, rfl, by decide +kernel, rfl, by decide +kernel, by decide +kernel⟩
noncomputable def pk__law_step_fault : Σ' b : FS, ∀ {P : Program} {w : World} {K : PySem.W.Frag} {mg : Str → Option Value} {base : Heap} {t_MOST_TAG : Tok} (T : Tx mg t_MOST_TAG) (L__law_column_fault : FnC P w K mg base "_law_column_fault" 1 ["column", "lives"] (spD ⟨K, P, w⟩ 2 fn__law_column_fault)) (f : Addr) (cdv : Value) (A : Around) (outer : List PySem.Env) (st : Shared) (H : Hp) (E : XK) (hr : Room 1 (A.deeper (envOfC "_law_step_fault" (defScope s__law_step_fault) st.heap.objs.size f cdv))),
    ∃ t, ZSs ⟨K, P, w⟩ (cxOf CX0 P w K mg base ["lives", "step", "mine", "one"] "_law_step_fault" (defScope s__law_step_fault) f cdv A outer st H E).nox (defBody s__law_step_fault) t b := by
  exact ⟨_, fun {P w K mg base t_MOST_TAG} T L__law_column_fault f cdv A outer st H E hr => ⟨_, (zss_cons (zs_if (zt_cmp (zc_eq (K := ⟨K, P, w⟩) rfl hr.units) (z_ix (K := ⟨K, P, w⟩) rfl (zv 1) z_int (fun _ _ => rfl)) z_str (nomark _))
    (zss_one (zs_ret (z_call [false, true] L__law_column_fault (hr.mono (by decide)) (by rfl) (za_cons (z_sl (K := ⟨K, P, w⟩) rfl nL (zv 1) (zo_some z_int) zo_none) (za_cons (zv 0) za_nil)))))
    zss_nil)
    (zss_cons (zs_setLc (K := ⟨K, P, w⟩) (i := 2) (own := [("one", 3)]) eL rfl sc__law_step_fault.nd rfl rfl (sw_true rfl rfl rfl (by decide +kernel)) (zi_seq (K := ⟨K, P, w⟩) rfl (zv 0)) (blkOk_by (own := [("one", 3)]) (N := ["lives", "step", "mine", "one"]) (sc := defScope s__law_step_fault) (by decide +kernel)) (fun _ _ _ _ _ => (zg_name (i := 3) sc__law_step_fault.nd rfl (Or.inl rfl))) (fun _ _ _ _ _ => (zts_one (zt_cmp (zc_eq (K := ⟨K, P, w⟩) rfl hr.units) (z_dget (K := ⟨K, P, w⟩) rfl hr.units (zv 3) z_str (fun _ _ => rfl)) (z_ix (K := ⟨K, P, w⟩) rfl (zv 1) z_int (fun _ _ => rfl)) (nomark _)))) (fun _ _ _ _ _ => (zv 3)) st H)
    (zss_cons (zs_if (zt_cmp (zc_eq (K := ⟨K, P, w⟩) rfl hr.units) (z_cb (cr_len (K := ⟨K, P, w⟩) rfl) sr_len (by rfl) T.b_len (by decide +kernel) (za_cons (zv 2) za_nil)) z_int (nomark _))
    (zss_one (zs_ret z_str))
    zss_nil)
    (zss_cons (zs_if (zt_cmp (zc_eq (K := ⟨K, P, w⟩) rfl hr.units) (z_ix (K := ⟨K, P, w⟩) rfl (zv 1) z_int (fun _ _ => rfl)) z_str (nomark _))
    (zss_one (zs_ret (z_if (zt_cmp (zc_eq (K := ⟨K, P, w⟩) rfl hr.units) (z_cb (cr_len (K := ⟨K, P, w⟩) rfl) sr_len (by rfl) T.b_len (by decide +kernel) (za_cons (zv 0) za_nil)) z_int (nomark _)) z_str z_non)))
    zss_nil)
    (zss_cons (zs_if (zt_cmp (zc_eq (K := ⟨K, P, w⟩) rfl hr.units) (z_ix (K := ⟨K, P, w⟩) rfl (zv 1) z_int (fun _ _ => rfl)) z_str (nomark _))
    (zss_one (zs_ret (z_if (zt_cmp (zc_eq (K := ⟨K, P, w⟩) rfl hr.units) (z_dget (K := ⟨K, P, w⟩) rfl hr.units (z_ix (K := ⟨K, P, w⟩) rfl (zv 2) z_int (fun _ _ => rfl)) z_str (fun _ _ => rfl)) z_str (nomark _)) z_non z_str)))
    zss_nil)
    (zss_one (zs_ret (z_if (zt_cmp (zc_in (K := ⟨K, P, w⟩) rfl (units65 hr)) (z_ix (K := ⟨K, P, w⟩) rfl (zv 1) z_int (fun _ _ => rfl)) (z_lc (K := ⟨K, P, w⟩) (own := [("one", 3)]) eL rfl sc__law_step_fault.nd (zi_seq (K := ⟨K, P, w⟩) rfl (zv 0)) (blkOk_by (own := [("one", 3)]) (N := ["lives", "step", "mine", "one"]) (sc := defScope s__law_step_fault) (by decide +kernel)) (fun _ _ _ _ _ => (zg_name (i := 3) sc__law_step_fault.nd rfl (Or.inl rfl))) (fun _ _ _ _ _ => zts_nil) (fun _ _ _ _ _ => (z_dget (K := ⟨K, P, w⟩) rfl hr.units (zv 3) z_str (fun _ _ => rfl))) (s0 := st) (H0 := H)) rfl) z_str z_non))))))))⟩⟩
noncomputable def b__law_step_fault : FS := (pk__law_step_fault).1
noncomputable def fn__law_step_fault : FnD := fnD 2 2 b__law_step_fault
theorem ok__law_step_fault {P : Program} {w : World} {K : PySem.W.Frag} {mg : Str → Option Value} {base : Heap} {t_MOST_TAG : Tok} {f : Addr} {fd : FuncData} (F : Fun K "_law_step_fault" "_law_step_fault" s__law_step_fault f fd) (T : Tx mg t_MOST_TAG) (L__law_column_fault : FnC P w K mg base "_law_column_fault" 1 ["column", "lives"] (spD ⟨K, P, w⟩ 2 fn__law_column_fault)) : FnOk P w K mg base CX0 2 f fd ["lives", "step"] (spD ⟨K, P, w⟩ 2 fn__law_step_fault) :=
  fn_z (K := ⟨K, P, w⟩) F sc__law_step_fault fun cdv A outer s H E hr => pk__law_step_fault.2 T L__law_column_fault f cdv A outer s H E hr

abbrev s__law_behind : Stmt := top 26
theorem sc__law_behind : FnScope ["lives", "step", "shape", "found", "one"] ["lives", "step", "shape"] (defScope s__law_behind) := ⟨rfl, rfl, rfl, by decide +kernel, rfl, by decide +kernel, by decide +kernel⟩
noncomputable def pk__law_behind : Σ' b : FS, ∀ {P : Program} {w : World} {K : PySem.W.Frag} {mg : Str → Option Value} {base : Heap} {t_MOST_TAG : Tok} (T : Tx mg t_MOST_TAG) (L__law_born : FnC P w K mg base "_law_born" 1 ["column", "shape"] (spD ⟨K, P, w⟩ 2 fn__law_born)) (f : Addr) (cdv : Value) (A : Around) (outer : List PySem.Env) (st : Shared) (H : Hp) (E : XK) (hr : Room 1 (A.deeper (envOfC "_law_behind" (defScope s__law_behind) st.heap.objs.size f cdv))),
    ∃ t, ZSs ⟨K, P, w⟩ (cxOf CX0 P w K mg base ["lives", "step", "shape", "found", "one"] "_law_behind" (defScope s__law_behind) f cdv A outer st H E).nox (defBody s__law_behind) t b := by
  exact ⟨_, fun {P w K mg base t_MOST_TAG} T L__law_born f cdv A outer st H E hr => ⟨_, (zss_cons (zs_setLc (K := ⟨K, P, w⟩) (i := 3) (own := [("one", 4)]) eC rfl sc__law_behind.nd rfl rfl (sw_true rfl rfl rfl (by decide +kernel)) (zi_seq (K := ⟨K, P, w⟩) rfl (zv 0)) (blkOk_by (own := [("one", 4)]) (N := ["lives", "step", "shape", "found", "one"]) (sc := defScope s__law_behind) (by decide +kernel)) (fun _ _ _ _ _ => (zg_name (i := 4) sc__law_behind.nd rfl (Or.inl rfl))) (fun _ _ _ _ _ => (zts_one (ZW.zt (zw_or (zt_cmp (zc_ne (K := ⟨K, P, w⟩) rfl hr.units) (z_ix (K := ⟨K, P, w⟩) rfl (zv 1) z_int (fun _ _ => rfl)) z_str (nomark _)) (zw_or1 (zt_cmp (zc_ne (K := ⟨K, P, w⟩) rfl hr.units) (z_dget (K := ⟨K, P, w⟩) rfl hr.units (zv 4) z_str (fun _ _ => rfl)) (z_ix (K := ⟨K, P, w⟩) rfl (zv 1) z_int (fun _ _ => rfl)) (nomark _))))))) (fun _ _ _ _ _ => (z_ct (cr_dictZ (K := ⟨K, P, w⟩) rfl rfl hr.units) sr_dict (by rfl) T.b_dict (by decide +kernel) (za_cons (zv 4) za_nil))) st H)
    (zss_cons (zs_forK PassesOwn.never rfl (zi_seq (K := ⟨K, P, w⟩) rfl (zv 3)) (zg_name (i := 4) sc__law_behind.nd rfl (Or.inl rfl))
    (zss_one (zs_if (ZW.zt (zw_and (zt_cmp (zc_ne (K := ⟨K, P, w⟩) rfl hr.units) (z_ix (K := ⟨K, P, w⟩) rfl (zv 1) z_int (fun _ _ => rfl)) z_str (nomark _)) (zw_and1 (zt_cmp (zc_eq (K := ⟨K, P, w⟩) rfl hr.units) (z_dget (K := ⟨K, P, w⟩) rfl hr.units (zv 4) z_str (fun _ _ => rfl)) (z_ix (K := ⟨K, P, w⟩) rfl (zv 1) z_int (fun _ _ => rfl)) (nomark _)))))
    (zss_cons (zs_if (zt_cmp (zc_eq (K := ⟨K, P, w⟩) rfl hr.units) (z_ix (K := ⟨K, P, w⟩) rfl (zv 1) z_int (fun _ _ => rfl)) z_str (nomark _))
    (zss_one (zs_asg (z_ix (K := ⟨K, P, w⟩) rfl (zv 1) z_int (fun _ _ => rfl)) (zg_sub (set_dictZ (K := ⟨K, P, w⟩) rfl hr.units) st_setD (zv 4) z_str)))
    zss_nil)
    (zss_one (zs_if (zt_cmp (zc_eq (K := ⟨K, P, w⟩) rfl hr.units) (z_ix (K := ⟨K, P, w⟩) rfl (zv 1) z_int (fun _ _ => rfl)) z_str (nomark _))
    (zss_one (zs_asg (z_add (K := ⟨K, P, w⟩) rfl nL (z_dget (K := ⟨K, P, w⟩) rfl hr.units (zv 4) z_str (fun _ _ => rfl)) (z_ix (K := ⟨K, P, w⟩) rfl (zv 1) z_int (fun _ _ => rfl))) (zg_sub (set_dictZ (K := ⟨K, P, w⟩) rfl hr.units) st_setD (zv 4) z_str)))
    zss_nil)))
    zss_nil)))
    (zss_one (zs_ret (z_add (K := ⟨K, P, w⟩) rfl nL (z_lock (zv 3)) (z_if (zt_cmp (zc_eq (K := ⟨K, P, w⟩) rfl hr.units) (z_ix (K := ⟨K, P, w⟩) rfl (zv 1) z_int (fun _ _ => rfl)) z_str (nomark _)) (z_lst nL (za_cons (z_call [] L__law_born (hr.mono (by decide)) (by rfl) (za_cons (z_sl (K := ⟨K, P, w⟩) rfl nL (zv 1) (zo_some z_int) zo_none) (za_cons (zv 2) za_nil))) za_nil)) (z_lst nL za_nil)))))))⟩⟩
noncomputable def b__law_behind : FS := (pk__law_behind).1
noncomputable def fn__law_behind : FnD := fnD 3 2 b__law_behind
theorem ok__law_behind {P : Program} {w : World} {K : PySem.W.Frag} {mg : Str → Option Value} {base : Heap} {t_MOST_TAG : Tok} {f : Addr} {fd : FuncData} (F : Fun K "_law_behind" "_law_behind" s__law_behind f fd) (T : Tx mg t_MOST_TAG) (L__law_born : FnC P w K mg base "_law_born" 1 ["column", "shape"] (spD ⟨K, P, w⟩ 2 fn__law_born)) : FnOk P w K mg base CX0 2 f fd ["lives", "step", "shape"] (spD ⟨K, P, w⟩ 3 fn__law_behind) :=
  fn_z (K := ⟨K, P, w⟩) F sc__law_behind fun cdv A outer s H E hr => pk__law_behind.2 T L__law_born f cdv A outer s H E hr

end K02

/-! ZD1: the law's defs, taken over. -/
namespace K02
open PySem PySem.Spec PyProof.Rows L2 Y Z
abbrev s__law_first : Stmt := top 28
theorem sc__law_first : FnScope ["row"] ["row"] (defScope s__law_first) := ⟨rfl, rfl, rfl, by decide +kernel, rfl, by decide +kernel, by decide +kernel⟩
theorem ok__law_first {P : Program} {w : World} {K : PySem.W.Frag} {mg : Str → Option Value} {base : Heap} {f : Addr} {fd : FuncData} (F : Fun K "_law_first" "_law_first" s__law_first f fd) : FnOk P w K mg base CX0 1 f fd ["row"] (spKey K 0) :=
  fn_key (K := ⟨K, P, w⟩) (c := 0) F sc__law_first rfl fun cdv A outer st H E hr => ((zss_one (zs_ret (z_ix (K := ⟨K, P, w⟩) rfl (zv 0) z_int (fun _ _ => rfl)))) : ZSs ⟨K, P, w⟩ (cxOf CX0 P w K mg base ["row"] "_law_first" (defScope s__law_first) f cdv A outer st H E).nox (defBody s__law_first) _ _).pe

abbrev s__law_rows : Stmt := top 27
theorem sc__law_rows : FnScope ["lives", "rows", "one", "tag", "birth", "name", "kind", "default", "shift"] ["lives"] (defScope s__law_rows) := ⟨rfl, rfl, rfl, by decide +kernel, rfl, by decide +kernel, by decide +kernel⟩
noncomputable def pk__law_rows : Σ' b : FS, ∀ {P : Program} {w : World} {K : PySem.W.Frag} {mg : Str → Option Value} {base : Heap} {t_MOST_TAG : Tok} (T : Tx mg t_MOST_TAG) (L__law_first : FnC P w K mg base "_law_first" 1 ["row"] (spKey K 0)) (f : Addr) (cdv : Value) (A : Around) (outer : List PySem.Env) (st : Shared) (H : Hp) (E : XK) (hr : Room 3 (A.deeper (envOfC "_law_rows" (defScope s__law_rows) st.heap.objs.size f cdv))),
    ∃ t, ZSs ⟨K, P, w⟩ (cxOf CX0 P w K mg base ["lives", "rows", "one", "tag", "birth", "name", "kind", "default", "shift"] "_law_rows" (defScope s__law_rows) f cdv A outer st H E).nox (defBody s__law_rows) t b := by
  exact ⟨_, fun {P w K mg base t_MOST_TAG} T L__law_first f cdv A outer st H E hr => ⟨_, (zss_cons (zs_setLc (K := ⟨K, P, w⟩) (i := 1) (own := [("one", 2)]) eL rfl sc__law_rows.nd rfl rfl (sw_true rfl rfl rfl (by decide +kernel)) (zi_seq (K := ⟨K, P, w⟩) rfl (zv 0)) (blkOk_by (own := [("one", 2)]) (N := ["lives", "rows", "one", "tag", "birth", "name", "kind", "default", "shift"]) (sc := defScope s__law_rows) (by decide +kernel)) (fun _ _ _ _ _ => (zg_name (i := 2) sc__law_rows.nd rfl (Or.inl rfl))) (fun _ _ _ _ _ => zts_nil) (fun _ _ _ _ _ => (z_tup (za_cons (z_dget (K := ⟨K, P, w⟩) rfl hr.units (zv 2) z_str (fun _ _ => rfl)) (za_cons (z_dget (K := ⟨K, P, w⟩) rfl hr.units (zv 2) z_str (fun _ _ => rfl)) (za_cons (z_dget (K := ⟨K, P, w⟩) rfl hr.units (zv 2) z_str (fun _ _ => rfl)) (za_cons (z_dget (K := ⟨K, P, w⟩) rfl hr.units (zv 2) z_str (fun _ _ => rfl)) (za_cons (z_dget (K := ⟨K, P, w⟩) rfl hr.units (zv 2) z_str (fun _ _ => rfl)) (za_cons (z_dget (K := ⟨K, P, w⟩) rfl hr.units (zv 2) z_str (fun _ _ => rfl)) za_nil)))))))) st H)
    (zss_one (zs_ret (z_lc (K := ⟨K, P, w⟩) (own := [("tag", 3), ("birth", 4), ("name", 5), ("kind", 6), ("default", 7), ("shift", 8)]) eL rfl sc__law_rows.nd (zi_seq (K := ⟨K, P, w⟩) rfl (z_sortF (c := 0) (K := ⟨K, P, w⟩) rfl nL L__law_first (hr.mono (by decide)) (by rfl) T.b_sorted (by rfl) (za_cons (zv 1) za_nil))) (blkOk_by (own := [("tag", 3), ("birth", 4), ("name", 5), ("kind", 6), ("default", 7), ("shift", 8)]) (N := ["lives", "rows", "one", "tag", "birth", "name", "kind", "default", "shift"]) (sc := defScope s__law_rows) (by decide +kernel)) (fun _ _ _ _ _ => (zg_tup (K := ⟨K, P, w⟩) (n := 6) rfl rfl (zgs_cons (zg_name (i := 3) sc__law_rows.nd rfl (Or.inl rfl)) (zgs_cons (zg_name (i := 4) sc__law_rows.nd rfl (Or.inl rfl)) (zgs_cons (zg_name (i := 5) sc__law_rows.nd rfl (Or.inl rfl)) (zgs_cons (zg_name (i := 6) sc__law_rows.nd rfl (Or.inl rfl)) (zgs_cons (zg_name (i := 7) sc__law_rows.nd rfl (Or.inl rfl)) (zgs_cons (zg_name (i := 8) sc__law_rows.nd rfl (Or.inl rfl)) zgs_nil)))))))) (fun _ _ _ _ _ => zts_nil) (fun _ _ _ _ _ => (z_tup (za_cons (zv 4) (za_cons (zv 3) (za_cons (zv 5) (za_cons (zv 6) (za_cons (zv 7) (za_cons (zv 8) za_nil)))))))) (s0 := st) (H0 := H)))))⟩⟩
noncomputable def b__law_rows : FS := (pk__law_rows).1
noncomputable def fn__law_rows : FnD := fnD 1 8 b__law_rows
theorem ok__law_rows {P : Program} {w : World} {K : PySem.W.Frag} {mg : Str → Option Value} {base : Heap} {t_MOST_TAG : Tok} {f : Addr} {fd : FuncData} (F : Fun K "_law_rows" "_law_rows" s__law_rows f fd) (T : Tx mg t_MOST_TAG) (L__law_first : FnC P w K mg base "_law_first" 1 ["row"] (spKey K 0)) : FnOk P w K mg base CX0 4 f fd ["lives"] (spD ⟨K, P, w⟩ 1 fn__law_rows) :=
  fn_z (K := ⟨K, P, w⟩) F sc__law_rows fun cdv A outer s H E hr => pk__law_rows.2 T L__law_first f cdv A outer s H E hr

abbrev s__law_read : Stmt := top 29
theorem sc__law_read : FnScope ["lives", "book", "found", "birth", "tag", "name", "kind", "default", "shift", "value"] ["lives", "book"] (defScope s__law_read) := ⟨rfl, rfl, rfl, by decide +kernel, rfl, by decide +kernel, by decide +kernel⟩
noncomputable def pk__law_read : Σ' b : FS, ∀ {P : Program} {w : World} {K : PySem.W.Frag} {mg : Str → Option Value} {base : Heap} {t_MOST_TAG : Tok} (T : Tx mg t_MOST_TAG) (L__law_rows : FnC P w K mg base "_law_rows" 4 ["lives"] (spD ⟨K, P, w⟩ 1 fn__law_rows)) (f : Addr) (cdv : Value) (A : Around) (outer : List PySem.Env) (st : Shared) (H : Hp) (E : XK) (hr : Room 4 (A.deeper (envOfC "_law_read" (defScope s__law_read) st.heap.objs.size f cdv))),
    ∃ t, ZSs ⟨K, P, w⟩ (cxOf CX0 P w K mg base ["lives", "book", "found", "birth", "tag", "name", "kind", "default", "shift", "value"] "_law_read" (defScope s__law_read) f cdv A outer st H E).nox (defBody s__law_read) t b := by
  exact ⟨_, fun {P w K mg base t_MOST_TAG} T L__law_rows f cdv A outer st H E hr => ⟨_, (zss_cons (zs_let 2 sc__law_read.nd (z_lst nC za_nil))
    (zss_cons (zs_forK PassesOwn.never rfl (zi_seq (K := ⟨K, P, w⟩) rfl (z_call [] L__law_rows (hr.mono (by decide)) (by rfl) (za_cons (zv 0) za_nil))) (zg_tup (K := ⟨K, P, w⟩) (n := 6) rfl rfl (zgs_cons (zg_name (i := 3) sc__law_read.nd rfl (Or.inl rfl)) (zgs_cons (zg_name (i := 4) sc__law_read.nd rfl (Or.inl rfl)) (zgs_cons (zg_name (i := 5) sc__law_read.nd rfl (Or.inl rfl)) (zgs_cons (zg_name (i := 6) sc__law_read.nd rfl (Or.inl rfl)) (zgs_cons (zg_name (i := 7) sc__law_read.nd rfl (Or.inl rfl)) (zgs_cons (zg_name (i := 8) sc__law_read.nd rfl (Or.inl rfl)) zgs_nil)))))))
    (zss_cons (zs_let 9 sc__law_read.nd (z_dget2 (K := ⟨K, P, w⟩) rfl hr.units (zv 1) (z_tup (za_cons (zv 3) (za_cons (zv 4) za_nil))) (zv 7) ⟨rfl, rfl, rfl, rfl⟩))
    (zss_one (zs_expr (z_bm (K := ⟨K, P, w⟩) rfl PySem.F.plainAttrs_list PySem.F.slot_list_append PySem.F.type_list_append mt_append sm_append (zv 2) (za_cons (z_tup (za_cons (zv 4) (za_cons (z_if (zt_cmp (zc_eq (K := ⟨K, P, w⟩) rfl hr.units) (zv 6) z_str (nomark _)) (z_add (K := ⟨K, P, w⟩) rfl nL (zv 9) (zv 8)) (zv 9)) za_nil))) za_nil))))))
    (zss_one (zs_ret (z_frz (zv 2))))))⟩⟩
noncomputable def b__law_read : FS := (pk__law_read).1
noncomputable def fn__law_read : FnD := fnD 2 8 b__law_read
theorem ok__law_read {P : Program} {w : World} {K : PySem.W.Frag} {mg : Str → Option Value} {base : Heap} {t_MOST_TAG : Tok} {f : Addr} {fd : FuncData} (F : Fun K "_law_read" "_law_read" s__law_read f fd) (T : Tx mg t_MOST_TAG) (L__law_rows : FnC P w K mg base "_law_rows" 4 ["lives"] (spD ⟨K, P, w⟩ 1 fn__law_rows)) : FnOk P w K mg base CX0 5 f fd ["lives", "book"] (spD ⟨K, P, w⟩ 2 fn__law_read) :=
  fn_z (K := ⟨K, P, w⟩) F sc__law_read fun cdv A outer s H E hr => pk__law_read.2 T L__law_rows f cdv A outer s H E hr

abbrev s__law_given : Stmt := top 30
theorem sc__law_given : FnScope ["draws", "lives", "found", "one"] ["draws", "lives"] (defScope s__law_given) := ⟨rfl, rfl, rfl, by decide +kernel, rfl, by decide +kernel, by decide +kernel⟩
noncomputable def pk__law_given : Σ' b : FS, ∀ {P : Program} {w : World} {K : PySem.W.Frag} {mg : Str → Option Value} {base : Heap} {t_MOST_TAG : Tok} (T : Tx mg t_MOST_TAG) (L__law_draw : FnC P w K mg base "_law_draw" 1 ["draws", "limit"] (spD ⟨K, P, w⟩ 2 fn__law_draw)) (L__law_pick : FnC P w K mg base "_law_pick" 2 ["draws", "some"] (spD ⟨K, P, w⟩ 2 fn__law_pick)) (L__law_value : FnC P w K mg base "_law_value" 2 ["draws", "kind"] (spD ⟨K, P, w⟩ 2 fn__law_value)) (f : Addr) (cdv : Value) (A : Around) (outer : List PySem.Env) (st : Shared) (H : Hp) (E : XK) (hr : Room 2 (A.deeper (envOfC "_law_given" (defScope s__law_given) st.heap.objs.size f cdv))),
    ∃ t, ZSs ⟨K, P, w⟩ (cxOf CX0 P w K mg base ["draws", "lives", "found", "one"] "_law_given" (defScope s__law_given) f cdv A outer st H E).nox (defBody s__law_given) t b := by
  exact ⟨_, fun {P w K mg base t_MOST_TAG} T L__law_draw L__law_pick L__law_value f cdv A outer st H E hr => ⟨_, (zss_cons (zs_let 2 sc__law_given.nd (z_lst nC za_nil))
    (zss_cons (zs_forK PassesOwn.never rfl (zi_seq (K := ⟨K, P, w⟩) rfl (zv 1)) (zg_name (i := 3) sc__law_given.nd rfl (Or.inl rfl))
    (zss_one (zs_if (zt_cmp (zc_eq (K := ⟨K, P, w⟩) rfl hr.units) (z_call [true, false] L__law_draw (hr.mono (by decide)) (by rfl) (za_cons (zv 0) (za_cons z_int za_nil))) z_int (nomark _))
    (zss_one (zs_expr (z_bm (K := ⟨K, P, w⟩) rfl PySem.F.plainAttrs_list PySem.F.slot_list_append PySem.F.type_list_append mt_append sm_append (zv 2) (za_cons (z_tup (za_cons (z_dget (K := ⟨K, P, w⟩) rfl hr.units (zv 3) z_str (fun _ _ => rfl)) (za_cons (z_call [true, false] L__law_value (hr.mono (by decide)) (by rfl) (za_cons (zv 0) (za_cons (z_dget (K := ⟨K, P, w⟩) rfl hr.units (zv 3) z_str (fun _ _ => rfl)) za_nil))) za_nil))) za_nil))))
    zss_nil)))
    (zss_cons (zs_if (ZW.zt (zw_or (zt_cmp (zc_eq (K := ⟨K, P, w⟩) rfl hr.units) (z_cb (cr_len (K := ⟨K, P, w⟩) rfl) sr_len (by rfl) T.b_len (by decide +kernel) (za_cons (zv 2) za_nil)) z_int (nomark _)) (zw_or1 (zt_cmp (zc_eq (K := ⟨K, P, w⟩) rfl hr.units) (z_call [true, false] L__law_draw (hr.mono (by decide)) (by rfl) (za_cons (zv 0) (za_cons z_int za_nil))) z_int (nomark _)))))
    (zss_one (zs_expr (z_bm (K := ⟨K, P, w⟩) rfl PySem.F.plainAttrs_list PySem.F.slot_list_append PySem.F.type_list_append mt_append sm_append (zv 2) (za_cons (z_tup (za_cons (z_call [true, false] L__law_pick (hr.mono (by decide)) (by rfl) (za_cons (zv 0) (za_cons (z_lst nL (za_cons z_str (za_cons z_str (za_cons z_str za_nil)))) za_nil))) (za_cons (z_call [true, false] L__law_value (hr.mono (by decide)) (by rfl) (za_cons (zv 0) (za_cons (z_call [true, false] L__law_pick (hr.mono (by decide)) (by rfl) (za_cons (zv 0) (za_cons (z_lst nL (za_cons z_str (za_cons z_str za_nil))) za_nil))) za_nil))) za_nil))) za_nil))))
    zss_nil)
    (zss_one (zs_ret (z_frz (zv 2)))))))⟩⟩
noncomputable def b__law_given : FS := (pk__law_given).1
noncomputable def fn__law_given : FnD := fnD 2 2 b__law_given
theorem ok__law_given {P : Program} {w : World} {K : PySem.W.Frag} {mg : Str → Option Value} {base : Heap} {t_MOST_TAG : Tok} {f : Addr} {fd : FuncData} (F : Fun K "_law_given" "_law_given" s__law_given f fd) (T : Tx mg t_MOST_TAG) (L__law_draw : FnC P w K mg base "_law_draw" 1 ["draws", "limit"] (spD ⟨K, P, w⟩ 2 fn__law_draw)) (L__law_pick : FnC P w K mg base "_law_pick" 2 ["draws", "some"] (spD ⟨K, P, w⟩ 2 fn__law_pick)) (L__law_value : FnC P w K mg base "_law_value" 2 ["draws", "kind"] (spD ⟨K, P, w⟩ 2 fn__law_value)) : FnOk P w K mg base CX0 3 f fd ["draws", "lives"] (spD ⟨K, P, w⟩ 2 fn__law_given) :=
  fn_z (K := ⟨K, P, w⟩) F sc__law_given fun cdv A outer s H E hr => pk__law_given.2 T L__law_draw L__law_pick L__law_value f cdv A outer s H E hr

abbrev s__law_given_fault : Stmt := top 31
theorem sc__law_given_fault : FnScope ["lives", "given", "met", "name", "value", "mine", "one"] ["lives", "given"] (defScope s__law_given_fault) := ⟨rfl, rfl, rfl, by decide +kernel, rfl, by decide +kernel, by decide +kernel⟩
noncomputable def pk__law_given_fault : Σ' b : FS, ∀ {P : Program} {w : World} {K : PySem.W.Frag} {mg : Str → Option Value} {base : Heap} {t_MOST_TAG : Tok} (T : Tx mg t_MOST_TAG) (f : Addr) (cdv : Value) (A : Around) (outer : List PySem.Env) (st : Shared) (H : Hp) (E : XK) (hr : Room 0 (A.deeper (envOfC "_law_given_fault" (defScope s__law_given_fault) st.heap.objs.size f cdv))),
    ∃ t, ZSs ⟨K, P, w⟩ (cxOf CX0 P w K mg base ["lives", "given", "met", "name", "value", "mine", "one"] "_law_given_fault" (defScope s__law_given_fault) f cdv A outer st H E).nox (defBody s__law_given_fault) t b := by
  exact ⟨_, fun {P w K mg base t_MOST_TAG} T f cdv A outer st H E hr => ⟨_, (zss_cons (zs_let 2 sc__law_given_fault.nd (z_lst nC za_nil))
    (zss_cons (zs_forK PassesOwn.never rfl (zi_seq (K := ⟨K, P, w⟩) rfl (zv 1)) (zg_tup (K := ⟨K, P, w⟩) (n := 2) rfl rfl (zgs_cons (zg_name (i := 3) sc__law_given_fault.nd rfl (Or.inr rfl)) (zgs_cons (zg_name (i := 4) sc__law_given_fault.nd rfl (Or.inl rfl)) zgs_nil)))
    (zss_cons (zs_setLc (K := ⟨K, P, w⟩) (i := 5) (own := [("one", 6)]) eL rfl sc__law_given_fault.nd rfl rfl (sw_true rfl rfl rfl (by decide +kernel)) (zi_seq (K := ⟨K, P, w⟩) rfl (zv 0)) (blkOk_by (own := [("one", 6)]) (N := ["lives", "given", "met", "name", "value", "mine", "one"]) (sc := defScope s__law_given_fault) (by decide +kernel)) (fun _ _ _ _ _ => (zg_name (i := 6) sc__law_given_fault.nd rfl (Or.inl rfl))) (fun _ _ _ _ _ => (zts_one (zt_cmp (zc_eq (K := ⟨K, P, w⟩) rfl hr.units) (z_dget (K := ⟨K, P, w⟩) rfl hr.units (zv 6) z_str (fun _ _ => rfl)) (zv 3) (nomark _)))) (fun _ _ _ _ _ => (zv 6)) st H)
    (zss_cons (zs_if (zt_cmp (zc_eq (K := ⟨K, P, w⟩) rfl hr.units) (z_cb (cr_len (K := ⟨K, P, w⟩) rfl) sr_len (by rfl) T.b_len (by decide +kernel) (za_cons (zv 5) za_nil)) z_int (nomark _))
    (zss_one (zs_ret z_str))
    zss_nil)
    (zss_cons (zs_if (zt_cmp (zc_in (K := ⟨K, P, w⟩) rfl (units65 hr)) (zv 3) (zv 2) rfl)
    (zss_one (zs_ret z_str))
    zss_nil)
    (zss_cons (zs_if (zt_cmp (zc_ne (K := ⟨K, P, w⟩) rfl hr.units) (z_cmp (zc_eq (K := ⟨K, P, w⟩) rfl hr.units) (z_dget (K := ⟨K, P, w⟩) rfl hr.units (z_ix (K := ⟨K, P, w⟩) rfl (zv 5) z_int (fun _ _ => rfl)) z_str (fun _ _ => rfl)) z_str (nomark _)) (z_isa (T := "str") (K := ⟨K, P, w⟩) (by decide) rfl (by rfl) T.b_isinstance (by rfl) T.b_str (by decide +kernel) (zv 4)) (nomark _))
    (zss_one (zs_ret z_str))
    zss_nil)
    (zss_one (zs_expr (z_bm (K := ⟨K, P, w⟩) rfl PySem.F.plainAttrs_list PySem.F.slot_list_append PySem.F.type_list_append mt_append sm_append (zv 2) (za_cons (zv 3) za_nil)))))))))
    (zss_one (zs_ret z_non))))⟩⟩
noncomputable def b__law_given_fault : FS := (pk__law_given_fault).1
noncomputable def fn__law_given_fault : FnD := fnD 2 5 b__law_given_fault
theorem ok__law_given_fault {P : Program} {w : World} {K : PySem.W.Frag} {mg : Str → Option Value} {base : Heap} {t_MOST_TAG : Tok} {f : Addr} {fd : FuncData} (F : Fun K "_law_given_fault" "_law_given_fault" s__law_given_fault f fd) (T : Tx mg t_MOST_TAG) : FnOk P w K mg base CX0 1 f fd ["lives", "given"] (spD ⟨K, P, w⟩ 2 fn__law_given_fault) :=
  fn_z (K := ⟨K, P, w⟩) F sc__law_given_fault fun cdv A outer s H E hr => pk__law_given_fault.2 T f cdv A outer s H E hr

abbrev s__law_put : Stmt := top 32
theorem sc__law_put : FnScope ["lives", "book", "given", "is_new", "told", "birth", "tag", "name", "kind", "default", "shift"] ["lives", "book", "given", "is_new"] (defScope s__law_put) := ⟨rfl, rfl, rfl, by decide +kernel, rfl, by decide +kernel, by decide +kernel⟩
noncomputable def pk__law_put : Σ' b : FS, ∀ {P : Program} {w : World} {K : PySem.W.Frag} {mg : Str → Option Value} {base : Heap} {t_MOST_TAG : Tok} (T : Tx mg t_MOST_TAG) (L__law_rows : FnC P w K mg base "_law_rows" 4 ["lives"] (spD ⟨K, P, w⟩ 1 fn__law_rows)) (f : Addr) (cdv : Value) (A : Around) (outer : List PySem.Env) (st : Shared) (H : Hp) (E : XK) (hr : Room 4 (A.deeper (envOfC "_law_put" (defScope s__law_put) st.heap.objs.size f cdv))),
    ∃ t, ZSs ⟨K, P, w⟩ (cxOf CX0 P w K mg base ["lives", "book", "given", "is_new", "told", "birth", "tag", "name", "kind", "default", "shift"] "_law_put" (defScope s__law_put) f cdv A outer st H E).nox (defBody s__law_put) t b := by
  exact ⟨_, fun {P w K mg base t_MOST_TAG} T L__law_rows f cdv A outer st H E hr => ⟨_, (zss_cons (zs_let 4 sc__law_put.nd (z_frzD (z_ct (cr_dictZ (K := ⟨K, P, w⟩) rfl rfl hr.units) sr_dict (by rfl) T.b_dict (by decide +kernel) (za_cons (zv 2) za_nil))))
    (zss_cons (zs_forK PassesOwn.never rfl (zi_seq (K := ⟨K, P, w⟩) rfl (z_call [] L__law_rows (hr.mono (by decide)) (by rfl) (za_cons (zv 0) za_nil))) (zg_tup (K := ⟨K, P, w⟩) (n := 6) rfl rfl (zgs_cons (zg_name (i := 5) sc__law_put.nd rfl (Or.inl rfl)) (zgs_cons (zg_name (i := 6) sc__law_put.nd rfl (Or.inl rfl)) (zgs_cons (zg_name (i := 7) sc__law_put.nd rfl (Or.inl rfl)) (zgs_cons (zg_name (i := 8) sc__law_put.nd rfl (Or.inl rfl)) (zgs_cons (zg_name (i := 9) sc__law_put.nd rfl (Or.inl rfl)) (zgs_cons (zg_name (i := 10) sc__law_put.nd rfl (Or.inl rfl)) zgs_nil)))))))
    (zss_one (zs_if (zt_din (K := ⟨K, P, w⟩) rfl hr.units (zv 7) (zv 4))
    (zss_one (zs_asg (z_if (zt_cmp (zc_eq (K := ⟨K, P, w⟩) rfl hr.units) (zv 8) z_str (nomark _)) (z_sub (z_dget (K := ⟨K, P, w⟩) rfl hr.units (zv 4) (zv 7) (fun _ _ => rfl)) (zv 10)) (z_dget (K := ⟨K, P, w⟩) rfl hr.units (zv 4) (zv 7) (fun _ _ => rfl))) (zg_sub (set_dictZ (K := ⟨K, P, w⟩) rfl hr.units) st_setD (zv 1) (z_tup (za_cons (zv 5) (za_cons (zv 6) za_nil))))))
    (zss_one (zs_if (zt_bool (zv 3))
    (zss_one (zs_asg (zv 9) (zg_sub (set_dictZ (K := ⟨K, P, w⟩) rfl hr.units) st_setD (zv 1) (z_tup (za_cons (zv 5) (za_cons (zv 6) za_nil))))))
    zss_nil)))))
    (zss_one (zs_ret (zv 1)))))⟩⟩
noncomputable def b__law_put : FS := (pk__law_put).1
noncomputable def fn__law_put : FnD := fnD 4 7 b__law_put
theorem ok__law_put {P : Program} {w : World} {K : PySem.W.Frag} {mg : Str → Option Value} {base : Heap} {t_MOST_TAG : Tok} {f : Addr} {fd : FuncData} (F : Fun K "_law_put" "_law_put" s__law_put f fd) (T : Tx mg t_MOST_TAG) (L__law_rows : FnC P w K mg base "_law_rows" 4 ["lives"] (spD ⟨K, P, w⟩ 1 fn__law_rows)) : FnOk P w K mg base CX0 5 f fd ["lives", "book", "given", "is_new"] (spD ⟨K, P, w⟩ 4 fn__law_put) :=
  fn_z (K := ⟨K, P, w⟩) F sc__law_put fun cdv A outer s H E hr => pk__law_put.2 T L__law_rows f cdv A outer s H E hr

abbrev s_law : Stmt := top 33
theorem sc_law : FnScope ["script", "draws", "columns", "k", "lives", "due", "column", "steps", "shapes", "turn", "step", "fault", "table", "kept", "shape", "record", "book", "given", "held", "other", "there"] ["script"] (defScope s_law) := ⟨rfl, rfl, rfl, by decide +kernel, rfl, by decide +kernel, by decide +kernel⟩
noncomputable def pk_law : Σ' b : FS, ∀ {P : Program} {w : World} {K : PySem.W.Frag} {mg : Str → Option Value} {base : Heap} {t_MOST_TAG : Tok} (T : Tx mg t_MOST_TAG) (L__law_draws : FnC P w K mg base "_law_draws" 1 ["script"] (spD ⟨K, P, w⟩ 1 fn__law_draws)) (L__law_column : FnC P w K mg base "_law_column" 3 ["draws"] (spD ⟨K, P, w⟩ 1 fn__law_column)) (L_table_fault : FnC P w K mg base "table_fault" 2 ["columns"] (spD ⟨K, P, w⟩ 1 fn_table_fault)) (L__law_draw : FnC P w K mg base "_law_draw" 1 ["draws", "limit"] (spD ⟨K, P, w⟩ 2 fn__law_draw)) (L__law_step : FnC P w K mg base "_law_step" 4 ["draws", "lives"] (spD ⟨K, P, w⟩ 2 fn__law_step)) (L__law_step_fault : FnC P w K mg base "_law_step_fault" 2 ["lives", "step"] (spD ⟨K, P, w⟩ 2 fn__law_step_fault)) (L__law_given : FnC P w K mg base "_law_given" 3 ["draws", "lives"] (spD ⟨K, P, w⟩ 2 fn__law_given)) (L__law_given_fault : FnC P w K mg base "_law_given_fault" 1 ["lives", "given"] (spD ⟨K, P, w⟩ 2 fn__law_given_fault)) (L__law_put : FnC P w K mg base "_law_put" 5 ["lives", "book", "given", "is_new"] (spD ⟨K, P, w⟩ 4 fn__law_put)) (L__law_column_fault : FnC P w K mg base "_law_column_fault" 1 ["column", "lives"] (spD ⟨K, P, w⟩ 2 fn__law_column_fault)) (L__law_born : FnC P w K mg base "_law_born" 1 ["column", "shape"] (spD ⟨K, P, w⟩ 2 fn__law_born)) (L_step_fault : FnC P w K mg base "step_fault" 2 ["columns", "step"] (spD ⟨K, P, w⟩ 2 fn_step_fault)) (L__law_is : FnC P w K mg base "_law_is" 4 ["told", "due"] (spD ⟨K, P, w⟩ 2 fn__law_is)) (L_given_fault : FnC P w K mg base "given_fault" 1 ["columns", "given"] (spD ⟨K, P, w⟩ 2 fn_given_fault)) (L_new_record : FnC P w K mg base "new_record" 5 ["table", "shape", "given"] (spD ⟨K, P, w⟩ 3 fn_new_record)) (L_set_record : FnC P w K mg base "set_record" 5 ["table", "shape", "record", "given"] (spD ⟨K, P, w⟩ 4 fn_set_record)) (L_columns_at : FnC P w K mg base "columns_at" 4 ["table", "shape"] (spD ⟨K, P, w⟩ 2 fn_columns_at)) (L__law_behind : FnC P w K mg base "_law_behind" 2 ["lives", "step", "shape"] (spD ⟨K, P, w⟩ 3 fn__law_behind)) (L__law_rows : FnC P w K mg base "_law_rows" 4 ["lives"] (spD ⟨K, P, w⟩ 1 fn__law_rows)) (L_row_at : FnC P w K mg base "row_at" 5 ["table", "shape", "record"] (spD ⟨K, P, w⟩ 3 fn_row_at)) (L__law_read : FnC P w K mg base "_law_read" 5 ["lives", "book"] (spD ⟨K, P, w⟩ 2 fn__law_read)) (f : Addr) (cdv : Value) (A : Around) (outer : List PySem.Env) (st : Shared) (H : Hp) (E : XK) (hr : Room 5 (A.deeper (envOfC "law" (defScope s_law) st.heap.objs.size f cdv))) (hG : A.guards = some []),
    ∃ t, ZSs ⟨K, P, w⟩ (cxOf CX0 P w K mg base ["script", "draws", "columns", "k", "lives", "due", "column", "steps", "shapes", "turn", "step", "fault", "table", "kept", "shape", "record", "book", "given", "held", "other", "there"] "law" (defScope s_law) f cdv A outer st H E).nox (defBody s_law) t b := by
  exact ⟨_, fun {P w K mg base t_MOST_TAG} T L__law_draws L__law_column L_table_fault L__law_draw L__law_step L__law_step_fault L__law_given L__law_given_fault L__law_put L__law_column_fault L__law_born L_step_fault L__law_is L_given_fault L_new_record L_set_record L_columns_at L__law_behind L__law_rows L_row_at L__law_read f cdv A outer st H E hr hG => ⟨_, (zss_cons (zs_let 1 sc_law.nd (z_call [] L__law_draws (hr.mono (by decide)) (by rfl) (za_cons (zv 0) za_nil)))
    (zss_cons (zs_setLc (K := ⟨K, P, w⟩) (i := 2) (own := [("k", 3)]) eL rfl sc_law.nd rfl rfl (sw_true rfl rfl rfl (by decide +kernel)) (zi_range1 rfl T.b_range (za_cons (z_add (K := ⟨K, P, w⟩) rfl nL z_int (z_call [true, false] L__law_draw (hr.mono (by decide)) (by rfl) (za_cons (zv 1) (za_cons z_int za_nil)))) za_nil)) (blkOk_by (own := [("k", 3)]) (N := ["script", "draws", "columns", "k", "lives", "due", "column", "steps", "shapes", "turn", "step", "fault", "table", "kept", "shape", "record", "book", "given", "held", "other", "there"]) (sc := defScope s_law) (by decide +kernel)) (fun _ _ _ _ _ => (zg_name (i := 3) sc_law.nd rfl (Or.inl rfl))) (fun _ _ _ _ _ => zts_nil) (fun _ _ _ _ _ => (z_call [true] L__law_column (hr.mono (by decide)) (by rfl) (za_cons (zv 1) za_nil))) st H)
    (zss_cons (zs_let 4 sc_law.nd (z_lst nC za_nil))
    (zss_cons (zs_let 5 sc_law.nd z_non)
    (zss_cons (zs_forK PassesOwn.never rfl (zi_seq (K := ⟨K, P, w⟩) rfl (zv 2)) (zg_name (i := 6) sc_law.nd rfl (Or.inl rfl))
    (zss_cons (zs_let 5 sc_law.nd (z_if (zt_isN (zv 5)) (z_call [false, true] L__law_column_fault (hr.mono (by decide)) (by rfl) (za_cons (zv 6) (za_cons (zv 4) za_nil))) (zv 5)))
    (zss_one (zs_expr (z_bm (K := ⟨K, P, w⟩) rfl PySem.F.plainAttrs_list PySem.F.slot_list_append PySem.F.type_list_append mt_append sm_append (zv 4) (za_cons (z_call [] L__law_born (hr.mono (by decide)) (by rfl) (za_cons (zv 6) (za_cons z_int za_nil))) za_nil))))))
    (zss_cons (zs_if (zt_cmp (zc_ne (K := ⟨K, P, w⟩) rfl hr.units) (z_call [] L_table_fault (hr.mono (by decide)) (by rfl) (za_cons (zv 2) za_nil)) (zv 5) (nomark _))
    (zss_one (zs_ret z_bl))
    zss_nil)
    (zss_cons (zs_if (zt_notN (zv 5))
    (zss_cons (zs_let 2 sc_law.nd (z_lst nL (za_cons (z_tup (za_cons z_int (za_cons z_str (za_cons z_str (za_cons z_int za_nil))))) (za_cons (z_tup (za_cons z_int (za_cons z_str (za_cons z_str (za_cons z_str za_nil))))) za_nil))))
    (zss_one (zs_setLc (K := ⟨K, P, w⟩) (i := 4) (own := [("column", 6)]) eC rfl sc_law.nd rfl rfl (sw_true rfl rfl rfl (by decide +kernel)) (zi_seq (K := ⟨K, P, w⟩) rfl (zv 2)) (blkOk_by (own := [("column", 6)]) (N := ["script", "draws", "columns", "k", "lives", "due", "column", "steps", "shapes", "turn", "step", "fault", "table", "kept", "shape", "record", "book", "given", "held", "other", "there"]) (sc := defScope s_law) (by decide +kernel)) (fun _ _ _ _ _ => (zg_name (i := 6) sc_law.nd rfl (Or.inl rfl))) (fun _ _ _ _ _ => zts_nil) (fun _ _ _ _ _ => (z_call [] L__law_born (hr.mono (by decide)) (by rfl) (za_cons (zv 6) (za_cons z_int za_nil)))) st H)))
    zss_nil)
    (zss_cons (zs_let 7 sc_law.nd (z_lst nL za_nil))
    (zss_cons (zs_let 8 sc_law.nd (z_lst nC (za_cons (z_frz (zv 4)) za_nil)))
    (zss_cons (zs_forK PassesOwn.never rfl (zi_range1 rfl T.b_range (za_cons (z_call [true, false] L__law_draw (hr.mono (by decide)) (by rfl) (za_cons (zv 1) (za_cons z_int za_nil))) za_nil)) (zg_name (i := 9) sc_law.nd rfl (Or.inl rfl))
    (zss_cons (zs_let 10 sc_law.nd (z_call [true, false] L__law_step (hr.mono (by decide)) (by rfl) (za_cons (zv 1) (za_cons (z_ix (K := ⟨K, P, w⟩) rfl (zv 8) (z_neg z_int) (fun _ _ => rfl)) za_nil))))
    (zss_cons (zs_let 11 sc_law.nd (z_call [] L__law_step_fault (hr.mono (by decide)) (by rfl) (za_cons (z_ix (K := ⟨K, P, w⟩) rfl (zv 8) (z_neg z_int) (fun _ _ => rfl)) (za_cons (zv 10) za_nil))))
    (zss_cons (zs_if (zt_cmp (zc_ne (K := ⟨K, P, w⟩) rfl hr.units) (z_call [] L_step_fault (hr.mono (by decide)) (by rfl) (za_cons (z_call [] L_columns_at (hr.mono (by decide)) (by rfl) (za_cons (z_tup (za_cons z_str (za_cons z_str (za_cons (zv 2) (za_cons (zv 7) za_nil))))) (za_cons (z_cb (cr_len (K := ⟨K, P, w⟩) rfl) sr_len (by rfl) T.b_len (by decide +kernel) (za_cons (zv 7) za_nil)) za_nil))) (za_cons (zv 10) za_nil))) (zv 11) (nomark _))
    (zss_one (zs_ret z_bl))
    zss_nil)
    (zss_one (zs_if (zt_isN (zv 11))
    (zss_cons (zs_let 7 sc_law.nd (z_add (K := ⟨K, P, w⟩) rfl nL (zv 7) (z_lst nL (za_cons (zv 10) za_nil))))
    (zss_one (zs_expr (z_bm (K := ⟨K, P, w⟩) rfl PySem.F.plainAttrs_list PySem.F.slot_list_append PySem.F.type_list_append mt_append sm_append (zv 8) (za_cons (z_call [] L__law_behind (hr.mono (by decide)) (by rfl) (za_cons (z_ix (K := ⟨K, P, w⟩) rfl (zv 8) (z_neg z_int) (fun _ _ => rfl)) (za_cons (zv 10) (za_cons (z_cb (cr_len (K := ⟨K, P, w⟩) rfl) sr_len (by rfl) T.b_len (by decide +kernel) (za_cons (zv 7) za_nil)) za_nil)))) za_nil)))))
    zss_nil))))))
    (zss_cons (zs_let 12 sc_law.nd (z_tup (za_cons z_str (za_cons z_str (za_cons (zv 2) (za_cons (zv 7) za_nil))))))
    (zss_cons (zs_let 13 sc_law.nd (z_cb (cr_reprV (K := ⟨K, P, w⟩) rfl hG hr.units) sr_repr (by rfl) T.b_repr (by decide +kernel) (za_cons (zv 12) za_nil)))
    (zss_cons (zs_forK PassesOwn.never rfl (zi_range1 rfl T.b_range (za_cons (z_cb (cr_len (K := ⟨K, P, w⟩) rfl) sr_len (by rfl) T.b_len (by decide +kernel) (za_cons (zv 8) za_nil)) za_nil)) (zg_name (i := 14) sc_law.nd rfl (Or.inl rfl))
    (zss_one (zs_if (zt_not (zt_bool (z_call [] L__law_is (hr.mono (by decide)) (by rfl) (za_cons (z_call [] L_columns_at (hr.mono (by decide)) (by rfl) (za_cons (zv 12) (za_cons (zv 14) za_nil))) (za_cons (z_call [] L__law_rows (hr.mono (by decide)) (by rfl) (za_cons (z_ix (K := ⟨K, P, w⟩) rfl (zv 8) (zv 14) (fun _ _ => rfl)) za_nil)) za_nil)))))
    (zss_one (zs_ret z_bl))
    zss_nil)))
    (zss_cons (zs_let 15 sc_law.nd z_non)
    (zss_cons (zs_let 16 sc_law.nd z_dnewC)
    (zss_cons (zs_forK PassesOwn.never rfl (zi_range1 rfl T.b_range (za_cons (z_add (K := ⟨K, P, w⟩) rfl nL z_int (z_call [true, false] L__law_draw (hr.mono (by decide)) (by rfl) (za_cons (zv 1) (za_cons z_int za_nil)))) za_nil)) (zg_name (i := 9) sc_law.nd rfl (Or.inl rfl))
    (zss_cons (zs_let 14 sc_law.nd (z_call [true, false] L__law_draw (hr.mono (by decide)) (by rfl) (za_cons (zv 1) (za_cons (z_cb (cr_len (K := ⟨K, P, w⟩) rfl) sr_len (by rfl) T.b_len (by decide +kernel) (za_cons (zv 8) za_nil)) za_nil))))
    (zss_cons (zs_let 17 sc_law.nd (z_call [true, false] L__law_given (hr.mono (by decide)) (by rfl) (za_cons (zv 1) (za_cons (z_ix (K := ⟨K, P, w⟩) rfl (zv 8) (zv 14) (fun _ _ => rfl)) za_nil))))
    (zss_cons (zs_let 11 sc_law.nd (z_call [] L__law_given_fault (hr.mono (by decide)) (by rfl) (za_cons (z_ix (K := ⟨K, P, w⟩) rfl (zv 8) (zv 14) (fun _ _ => rfl)) (za_cons (zv 17) za_nil))))
    (zss_cons (zs_if (zt_cmp (zc_ne (K := ⟨K, P, w⟩) rfl hr.units) (z_call [] L_given_fault (hr.mono (by decide)) (by rfl) (za_cons (z_call [] L_columns_at (hr.mono (by decide)) (by rfl) (za_cons (zv 12) (za_cons (zv 14) za_nil))) (za_cons (zv 17) za_nil))) (zv 11) (nomark _))
    (zss_one (zs_ret z_bl))
    zss_nil)
    (zss_cons (zs_if (zt_notN (zv 11))
    (zss_one zs_cnt)
    zss_nil)
    (zss_cons (zs_let 18 sc_law.nd (z_cb (cr_reprV (K := ⟨K, P, w⟩) rfl hG hr.units) sr_repr (by rfl) T.b_repr (by decide +kernel) (za_cons (zv 15) za_nil)))
    (zss_cons (zs_let 19 sc_law.nd (z_if (zt_isN (zv 15)) (z_call [] L_new_record (hr.mono (by decide)) (by rfl) (za_cons (zv 12) (za_cons (zv 14) (za_cons (zv 17) za_nil)))) (z_call [] L_set_record (hr.mono (by decide)) (by rfl) (za_cons (zv 12) (za_cons (zv 14) (za_cons (zv 15) (za_cons (zv 17) za_nil)))))))
    (zss_cons (zs_let 16 sc_law.nd (z_call [false, true, false, false] L__law_put (hr.mono (by decide)) (by rfl) (za_cons (z_ix (K := ⟨K, P, w⟩) rfl (zv 8) (zv 14) (fun _ _ => rfl)) (za_cons (z_ct (cr_dictZ (K := ⟨K, P, w⟩) rfl rfl hr.units) sr_dict (by rfl) T.b_dict (by decide +kernel) (za_cons (zv 16) za_nil)) (za_cons (zv 17) (za_cons (z_isN (zv 15)) za_nil))))))
    (zss_cons (zs_if (ZW.zt (zw_or (zt_cmp (zc_ne (K := ⟨K, P, w⟩) rfl hr.units) (z_cb (cr_reprV (K := ⟨K, P, w⟩) rfl hG hr.units) sr_repr (by rfl) T.b_repr (by decide +kernel) (za_cons (zv 15) za_nil)) (zv 18) (nomark _)) (zw_or1 (zt_not (zt_bool (z_call [] L__law_is (hr.mono (by decide)) (by rfl) (za_cons (zv 19) (za_cons (z_sortIt (K := ⟨K, P, w⟩) rfl rfl hr.units (by rfl) T.b_sorted (by rfl) (zv 16)) za_nil))))))))
    (zss_one (zs_ret z_bl))
    zss_nil)
    (zss_cons (zs_let 15 sc_law.nd (zv 19))
    (zss_one (zs_forK PassesOwn.never rfl (zi_range1 rfl T.b_range (za_cons (z_cb (cr_len (K := ⟨K, P, w⟩) rfl) sr_len (by rfl) T.b_len (by decide +kernel) (za_cons (zv 8) za_nil)) za_nil)) (zg_name (i := 20) sc_law.nd rfl (Or.inl rfl))
    (zss_one (zs_if (zt_not (zt_bool (z_call [] L__law_is (hr.mono (by decide)) (by rfl) (za_cons (z_call [] L_row_at (hr.mono (by decide)) (by rfl) (za_cons (zv 12) (za_cons (zv 20) (za_cons (zv 15) za_nil)))) (za_cons (z_call [] L__law_read (hr.mono (by decide)) (by rfl) (za_cons (z_ix (K := ⟨K, P, w⟩) rfl (zv 8) (zv 20) (fun _ _ => rfl)) (za_cons (z_frzD (zv 16)) za_nil))) za_nil)))))
    (zss_one (zs_ret z_bl))
    zss_nil)))))))))))))))
    (zss_one (zs_ret (z_cmp (zc_eq (K := ⟨K, P, w⟩) rfl hr.units) (z_cb (cr_reprV (K := ⟨K, P, w⟩) rfl hG hr.units) sr_repr (by rfl) T.b_repr (by decide +kernel) (za_cons (zv 12) za_nil)) (zv 13) (nomark _))))))))))))))))))))⟩⟩
noncomputable def b_law : FS := (pk_law).1
noncomputable def fn_law : FnD := fnD 1 20 b_law
def spLaw (P : Program) (w : World) (K : PySem.W.Frag) : Sp := spD ⟨K, P, w⟩ 1 fn_law
theorem ok_law {P : Program} {w : World} {K : PySem.W.Frag} {mg : Str → Option Value} {base : Heap} {t_MOST_TAG : Tok} {f : Addr} {fd : FuncData} (F : Fun K "law" "law" s_law f fd) (T : Tx mg t_MOST_TAG) (L__law_draws : FnC P w K mg base "_law_draws" 1 ["script"] (spD ⟨K, P, w⟩ 1 fn__law_draws)) (L__law_column : FnC P w K mg base "_law_column" 3 ["draws"] (spD ⟨K, P, w⟩ 1 fn__law_column)) (L_table_fault : FnC P w K mg base "table_fault" 2 ["columns"] (spD ⟨K, P, w⟩ 1 fn_table_fault)) (L__law_draw : FnC P w K mg base "_law_draw" 1 ["draws", "limit"] (spD ⟨K, P, w⟩ 2 fn__law_draw)) (L__law_step : FnC P w K mg base "_law_step" 4 ["draws", "lives"] (spD ⟨K, P, w⟩ 2 fn__law_step)) (L__law_step_fault : FnC P w K mg base "_law_step_fault" 2 ["lives", "step"] (spD ⟨K, P, w⟩ 2 fn__law_step_fault)) (L__law_given : FnC P w K mg base "_law_given" 3 ["draws", "lives"] (spD ⟨K, P, w⟩ 2 fn__law_given)) (L__law_given_fault : FnC P w K mg base "_law_given_fault" 1 ["lives", "given"] (spD ⟨K, P, w⟩ 2 fn__law_given_fault)) (L__law_put : FnC P w K mg base "_law_put" 5 ["lives", "book", "given", "is_new"] (spD ⟨K, P, w⟩ 4 fn__law_put)) (L__law_column_fault : FnC P w K mg base "_law_column_fault" 1 ["column", "lives"] (spD ⟨K, P, w⟩ 2 fn__law_column_fault)) (L__law_born : FnC P w K mg base "_law_born" 1 ["column", "shape"] (spD ⟨K, P, w⟩ 2 fn__law_born)) (L_step_fault : FnC P w K mg base "step_fault" 2 ["columns", "step"] (spD ⟨K, P, w⟩ 2 fn_step_fault)) (L__law_is : FnC P w K mg base "_law_is" 4 ["told", "due"] (spD ⟨K, P, w⟩ 2 fn__law_is)) (L_given_fault : FnC P w K mg base "given_fault" 1 ["columns", "given"] (spD ⟨K, P, w⟩ 2 fn_given_fault)) (L_new_record : FnC P w K mg base "new_record" 5 ["table", "shape", "given"] (spD ⟨K, P, w⟩ 3 fn_new_record)) (L_set_record : FnC P w K mg base "set_record" 5 ["table", "shape", "record", "given"] (spD ⟨K, P, w⟩ 4 fn_set_record)) (L_columns_at : FnC P w K mg base "columns_at" 4 ["table", "shape"] (spD ⟨K, P, w⟩ 2 fn_columns_at)) (L__law_behind : FnC P w K mg base "_law_behind" 2 ["lives", "step", "shape"] (spD ⟨K, P, w⟩ 3 fn__law_behind)) (L__law_rows : FnC P w K mg base "_law_rows" 4 ["lives"] (spD ⟨K, P, w⟩ 1 fn__law_rows)) (L_row_at : FnC P w K mg base "row_at" 5 ["table", "shape", "record"] (spD ⟨K, P, w⟩ 3 fn_row_at)) (L__law_read : FnC P w K mg base "_law_read" 5 ["lives", "book"] (spD ⟨K, P, w⟩ 2 fn__law_read)) : FnG P w K mg base CX0 6 f fd ["script"] (spLaw P w K) :=
  fn_zG (K := ⟨K, P, w⟩) F sc_law fun cdv A outer s H E hr hG => pk_law.2 T L__law_draws L__law_column L_table_fault L__law_draw L__law_step L__law_step_fault L__law_given L__law_given_fault L__law_put L__law_column_fault L__law_born L_step_fault L__law_is L_given_fault L_new_record L_set_record L_columns_at L__law_behind L__law_rows L_row_at L__law_read f cdv A outer s H E hr hG

end K02

/-! KA: columns, steps, plain; running the functions. -/
namespace K02
open PySem PySem.Spec PyProof.Rows L2 Y Z
inductive Val
  | int (i : Int)
  | text (x : Str)
  deriving DecidableEq
def vD : Val → PyData
  | .int i => .int i
  | .text x => .str x
def Val.isText : Val → Bool
  | .text _ => true
  | .int _ => false
structure Col where
  birth : Int
  tag : Int
  name : Str
  kind : Str
  dflt : Val
  shift : Int
structure Raw where
  tag : Int
  name : Str
  kind : Str
  dflt : Val
def cD (c : Col) : PyData := .tuple [.int c.birth, .int c.tag, .str c.name, .str c.kind, vD c.dflt, .int c.shift]
def rD (r : Raw) : PyData := .tuple [.int r.tag, .str r.name, .str r.kind, vD r.dflt]
def bornC (r : Raw) (n : Int) : Col := ⟨n, r.tag, r.name, r.kind, r.dflt, 0⟩
inductive Stp
  | add (r : Raw)
  | drop (t : Int)
  | name (t : Int) (x : Str)
  | shift (t n : Int)
def sD : Stp → PyData
  | .add r => .tuple [.str "add", .int r.tag, .str r.name, .str r.kind, vD r.dflt]
  | .drop t => .tuple [.str "drop", .int t]
  | .name t x => .tuple [.str "name", .int t, .str x]
  | .shift t n => .tuple [.str "shift", .int t, .int n]
def step1 (at' : Int) (s : Stp) (c : Col) : List Col := match s with
  | .add _ => [c]
  | .drop t => if c.tag = t then [] else [c]
  | .name t x => if c.tag = t then [{ c with name := x }] else [c]
  | .shift t n => if c.tag = t then [{ c with shift := c.shift + n }] else [c]
def step (cs : List Col) (at' : Int) (s : Stp) : List Col := cs.flatMap (step1 at' s) ++ match s with
  | .add r => [bornC r at']
  | _ => []
theorem e_born (r : Raw) (n : Int) : fn_born [.d (rD r), .d (.int n)] [] = some (.d (cD (bornC r n)), se fn_born [.d (rD r), .d (.int n)]) := se_of ⟨_, rfl⟩
theorem big : (64 : Nat) < sizeLine := by rw [sizeLine_eq]; decide
/-- what the loop of a step holds -/
def IS (cs : List Col) (s : Stp) (at' : Int) (xs : List Col) (acc : List Col) (env : Z.Env) (S : Store) : Prop := ∃ y, env = [some (.d (.list (cs.map cD))), some (.d (sD s)), some (.d (.int at')), some (.c 0), y] ∧ S = [.lst ((acc.map cD).map W.d)] ∧ acc.length + xs.length ≤ 64
theorem app1 {fa : FA} {env : Z.Env} {acc : List Col} {c : Col} {k : Nat} (hk : env[k]? = some (some (.c 0))) (h : fa env [.lst ((acc.map cD).map W.d)] = some ([.d (cD c)], [.lst ((acc.map cD).map W.d)])) (hl : acc.length < 64) : dropX (bmX appW (varX k) fa) env [.lst ((acc.map cD).map W.d)] = some (.next, env, [.lst (((acc ++ [c]).map cD).map W.d)]) := by
  refine dropX_n (w := .d .none) ?_
  have := app_d (fo := varX k) (fa := fa) (env := env) (S := [.lst ((acc.map cD).map W.d)]) (n := 0) (by unfold varX; rw [hk]) rfl h rfl (by have := big; simp; omega)
  rw [this]
  simp
theorem r_stepped (cs : List Col) (at' : Int) (s : Stp) (h : cs.length < 64) : fn_stepped [.d (.list (cs.map cD)), .d (sD s), .d (.int at')] [] = some (.d (.list ((step cs at' s).map cD)), se fn_stepped [.d (.list (cs.map cD)), .d (sD s), .d (.int at')]) := by
  refine rets_fn rfl ?_
  unfold b_stepped pk_stepped
  dsimp only
  have loop : ∀ {body : FS}, (∀ (c : Col) (acc : List Col), acc.length < 64 → ∃ e2, body [some (.d (.list (cs.map cD))), some (.d (sD s)), some (.d (.int at')), some (.c 0), some (.d (cD c))] [.lst ((acc.map cD).map W.d)] = some (.next, e2, [.lst (((acc ++ step1 at' s c).map cD).map W.d)]) ∧ e2 = [some (.d (.list (cs.map cD))), some (.d (sD s)), some (.d (.int at')), some (.c 0), some (.d (cD c))]) →
      Rets (seqX (forX (seqI (varX 0)) (nameG 4) body) (retX (frzX (varX 3)))) [some (.d (.list (cs.map cD))), some (.d (sD s)), some (.d (.int at')), some (.c 0), none] [.lst []] (.d (.list ((cs.flatMap (step1 at' s)).map cD))) := by
    intro body hb
    obtain ⟨e2, S2, h1, y, rfl, rfl, _⟩ := for_fold (fun c => W.d (cD c)) (fun acc c => acc ++ step1 at' s c) (IS cs s at') (gd := none) (tg := nameG 4) (body := body) (fun _ _ _ _ _ => True.intro) (fun acc c xs env S ⟨y, e1, e2, e3⟩ => by
      subst e1; subst e2
      rw [List.length_cons] at e3
      refine ⟨_, _, rfl, ?_⟩
      obtain ⟨e2, h1, h2⟩ := hb c acc (by omega)
      refine ⟨_, e2, _, h1, .inl rfl, ⟨_, h2, rfl, ?_⟩⟩
      have : (step1 at' s c).length ≤ 1 := by unfold step1; split <;> (try split) <;> simp
      rw [List.length_append]; omega) cs [] [some (.d (.list (cs.map cD))), some (.d (sD s)), some (.d (.int at')), some (.c 0), none] [.lst []] ⟨none, rfl, rfl, by simp; omega⟩
    have e3 : cs.foldl (fun acc c => acc ++ step1 at' s c) [] = cs.flatMap (step1 at' s) := by
      rw [List.flatMap_eq_foldl]
    rw [e3] at h1
    refine rets_seq ((forX_l (ws := cs.map fun c => W.d (cD c)) (gd := none) (S1 := [.lst []]) ?_).trans h1) ?_
    · show some (List.map W.d (cs.map cD), none, _) = _
      rw [List.map_map]; rfl
    · obtain ⟨S3, h3⟩ := frz_list (fa := varX 3) (env := [some (.d (.list (cs.map cD))), some (.d (sD s)), some (.d (.int at')), some (.c 0), y]) (S := [.lst (((cs.flatMap (step1 at' s)).map cD).map W.d)]) (n := 0) rfl rfl
      exact rets_ret h3
  cases s with
  | add r =>
    refine rets_seqr (rets_if (b := true) rfl ?_)
    rw [if_pos rfl]
    refine rets_ret (S1 := []) ?_
    have h3 : step cs at' (.add r) = cs ++ [bornC r at'] := by
      show cs.flatMap (fun c => [c]) ++ _ = _
      rw [List.flatMap_singleton']
    rw [h3, List.map_append]
    refine op2_n rfl (arg_n (cons_n (call_d (ds := [rD r, .int at']) (S := []) rfl (e_born r at')) rfl) (newL_d [] (ds := [cD (bornC r at')]) (by have := big; simp; omega))) ?_
    exact add_lists [] (as := cs.map cD) (bs := [cD (bornC r at')]) (by have := big; simp; omega)
  | shift t n =>
    refine rets_seq (e1 := [some (.d (.list (cs.map cD))), some (.d (sD (.shift t n))), some (.d (.int at')), none, none]) (S1 := []) ((ifS_b (b := false) rfl).trans rfl) (rets_seq rfl ?_)
    refine (show step cs at' (.shift t n) = cs.flatMap (step1 at' (.shift t n)) from List.append_nil _) ▸ loop fun c acc hl => ⟨_, ?_, rfl⟩
    refine (ifS_b (b := !decide (c.tag = t)) rfl).trans ?_
    by_cases hc : c.tag = t
    · rw [decide_eq_true hc, if_neg (by simp)]
      refine (ifS_b (b := false) rfl).trans ?_
      rw [if_neg (by simp)]
      refine (ifS_b (b := true) rfl).trans ?_
      rw [if_pos rfl]
      have : step1 at' (.shift t n) c = [{ c with shift := c.shift + n }] := if_pos hc
      rw [this]
      exact app1 rfl rfl hl
    · rw [decide_eq_false hc, if_pos (by simp)]
      have : step1 at' (.shift t n) c = [c] := if_neg hc
      rw [this]
      exact app1 rfl rfl hl
  | drop t =>
    refine rets_seq (e1 := [some (.d (.list (cs.map cD))), some (.d (sD (.drop t))), some (.d (.int at')), none, none]) (S1 := []) ((ifS_b (b := false) rfl).trans rfl) (rets_seq rfl ?_)
    refine (show step cs at' (.drop t) = cs.flatMap (step1 at' (.drop t)) from List.append_nil _) ▸ loop fun c acc hl => ⟨_, ?_, rfl⟩
    refine (ifS_b (b := !decide (c.tag = t)) rfl).trans ?_
    by_cases hc : c.tag = t
    · rw [decide_eq_true hc, if_neg (by simp)]
      refine (ifS_b (b := false) rfl).trans ?_
      rw [if_neg (by simp)]
      refine (ifS_b (b := false) rfl).trans ?_
      rw [if_neg (by simp)]
      have : step1 at' (.drop t) c = [] := if_pos hc
      rw [this, List.append_nil]
      rfl
    · rw [decide_eq_false hc, if_pos (by simp)]
      have : step1 at' (.drop t) c = [c] := if_neg hc
      rw [this]
      exact app1 rfl rfl hl
  | name t x =>
    refine rets_seq (e1 := [some (.d (.list (cs.map cD))), some (.d (sD (.name t x))), some (.d (.int at')), none, none]) (S1 := []) ((ifS_b (b := false) rfl).trans rfl) (rets_seq rfl ?_)
    refine (show step cs at' (.name t x) = cs.flatMap (step1 at' (.name t x)) from List.append_nil _) ▸ loop fun c acc hl => ⟨_, ?_, rfl⟩
    refine (ifS_b (b := !decide (c.tag = t)) rfl).trans ?_
    by_cases hc : c.tag = t
    · rw [decide_eq_true hc, if_neg (by simp)]
      refine (ifS_b (b := true) rfl).trans ?_
      rw [if_pos rfl]
      have : step1 at' (.name t x) c = [{ c with name := x }] := if_pos hc
      rw [this]
      exact app1 rfl rfl hl
    · rw [decide_eq_false hc, if_pos (by simp)]
      have : step1 at' (.name t x) c = [c] := if_neg hc
      rw [this]
      exact app1 rfl rfl hl
end K02

/-! KB: columns_at. -/
namespace K02
open PySem PySem.Spec PyProof.Rows L2 Y Z
def tD (rs : List Raw) (ss : List Stp) : PyData := .tuple [.str "table", .str "t", .list (rs.map rD), .list (ss.map sD)]
def runFrom (cs : List Col) (i : Nat) : List Stp → List Col
  | [] => cs
  | s :: ss => runFrom (step cs ((i : Int) + 1) s) (i + 1) ss
def stateAt (rs : List Raw) (ss : List Stp) (n : Nat) : List Col := runFrom (rs.map (bornC · 0)) 0 (ss.take n)
def srt (cs : List Col) : List Col := cs.mergeSort fun a b => decide (a.tag ≤ b.tag)
theorem step_len (cs : List Col) (a : Int) (s : Stp) : (step cs a s).length ≤ cs.length + 1 := by
  have h : ∀ cs : List Col, (cs.flatMap (step1 a s)).length ≤ cs.length := by
    intro cs
    induction cs with
    | nil => simp
    | cons c cs ih =>
      have : (step1 a s c).length ≤ 1 := by unfold step1; split <;> (try split) <;> simp
      rw [List.flatMap_cons, List.length_append, List.length_cons]
      omega
  have h1 := h cs
  have h2 : (match s with | .add r => [bornC r a] | _ => ([] : List Col)).length ≤ 1 := by cases s <;> simp
  have h3 : (step cs a s).length = (cs.flatMap (step1 a s)).length + (match s with | .add r => [bornC r a] | _ => ([] : List Col)).length := List.length_append
  omega
theorem run_len : ∀ (ss : List Stp) (cs : List Col) (i : Nat), (runFrom cs i ss).length ≤ cs.length + ss.length
  | [], cs, i => by simp [runFrom]
  | s :: ss, cs, i => by
    have h1 := run_len ss (step cs ((i : Int) + 1) s) (i + 1)
    have h2 := step_len cs ((i : Int) + 1) s
    simp only [runFrom, List.length_cons]
    omega
theorem enumL_from (ds : List PyData) : enumL ds = (ds.zipIdx).map fun p => W.d (.tuple [.int (p.2 : Nat), p.1]) := by
  unfold enumL
  apply List.ext_getElem?
  intro i
  rw [List.getElem?_map, List.getElem?_map, List.getElem?_zipIdx]
  by_cases h : i < ds.length
  · rw [List.getElem?_range h, List.getElem?_eq_getElem h]
    simp [h]
  · rw [List.getElem?_eq_none (by simpa using h), List.getElem?_eq_none (by simpa using h)]
    rfl
theorem keys1 : ∀ cs : List Col, keysAt 1 (cs.map cD) = some (cs.map (·.tag))
  | [] => rfl
  | c :: cs => by
    rw [List.map_cons]
    unfold keysAt
    rw [keys1 cs]
    rfl
theorem sort1 (cs : List Col) : sortK 1 (cs.map cD) = (srt cs).map cD := by
  unfold sortK srt
  exact (List.map_mergeSort (r := fun a b : Col => decide (a.tag ≤ b.tag)) (s := fun a b : PyData => decide (((keyAt 1 a).getD 0) ≤ ((keyAt 1 b).getD 0))) (f := cD) (l := cs) fun _ _ _ _ => rfl).symm
theorem sortK_n {c : Nat} {fa : FA} {env : Z.Env} {S S1 : Store} {ds : List PyData} {ks : List Int} (h : fa env S = some ([.d (.list ds)], S1)) (hk : keysAt c ds = some ks) (hl : ds.length < 64) (nd : ks.Nodup) : sortKX c newL fa env S = some (.d (.list (sortK c ds)), S1) := by
  unfold sortKX
  rw [h]
  dsimp only [itemsL]
  rw [datas_d]
  dsimp only
  rw [hk]
  dsimp only
  rw [if_pos ⟨hl, nd⟩]
  refine newL_d S1 ?_
  have : (sortK c ds).length = ds.length := by unfold sortK; rw [List.length_mergeSort]
  have := big
  omega
theorem r_columns_at (rs : List Raw) (ss : List Stp) (n : Nat) (hn : n ≤ ss.length) (hl : rs.length + ss.length < 60) (nd : ((stateAt rs ss n).map (·.tag)).Nodup) : fn_columns_at [.d (tD rs ss), .d (.int n)] [] = some (.d (.list ((srt (stateAt rs ss n)).map cD)), se fn_columns_at [.d (tD rs ss), .d (.int n)]) := by
  refine rets_fn rfl ?_
  unfold b_columns_at pk_columns_at
  dsimp only
  have hb := big
  refine rets_seq (e1 := [some (.d (tD rs ss)), some (.d (.int n)), some (.d (.list ((rs.map (bornC · 0)).map cD))), none, none, none]) (S1 := []) (asgX_n (w := .d (.list ((rs.map (bornC · 0)).map cD))) (S1 := []) ?_ rfl) ?_
  · rw [List.map_map]
    exact lc_map (fun r => W.d (rD r)) (fun r => cD (bornC r 0)) rs (by show some ((rs.map rD).map W.d, none, _) = _; rw [List.map_map]; rfl) (fun r _ => ⟨_, rfl, call_d (ds := [rD r, .int 0]) rfl (e_born r 0)⟩) (by omega)
  have hcut : slX newL (op2X ixW (varX 0) (conX (.int 3))) noO (someO (varX 1)) [some (.d (tD rs ss)), some (.d (.int n)), some (.d (.list ((rs.map (bornC · 0)).map cD))), none, none, none] [] = some (.d (.list ((ss.take n).map sD)), []) := by
    show newL [] (cutW ((ss.map sD).map W.d) none (some (n : Int))) = _
    have : cutW ((ss.map sD).map W.d) none (some (n : Int)) = ((ss.take n).map sD).map W.d := by
      unfold cutW
      rw [HT.sIx_none, HT.sIx_nat, List.drop_zero, Nat.sub_zero, List.length_map, List.length_map, Nat.min_eq_left hn, ← List.map_take, ← List.map_take]
    rw [this]
    exact newL_d [] (by simp; omega)
  have loop : ∀ (qs : List Stp) (i : Nat) (cs : List Col) (y z : Option W), cs.length + qs.length < 60 → ∃ y' z', forL none (tupG 2 (gConsX (nameG 4) (gConsX (nameG 5) gNilX))) (asgX (callL [] fn_stepped (consX (varX 2) (consX (varX 5) (consX (op2X (addW newL) (varX 4) (conX (.int 1))) nilX)))) (nameG 2))
      (((qs.map sD).zipIdx i).map fun p => W.d (.tuple [.int (p.2 : Nat), p.1])) [some (.d (tD rs ss)), some (.d (.int n)), some (.d (.list (cs.map cD))), none, y, z] [] = some (.next, [some (.d (tD rs ss)), some (.d (.int n)), some (.d (.list ((runFrom cs i qs).map cD))), none, y', z'], []) := by
    intro qs
    induction qs with
    | nil => intro i cs y z _; exact ⟨y, z, for_nil True.intro⟩
    | cons q qs ih =>
      intro i cs y z hq
      rw [List.length_cons] at hq
      have hst := step_len cs ((i : Int) + 1) q
      obtain ⟨y', z', h⟩ := ih (i + 1) (step cs ((i : Int) + 1) q) (some (.d (.int i))) (some (.d (sD q))) (by omega)
      refine ⟨y', z', ?_⟩
      rw [List.map_cons, List.zipIdx_cons, List.map_cons]
      refine (for_next (gd := none) True.intro rfl (asgX_n (call_d (ds := [.list (cs.map cD), sD q, .int ((i : Int) + 1)]) rfl (r_stepped cs ((i : Int) + 1) q (by omega))) rfl)).trans ?_
      exact h
  obtain ⟨y, z, h⟩ := loop (ss.take n) 0 (rs.map (bornC · 0)) none none (by simp; omega)
  refine rets_seq ((forX_l (ws := enumL ((ss.take n).map sD)) (gd := none) (S1 := []) ?_).trans (by rw [enumL_from]; exact h)) ?_
  · unfold enumI
    rw [cons_n hcut (show nilX _ _ = some ([], []) from rfl)]
    rfl
  · refine rets_ret ((sortK_n (ds := (stateAt rs ss n).map cD) (S1 := []) rfl (keys1 _) ?_ nd).trans (by rw [sort1]))
    have := run_len (ss.take n) (rs.map (bornC · 0)) 0
    simp only [List.length_map, List.length_take] at this ⊢
    unfold stateAt
    omega
end K02

/-! KC: faults of columns. -/
namespace K02
open PySem PySem.Spec PyProof.Rows L2 Y Z
def fD : Option Str → PyData
  | none => .none
  | some x => .str x
def colFault (r : Raw) (os : List Col) : Option Str :=
  if (!(decide (1 ≤ r.tag) && decide (r.tag ≤ 200)) || decide (r.tag ∈ os.map (·.tag))) = true then some "tag" else if decide (r.name ∈ os.map (·.name)) = true then some "name" else if (r.dflt.isText == decide (r.kind = "text")) = true then none else some "kind"
theorem isa_str (S : Store) (v : Val) : isaW "str" S (.d (vD v)) = some (.d (.bool v.isText), S) := by cases v <;> rfl
theorem beq_dec (a b : Bool) : decide (a = b) = (a == b) := by cases a <;> cases b <;> rfl
/-- v stands for the list of these columns -/
def Stands (d : Col → PyData) (os : List Col) (v : W) (S : Store) (gd : Gd) : Prop := HoldsG S gd ∧ ∀ (i : Nat) (env : Z.Env), env[i]? = some (some v) → seqI (varX i) env S = some (os.map fun c => W.d (d c), gd, S)
theorem stands_d (d : Col → PyData) (os : List Col) (S : Store) : Stands d os (.d (.list (os.map d))) S none := ⟨True.intro, fun i env h => by
  unfold seqI varX
  rw [h]
  dsimp only
  rw [List.map_map]
  rfl⟩
theorem stands_c (d : Col → PyData) (os : List Col) : Stands d os (.c 0) [.lst ((os.map d).map W.d)] (some (0, (os.map d).map W.d)) := ⟨rfl, fun i env h => by
  unfold seqI varX
  rw [h]
  dsimp only
  rw [List.map_map]
  rfl⟩
theorem r_column_fault (r : Raw) (os : List Col) (v : W) (S : Store) (gd : Gd) (hv : Stands cD os v S gd) (hl : os.length < 64) : fn_column_fault [.d (rD r), v] S = some (.d (fD (colFault r os)), S) := by
  refine ret_fn rfl ?_
  unfold b_column_fault pk_column_fault
  dsimp only
  have hb := big
  obtain ⟨hg, hv⟩ := hv
  have hch : chX (ordW (ordD leI leK)) (ordW (ordD leI leK)) (conX (.int 1)) (varX 2) (conX (.int 200)) [some (.d (rD r)), some v, some (.d (.int r.tag)), some (.d (.str r.name)), some (.d (.str r.kind)), some (.d (vD r.dflt)), none] S = some (.d (.bool (decide (1 ≤ r.tag) && decide (r.tag ≤ 200))), S) := by
    by_cases h : 1 ≤ r.tag
    · show (if decide (1 ≤ r.tag) = true then some (W.d (.bool (decide (r.tag ≤ 200))), S) else some (.d (.bool false), S)) = _
      rw [decide_eq_true h]
      rfl
    · show (if decide (1 ≤ r.tag) = true then some (W.d (.bool (decide (r.tag ≤ 200))), S) else some (.d (.bool false), S)) = _
      rw [decide_eq_false h]
      rfl
  refine ret_seq (e1 := [some (.d (rD r)), some v, some (.d (.int r.tag)), some (.d (.str r.name)), some (.d (.str r.kind)), some (.d (vD r.dflt)), none]) (S1 := S) rfl ?_
  have m1 := lc_mapG (fun c => W.d (cD c)) (fun c => PyData.int c.tag) (vs := [6]) (tg := nameG 6) (te := op2X ixW (varX 6) (conX (.int 1))) (env := [some (.d (rD r)), some v, some (.d (.int r.tag)), some (.d (.str r.name)), some (.d (.str r.kind)), some (.d (vD r.dflt)), none]) (S := S) hg os (hv 1 _ rfl) (fun c _ => ⟨_, rfl, rfl⟩) (by omega)
  have m2 := lc_mapG (fun c => W.d (cD c)) (fun c => PyData.str c.name) (vs := [6]) (tg := nameG 6) (te := op2X ixW (varX 6) (conX (.int 2))) (env := [some (.d (rD r)), some v, some (.d (.int r.tag)), some (.d (.str r.name)), some (.d (.str r.kind)), some (.d (vD r.dflt)), none]) (S := S) hg os (hv 1 _ rfl) (fun c _ => ⟨_, rfl, rfl⟩) (by omega)
  rw [show os.map (fun c => PyData.int c.tag) = (os.map (·.tag)).map PyData.int by rw [List.map_map]; rfl] at m1
  rw [show os.map (fun c => PyData.str c.name) = (os.map (·.name)).map PyData.str by rw [List.map_map]; rfl] at m2
  have out := ret_if (c := orT (notT (bbX (chX (ordW (ordD leI leK)) (ordW (ordD leI leK)) (conX (.int 1)) (varX 2) (conX (.int 200))))) (bbX (op2X (memW false) (varX 2) (lcX newL [6] (seqI (varX 1)) (nameG 6) yesT (op2X ixW (varX 6) (conX (.int 1)))))))
    (or_n (not_n (bb_n hch)) (by
      rw [bb_n (op2_n rfl m1 (mem_ints S r.tag _))]
      cases (!(decide (1 ≤ r.tag) && decide (r.tag ≤ 200))) <;> rfl) : _ = some ((!(decide (1 ≤ r.tag) && decide (r.tag ≤ 200)) || decide (r.tag ∈ os.map (·.tag))), S)) (fa := conX (.str "tag")) (fun _ => rfl) (fun _ => ret_if (c := bbX (op2X (memW false) (varX 3) (lcX newL [6] (seqI (varX 1)) (nameG 6) yesT (op2X ixW (varX 6) (conX (.int 2)))))) (fa := conX (.str "name")) (bb_n (op2_n rfl m2 (mem_strs S r.name _))) (fun _ => rfl) fun _ => ret_ret (if_n (fa := conX .none) (fb := conX (.str "kind")) (bb_n (op2_n (op1_n (fa := varX 5) (show varX 5 _ S = some (.d (vD r.dflt), S) from rfl) (isa_str S r.dflt)) (show op2X eqW (varX 4) (conX (.str "text")) _ S = some (.d (.bool (decide (r.kind = "text"))), S) from rfl) (show eqW S (.d (.bool r.dflt.isText)) (.d (.bool (decide (r.kind = "text")))) = some (.d (.bool (decide (r.dflt.isText = decide (r.kind = "text")))), S) from rfl))) (show _ = some (W.d (if decide (r.dflt.isText = decide (r.kind = "text")) = true then .none else .str "kind"), S) by split <;> rfl)))
  have e : (if (!(decide (1 ≤ r.tag) && decide (r.tag ≤ 200)) || decide (r.tag ∈ os.map (·.tag))) = true then W.d (.str "tag") else if decide (r.name ∈ os.map (·.name)) = true then W.d (.str "name") else W.d (if decide (r.dflt.isText = decide (r.kind = "text")) = true then .none else .str "kind")) = W.d (fD (colFault r os)) := by
    unfold colFault
    rw [beq_dec]
    split
    · rfl
    · split
      · rfl
      · split <;> rfl
  rw [e] at out
  simp only [ite_self] at out
  exact out
end K02

/-! KD: faults of steps; the law's own. -/
namespace K02
open PySem PySem.Spec PyProof.Rows L2 Y Z
def lD (c : Col) : PyData := .dict [(.str "birth", .int c.birth), (.str "tag", .int c.tag), (.str "name", .str c.name), (.str "kind", .str c.kind), (.str "default", vD c.dflt), (.str "shift", .int c.shift)]
theorem e_lborn (r : Raw) (n : Int) : fn__law_born [.d (rD r), .d (.int n)] [] = some (.d (lD (bornC r n)), se fn__law_born [.d (rD r), .d (.int n)]) := se_of ⟨_, rfl⟩
theorem r_lcolumn_fault (r : Raw) (os : List Col) (v : W) (S : Store) (gd : Gd) (hv : Stands lD os v S gd) (hl : os.length < 64) : fn__law_column_fault [.d (rD r), v] S = some (.d (fD (colFault r os)), S) := by
  refine ret_fn rfl ?_
  unfold b__law_column_fault pk__law_column_fault
  dsimp only
  have hb := big
  obtain ⟨hg, hv⟩ := hv
  have m1 := lc_mapG (fun c => W.d (lD c)) (fun c => PyData.int c.tag) (vs := [2]) (tg := nameG 2) (te := dgetX (varX 2) (conX (.str "tag"))) (env := [some (.d (rD r)), some v, none]) (S := S) hg os (hv 1 _ rfl) (fun c _ => ⟨_, rfl, rfl⟩) (by omega)
  have m2 := lc_mapG (fun c => W.d (lD c)) (fun c => PyData.str c.name) (vs := [2]) (tg := nameG 2) (te := dgetX (varX 2) (conX (.str "name"))) (env := [some (.d (rD r)), some v, none]) (S := S) hg os (hv 1 _ rfl) (fun c _ => ⟨_, rfl, rfl⟩) (by omega)
  rw [show os.map (fun c => PyData.int c.tag) = (os.map (·.tag)).map PyData.int by rw [List.map_map]; rfl] at m1
  rw [show os.map (fun c => PyData.str c.name) = (os.map (·.name)).map PyData.str by rw [List.map_map]; rfl] at m2
  have out := ret_if (c := orT (bbX (op2X (ordW (ordD ltI ltK)) (op2X ixW (varX 0) (conX (.int 0))) (conX (.int 1)))) (orT (bbX (op2X (ordW (ordD gtI gtK)) (op2X ixW (varX 0) (conX (.int 0))) (conX (.int 200)))) (bbX (op2X (memW false) (op2X ixW (varX 0) (conX (.int 0))) (lcX newL [2] (seqI (varX 1)) (nameG 2) yesT (dgetX (varX 2) (conX (.str "tag"))))))))
    (or_n (bb_n (k := decide (r.tag < 1)) rfl) (by
      rw [or_n (bb_n (k := decide (r.tag > 200)) rfl) rfl, bb_n (op2_n rfl m1 (mem_ints S r.tag _))]
      cases decide (r.tag < 1) <;> cases decide (r.tag > 200) <;> rfl) : _ = some ((decide (r.tag < 1) || (decide (r.tag > 200) || decide (r.tag ∈ os.map (·.tag)))), S)) (fa := conX (.str "tag")) (fun _ => rfl) (fun _ => ret_if (c := bbX (op2X (memW false) (op2X ixW (varX 0) (conX (.int 1))) (lcX newL [2] (seqI (varX 1)) (nameG 2) yesT (dgetX (varX 2) (conX (.str "name")))))) (fa := conX (.str "name")) (bb_n (op2_n rfl m2 (mem_strs S r.name _))) (fun _ => rfl) fun _ => ret_ret (if_n (fa := conX (.str "kind")) (fb := conX .none) (bb_n (op2_n (show op2X eqW (op2X ixW (varX 0) (conX (.int 2))) (conX (.str "text")) _ S = some (.d (.bool (decide (r.kind = "text"))), S) from rfl) (op1_n (fa := op2X ixW (varX 0) (conX (.int 3))) (show op2X ixW (varX 0) (conX (.int 3)) _ S = some (.d (vD r.dflt), S) from rfl) (isa_str S r.dflt)) (show neW S (.d (.bool (decide (r.kind = "text")))) (.d (.bool r.dflt.isText)) = some (.d (.bool (!decide (decide (r.kind = "text") = r.dflt.isText))), S) from rfl))) (show _ = some (W.d (if (!decide (decide (r.kind = "text") = r.dflt.isText)) = true then .str "kind" else .none), S) by split <;> rfl)))
  have e : (if (decide (r.tag < 1) || (decide (r.tag > 200) || decide (r.tag ∈ os.map (·.tag)))) = true then W.d (.str "tag") else if decide (r.name ∈ os.map (·.name)) = true then W.d (.str "name") else W.d (if (!decide (decide (r.kind = "text") = r.dflt.isText)) = true then .str "kind" else .none)) = W.d (fD (colFault r os)) := by
    have e1 : (decide (r.tag < 1) || (decide (r.tag > 200) || decide (r.tag ∈ os.map (·.tag)))) = (!(decide (1 ≤ r.tag) && decide (r.tag ≤ 200)) || decide (r.tag ∈ os.map (·.tag))) := by
      rw [← Bool.or_assoc]
      congr 1
      by_cases h1 : 1 ≤ r.tag <;> by_cases h2 : r.tag ≤ 200 <;> simp [h1, h2] <;> omega
    have e2 : (!decide (decide (r.kind = "text") = r.dflt.isText)) = !(r.dflt.isText == decide (r.kind = "text")) := by
      rw [beq_dec]
      cases r.dflt.isText <;> cases decide (r.kind = "text") <;> rfl
    unfold colFault
    rw [e1, e2]
    split
    · rfl
    · split
      · rfl
      · cases (r.dflt.isText == decide (r.kind = "text")) <;> rfl
  rw [e] at out
  simp only [ite_self] at out
  exact out
def has (cs : List Col) (t : Int) : List Col := cs.filter fun c => decide (c.tag = t)
def stepFault (cs : List Col) : Stp → Option Str
  | .add r => colFault r cs
  | .drop t => if (has cs t).length = 0 then some "tag" else if cs.length = 1 then some "last" else none
  | .shift t _ => match has cs t with
    | [] => some "tag"
    | c :: _ => if c.kind = "int" then none else some "kind"
  | .name t x => if (has cs t).length = 0 then some "tag" else if x ∈ cs.map (·.name) then some "name" else none
theorem len_d (S : Store) {α : Type} (d : α → PyData) (xs : List α) : lenW S [.d (.list (xs.map d))] = some (.d (.int xs.length), S) := by
  show vI _ S = _
  unfold vI
  simp
theorem eq_len (S : Store) (n : Nat) (k : Nat) : eqW S (.d (.int n)) (.d (.int k)) = some (.d (.bool (decide (n = k))), S) := by
  show some (W.d (.bool (decide ((n : Int) = (k : Int)))), S) = _
  have e : ((n : Int) = (k : Int)) ↔ n = k := Int.ofNat_inj
  simp only [e]
theorem r_step_fault (cs : List Col) (s : Stp) (hl : cs.length < 64) : fn_step_fault [.d (.list (cs.map cD)), .d (sD s)] [] = some (.d (fD (stepFault cs s)), []) := by
  refine ret_fn rfl ?_
  unfold b_step_fault pk_step_fault
  dsimp only
  have hb := big
  have hs := stands_d cD cs []
  obtain ⟨hg, hv⟩ := hs
  have rest : ∀ (t : Int), (∀ e2, op2X ixW (varX 1) (conX (.int 1)) [some (.d (.list (cs.map cD))), some (.d (sD s)), none, e2] [] = some (.d (.int t), [])) →
      lcX newL [3] (seqI (varX 0)) (nameG 3) (bbX (op2X eqW (op2X ixW (varX 3) (conX (.int 1))) (op2X ixW (varX 1) (conX (.int 1))))) (varX 3) [some (.d (.list (cs.map cD))), some (.d (sD s)), none, none] [] = some (.d (.list ((has cs t).map cD)), []) := fun t ht =>
    lc_filterG (fun c => W.d (cD c)) cD (fun c => decide (c.tag = t)) hg cs (hv 0 _ rfl) (fun c _ => ⟨_, rfl, bb_n (op2_n (show (op2X ixW (varX 3) (conX (.int 1))) _ [] = some (.d (.int c.tag), []) from rfl) (ht _) rfl), fun _ => rfl⟩) (by omega)
  have m2 := lc_mapG (fun c => W.d (cD c)) (fun c => PyData.str c.name) (vs := [3]) (tg := nameG 3) (te := op2X ixW (varX 3) (conX (.int 2))) (S := []) hg cs (hv 0 [some (.d (.list (cs.map cD))), some (.d (sD s)), some (.d (.list ((has cs (match s with | .name t _ => t | _ => 0)).map cD))), none] rfl) (fun c _ => ⟨_, rfl, rfl⟩) (by omega)
  rw [show cs.map (fun c => PyData.str c.name) = (cs.map (·.name)).map PyData.str by rw [List.map_map]; rfl] at m2
  have none0 : ∀ t, op2X eqW (argX lenW (consX (varX 2) nilX)) (conX (.int 0)) [some (.d (.list (cs.map cD))), some (.d (sD s)), some (.d (.list ((has cs t).map cD))), none] [] = some (.d (.bool (decide ((has cs t).length = 0))), []) := fun t => op2_n (arg_n (as := [.d (.list ((has cs t).map cD))]) rfl (len_d [] cD _)) rfl (eq_len [] _ 0)
  have one1 : ∀ t, op2X eqW (argX lenW (consX (varX 0) nilX)) (conX (.int 1)) [some (.d (.list (cs.map cD))), some (.d (sD s)), some (.d (.list ((has cs t).map cD))), none] [] = some (.d (.bool (decide (cs.length = 1))), []) := fun t => op2_n (arg_n (as := [.d (.list (cs.map cD))]) rfl (len_d [] cD _)) rfl (eq_len [] _ 1)
  have m3 : ∀ t x, s = .name t x → lcX newL [3] (seqI (varX 0)) (nameG 3) yesT (op2X ixW (varX 3) (conX (.int 2))) [some (.d (.list (cs.map cD))), some (.d (sD s)), some (.d (.list ((has cs t).map cD))), none] [] = some (.d (.list ((cs.map (·.name)).map PyData.str)), []) := fun t x e => by
    subst e
    exact m2
  clear m2
  cases s with
  | add r => exact ret_seqr (ret_ift (S1 := []) rfl (ret_ret (call_io [false, true] (ds := [rD r, .list (cs.map cD)]) rfl (r_column_fault r cs _ [] none (stands_d cD cs []) hl))))
  | drop t =>
    refine ret_seq (ret_iff (S1 := []) rfl) (ret_seq (asgX_n (rest t fun _ => rfl) rfl) ?_)
    have n0 := none0 t
    have o1 := one1 t
    by_cases h0 : (has cs t).length = 0
    · rw [decide_eq_true h0] at n0
      rw [show stepFault cs (.drop t) = some (Str.ofString "tag") from if_pos h0]
      exact ret_seqr (ret_ift (bb_n n0) (ret_ret rfl))
    · rw [decide_eq_false h0] at n0
      refine ret_seq (ret_iff (bb_n n0)) (ret_seqr (ret_ift (S1 := []) rfl (ret_ret ?_)))
      by_cases h1 : cs.length = 1
      · rw [decide_eq_true h1] at o1
        rw [show stepFault cs (.drop t) = some (Str.ofString "last") from (if_neg h0).trans (if_pos h1)]
        exact if_n (bb_n o1) rfl
      · rw [decide_eq_false h1] at o1
        rw [show stepFault cs (.drop t) = none from (if_neg h0).trans (if_neg h1)]
        exact if_n (bb_n o1) rfl
  | shift t n =>
    refine ret_seq (ret_iff (S1 := []) rfl) (ret_seq (asgX_n (rest t fun _ => rfl) rfl) ?_)
    have n0 := none0 t
    have e0 : stepFault cs (.shift t n) = (match has cs t with
      | [] => some (Str.ofString "tag")
      | c :: _ => if c.kind = "int" then none else some (Str.ofString "kind")) := rfl
    rw [e0]
    cases hh : has cs t with
    | nil =>
      rw [hh] at n0
      exact ret_seqr (ret_ift (bb_n n0) (ret_ret rfl))
    | cons c r =>
      rw [hh] at n0
      refine ret_seq (ret_iff (bb_n n0)) (ret_seq (ret_iff (S1 := []) rfl) (ret_seqr (ret_ift (S1 := []) rfl (ret_ret ?_))))
      have ix0 : op2X ixW (varX 2) (conX (.int 0)) [some (.d (.list (cs.map cD))), some (.d (sD (.shift t n))), some (.d (.list ((c :: r).map cD))), none] [] = some (.d (cD c), []) := ix_zero (cD c) (r.map cD) []
      refine if_n (k := !decide (c.kind = "int")) (S1 := []) (bb_n (op2_n (op2_n ix0 rfl rfl) rfl rfl)) ?_
      by_cases hk : c.kind = "int"
      · simp only [hk, decide_true, Bool.not_true, if_true, Bool.false_eq_true, if_false]; rfl
      · simp only [hk, decide_false, Bool.not_false, if_true, Bool.false_eq_true, if_false]; rfl
  | name t x =>
    refine ret_seq (ret_iff (S1 := []) rfl) (ret_seq (asgX_n (rest t fun _ => rfl) rfl) ?_)
    have n0 := none0 t
    have m2 := op2_n (fa := op2X ixW (varX 1) (conX (.int 2))) (a := .d (.str x)) (S1 := []) rfl (m3 t x rfl) (mem_strs [] x _)
    by_cases h0 : (has cs t).length = 0
    · rw [decide_eq_true h0] at n0
      rw [show stepFault cs (.name t x) = some (Str.ofString "tag") from if_pos h0]
      exact ret_seqr (ret_ift (bb_n n0) (ret_ret rfl))
    · rw [decide_eq_false h0] at n0
      refine ret_seq (ret_iff (bb_n n0)) (ret_seq (ret_iff (S1 := []) rfl) (ret_seq (ret_iff (S1 := []) rfl) (ret_ret ?_)))
      by_cases h1 : x ∈ cs.map (·.name)
      · rw [decide_eq_true h1] at m2
        rw [show stepFault cs (.name t x) = some (Str.ofString "name") from (if_neg h0).trans (if_pos h1)]
        exact if_n (bb_n m2) rfl
      · rw [decide_eq_false h1] at m2
        rw [show stepFault cs (.name t x) = none from (if_neg h0).trans (if_neg h1)]
        exact if_n (bb_n m2) rfl
theorem r_lstep_fault (cs : List Col) (s : Stp) (hl : cs.length < 64) : fn__law_step_fault [.d (.list (cs.map lD)), .d (sD s)] [] = some (.d (fD (stepFault cs s)), []) := by
  refine ret_fn rfl ?_
  unfold b__law_step_fault pk__law_step_fault
  dsimp only
  have hb := big
  have hs := stands_d lD cs []
  obtain ⟨hg, hv⟩ := hs
  have rest : ∀ (t : Int), (∀ e2, op2X ixW (varX 1) (conX (.int 1)) [some (.d (.list (cs.map lD))), some (.d (sD s)), none, e2] [] = some (.d (.int t), [])) →
      lcX newL [3] (seqI (varX 0)) (nameG 3) (bbX (op2X eqW (dgetX (varX 3) (conX (.str "tag"))) (op2X ixW (varX 1) (conX (.int 1))))) (varX 3) [some (.d (.list (cs.map lD))), some (.d (sD s)), none, none] [] = some (.d (.list ((has cs t).map lD)), []) := fun t ht =>
    lc_filterG (fun c => W.d (lD c)) lD (fun c => decide (c.tag = t)) hg cs (hv 0 _ rfl) (fun c _ => ⟨_, rfl, bb_n (op2_n (show (dgetX (varX 3) (conX (.str "tag"))) _ [] = some (.d (.int c.tag), []) from rfl) (ht _) rfl), fun _ => rfl⟩) (by omega)
  have m2 := lc_mapG (fun c => W.d (lD c)) (fun c => PyData.str c.name) (vs := [3]) (tg := nameG 3) (te := dgetX (varX 3) (conX (.str "name"))) (S := []) hg cs (hv 0 [some (.d (.list (cs.map lD))), some (.d (sD s)), some (.d (.list ((has cs (match s with | .name t _ => t | _ => 0)).map lD))), none] rfl) (fun c _ => ⟨_, rfl, rfl⟩) (by omega)
  rw [show cs.map (fun c => PyData.str c.name) = (cs.map (·.name)).map PyData.str by rw [List.map_map]; rfl] at m2
  have none0 : ∀ t, op2X eqW (argX lenW (consX (varX 2) nilX)) (conX (.int 0)) [some (.d (.list (cs.map lD))), some (.d (sD s)), some (.d (.list ((has cs t).map lD))), none] [] = some (.d (.bool (decide ((has cs t).length = 0))), []) := fun t => op2_n (arg_n (as := [.d (.list ((has cs t).map lD))]) rfl (len_d [] lD _)) rfl (eq_len [] _ 0)
  have one1 : ∀ t, op2X eqW (argX lenW (consX (varX 0) nilX)) (conX (.int 1)) [some (.d (.list (cs.map lD))), some (.d (sD s)), some (.d (.list ((has cs t).map lD))), none] [] = some (.d (.bool (decide (cs.length = 1))), []) := fun t => op2_n (arg_n (as := [.d (.list (cs.map lD))]) rfl (len_d [] lD _)) rfl (eq_len [] _ 1)
  have m3 : ∀ t x, s = .name t x → lcX newL [3] (seqI (varX 0)) (nameG 3) yesT (dgetX (varX 3) (conX (.str "name"))) [some (.d (.list (cs.map lD))), some (.d (sD s)), some (.d (.list ((has cs t).map lD))), none] [] = some (.d (.list ((cs.map (·.name)).map PyData.str)), []) := fun t x e => by
    subst e
    exact m2
  clear m2
  cases s with
  | add r => exact ret_seqr (ret_ift (S1 := []) rfl (ret_ret (call_io [false, true] (ds := [rD r, .list (cs.map lD)]) rfl (r_lcolumn_fault r cs _ [] none (stands_d lD cs []) hl))))
  | drop t =>
    refine ret_seq (ret_iff (S1 := []) rfl) (ret_seq (asgX_n (rest t fun _ => rfl) rfl) ?_)
    have n0 := none0 t
    have o1 := one1 t
    by_cases h0 : (has cs t).length = 0
    · rw [decide_eq_true h0] at n0
      rw [show stepFault cs (.drop t) = some (Str.ofString "tag") from if_pos h0]
      exact ret_seqr (ret_ift (bb_n n0) (ret_ret rfl))
    · rw [decide_eq_false h0] at n0
      refine ret_seq (ret_iff (bb_n n0)) (ret_seqr (ret_ift (S1 := []) rfl (ret_ret ?_)))
      by_cases h1 : cs.length = 1
      · rw [decide_eq_true h1] at o1
        rw [show stepFault cs (.drop t) = some (Str.ofString "last") from (if_neg h0).trans (if_pos h1)]
        exact if_n (bb_n o1) rfl
      · rw [decide_eq_false h1] at o1
        rw [show stepFault cs (.drop t) = none from (if_neg h0).trans (if_neg h1)]
        exact if_n (bb_n o1) rfl
  | shift t n =>
    refine ret_seq (ret_iff (S1 := []) rfl) (ret_seq (asgX_n (rest t fun _ => rfl) rfl) ?_)
    have n0 := none0 t
    have e0 : stepFault cs (.shift t n) = (match has cs t with
      | [] => some (Str.ofString "tag")
      | c :: _ => if c.kind = "int" then none else some (Str.ofString "kind")) := rfl
    rw [e0]
    cases hh : has cs t with
    | nil =>
      rw [hh] at n0
      exact ret_seqr (ret_ift (bb_n n0) (ret_ret rfl))
    | cons c r =>
      rw [hh] at n0
      refine ret_seq (ret_iff (bb_n n0)) (ret_seq (ret_iff (S1 := []) rfl) (ret_seqr (ret_ift (S1 := []) rfl (ret_ret ?_))))
      have ix0 : op2X ixW (varX 2) (conX (.int 0)) [some (.d (.list (cs.map lD))), some (.d (sD (.shift t n))), some (.d (.list ((c :: r).map lD))), none] [] = some (.d (lD c), []) := ix_zero (lD c) (r.map lD) []
      refine if_n (k := decide (c.kind = "int")) (S1 := []) (bb_n (op2_n (dget_n ix0 rfl rfl rfl rfl) rfl rfl)) ?_
      by_cases hk : c.kind = "int"
      · simp only [hk, decide_true, Bool.not_true, if_true, Bool.false_eq_true, if_false]; rfl
      · simp only [hk, decide_false, Bool.not_false, if_true, Bool.false_eq_true, if_false]; rfl
  | name t x =>
    refine ret_seq (ret_iff (S1 := []) rfl) (ret_seq (asgX_n (rest t fun _ => rfl) rfl) ?_)
    have n0 := none0 t
    have m2 := op2_n (fa := op2X ixW (varX 1) (conX (.int 2))) (a := .d (.str x)) (S1 := []) rfl (m3 t x rfl) (mem_strs [] x _)
    by_cases h0 : (has cs t).length = 0
    · rw [decide_eq_true h0] at n0
      rw [show stepFault cs (.name t x) = some (Str.ofString "tag") from if_pos h0]
      exact ret_seqr (ret_ift (bb_n n0) (ret_ret rfl))
    · rw [decide_eq_false h0] at n0
      refine ret_seq (ret_iff (bb_n n0)) (ret_seq (ret_iff (S1 := []) rfl) (ret_seq (ret_iff (S1 := []) rfl) (ret_ret ?_)))
      by_cases h1 : x ∈ cs.map (·.name)
      · rw [decide_eq_true h1] at m2
        rw [show stepFault cs (.name t x) = some (Str.ofString "name") from (if_neg h0).trans (if_pos h1)]
        exact if_n (bb_n m2) rfl
      · rw [decide_eq_false h1] at m2
        rw [show stepFault cs (.name t x) = none from (if_neg h0).trans (if_neg h1)]
        exact if_n (bb_n m2) rfl
end K02

/-! KE: the table's fault. -/
namespace K02
open PySem PySem.Spec PyProof.Rows L2 Y Z
def tabStep (acc : List Col) (r : Raw) : Except W (List Col) := match colFault r acc with
  | none => .ok (acc ++ [bornC r 0])
  | some x => .error (.d (.str x))
def tabFault : List Col → List Raw → Option Str
  | _, [] => none
  | acc, r :: rs => match colFault r acc with
    | none => tabFault (acc ++ [bornC r 0]) rs
    | some x => some x
theorem tab_fold : ∀ (rs : List Raw) (acc : List Col), foldE tabStep acc rs = match tabFault acc rs with
    | none => .ok (acc ++ rs.map (bornC · 0))
    | some x => .error (.d (.str x))
  | [], acc => by simp [foldE, tabFault]
  | r :: rs, acc => by
    unfold foldE tabFault
    cases h : colFault r acc with
    | none =>
      rw [show tabStep acc r = .ok (acc ++ [bornC r 0]) by unfold tabStep; rw [h]]
      dsimp only
      rw [tab_fold rs]
      cases tabFault (acc ++ [bornC r 0]) rs <;> simp
    | some x =>
      rw [show tabStep acc r = .error (.d (.str x)) by unfold tabStep; rw [h]]
def IT (v : PyData) (xs : List Raw) (acc : List Col) (env : Z.Env) (S : Store) : Prop := ∃ y z, env = [some (.d v), some (.c 0), y, z] ∧ S = [.lst ((acc.map cD).map W.d)] ∧ acc.length + xs.length < 60
theorem r_table_fault (rs : List Raw) (hl : rs.length < 60) : fn_table_fault [.d (.list (rs.map rD))] [] = some (.d (fD (tabFault [] rs)), se fn_table_fault [.d (.list (rs.map rD))]) := by
  refine rets_fn rfl ?_
  unfold b_table_fault pk_table_fault
  dsimp only
  have hb := big
  refine rets_seq (e1 := [some (.d (.list (rs.map rD))), some (.c 0), none, none]) (S1 := [.lst []]) rfl ?_
  have hfor : ∀ {tg : FG} {body : FS} {g : FS}, (forX (seqI (varX 0)) tg body) [some (.d (.list (rs.map rD))), some (.c 0), none, none] [.lst []] = forL none tg body (rs.map fun r => W.d (rD r)) [some (.d (.list (rs.map rD))), some (.c 0), none, none] [.lst []] := fun {tg body g} => forX_l (by show some ((rs.map rD).map W.d, none, _) = _; rw [List.map_map]; rfl)
  have key := for_ex (fun r => W.d (rD r)) tabStep (IT (.list (rs.map rD))) (gd := none) (tg := nameG 2) (body := seqX (asgX (callL [false, true] fn_column_fault (consX (varX 2) (consX (varX 1) nilX))) (nameG 3)) (seqX (ifS (bbX (notNX (varX 3))) (retX (varX 3)) skipX) (dropX (bmX appW (varX 1) (consX (callL [] fn_born (consX (varX 2) (consX (conX (.int 0)) nilX))) nilX))))) (fun _ _ _ _ _ => True.intro) (fun acc r xs env S ⟨y, z, e1, e2, e3⟩ => by
    subst e1; subst e2
    rw [List.length_cons] at e3
    refine ⟨_, _, rfl, ?_⟩
    have hc := call_c2 (f := fn_column_fault) (fa := consX (varX 2) (consX (varX 1) nilX)) (env := [some (.d (.list (rs.map rD))), some (.c 0), some (.d (rD r)), z]) (S := [.lst ((acc.map cD).map W.d)]) (n := 0) rfl rfl (plain_data _) (plain_data _) (r_column_fault r acc (.c 0) [.lst ((acc.map cD).map W.d)] _ (stands_c cD acc) (by omega))
    unfold tabStep
    cases hf : colFault r acc with
    | none =>
      rw [hf] at hc
      dsimp only
      refine ⟨.next, _, _, (seqX_n (asgX_n hc rfl)).trans ((seqX_n (ret_iff (S1 := [.lst ((acc.map cD).map W.d)]) rfl)).trans (app1 (c := bornC r 0) (acc := acc) rfl (cons_n (call_d (ds := [rD r, .int 0]) rfl (e_born r 0)) rfl) (by omega))), .inl rfl, ⟨_, _, rfl, rfl, ?_⟩⟩
      rw [List.length_append, List.length_cons, List.length_nil]
      omega
    | some x =>
      rw [hf] at hc
      exact ⟨_, _, (seqX_n (asgX_n hc rfl)).trans (seqX_r ((ifS_b (b := true) rfl).trans rfl))⟩) rs [] [some (.d (.list (rs.map rD))), some (.c 0), none, none] [.lst []] ⟨none, none, rfl, rfl, by simpa using hl⟩
  rw [tab_fold] at key
  cases hf : tabFault [] rs with
  | none =>
    rw [hf] at key
    obtain ⟨e2, S2, h1, _⟩ := key
    exact rets_seq ((hfor (g := skipX)).trans h1) (rets_ret rfl)
  | some x =>
    rw [hf] at key
    obtain ⟨e2, S2, h1⟩ := key
    exact rets_seqr ⟨e2, S2, (hfor (g := skipX)).trans h1⟩
end K02

/-! KF: the law's rows; what is alike. -/
namespace K02
open PySem PySem.Spec PyProof.Rows L2 Y Z
def rowD (c : Col) : PyData := .tuple [.int c.tag, .int c.birth, .str c.name, .str c.kind, vD c.dflt, .int c.shift]
theorem keys0 : ∀ cs : List Col, keysAt 0 (cs.map rowD) = some (cs.map (·.tag))
  | [] => rfl
  | c :: cs => by
    rw [List.map_cons]
    unfold keysAt
    rw [keys0 cs]
    rfl
theorem sort0 (cs : List Col) : sortK 0 (cs.map rowD) = (srt cs).map rowD := by
  unfold sortK srt
  exact (List.map_mergeSort (r := fun a b : Col => decide (a.tag ≤ b.tag)) (s := fun a b : PyData => decide (((keyAt 0 a).getD 0) ≤ ((keyAt 0 b).getD 0))) (f := rowD) (l := cs) fun _ _ _ _ => rfl).symm
theorem srt_len (cs : List Col) : (srt cs).length = cs.length := by unfold srt; rw [List.length_mergeSort]
theorem seqI_m {α : Type} (d : α → PyData) {fa : FE} {env : Z.Env} {S S1 : Store} (xs : List α) (h : fa env S = some (.d (.list (xs.map d)), S1)) : seqI fa env S = some (xs.map fun x => W.d (d x), none, S1) := by
  unfold seqI
  rw [h]
  dsimp only
  rw [List.map_map]
  rfl
theorem r_lrows (cs : List Col) (hl : cs.length < 64) (nd : (cs.map (·.tag)).Nodup) : fn__law_rows [.d (.list (cs.map lD))] [] = some (.d (.list ((srt cs).map cD)), []) := by
  refine ret_fn rfl ?_
  unfold b__law_rows pk__law_rows
  dsimp only
  have hb := big
  obtain ⟨hg, hv⟩ := stands_d lD cs []
  refine ret_seq (asgX_n (lc_mapG (fun c => W.d (lD c)) rowD (vs := [2]) (tg := nameG 2) hg cs (hv 0 _ rfl) (fun c _ => ⟨_, rfl, rfl⟩) (by omega)) rfl) ?_
  have hs := sortK_n (c := 0) (fa := consX (varX 1) nilX) (env := [some (.d (.list (cs.map lD))), some (.d (.list (cs.map rowD))), none, none, none, none, none, none, none]) (S := []) (S1 := []) (ds := cs.map rowD) rfl (keys0 cs) (by rw [List.length_map]; omega) nd
  rw [sort0] at hs
  exact ret_ret (lc_map (fun c => W.d (rowD c)) cD (srt cs) (seqI_m rowD (srt cs) hs) (fun c _ => ⟨_, rfl, rfl⟩) (by rw [srt_len]; omega))
/-! ### _law_is of the same -/
def flat0 : PyData → Bool
  | .int _ => true
  | .str _ => true
  | _ => false
def deep : Nat → PyData → Prop
  | 0, x => flat0 x = true
  | n + 1, x => flat0 x = true ∨ ∃ xs, (x = .list xs ∨ x = .tuple xs) ∧ xs.length < 1000 ∧ ∀ y ∈ xs, deep n y
theorem is_flat (f : FnD) (x : PyData) (h : flat0 x = true) : fnD 2 2 (b__law_is f) [.d x, .d x] [] = some (.d (.bool true), []) := by
  cases x with
  | int i =>
    refine ret_fn rfl ?_
    unfold b__law_is pk__law_is
    dsimp only
    refine ret_seq (ret_iff (S1 := []) rfl) (ret_seq (ret_iff (S1 := []) rfl) (ret_ret (if_n (k := true) (S1 := []) rfl ?_)))
    rw [if_pos rfl]
    show some (W.d (.bool (decide (i = i))), _) = _
    rw [decide_eq_true rfl]
  | str i =>
    refine ret_fn rfl ?_
    unfold b__law_is pk__law_is
    dsimp only
    refine ret_seq (ret_iff (S1 := []) rfl) (ret_seq (ret_iff (S1 := []) rfl) (ret_ret (if_n (k := true) (S1 := []) rfl ?_)))
    rw [if_pos rfl]
    show some (W.d (.bool (decide (i = i))), _) = _
    rw [decide_eq_true rfl]
  | _ => cases h
theorem bools_true : ∀ n : Nat, boolsD (List.replicate n (.bool true)) = some (List.replicate n true)
  | 0 => rfl
  | n + 1 => by
    rw [List.replicate_succ, List.replicate_succ]
    unfold boolsD
    rw [bools_true n]
theorem at_nat {α : Type} (ws : List α) (i : Nat) (h : i < ws.length) : atI ws (i : Int) = some ws[i] := by
  unfold atI ixN
  rw [if_pos (by omega), if_pos (by omega)]
  simp [h]
theorem is_same (n : Nat) : ∀ x, deep n x → fn__law_is_ (n + 1) [.d x, .d x] [] = some (.d (.bool true), []) := by
  induction n with
  | zero => exact fun x h => is_flat _ x h
  | succ n ih =>
    intro x h
    rcases h with h | ⟨xs, hx, hl, hd⟩
    · exact is_flat _ x h
    · have hb : (1000 : Nat) < sizeLine := by rw [sizeLine_eq]; decide
      have body : ∀ (y : PyData) (b : W), (y = .list xs ∨ y = .tuple xs) → lcX newL [3] (range1I (consX (argX lenW (consX (varX 1) nilX)) nilX)) (nameG 3) yesT (callL [] (fn__law_is_ (n + 1)) (consX (op2X ixW (varX 0) (varX 3)) (consX (op2X ixW (varX 1) (varX 3)) nilX))) [some (.d y), some (.d y), some b, none] [] = some (.d (.list ((List.range xs.length).map fun _ => PyData.bool true)), []) := by
        intro y b hy
        have hlen : lenW [] [.d y] = some (.d (.int xs.length), []) := by
          rcases hy with rfl | rfl <;> (show vI _ _ = _; unfold vI; simp)
        refine lc_map (fun i : Nat => W.d (.int (i : Nat))) (fun _ => PyData.bool true) (List.range xs.length) ?_ (fun i hi => ?_) (by simp; omega)
        · have hc : consX (argX lenW (consX (varX 1) nilX)) nilX [some (.d y), some (.d y), some b, none] [] = some ([.d (.int xs.length)], []) := cons_n (arg_n (fr := consX (varX 1) nilX) (as := [.d y]) rfl hlen) rfl
          unfold range1I
          rw [hc]
          dsimp only
          rw [if_pos (by omega)]
          unfold rngI
          rw [Int.toNat_natCast]
          simp
        · have hi := List.mem_range.mp hi
          have hix : ∀ k, k < 2 → op2X ixW (varX k) (varX 3) [some (.d y), some (.d y), some b, some (.d (.int (i : Nat)))] [] = some (.d xs[i], []) := fun k hk => by
            have hat : atI (xs.map W.d) (i : Int) = some (.d xs[i]) := by rw [at_nat _ _ (by simpa using hi)]; simp
            have : ixW [] (.d y) (.d (.int (i : Nat))) = some (.d xs[i], []) := by
              rcases hy with rfl | rfl
              · show (match atI (xs.map W.d) (i : Int) with
                  | some w => some (w, ([] : Store))
                  | none => none) = _
                rw [hat]
              · show (match atI (xs.map W.d) (i : Int) with
                  | some w => some (w, ([] : Store))
                  | none => none) = _
                rw [hat]
            have hk : k = 0 ∨ k = 1 := by omega
            rcases hk with rfl | rfl
            · exact op2_n (a := .d y) (b := .d (.int (i : Nat))) rfl rfl this
            · exact op2_n (a := .d y) (b := .d (.int (i : Nat))) rfl rfl this
          refine ⟨_, rfl, call_d (ds := [xs[i], xs[i]]) (cons_n (hix 0 (by omega)) (cons_n (hix 1 (by omega)) rfl)) (ih xs[i] (hd _ (List.getElem_mem hi)))⟩
      have hall : allW [] [.d (.list ((List.range xs.length).map fun _ => PyData.bool true))] = some (.d (.bool true), []) := by
        have e : (List.range xs.length).map (fun _ => PyData.bool true) = List.replicate xs.length (.bool true) := by
          rw [List.map_const', List.length_range]
        rw [e]
        show (match boolsD (List.replicate xs.length (.bool true)) with
          | some bs => vB (bs.all id) []
          | none => none) = _
        rw [bools_true]
        show vB _ _ = _
        unfold vB
        simp
      show fnD 2 2 (b__law_is (fn__law_is_ (n + 1))) [.d x, .d x] [] = _
      refine ret_fn rfl ?_
      unfold b__law_is pk__law_is
      dsimp only
      have hlen : lenW [] [.d x] = some (.d (.int xs.length), []) := by
        rcases hx with rfl | rfl <;> (show vI _ _ = _; unfold vI; simp)
      have fin : ∀ b : W, b = .d (.bool true) → RetS (retX (andV (varX 2) (andV (op2X eqW (argX lenW (consX (varX 0) nilX)) (argX lenW (consX (varX 1) nilX))) (argX allW (consX (lcX newL [3] (range1I (consX (argX lenW (consX (varX 1) nilX)) nilX)) (nameG 3) yesT (callL [] (fn__law_is_ (n + 1)) (consX (op2X ixW (varX 0) (varX 3)) (consX (op2X ixW (varX 1) (varX 3)) nilX)))) nilX))))) [some (.d x), some (.d x), some b, none] [] (.d (.bool true)) [] := by
        intro b hb2
        have h3 := body x b hx
        subst hb2
        refine ret_ret ?_
        unfold andV
        rw [show varX 2 [some (.d x), some (.d x), some (.d (.bool true)), none] [] = some (.d (.bool true), []) from rfl]
        dsimp only
        rw [if_pos rfl]
        rw [op2_n (arg_n (as := [.d x]) rfl hlen) (arg_n (as := [.d x]) rfl hlen) (eq_len [] xs.length xs.length)]
        dsimp only
        rw [decide_eq_true rfl, if_pos rfl]
        exact arg_n (cons_n h3 rfl) hall
      rcases hx with rfl | rfl
      · exact ret_seqr (ret_ift (S1 := []) rfl (ret_seq (asgX_n (if_n (k := true) (S1 := []) rfl rfl) rfl) (fin _ rfl)))
      · exact ret_seqr (ret_ift (S1 := []) rfl (ret_seq (asgX_n (if_n (k := false) (S1 := []) rfl rfl) rfl) (fin _ rfl)))
end K02

/-! KG: the law's tables behind a step. -/
namespace K02
open PySem PySem.Spec PyProof.Rows L2 Y Z
theorem if_t {c : FT} {fa fb : FE} {env : Z.Env} {S S1 : Store} {r : Option (W × Store)} (h : c env S = some (true, S1)) (h2 : fa env S1 = r) : ifX c fa fb env S = r := if_n h ((if_pos rfl).trans h2)
theorem if_f {c : FT} {fa fb : FE} {env : Z.Env} {S S1 : Store} {r : Option (W × Store)} (h : c env S = some (false, S1)) (h2 : fb env S1 = r) : ifX c fa fb env S = r := if_n h ((if_neg Bool.false_ne_true).trans h2)
def lP (c : Col) : List (PyData × W) := [(.str "birth", .d (.int c.birth)), (.str "tag", .d (.int c.tag)), (.str "name", .d (.str c.name)), (.str "kind", .d (.str c.kind)), (.str "default", .d (vD c.dflt)), (.str "shift", .d (.int c.shift))]
def keepB (s : Stp) (c : Col) : Bool := match s with
  | .drop t => !decide (c.tag = t)
  | _ => true
def upd1 (s : Stp) (c : Col) : Col := match s with
  | .name t x => if c.tag = t then { c with name := x } else c
  | .shift t n => if c.tag = t then { c with shift := c.shift + n } else c
  | _ => c
theorem step_keep (cs : List Col) (at' : Int) (s : Stp) : cs.flatMap (step1 at' s) = (cs.filter (keepB s)).map (upd1 s) := by
  induction cs with
  | nil => rfl
  | cons c cs ih =>
    rw [List.flatMap_cons, ih]
    cases s with
    | add r => rfl
    | drop t =>
      by_cases h : c.tag = t
      · rw [show step1 at' (.drop t) c = [] from if_pos h, List.filter_cons_of_neg (by simp [keepB, h])]
        rfl
      · rw [show step1 at' (.drop t) c = [c] from if_neg h, List.filter_cons_of_pos (by simp [keepB, h])]
        rfl
    | name t x =>
      rw [List.filter_cons_of_pos (by rfl), List.map_cons]
      by_cases h : c.tag = t
      · rw [show step1 at' (.name t x) c = [{ c with name := x }] from if_pos h, show upd1 (.name t x) c = { c with name := x } from if_pos h]
        rfl
      · rw [show step1 at' (.name t x) c = [c] from if_neg h, show upd1 (.name t x) c = c from if_neg h]
        rfl
    | shift t x =>
      rw [List.filter_cons_of_pos (by rfl), List.map_cons]
      by_cases h : c.tag = t
      · rw [show step1 at' (.shift t x) c = [{ c with shift := c.shift + x }] from if_pos h, show upd1 (.shift t x) c = { c with shift := c.shift + x } from if_pos h]
        rfl
      · rw [show step1 at' (.shift t x) c = [c] from if_neg h, show upd1 (.shift t x) c = c from if_neg h]
        rfl
def cells (R : List Col) : Store := R.map fun c => Cell.dic (lP c)
def refs (i n : Nat) : List W := (List.range' i n).map W.c
/-- the copies are made -/
theorem copies {tg : FG} {tt : FT} {te : FE} {env : Z.Env} (p : Col → Bool) (h : ∀ (c : Col) (S : Store), ∃ e1, tg (.d (lD c)) env S = some (e1, S) ∧ tt e1 S = some (p c, S) ∧ te e1 S = some (.c S.length, S ++ [.dic (lP c)])) : ∀ (cs : List Col) (S : Store), compL none tg tt te env (cs.map fun c => W.d (lD c)) S = some (refs S.length (cs.filter p).length, S ++ cells (cs.filter p))
  | [], S => by
    rw [List.map_nil, List.filter_nil]
    refine (comp_nil (gd := none) (S := S) True.intro).trans ?_
    simp [refs, cells]
  | c :: cs, S => by
    obtain ⟨e1, h1, h2, h3⟩ := h c S
    cases hp : p c with
    | false =>
      rw [List.filter_cons_of_neg (by rw [hp]; exact Bool.false_ne_true), List.map_cons]
      exact (comp_no (gd := none) (S := S) True.intro h1 (by rw [h2, hp])).trans (copies p h cs S)
    | true =>
      rw [List.filter_cons_of_pos (by rw [hp]), List.map_cons]
      refine (comp_yes (gd := none) (S := S) True.intro h1 (by rw [h2, hp]) h3 (copies p h cs _)).trans ?_
      rw [List.length_append, List.length_cons, List.length_nil, List.length_cons]
      simp [refs, cells, List.range'_succ]
theorem cells_at (D : List Col) (c : Col) (R : List Col) (L : Store) : (cells D ++ cells (c :: R) ++ L)[D.length]? = some (.dic (lP c)) := by
  unfold cells
  rw [List.map_cons, List.append_assoc, List.getElem?_append_right (by rw [List.length_map]; exact Nat.le_refl _), List.length_map, Nat.sub_self]
  rfl
theorem cells_set (D : List Col) (c c' : Col) (R : List Col) (L : Store) : (cells D ++ cells (c :: R) ++ L).set D.length (.dic (lP c')) = cells D ++ cells (c' :: R) ++ L := by
  unfold cells
  rw [List.map_cons, List.append_assoc, List.set_append_right _ _ (by rw [List.length_map]; exact Nat.le_refl _), List.length_map, Nat.sub_self, List.map_cons, List.append_assoc]
  rfl
/-- all that is held is locked -/
theorem lock_cells : ∀ (R : List Col) (D : Store) (L : Store), lockAll (refs D.length R.length) (D ++ cells R ++ L) = some (D ++ (R.map fun c => Cell.frz (lD c)) ++ L)
  | [], D, L => by simp [refs, cells, lockAll]
  | c :: R, D, L => by
    have ih := lock_cells R (D ++ [.frz (lD c)]) L
    have e : refs D.length (c :: R).length = .c D.length :: refs (D ++ [Cell.frz (lD c)]).length R.length := by
      unfold refs
      rw [List.length_cons, List.range'_succ, List.map_cons, List.length_append]
      rfl
    have hat : (D ++ cells (c :: R) ++ L)[D.length]? = some (.dic (lP c)) := by
      unfold cells
      rw [List.map_cons, List.append_assoc, List.getElem?_append_right (Nat.le_refl _), Nat.sub_self]
      rfl
    have hset : (D ++ cells (c :: R) ++ L).set D.length (.frz (lD c)) = D ++ [Cell.frz (lD c)] ++ cells R ++ L := by
      unfold cells
      rw [List.map_cons, List.append_assoc, List.set_append_right _ _ (Nat.le_refl _), Nat.sub_self]
      simp
    have hkv : kvData (D ++ cells (c :: R) ++ L) (lP c) = some [(.str "birth", .int c.birth), (.str "tag", .int c.tag), (.str "name", .str c.name), (.str "kind", .str c.kind), (.str "default", vD c.dflt), (.str "shift", .int c.shift)] := rfl
    rw [e]
    unfold lockAll
    rw [hat]
    dsimp only
    rw [hkv]
    dsimp only
    rw [show Cell.frz (.dict [(.str "birth", .int c.birth), (.str "tag", .int c.tag), (.str "name", .str c.name), (.str "kind", .str c.kind), (.str "default", vD c.dflt), (.str "shift", .int c.shift)]) = Cell.frz (lD c) from rfl, hset, ih]
    simp
theorem datas_refs : ∀ (R : List Col) (D L : Store), datas (D ++ (R.map fun c => Cell.frz (lD c)) ++ L) (refs D.length R.length) = some (R.map lD)
  | [], D, L => rfl
  | c :: R, D, L => by
    have ih := datas_refs R (D ++ [.frz (lD c)]) L
    have e : refs D.length (c :: R).length = .c D.length :: refs (D ++ [Cell.frz (lD c)]).length R.length := by
      unfold refs
      rw [List.length_cons, List.range'_succ, List.map_cons, List.length_append]
      rfl
    have e2 : D ++ ((c :: R).map fun c => Cell.frz (lD c)) ++ L = D ++ [Cell.frz (lD c)] ++ (R.map fun c => Cell.frz (lD c)) ++ L := by simp
    have hat : (D ++ [Cell.frz (lD c)] ++ (R.map fun c => Cell.frz (lD c)) ++ L)[D.length]? = some (.frz (lD c)) := by
      rw [List.append_assoc, List.append_assoc, List.getElem?_append_right (Nat.le_refl _), Nat.sub_self]
      rfl
    rw [e2, e]
    unfold datas
    rw [show Z.dataOf (D ++ [Cell.frz (lD c)] ++ (R.map fun c => Cell.frz (lD c)) ++ L) (.c D.length) = some (lD c) by unfold Z.dataOf; dsimp only; rw [hat]]
    dsimp only
    rw [ih]
    rfl
theorem datas_app {S : Store} : ∀ {ws : List W} {vs : List W} {ds es : List PyData}, datas S ws = some ds → datas S vs = some es → datas S (ws ++ vs) = some (ds ++ es)
  | [], vs, ds, es, h1, h2 => by cases h1; exact h2
  | w :: ws, vs, ds, es, h1, h2 => by
    unfold datas at h1
    split at h1
    · rename_i x hx
      split at h1
      · rename_i xs hxs
        cases h1
        rw [List.cons_append]
        unfold datas
        rw [hx]
        dsimp only
        rw [datas_app hxs h2]
        rfl
      · cases h1
    · cases h1
theorem r_lbehind (cs : List Col) (s : Stp) (at' : Int) (hl : cs.length < 64) : ∃ S, fn__law_behind [.d (.list (cs.map lD)), .d (sD s), .d (.int at')] [] = some (.d (.list ((step cs at' s).map lD)), S) := by
  refine ⟨_, rets_fn rfl ?_⟩
  unfold b__law_behind pk__law_behind
  dsimp only
  have hb := big
  -- the copies
  have hcop : lcX newC [4] (seqI (varX 0)) (nameG 4) (orT (bbX (op2X neW (op2X ixW (varX 1) (conX (.int 0))) (conX (.str "drop")))) (bbX (op2X neW (dgetX (varX 4) (conX (.str "tag"))) (op2X ixW (varX 1) (conX (.int 1)))))) (argX dictW (consX (varX 4) nilX)) [some (.d (.list (cs.map lD))), some (.d (sD s)), some (.d (.int at')), none, none] [] = some (.c (cs.filter (keepB s)).length, cells (cs.filter (keepB s)) ++ [.lst (refs 0 (cs.filter (keepB s)).length)]) := by
    refine lc_n (seqI_m lD cs rfl) (copies (keepB s) (fun c S => ⟨_, rfl, ?_, ?_⟩) cs []) ?_
    · cases s with
      | drop t => exact or_n (k := false) (S1 := S) rfl ((if_neg Bool.false_ne_true).trans rfl)
      | _ => exact or_n (k := true) (S1 := S) rfl rfl
    · rfl
    · have hk : (cs.filter (keepB s)).length ≤ cs.length := List.length_filter_le _ _
      show newC (cells _) (refs 0 _) = _
      unfold newC
      rw [if_pos (by unfold refs; simp; omega)]
      unfold cells
      rw [List.length_map]
  refine rets_seq (asgX_n hcop rfl) ?_
  generalize hks : cs.filter (keepB s) = ks
  have hkl : ks.length < 64 := by rw [← hks]; exact Nat.lt_of_le_of_lt (List.length_filter_le _ _) hl
  have hkeep : ∀ c ∈ ks, keepB s c = true := fun c hc => by rw [← hks] at hc; exact (List.mem_filter.mp hc).2
  -- the loop
  have loop : ∀ {body : FS}, (∀ (D : List Col) (c : Col) (R : List Col) (L : Store), keepB s c = true → body [some (.d (.list (cs.map lD))), some (.d (sD s)), some (.d (.int at')), some (.c ks.length), some (.c D.length)] (cells D ++ cells (c :: R) ++ L) = some (.next, [some (.d (.list (cs.map lD))), some (.d (sD s)), some (.d (.int at')), some (.c ks.length), some (.c D.length)], cells D ++ cells (upd1 s c :: R) ++ L)) →
      ∀ (R D : List Col) (y : Option W), D.length + R.length = ks.length → (∀ c ∈ R, keepB s c = true) → ∃ y', forL (some (ks.length, refs 0 ks.length)) (nameG 4) body (refs D.length R.length) [some (.d (.list (cs.map lD))), some (.d (sD s)), some (.d (.int at')), some (.c ks.length), y] (cells D ++ cells R ++ [.lst (refs 0 ks.length)]) = some (.next, [some (.d (.list (cs.map lD))), some (.d (sD s)), some (.d (.int at')), some (.c ks.length), y'], cells (D ++ R.map (upd1 s)) ++ [.lst (refs 0 ks.length)]) := by
    intro body hbody R
    have hold : ∀ D R : List Col, D.length + R.length = ks.length → HoldsG (cells D ++ cells R ++ [Cell.lst (refs 0 ks.length)]) (some (ks.length, refs 0 ks.length)) := fun D R h => by
      show (cells D ++ cells R ++ [Cell.lst (refs 0 ks.length)])[ks.length]? = _
      rw [List.getElem?_append_right (by unfold cells; simp; omega)]
      unfold cells
      simp [h]
    induction R with
    | nil =>
      intro D y hD _
      refine ⟨y, (for_nil (hold D [] hD)).trans ?_⟩
      simp [cells]
    | cons c R ih =>
      intro D y hD hR
      have e : refs D.length (c :: R).length = .c D.length :: refs (D ++ [upd1 s c]).length R.length := by
        unfold refs
        rw [List.length_cons, List.range'_succ, List.map_cons, List.length_append]
        rfl
      obtain ⟨y', h⟩ := ih (D ++ [upd1 s c]) (some (.c D.length)) (by rw [List.length_append, List.length_cons, List.length_nil]; rw [List.length_cons] at hD; omega) fun c hc => hR c (List.mem_cons_of_mem _ hc)
      refine ⟨y', ?_⟩
      rw [e]
      refine (for_next (hold D (c :: R) hD) rfl (hbody D c R [.lst (refs 0 ks.length)] (hR c List.mem_cons_self))).trans ?_
      have e2 : cells D ++ cells (upd1 s c :: R) ++ [Cell.lst (refs 0 ks.length)] = cells (D ++ [upd1 s c]) ++ cells R ++ [Cell.lst (refs 0 ks.length)] := by simp [cells]
      rw [e2]
      refine h.trans ?_
      simp
  have hat : ∀ (D : List Col) (c : Col) (R : List Col) (L : Store), dictOf (cells D ++ cells (c :: R) ++ L) (.c D.length) = some (lP c) := fun D c R L => by
    unfold dictOf
    dsimp only
    rw [cells_at]
  have hset : ∀ (D : List Col) (c : Col) (R : List Col) (L : Store) (k : PyData) (v : W) (c' : Col), keyFits k (lP c) = true → putD (lP c) k v = lP c' → dsetW (cells D ++ cells (c :: R) ++ L) (.c D.length) (.d k) v = some (cells D ++ cells (c' :: R) ++ L) := fun D c R L k v c' h1 h2 => by
    unfold dsetW
    rw [show Z.dataOf (cells D ++ cells (c :: R) ++ L) (.d k) = some k from rfl]
    dsimp only
    rw [cells_at]
    dsimp only
    rw [if_pos ⟨h1, by show 6 < sizeLine; omega⟩, h2, cells_set]
  have hloop := loop (body := ifS (andT (bbX (op2X neW (op2X ixW (varX 1) (conX (.int 0))) (conX (.str "add")))) (bbX (op2X eqW (dgetX (varX 4) (conX (.str "tag"))) (op2X ixW (varX 1) (conX (.int 1))))))
        (seqX (ifS (bbX (op2X eqW (op2X ixW (varX 1) (conX (.int 0))) (conX (.str "name")))) (asgX (op2X ixW (varX 1) (conX (.int 2))) (subG dsetW (varX 4) (conX (.str "name")))) skipX)
          (ifS (bbX (op2X eqW (op2X ixW (varX 1) (conX (.int 0))) (conX (.str "shift")))) (asgX (op2X (addW newL) (dgetX (varX 4) (conX (.str "shift"))) (op2X ixW (varX 1) (conX (.int 2)))) (subG dsetW (varX 4) (conX (.str "shift")))) skipX)) skipX) (fun D c R L hk => by
    have htag : ∀ t, op2X ixW (varX 1) (conX (.int 1)) [some (.d (.list (cs.map lD))), some (.d (sD s)), some (.d (.int at')), some (.c ks.length), some (.c D.length)] (cells D ++ cells (c :: R) ++ L) = some (.d (.int t), cells D ++ cells (c :: R) ++ L) → bbX (op2X eqW (dgetX (varX 4) (conX (.str "tag"))) (op2X ixW (varX 1) (conX (.int 1)))) [some (.d (.list (cs.map lD))), some (.d (sD s)), some (.d (.int at')), some (.c ks.length), some (.c D.length)] (cells D ++ cells (c :: R) ++ L) = some (decide (c.tag = t), cells D ++ cells (c :: R) ++ L) := fun t ht => bb_n (op2_n (dget_n (v := .d (.int c.tag)) (w := .c D.length) rfl rfl (hat D c R L) rfl rfl) ht rfl)
    cases s with
    | add r => exact ret_iff (and_n (k := false) (S1 := cells D ++ cells (c :: R) ++ L) rfl rfl)
    | drop t =>
      have h := htag t rfl
      have hk' : decide (c.tag = t) = false := by
        have : (!decide (c.tag = t)) = true := hk
        simpa using this
      rw [hk'] at h
      exact ret_iff (and_n (k := true) (S1 := cells D ++ cells (c :: R) ++ L) rfl h)
    | name t x =>
      have h := htag t rfl
      by_cases hc : c.tag = t
      · rw [decide_eq_true hc] at h
        rw [show upd1 (.name t x) c = { c with name := x } from if_pos hc]
        refine (ifS_b (and_n (k := true) (S1 := cells D ++ cells (c :: R) ++ L) rfl ((if_pos rfl).trans h))).trans ?_
        rw [if_pos rfl]
        refine (seqX_n (e1 := [some (.d (.list (cs.map lD))), some (.d (sD (.name t x))), some (.d (.int at')), some (.c ks.length), some (.c D.length)]) (S1 := cells D ++ cells ({ c with name := x } :: R) ++ L) ((ifS_b (b := true) (S1 := cells D ++ cells (c :: R) ++ L) rfl).trans ?_)).trans (ret_iff (S1 := cells D ++ cells ({ c with name := x } :: R) ++ L) rfl)
        rw [if_pos rfl]
        refine asgX_n (w := .d (.str x)) (S1 := cells D ++ cells (c :: R) ++ L) rfl ?_
        show (match dsetW (cells D ++ cells (c :: R) ++ L) (.c D.length) (.d (.str "name")) (.d (.str x)) with
          | some S3 => some (_, S3)
          | none => none) = _
        rw [hset D c R L (.str "name") (.d (.str x)) { c with name := x } rfl rfl]
      · rw [decide_eq_false hc] at h
        rw [show upd1 (.name t x) c = c from if_neg hc]
        exact ret_iff (and_n (k := true) (S1 := cells D ++ cells (c :: R) ++ L) rfl h)
    | shift t x =>
      have h := htag t rfl
      by_cases hc : c.tag = t
      · rw [decide_eq_true hc] at h
        rw [show upd1 (.shift t x) c = { c with shift := c.shift + x } from if_pos hc]
        refine (ifS_b (and_n (k := true) (S1 := cells D ++ cells (c :: R) ++ L) rfl ((if_pos rfl).trans h))).trans ?_
        rw [if_pos rfl]
        refine (seqX_n (e1 := [some (.d (.list (cs.map lD))), some (.d (sD (.shift t x))), some (.d (.int at')), some (.c ks.length), some (.c D.length)]) (S1 := cells D ++ cells (c :: R) ++ L) (ret_iff (S1 := cells D ++ cells (c :: R) ++ L) rfl)).trans ((ifS_b (b := true) (S1 := cells D ++ cells (c :: R) ++ L) rfl).trans ?_)
        rw [if_pos rfl]
        refine asgX_n (w := .d (.int (c.shift + x))) (S1 := cells D ++ cells (c :: R) ++ L) (op2_n (dget_n (v := .d (.int c.shift)) (w := .c D.length) rfl rfl (hat D c R L) rfl rfl) rfl rfl) ?_
        show (match dsetW (cells D ++ cells (c :: R) ++ L) (.c D.length) (.d (.str "shift")) (.d (.int (c.shift + x))) with
          | some S3 => some (_, S3)
          | none => none) = _
        rw [hset D c R L (.str "shift") (.d (.int (c.shift + x))) { c with shift := c.shift + x } rfl rfl]
      · rw [decide_eq_false hc] at h
        rw [show upd1 (.shift t x) c = c from if_neg hc]
        exact ret_iff (and_n (k := true) (S1 := cells D ++ cells (c :: R) ++ L) rfl h)) ks [] none (by simp) hkeep
  obtain ⟨y', h⟩ := hloop
  rw [show cells [] ++ cells ks = cells ks from rfl, List.nil_append, List.length_nil] at h
  have hS : (cells ks ++ [Cell.lst (refs 0 ks.length)])[ks.length]? = some (.lst (refs 0 ks.length)) := by
    rw [List.getElem?_append_right (by unfold cells; simp)]
    unfold cells
    simp
  have hseq : seqI (varX 3) [some (.d (.list (cs.map lD))), some (.d (sD s)), some (.d (.int at')), some (.c ks.length), none] (cells ks ++ [Cell.lst (refs 0 ks.length)]) = some (refs 0 ks.length, some (ks.length, refs 0 ks.length), cells ks ++ [Cell.lst (refs 0 ks.length)]) := by
    show (match (cells ks ++ [Cell.lst (refs 0 ks.length)])[ks.length]? with
      | some (.lst ws) => some (ws, some (ks.length, ws), (cells ks ++ [Cell.lst (refs 0 ks.length)]))
      | some (.frz (.list ds)) => some (ds.map W.d, none, (cells ks ++ [Cell.lst (refs 0 ks.length)]))
      | _ => none) = _
    rw [hS]
  have h2 := (forX_l hseq).trans h
  refine rets_seq h2 ?_
  generalize hus : ks.map (upd1 s) = us
  have hul : us.length = ks.length := by rw [← hus, List.length_map]
  have hstep : step cs at' s = us ++ (match s with | .add r => [bornC r at'] | _ => []) := by
    unfold step
    rw [step_keep, hks, hus]
    all_goals (cases s <;> rfl)
  rw [← hul]
  have hlk : lockX (varX 3) [some (.d (.list (cs.map lD))), some (.d (sD s)), some (.d (.int at')), some (.c us.length), y'] (cells us ++ [.lst (refs 0 us.length)]) = some (.c us.length, (us.map fun c => Cell.frz (lD c)) ++ [.lst (refs 0 us.length)]) := by
    have hS2 : (cells us ++ [Cell.lst (refs 0 us.length)])[us.length]? = some (.lst (refs 0 us.length)) := by
      rw [List.getElem?_append_right (by unfold cells; simp)]
      unfold cells
      simp
    have h1 := lock_cells us [] [.lst (refs 0 us.length)]
    simp only [List.length_nil, List.nil_append] at h1
    unfold lockX
    rw [show varX 3 [some (.d (.list (cs.map lD))), some (.d (sD s)), some (.d (.int at')), some (.c us.length), y'] (cells us ++ [.lst (refs 0 us.length)]) = some (.c us.length, cells us ++ [.lst (refs 0 us.length)]) from rfl]
    dsimp only
    rw [show itemsL (cells us ++ [Cell.lst (refs 0 us.length)]) (.c us.length) = some (refs 0 us.length) by unfold itemsL; dsimp only; rw [hS2]]
    dsimp only
    rw [h1]
  have hcat : ∀ es : List PyData, es.length ≤ 1 → addW newL ((us.map fun c => Cell.frz (lD c)) ++ [.lst (refs 0 us.length)]) (.c us.length) (.d (.list es)) = some (.d (.list (us.map lD ++ es)), (us.map fun c => Cell.frz (lD c)) ++ [.lst (refs 0 us.length)]) := by
    intro es hes
    have hS2 : ((us.map fun c => Cell.frz (lD c)) ++ [Cell.lst (refs 0 us.length)])[us.length]? = some (.lst (refs 0 us.length)) := by
      rw [List.getElem?_append_right (by simp)]
      simp
    have hi : itemsL ((us.map fun c => Cell.frz (lD c)) ++ [Cell.lst (refs 0 us.length)]) (.c us.length) = some (refs 0 us.length) := by unfold itemsL; dsimp only; rw [hS2]
    have hd := datas_refs us [] [.lst (refs 0 us.length)]
    simp only [List.length_nil, List.nil_append] at hd
    have e : catL newL ((us.map fun c => Cell.frz (lD c)) ++ [.lst (refs 0 us.length)]) (.c us.length) (.d (.list es)) = some (.d (.list (us.map lD ++ es)), (us.map fun c => Cell.frz (lD c)) ++ [.lst (refs 0 us.length)]) := by
      unfold catL
      rw [hi]
      show newL _ (refs 0 us.length ++ es.map W.d) = _
      unfold newL
      rw [datas_app hd (datas_d _ es)]
      dsimp only
      rw [if_pos (by rw [List.length_append, List.length_map]; omega)]
    show (numX addI _ (.c us.length) (.d (.list es))).or ((addS _ (.c us.length) (.d (.list es))).or ((catL newL _ (.c us.length) (.d (.list es))).or (catT _ (.c us.length) (.d (.list es))))) = _
    rw [e]
    rfl
  rw [hstep]
  cases s with
  | add r =>
    rw [List.map_append]
    exact rets_ret (op2_n hlk (if_t (S1 := (us.map fun c => Cell.frz (lD c)) ++ [.lst (refs 0 us.length)]) rfl (arg_n (cons_n (call_d (ds := [rD r, .int at']) rfl (e_lborn r at')) rfl) (newL_d _ (ds := [lD (bornC r at')]) (by simp; omega)))) (hcat [lD (bornC r at')] (by simp)))
  | drop t =>
    have := hcat [] (by simp)
    rw [List.append_nil] at this ⊢
    exact rets_ret (op2_n hlk (if_f (S1 := (us.map fun c => Cell.frz (lD c)) ++ [.lst (refs 0 us.length)]) rfl (arg_n (as := []) rfl (newL_d _ (ds := []) (Nat.zero_le _)))) this)
  | name t x =>
    have := hcat [] (by simp)
    rw [List.append_nil] at this ⊢
    exact rets_ret (op2_n hlk (if_f (S1 := (us.map fun c => Cell.frz (lD c)) ++ [.lst (refs 0 us.length)]) rfl (arg_n (as := []) rfl (newL_d _ (ds := []) (Nat.zero_le _)))) this)
  | shift t x =>
    have := hcat [] (by simp)
    rw [List.append_nil] at this ⊢
    exact rets_ret (op2_n hlk (if_f (S1 := (us.map fun c => Cell.frz (lD c)) ++ [.lst (refs 0 us.length)]) rfl (arg_n (as := []) rfl (newL_d _ (ds := []) (Nat.zero_le _)))) this)
end K02

/-! KH: books of values, what is read. -/
namespace K02
open PySem PySem.Spec PyProof.Rows L2 Y Z
abbrev Bk := List ((Int × Int) × Val)
def kT (k : Int × Int) : PyData := .tuple [.int k.1, .int k.2]
def bookP (b : Bk) : List (PyData × PyData) := b.map fun p => (kT p.1, vD p.2)
def bookW (b : Bk) : List (PyData × W) := b.map fun p => (kT p.1, W.d (vD p.2))
def look (b : Bk) (k : Int × Int) : Option Val := (b.find? fun p => decide (p.1 = k)).map (·.2)
theorem kT_eqv (a k : Int × Int) : PyData.eqv (kT a) (kT k) = decide (a = k) := by
  obtain ⟨a1, a2⟩ := a
  obtain ⟨k1, k2⟩ := k
  by_cases h1 : a1 = k1 <;> by_cases h2 : a2 = k2 <;> simp [kT, PyData.eqv, PyData.eqvAll, h1, h2]
theorem look_book (k : Int × Int) : ∀ b : Bk, lookD (bookW b) (kT k) = (look b k).map fun v => W.d (vD v)
  | [] => rfl
  | p :: b => by
    unfold bookW look at *
    rw [List.map_cons]
    unfold lookD
    rw [kT_eqv, List.find?_cons]
    by_cases h : p.1 = k
    · rw [decide_eq_true h, if_pos rfl]
      rfl
    · rw [decide_eq_false h, if_neg Bool.false_ne_true]
      exact look_book k b
theorem fits_book (k : Int × Int) (b : Bk) : keyFits (kT k) (bookW b) = true := by
  cases b <;> rfl
theorem dict_book (S : Store) (b : Bk) : dictOf S (.d (.dict (bookP b))) = some (bookW b) := by
  show some ((bookP b).map fun p => (p.1, W.d p.2)) = _
  unfold bookP bookW
  rw [List.map_map]
  rfl
def got (b : Bk) (c : Col) : Val := (look b (c.birth, c.tag)).getD c.dflt
def shiftV (c : Col) (v : Val) : Option Val := if c.kind = "int" then (match v with
  | .int i => some (.int (i + c.shift))
  | _ => none) else some v
theorem get2_n {fd fk fz : FE} {env : Z.Env} {S : Store} {w z : W} {k : PyData} {kvs : List (PyData × W)} (h1 : fd env S = some (w, S)) (h3 : dictOf S w = some kvs) (h2 : fk env S = some (.d k, S)) (hz : fz env S = some (z, S)) (h4 : keyFits k kvs = true) : get2X fd fk fz env S = some ((lookD kvs k).getD z, S) := by
  unfold get2X
  rw [h1]
  dsimp only
  rw [h3, if_pos (show (some kvs).isSome = true from rfl)]
  rw [h2]
  dsimp only
  rw [hz]
  dsimp only
  unfold getX
  rw [h3, show Z.dataOf S (.d k) = some k from rfl]
  dsimp only
  rw [if_pos h4]
theorem r_value_at (b : Bk) (c : Col) (v : Val) (h : shiftV c (got b c) = some v) : fn_value_at [.d (.dict (bookP b)), .d (cD c)] [] = some (.d (vD v), []) := by
  refine ret_fn rfl ?_
  unfold b_value_at pk_value_at
  dsimp only
  refine ret_seq (e1 := [some (.d (.dict (bookP b))), some (.d (cD c)), some (.d (.int c.birth)), some (.d (.int c.tag)), some (.d (.str c.name)), some (.d (.str c.kind)), some (.d (vD c.dflt)), some (.d (.int c.shift)), none]) (S1 := []) rfl ?_
  refine ret_seq (asgX_n (get2_n (k := kT (c.birth, c.tag)) rfl (dict_book [] b) rfl rfl (fits_book _ b)) rfl) ?_
  rw [look_book]
  have fin : ∀ u : W, u = .d (vD (got b c)) → RetS (retX (ifX (bbX (op2X eqW (varX 5) (conX (.str "int")))) (op2X (addW newL) (varX 8) (varX 7)) (varX 8))) [some (.d (.dict (bookP b))), some (.d (cD c)), some (.d (.int c.birth)), some (.d (.int c.tag)), some (.d (.str c.name)), some (.d (.str c.kind)), some (.d (vD c.dflt)), some (.d (.int c.shift)), some u] [] (.d (vD v)) [] := by
    rintro u rfl
    refine ret_ret ?_
    unfold shiftV at h
    by_cases hk : c.kind = "int"
    · rw [if_pos hk] at h
      refine if_t (S1 := []) (by rw [show bbX (op2X eqW (varX 5) (conX (.str "int"))) _ [] = some (decide (c.kind = "int"), []) from rfl, decide_eq_true hk]) ?_
      cases hg : got b c with
      | int i =>
        rw [hg] at h
        cases h
        rfl
      | text x => rw [hg] at h; cases h
    · rw [if_neg hk] at h
      cases h
      exact if_f (S1 := []) (by rw [show bbX (op2X eqW (varX 5) (conX (.str "int"))) _ [] = some (decide (c.kind = "int"), []) from rfl, decide_eq_false hk]) rfl
  cases hl : look b (c.birth, c.tag) with
  | none =>
    have hg : got b c = c.dflt := by unfold got; rw [hl]; rfl
    refine ret_seq (S1 := []) (e1 := [some (.d (.dict (bookP b))), some (.d (cD c)), some (.d (.int c.birth)), some (.d (.int c.tag)), some (.d (.str c.name)), some (.d (.str c.kind)), some (.d (vD c.dflt)), some (.d (.int c.shift)), some (.d (vD c.dflt))]) ((ifS_b (b := true) (S1 := []) rfl).trans rfl) (fin _ (by rw [hg]))
  | some u =>
    have hg : got b c = u := by unfold got; rw [hl]; rfl
    refine ret_seq (S1 := []) (e1 := [some (.d (.dict (bookP b))), some (.d (cD c)), some (.d (.int c.birth)), some (.d (.int c.tag)), some (.d (.str c.name)), some (.d (.str c.kind)), some (.d (vD c.dflt)), some (.d (.int c.shift)), some (.d (vD u))]) (ret_iff (S1 := []) (by cases u <;> rfl)) (fin _ (by rw [hg]))
/-! the law's reading -/
def cellR (b : Bk) (c : Col) : PyData := .tuple [.int c.tag, vD ((shiftV c (got b c)).getD (.int 0))]
def IR (d1 d2 : W) (b : Bk) (xs : List Col) (acc : List Col) (env : Z.Env) (S : Store) : Prop := ∃ y1 y2 y3 y4 y5 y6 y7, env = [some d1, some d2, some (.c 0), y1, y2, y3, y4, y5, y6, y7] ∧ S = [.lst ((acc.map (cellR b)).map W.d)] ∧ acc.length + xs.length < 64 ∧ ∀ c ∈ xs, (shiftV c (got b c)).isSome = true
theorem app_g {α : Type} {d : α → PyData} {fa : FA} {env : Z.Env} {acc : List α} {c : α} {k : Nat} (hk : env[k]? = some (some (.c 0))) (h : fa env [.lst ((acc.map d).map W.d)] = some ([.d (d c)], [.lst ((acc.map d).map W.d)])) (hl : acc.length < 64) : dropX (bmX appW (varX k) fa) env [.lst ((acc.map d).map W.d)] = some (.next, env, [.lst (((acc ++ [c]).map d).map W.d)]) := by
  refine dropX_n (w := .d .none) ?_
  have := app_d (fo := varX k) (fa := fa) (env := env) (S := [.lst ((acc.map d).map W.d)]) (n := 0) (by unfold varX; rw [hk]) rfl h rfl (by have := big; simp; omega)
  rw [this]
  simp
theorem r_lread (cs : List Col) (b : Bk) (hl : cs.length < 64) (nd : (cs.map (·.tag)).Nodup) (hv : ∀ c ∈ cs, (shiftV c (got b c)).isSome = true) : ∃ S, fn__law_read [.d (.list (cs.map lD)), .d (.dict (bookP b))] [] = some (.d (.list ((srt cs).map (cellR b))), S) := by
  refine ⟨_, rets_fn rfl ?_⟩
  unfold b__law_read pk__law_read
  dsimp only
  have hb := big
  refine rets_seq (e1 := [some (.d (.list (cs.map lD))), some (.d (.dict (bookP b))), some (.c 0), none, none, none, none, none, none, none]) (S1 := [.lst []]) rfl ?_
  have key := for_fold (fun c => W.d (cD c)) (fun acc c => acc ++ [c]) (IR (.d (.list (cs.map lD))) (.d (.dict (bookP b))) b) (gd := none) (tg := tupG 6 (gConsX (nameG 3) (gConsX (nameG 4) (gConsX (nameG 5) (gConsX (nameG 6) (gConsX (nameG 7) (gConsX (nameG 8) gNilX)))))))
    (body := seqX (asgX (get2X (varX 1) (argX newT (consX (varX 3) (consX (varX 4) nilX))) (varX 7)) (nameG 9)) (dropX (bmX appW (varX 2) (consX (argX newT (consX (varX 4) (consX (ifX (bbX (op2X eqW (varX 6) (conX (.str "int")))) (op2X (addW newL) (varX 9) (varX 8)) (varX 9)) nilX))) nilX)))) (fun _ _ _ _ _ => True.intro) (fun acc c xs env S ⟨y1, y2, y3, y4, y5, y6, y7, e1, e2, e3, e4⟩ => by
    subst e1; subst e2
    rw [List.length_cons] at e3
    refine ⟨_, _, rfl, ?_⟩
    obtain ⟨v, hv⟩ := Option.isSome_iff_exists.mp (e4 c List.mem_cons_self)
    have hgot : get2X (varX 1) (argX newT (consX (varX 3) (consX (varX 4) nilX))) (varX 7) [some (.d (.list (cs.map lD))), some (.d (.dict (bookP b))), some (.c 0), some (.d (.int c.birth)), some (.d (.int c.tag)), some (.d (.str c.name)), some (.d (.str c.kind)), some (.d (vD c.dflt)), some (.d (.int c.shift)), y7] [.lst ((acc.map (cellR b)).map W.d)] = some (.d (vD (got b c)), [.lst ((acc.map (cellR b)).map W.d)]) := by
      refine (get2_n (k := kT (c.birth, c.tag)) (z := .d (vD c.dflt)) rfl (dict_book _ b) rfl rfl (fits_book _ b)).trans ?_
      rw [look_book]
      unfold got
      cases look b (c.birth, c.tag) <;> rfl
    have hcell : cellR b c = .tuple [.int c.tag, vD v] := by unfold cellR; rw [hv]; rfl
    have hval : ifX (bbX (op2X eqW (varX 6) (conX (.str "int")))) (op2X (addW newL) (varX 9) (varX 8)) (varX 9) [some (.d (.list (cs.map lD))), some (.d (.dict (bookP b))), some (.c 0), some (.d (.int c.birth)), some (.d (.int c.tag)), some (.d (.str c.name)), some (.d (.str c.kind)), some (.d (vD c.dflt)), some (.d (.int c.shift)), some (.d (vD (got b c)))] [.lst ((acc.map (cellR b)).map W.d)] = some (.d (vD v), [.lst ((acc.map (cellR b)).map W.d)]) := by
      unfold shiftV at hv
      by_cases hk : c.kind = "int"
      · rw [if_pos hk] at hv
        refine if_t (S1 := [.lst ((acc.map (cellR b)).map W.d)]) (by rw [show bbX (op2X eqW (varX 6) (conX (.str "int"))) _ [.lst ((acc.map (cellR b)).map W.d)] = some (decide (c.kind = "int"), [.lst ((acc.map (cellR b)).map W.d)]) from rfl, decide_eq_true hk]) ?_
        cases hg : got b c with
        | int i =>
          rw [hg] at hv
          cases hv
          rfl
        | text x => rw [hg] at hv; cases hv
      · rw [if_neg hk] at hv
        cases hv
        exact if_f (S1 := [.lst ((acc.map (cellR b)).map W.d)]) (by rw [show bbX (op2X eqW (varX 6) (conX (.str "int"))) _ [.lst ((acc.map (cellR b)).map W.d)] = some (decide (c.kind = "int"), [.lst ((acc.map (cellR b)).map W.d)]) from rfl, decide_eq_false hk]) rfl
    refine ⟨.next, _, _, (seqX_n (asgX_n hgot rfl)).trans (app_g (d := cellR b) (c := c) (acc := acc) rfl (cons_n (arg_n (cons_n rfl (cons_n hval rfl)) ?_) rfl) (by omega)), .inl rfl, ⟨_, _, _, _, _, _, _, rfl, rfl, ?_, fun c' hc => e4 c' (List.mem_cons_of_mem _ hc)⟩⟩
    · rw [hcell]; rfl
    · rw [List.length_append, List.length_cons, List.length_nil]; omega) (srt cs) [] [some (.d (.list (cs.map lD))), some (.d (.dict (bookP b))), some (.c 0), none, none, none, none, none, none, none] [.lst []] ⟨none, none, none, none, none, none, none, rfl, rfl, by rw [srt_len]; simpa using hl, fun c hc => hv c (by unfold srt at hc; exact (List.mergeSort_perm _ _).mem_iff.mp hc)⟩
  obtain ⟨e2, S2, h1, y1, y2, y3, y4, y5, y6, y7, rfl, rfl, _⟩ := key
  rw [show (srt cs).foldl (fun acc c => acc ++ [c]) [] = srt cs by
    have gen : ∀ (l acc : List Col), l.foldl (fun acc c => acc ++ [c]) acc = acc ++ l := by
      intro l
      induction l with
      | nil => intro acc; simp
      | cons c l ih => intro acc; rw [List.foldl_cons, ih]; simp
    exact gen _ _] at h1
  refine rets_seq ((forX_l (ws := (srt cs).map fun c => W.d (cD c)) (gd := none) (S1 := [.lst []]) (seqI_m cD (srt cs) (call_d (ds := [.list (cs.map lD)]) rfl (r_lrows cs hl nd)))).trans h1) ?_
  obtain ⟨S3, h3⟩ := frz_list (fa := varX 2) (env := [some (.d (.list (cs.map lD))), some (.d (.dict (bookP b))), some (.c 0), y1, y2, y3, y4, y5, y6, y7]) (S := [.lst (((srt cs).map (cellR b)).map W.d)]) (n := 0) rfl rfl
  exact rets_ret h3
end K02

/-! KI: records read; records written. -/
namespace K02
open PySem PySem.Spec PyProof.Rows L2 Y Z
def recD (b : Bk) : PyData := .list (b.map fun p => .tuple [kT p.1, vD p.2])
def put (b : Bk) (k : Int × Int) (v : Val) : Bk := if (b.any fun p => decide (p.1 = k)) = true then b.map (fun p => if p.1 = k then (p.1, v) else p) else b ++ [(k, v)]
def puts (b ps : Bk) : Bk := ps.foldl (fun acc p => put acc p.1 p.2) b
theorem put_book (b : Bk) (k : Int × Int) (v : Val) : putD (bookW b) (kT k) (.d (vD v)) = bookW (put b k v) := by
  have h1 : hasD (bookW b) (kT k) = b.any fun p => decide (p.1 = k) := by
    unfold hasD bookW
    rw [List.any_map]
    congr 1
    funext p
    exact kT_eqv p.1 k
  unfold putD put
  rw [h1]
  split
  · unfold bookW
    rw [List.map_map, List.map_map]
    apply List.map_congr_left
    intro p _
    show (if PyData.eqv (kT p.1) (kT k) = true then _ else _) = _
    rw [kT_eqv]
    by_cases h : p.1 = k
    · rw [decide_eq_true h, if_pos rfl]
      show (kT p.1, W.d (vD v)) = (kT (if p.1 = k then (p.1, v) else p).1, W.d (vD (if p.1 = k then (p.1, v) else p).2))
      rw [if_pos h]
    · rw [decide_eq_false h, if_neg Bool.false_ne_true]
      show (kT p.1, W.d (vD p.2)) = (kT (if p.1 = k then (p.1, v) else p).1, W.d (vD (if p.1 = k then (p.1, v) else p).2))
      rw [if_neg h]
  · unfold bookW
    rw [List.map_append]
    rfl
theorem puts_book : ∀ (ps b : Bk), putsD (bookW b) (bookW ps) = bookW (puts b ps)
  | [], b => rfl
  | p :: ps, b => by
    show putsD (putD (bookW b) (kT p.1) (.d (vD p.2))) (bookW ps) = _
    rw [put_book]
    exact puts_book ps _
theorem puts_nil : ∀ (ps b : Bk), ((b ++ ps).map (·.1)).Nodup → puts b ps = b ++ ps
  | [], b, _ => by simp [puts]
  | p :: ps, b, h => by
    have hn : (b.any fun q => decide (q.1 = p.1)) = false := by
      rw [List.any_eq_false]
      intro q hq hc
      have hc : q.1 = p.1 := by simpa using hc
      rw [List.map_append, List.nodup_append] at h
      exact h.2.2 q.1 (List.mem_map.mpr ⟨q, hq, rfl⟩) p.1 (List.mem_map.mpr ⟨p, List.mem_cons_self, rfl⟩) hc
    have e : put b p.1 p.2 = b ++ [p] := by unfold put; rw [hn]; rfl
    show puts (put b p.1 p.2) ps = _
    rw [e, puts_nil ps (b ++ [p]) (by simpa using h)]
    simp
theorem kv_book (S : Store) : ∀ b : Bk, kvData S (bookW b) = some (bookP b)
  | [] => rfl
  | p :: b => by
    show kvData S ((kT p.1, W.d (vD p.2)) :: bookW b) = some ((kT p.1, vD p.2) :: bookP b)
    unfold kvData
    rw [kv_book S b]
    rfl
theorem pairs_rec : ∀ b : Bk, pairsW ((b.map fun p => PyData.tuple [kT p.1, vD p.2]).map W.d) = some (bookP b)
  | [] => rfl
  | p :: b => by
    rw [List.map_cons, List.map_cons]
    unfold pairsW
    rw [pairs_rec b]
    rfl
theorem good_book (b : Bk) : (bookP b).all (fun p => goodTup p.1) = true := by
  rw [List.all_eq_true]
  intro x hx
  obtain ⟨p, _, rfl⟩ := List.mem_map.mp hx
  rfl
/-- dict(record), a new cell -/
theorem dict_rec {fa : FE} {env : Z.Env} {S S1 : Store} (b : Bk) (nd : (b.map (·.1)).Nodup) (h : fa env S = some (.d (recD b), S1)) : argX dictW (consX fa nilX) env S = some (.c S1.length, S1 ++ [.dic (bookW b)]) := by
  refine arg_n (cons_n h rfl) ?_
  show (match pairsW ((b.map fun p => PyData.tuple [kT p.1, vD p.2]).map W.d) with
    | some ps => if ((ps.all fun p => (leafK p.1).isSome) || (ps.all fun p => goodTup p.1)) = true then some (W.c S1.length, S1 ++ [Cell.dic (putsD [] (wpairs ps))]) else none
    | none => none) = _
  rw [pairs_rec]
  dsimp only
  rw [if_pos (by rw [good_book, Bool.or_true])]
  have : wpairs (bookP b) = bookW b := by unfold wpairs bookP bookW; rw [List.map_map]; rfl
  rw [this, show putsD [] (bookW b) = putsD (bookW []) (bookW b) from rfl, puts_book, puts_nil b [] (by simpa using nd), List.nil_append]
theorem frz_new {fa : FE} {env : Z.Env} {S S1 : Store} (b : Bk) (h : fa env S = some (.c S1.length, S1 ++ [.dic (bookW b)])) : frzDX fa env S = some (.d (.dict (bookP b)), S1 ++ [.frz (.dict (bookP b))]) := by
  unfold frzDX
  rw [h]
  dsimp only
  rw [List.getElem?_append_right (Nat.le_refl _), Nat.sub_self]
  dsimp only [List.getElem?_cons_zero]
  rw [kv_book]
  dsimp only
  rw [List.set_append_right _ _ (Nat.le_refl _), Nat.sub_self]
  rfl
theorem r_row_at (rs : List Raw) (ss : List Stp) (n : Nat) (b : Bk) (hn : n ≤ ss.length) (hl : rs.length + ss.length < 60) (nd : ((stateAt rs ss n).map (·.tag)).Nodup) (ndb : (b.map (·.1)).Nodup) (hv : ∀ c ∈ stateAt rs ss n, (shiftV c (got b c)).isSome = true) :
    fn_row_at [.d (tD rs ss), .d (.int n), .d (recD b)] [] = some (.d (.list ((srt (stateAt rs ss n)).map (cellR b))), [.frz (.dict (bookP b))]) := by
  refine ret_fn rfl ?_
  unfold b_row_at pk_row_at
  dsimp only
  have hb := big
  have hlen : (stateAt rs ss n).length < 64 := by
    have := run_len (ss.take n) (rs.map (bornC · 0)) 0
    simp only [List.length_map, List.length_take] at this
    unfold stateAt
    omega
  refine ret_seq (asgX_n (frz_new b (dict_rec (S1 := []) (fa := varX 2) b ndb rfl)) rfl) ?_
  refine ret_ret (lc_map (fun c => W.d (cD c)) (cellR b) (srt (stateAt rs ss n)) (seqI_m cD _ (call_d (ds := [tD rs ss, .int n]) rfl (r_columns_at rs ss n hn hl nd))) (fun c hc => ⟨_, rfl, ?_⟩) (by rw [srt_len]; omega))
  have hc : c ∈ stateAt rs ss n := by unfold srt at hc; exact (List.mergeSort_perm _ _).mem_iff.mp hc
  obtain ⟨v, hv⟩ := Option.isSome_iff_exists.mp (hv c hc)
  have hcell : cellR b c = .tuple [.int c.tag, vD v] := by unfold cellR; rw [hv]; rfl
  rw [hcell]
  exact arg_n (cons_n (a := .d (.int c.tag)) rfl (cons_n (call_d (ds := [.dict (bookP b), cD c]) rfl (r_value_at b c v hv)) rfl)) rfl
end K02

/-! KJ: faults of what is given. -/
namespace K02
open PySem PySem.Spec PyProof.Rows L2 Y Z
abbrev Gv := List (Str × Val)
def pD (p : Str × Val) : PyData := .tuple [.str p.1, vD p.2]
def givStep (kind : Str → Option Str) (met : List Str) (p : Str × Val) : Except W (List Str) := match kind p.1 with
  | none => .error (.d (.str (Str.ofString "column")))
  | some k => if p.1 ∈ met then .error (.d (.str (Str.ofString "double"))) else if (!decide (decide (k = "text") = p.2.isText)) = true then .error (.d (.str (Str.ofString "kind"))) else .ok (met ++ [p.1])
def givRes (kind : Str → Option Str) (g : Gv) : W := match foldE (givStep kind) [] g with
  | .ok _ => .d .none
  | .error w => w
def kindOf (cs : List Col) (n : Str) : Option Str := (cs.find? fun c => decide (c.name = n)).map (·.kind)
theorem filt_head (cs : List Col) (n : Str) : (cs.filter fun c => decide (c.name = n)).head? = cs.find? fun c => decide (c.name = n) := List.head?_filter
def IL (l g : PyData) (xs : Gv) (met : List Str) (env : Z.Env) (S : Store) : Prop := ∃ y1 y2 y3, env = [some (.d l), some (.d g), some (.c 0), y1, y2, y3, none] ∧ S = [.lst ((met.map PyData.str).map W.d)] ∧ met.length + xs.length < 64
theorem r_lgiven_fault (cs : List Col) (g : Gv) (hl : cs.length < 64) (hg : g.length < 64) : ∃ S, fn__law_given_fault [.d (.list (cs.map lD)), .d (.list (g.map pD))] [] = some (givRes (kindOf cs) g, S) := by
  refine ⟨_, rets_fn rfl ?_⟩
  unfold b__law_given_fault pk__law_given_fault
  dsimp only
  have hb := big
  refine rets_seq (e1 := [some (.d (.list (cs.map lD))), some (.d (.list (g.map pD))), some (.c 0), none, none, none, none]) (S1 := [.lst []]) rfl ?_
  have key := for_ex (fun p => W.d (pD p)) (givStep (kindOf cs)) (IL (.list (cs.map lD)) (.list (g.map pD))) (gd := none) (tg := tupG 2 (gConsX (nameG 3) (gConsX (nameG 4) gNilX)))
    (body := seqX (asgX (lcX newL [6] (seqI (varX 0)) (nameG 6) (bbX (op2X eqW (dgetX (varX 6) (conX (.str "name"))) (varX 3))) (varX 6)) (nameG 5)) (seqX (ifS (bbX (op2X eqW (argX lenW (consX (varX 5) nilX)) (conX (.int 0)))) (retX (conX (.str "column"))) skipX)
      (seqX (ifS (bbX (op2X (memW false) (varX 3) (varX 2))) (retX (conX (.str "double"))) skipX) (seqX (ifS (bbX (op2X neW (op2X eqW (dgetX (op2X ixW (varX 5) (conX (.int 0))) (conX (.str "kind"))) (conX (.str "text"))) (op1X (isaW "str") (varX 4)))) (retX (conX (.str "kind"))) skipX) (dropX (bmX appW (varX 2) (consX (varX 3) nilX)))))))
    (fun _ _ _ _ _ => True.intro) (fun met p xs env S ⟨y1, y2, y3, e1, e2, e3⟩ => by
    subst e1; subst e2
    rw [List.length_cons] at e3
    refine ⟨_, _, rfl, ?_⟩
    have hst := stands_d lD cs [.lst ((met.map PyData.str).map W.d)]
    obtain ⟨h0, hv⟩ := hst
    have hmine := lc_filterG (fun c => W.d (lD c)) lD (fun c => decide (c.name = p.1)) (vs := [6]) (tg := nameG 6) (tt := bbX (op2X eqW (dgetX (varX 6) (conX (.str "name"))) (varX 3))) (te := varX 6) (env := [some (.d (.list (cs.map lD))), some (.d (.list (g.map pD))), some (.c 0), some (.d (.str p.1)), some (.d (vD p.2)), y3, none]) (S := [.lst ((met.map PyData.str).map W.d)]) h0 cs (hv 0 _ rfl) (fun c _ => ⟨_, rfl, rfl, fun _ => rfl⟩) (by omega)
    have hmem : bbX (op2X (memW false) (varX 3) (varX 2)) [some (.d (.list (cs.map lD))), some (.d (.list (g.map pD))), some (.c 0), some (.d (.str p.1)), some (.d (vD p.2)), some (.d (.list ((cs.filter fun c => decide (c.name = p.1)).map lD))), none] [.lst ((met.map PyData.str).map W.d)] = some (decide (p.1 ∈ met), [.lst ((met.map PyData.str).map W.d)]) := by
      refine bb_n (op2_n (a := .d (.str p.1)) (b := .c 0) rfl rfl ?_)
      have h1 := mem_strs [.lst ((met.map PyData.str).map W.d)] p.1 met
      unfold memW at h1 ⊢
      have h2 : snap [.lst ((met.map PyData.str).map W.d)] (.c 0) = some (.list (met.map PyData.str)) := by
        show (match datas [.lst ((met.map PyData.str).map W.d)] ((met.map PyData.str).map W.d) with
          | some ds => some (PyData.list ds)
          | none => none) = _
        rw [datas_d]
      rw [h2]
      exact h1
    have hh := filt_head cs p.1
    unfold givStep kindOf
    rw [← hh]
    generalize (cs.filter fun c => decide (c.name = p.1)) = ms at hmine hmem
    have n0 : bbX (op2X eqW (argX lenW (consX (varX 5) nilX)) (conX (.int 0))) [some (.d (.list (cs.map lD))), some (.d (.list (g.map pD))), some (.c 0), some (.d (.str p.1)), some (.d (vD p.2)), some (.d (.list (ms.map lD))), none] [.lst ((met.map PyData.str).map W.d)] = some (decide (ms.length = 0), [.lst ((met.map PyData.str).map W.d)]) := bb_n (op2_n (arg_n (as := [.d (.list (ms.map lD))]) rfl (len_d _ lD _)) rfl (eq_len _ _ 0))
    cases ms with
    | nil => exact ⟨_, _, (seqX_n (asgX_n hmine rfl)).trans (seqX_r ((ifS_b n0).trans rfl))⟩
    | cons c r =>
      have ix0 : op2X ixW (varX 5) (conX (.int 0)) [some (.d (.list (cs.map lD))), some (.d (.list (g.map pD))), some (.c 0), some (.d (.str p.1)), some (.d (vD p.2)), some (.d (.list ((c :: r).map lD))), none] [.lst ((met.map PyData.str).map W.d)] = some (.d (lD c), [.lst ((met.map PyData.str).map W.d)]) := ix_zero (lD c) (r.map lD) _
      have hk : bbX (op2X neW (op2X eqW (dgetX (op2X ixW (varX 5) (conX (.int 0))) (conX (.str "kind"))) (conX (.str "text"))) (op1X (isaW "str") (varX 4))) [some (.d (.list (cs.map lD))), some (.d (.list (g.map pD))), some (.c 0), some (.d (.str p.1)), some (.d (vD p.2)), some (.d (.list ((c :: r).map lD))), none] [.lst ((met.map PyData.str).map W.d)] = some (!decide (decide (c.kind = "text") = p.2.isText), [.lst ((met.map PyData.str).map W.d)]) :=
        bb_n (op2_n (op2_n (dget_n (v := .d (.str c.kind)) ix0 rfl rfl rfl rfl) rfl (show _ = some (W.d (.bool (decide (c.kind = "text"))), _) from rfl)) (op1_n (fa := varX 4) (show varX 4 _ _ = some (.d (vD p.2), _) from rfl) (isa_str _ p.2)) rfl)
      dsimp only [List.head?_cons, Option.map_some]
      by_cases hm : p.1 ∈ met
      · rw [if_pos hm]
        rw [decide_eq_true hm] at hmem
        exact ⟨_, _, (seqX_n (asgX_n hmine rfl)).trans ((seqX_n (ret_iff n0)).trans (seqX_r ((ifS_b hmem).trans rfl)))⟩
      · rw [if_neg hm]
        rw [decide_eq_false hm] at hmem
        by_cases hkk : (!decide (decide (c.kind = "text") = p.2.isText)) = true
        · rw [if_pos hkk]
          rw [hkk] at hk
          exact ⟨_, _, (seqX_n (asgX_n hmine rfl)).trans ((seqX_n (ret_iff n0)).trans ((seqX_n (ret_iff hmem)).trans (seqX_r ((ifS_b hk).trans rfl))))⟩
        · rw [if_neg hkk]
          rw [Bool.eq_false_iff.mpr hkk] at hk
          refine ⟨.next, _, _, (seqX_n (asgX_n hmine rfl)).trans ((seqX_n (ret_iff n0)).trans ((seqX_n (ret_iff hmem)).trans ((seqX_n (ret_iff hk)).trans (app_g (d := PyData.str) (c := p.1) (acc := met) rfl rfl (by omega))))), .inl rfl, ⟨_, _, _, rfl, rfl, ?_⟩⟩
          rw [List.length_append, List.length_cons, List.length_nil]; omega) g [] [some (.d (.list (cs.map lD))), some (.d (.list (g.map pD))), some (.c 0), none, none, none, none] [.lst []] ⟨none, none, none, rfl, rfl, by simpa using hg⟩
  unfold givRes
  cases hf : foldE (givStep (kindOf cs)) [] g with
  | ok m =>
    rw [hf] at key
    obtain ⟨e2, S2, h1, _⟩ := key
    exact rets_seq ((forX_l (seqI_m pD g rfl)).trans h1) (rets_ret rfl)
  | error x =>
    rw [hf] at key
    obtain ⟨e2, S2, h1⟩ := key
    exact rets_seqr ⟨e2, S2, (forX_l (seqI_m pD g rfl)).trans h1⟩
end K02

/-! KK: faults of what is given, by the program; dicts by texts. -/
namespace K02
open PySem PySem.Spec PyProof.Rows L2 Y Z
/-- a dict by texts -/
def sW (ps : List (Str × PyData)) : List (PyData × W) := ps.map fun p => (.str p.1, .d p.2)
theorem has_s (ps : List (Str × PyData)) (n : Str) : hasD (sW ps) (.str n) = ps.any fun p => decide (p.1 = n) := by
  unfold hasD sW
  rw [List.any_map]
  congr 1
theorem putsS : ∀ (ps b : List (Str × PyData)), ((b ++ ps).map (·.1)).Nodup → putsD (sW b) (sW ps) = sW (b ++ ps)
  | [], b, _ => by simp [putsD, sW]
  | p :: ps, b, h => by
    have hn : (b.any fun q => decide (q.1 = p.1)) = false := by
      rw [List.any_eq_false]
      intro q hq hc
      have hc : q.1 = p.1 := by simpa using hc
      rw [List.map_append, List.nodup_append] at h
      exact h.2.2 q.1 (List.mem_map.mpr ⟨q, hq, rfl⟩) p.1 (List.mem_map.mpr ⟨p, List.mem_cons_self, rfl⟩) hc
    have e : putD (sW b) (.str p.1) (.d p.2) = sW (b ++ [p]) := by
      unfold putD
      rw [has_s, hn, if_neg Bool.false_ne_true]
      unfold sW
      rw [List.map_append]
      rfl
    show putsD (putD (sW b) (.str p.1) (.d p.2)) (sW ps) = _
    rw [e, putsS ps (b ++ [p]) (by simpa using h)]
    simp
theorem look_s (n : Str) : ∀ ps : List (Str × PyData), lookD (sW ps) (.str n) = (ps.find? fun p => decide (p.1 = n)).map fun p => W.d p.2
  | [] => rfl
  | p :: ps => by
    unfold sW
    rw [List.map_cons]
    unfold lookD
    rw [List.find?_cons]
    have : PyData.eqv (.str p.1) (.str n) = decide (p.1 = n) := by by_cases h : p.1 = n <;> simp [PyData.eqv, h]
    rw [this]
    by_cases h : p.1 = n
    · rw [decide_eq_true h, if_pos rfl]
      rfl
    · rw [decide_eq_false h, if_neg Bool.false_ne_true]
      exact look_s n ps
theorem fits_s (n : Str) (ps : List (Str × PyData)) : keyFits (.str n) (sW ps) = true := by cases ps <;> rfl
theorem dc_all {α : Type} (a : α → W) (k : α → PyData) (v : α → W) {tg : FG} {tk tv : FE} {env : Z.Env} {S : Store} (hk : ∀ x, (leafK (k x)).isSome = true) : ∀ xs : List α, (∀ x ∈ xs, ∃ e1, tg (a x) env S = some (e1, S) ∧ tk e1 S = some (.d (k x), S) ∧ tv e1 S = some (v x, S)) → dcL none tg yesT tk tv env (xs.map a) S = some (xs.map fun x => (k x, v x), S)
  | [], _ => by
    rw [List.map_nil]
    unfold dcL
    rw [if_pos (show HoldsG S none from True.intro)]
    rfl
  | x :: xs, h => by
    obtain ⟨e1, h1, h2, h3⟩ := h x List.mem_cons_self
    rw [List.map_cons]
    unfold dcL
    rw [if_pos (show HoldsG S none from True.intro), h1]
    dsimp only [yesT]
    rw [if_pos rfl, h2]
    dsimp only
    rw [h3]
    dsimp only
    rw [dc_all a k v hk xs fun y hy => h y (List.mem_cons_of_mem _ hy), show Z.dataOf S (.d (k x)) = some (k x) from rfl]
    dsimp only
    rw [if_pos (hk x)]
    rfl
def kindsW (cs : List Col) : List (Str × PyData) := cs.map fun c => (c.name, .str c.kind)
theorem find_kinds (cs : List Col) (n : Str) : (kindsW cs).find? (fun p => decide (p.1 = n)) = (cs.find? fun c => decide (c.name = n)).map fun c => (c.name, .str c.kind) := by
  unfold kindsW
  rw [List.find?_map]
  rfl
theorem din_n {neg : Bool} {fk fd : FE} {env : Z.Env} {S : Store} {w : W} {k : PyData} {kvs : List (PyData × W)} (h1 : fk env S = some (.d k, S)) (h2 : fd env S = some (w, S)) (h3 : dictOf S w = some kvs) (h4 : keyFits k kvs = true) : dinX neg fk fd env S = some (.d (.bool (if neg then !(lookD kvs k).isSome else (lookD kvs k).isSome)), S) := by
  unfold dinX
  rw [h1]
  dsimp only
  rw [h2]
  dsimp only
  unfold getX
  rw [h3, show Z.dataOf S (.d k) = some k from rfl]
  dsimp only
  rw [if_pos h4]
def IP (l g : PyData) (kw : List (PyData × W)) (xs : Gv) (met : List Str) (env : Z.Env) (S : Store) : Prop := ∃ y1 y2, env = [some (.d l), some (.d g), some (.c 0), none, some (.c 1), y1, y2] ∧ S = [.dic kw, .lst ((met.map PyData.str).map W.d)] ∧ met.length + xs.length < 64
theorem r_given_fault (cs : List Col) (g : Gv) (hl : cs.length < 64) (hg : g.length < 64) (nd : (cs.map (·.name)).Nodup) : ∃ S, fn_given_fault [.d (.list (cs.map cD)), .d (.list (g.map pD))] [] = some (givRes (kindOf cs) g, S) := by
  refine ⟨_, rets_fn rfl ?_⟩
  unfold b_given_fault pk_given_fault
  dsimp only
  have hb := big
  have hkw : putsD [] (cs.map fun c => (PyData.str c.name, W.d (.str c.kind))) = sW (kindsW cs) := by
    have := putsS (kindsW cs) [] (by simpa [kindsW, List.map_map, Function.comp_def] using nd)
    rw [List.nil_append] at this
    rw [← this]
    unfold sW kindsW
    rw [List.map_map]
    rfl
  have hdc := dc_n (vs := [3]) (fi := seqI (varX 0)) (tg := nameG 3) (tt := yesT) (tk := op2X ixW (varX 3) (conX (.int 2))) (tv := op2X ixW (varX 3) (conX (.int 3))) (env := [some (.d (.list (cs.map cD))), some (.d (.list (g.map pD))), none, none, none, none, none]) (S := []) (seqI_m cD cs rfl) (dc_all (fun c => W.d (cD c)) (fun c => .str c.name) (fun c => .d (.str c.kind)) (fun _ => rfl) cs fun c _ => ⟨_, rfl, rfl, rfl⟩) (by simp; omega)
  rw [hkw] at hdc
  refine rets_seq (asgX_n hdc rfl) (rets_seq (e1 := [some (.d (.list (cs.map cD))), some (.d (.list (g.map pD))), some (.c 0), none, some (.c 1), none, none]) (S1 := [.dic (sW (kindsW cs)), .lst []]) rfl ?_)
  have key := for_ex (fun p => W.d (pD p)) (givStep (kindOf cs)) (IP (.list (cs.map cD)) (.list (g.map pD)) (sW (kindsW cs))) (gd := none) (tg := tupG 2 (gConsX (nameG 5) (gConsX (nameG 6) gNilX)))
    (body := seqX (ifS (bbX (dinX true (varX 5) (varX 2))) (retX (conX (.str "column"))) skipX) (seqX (ifS (bbX (op2X (memW false) (varX 5) (varX 4))) (retX (conX (.str "double"))) skipX)
      (seqX (ifS (bbX (op2X neW (op1X (isaW "str") (varX 6)) (op2X eqW (dgetX (varX 2) (varX 5)) (conX (.str "text"))))) (retX (conX (.str "kind"))) skipX) (dropX (bmX appW (varX 4) (consX (varX 5) nilX))))))
    (fun _ _ _ _ _ => True.intro) (fun met p xs env S ⟨y1, y2, e1, e2, e3⟩ => by
    subst e1; subst e2
    rw [List.length_cons] at e3
    refine ⟨_, _, rfl, ?_⟩
    have hin : bbX (dinX true (varX 5) (varX 2)) [some (.d (.list (cs.map cD))), some (.d (.list (g.map pD))), some (.c 0), none, some (.c 1), some (.d (.str p.1)), some (.d (vD p.2))] [.dic (sW (kindsW cs)), .lst ((met.map PyData.str).map W.d)] = some (!(kindOf cs p.1).isSome, [.dic (sW (kindsW cs)), .lst ((met.map PyData.str).map W.d)]) := by
      refine (bb_n (din_n (k := .str p.1) (kvs := sW (kindsW cs)) rfl rfl rfl (fits_s _ _))).trans ?_
      rw [look_s, find_kinds]
      unfold kindOf
      cases cs.find? fun c => decide (c.name = p.1) <;> rfl
    have hmem : bbX (op2X (memW false) (varX 5) (varX 4)) [some (.d (.list (cs.map cD))), some (.d (.list (g.map pD))), some (.c 0), none, some (.c 1), some (.d (.str p.1)), some (.d (vD p.2))] [.dic (sW (kindsW cs)), .lst ((met.map PyData.str).map W.d)] = some (decide (p.1 ∈ met), [.dic (sW (kindsW cs)), .lst ((met.map PyData.str).map W.d)]) := by
      refine bb_n (op2_n (a := .d (.str p.1)) (b := .c 1) rfl rfl ?_)
      have h1 := mem_strs [.dic (sW (kindsW cs)), .lst ((met.map PyData.str).map W.d)] p.1 met
      unfold memW at h1 ⊢
      have h2 : snap [.dic (sW (kindsW cs)), .lst ((met.map PyData.str).map W.d)] (.c 1) = some (.list (met.map PyData.str)) := by
        show (match datas [.dic (sW (kindsW cs)), .lst ((met.map PyData.str).map W.d)] ((met.map PyData.str).map W.d) with
          | some ds => some (PyData.list ds)
          | none => none) = _
        rw [datas_d]
      rw [h2]
      exact h1
    unfold givStep
    cases hk0 : kindOf cs p.1 with
    | none =>
      rw [hk0] at hin
      exact ⟨_, _, seqX_r ((ifS_b hin).trans rfl)⟩
    | some k =>
      rw [hk0] at hin
      have hlook : lookD (sW (kindsW cs)) (.str p.1) = some (.d (.str k)) := by
        rw [look_s, find_kinds]
        unfold kindOf at hk0
        cases hf : cs.find? fun c => decide (c.name = p.1) with
        | none => rw [hf] at hk0; cases hk0
        | some c => rw [hf] at hk0; cases hk0; rfl
      have hk : bbX (op2X neW (op1X (isaW "str") (varX 6)) (op2X eqW (dgetX (varX 2) (varX 5)) (conX (.str "text")))) [some (.d (.list (cs.map cD))), some (.d (.list (g.map pD))), some (.c 0), none, some (.c 1), some (.d (.str p.1)), some (.d (vD p.2))] [.dic (sW (kindsW cs)), .lst ((met.map PyData.str).map W.d)] = some (!decide (decide (k = "text") = p.2.isText), [.dic (sW (kindsW cs)), .lst ((met.map PyData.str).map W.d)]) := by
        refine (bb_n (op2_n (op1_n (fa := varX 6) (show varX 6 _ _ = some (.d (vD p.2), _) from rfl) (isa_str _ p.2)) (op2_n (dget_n (k := .str p.1) (v := .d (.str k)) (kvs := sW (kindsW cs)) rfl rfl rfl (fits_s _ _) hlook) rfl (show _ = some (W.d (.bool (decide (k = "text"))), _) from rfl)) (show neW _ (.d (.bool p.2.isText)) (.d (.bool (decide (k = "text")))) = some (.d (.bool (!decide (p.2.isText = decide (k = "text")))), _) from rfl))).trans ?_
        cases p.2.isText <;> cases decide (k = "text") <;> rfl
      dsimp only
      by_cases hm : p.1 ∈ met
      · rw [if_pos hm]
        rw [decide_eq_true hm] at hmem
        exact ⟨_, _, (seqX_n (ret_iff hin)).trans (seqX_r ((ifS_b hmem).trans rfl))⟩
      · rw [if_neg hm]
        rw [decide_eq_false hm] at hmem
        by_cases hkk : (!decide (decide (k = "text") = p.2.isText)) = true
        · rw [if_pos hkk]
          rw [hkk] at hk
          exact ⟨_, _, (seqX_n (ret_iff hin)).trans ((seqX_n (ret_iff hmem)).trans (seqX_r ((ifS_b hk).trans rfl)))⟩
        · rw [if_neg hkk]
          rw [Bool.eq_false_iff.mpr hkk] at hk
          have happ := app_d (fo := varX 4) (fa := consX (varX 5) nilX) (env := [some (.d (.list (cs.map cD))), some (.d (.list (g.map pD))), some (.c 0), none, some (.c 1), some (.d (.str p.1)), some (.d (vD p.2))]) (S := [.dic (sW (kindsW cs)), .lst ((met.map PyData.str).map W.d)]) (n := 1) (xs := (met.map PyData.str).map W.d) (y := .d (.str p.1)) rfl rfl rfl rfl (by simp; omega)
          refine ⟨.next, _, _, (seqX_n (ret_iff hin)).trans ((seqX_n (ret_iff hmem)).trans ((seqX_n (ret_iff hk)).trans (dropX_n happ))), .inl rfl, ⟨_, _, rfl, ?_, ?_⟩⟩
          · simp
          · rw [List.length_append, List.length_cons, List.length_nil]; omega) g [] [some (.d (.list (cs.map cD))), some (.d (.list (g.map pD))), some (.c 0), none, some (.c 1), none, none] [.dic (sW (kindsW cs)), .lst []] ⟨none, none, rfl, rfl, by simpa using hg⟩
  unfold givRes
  cases hf : foldE (givStep (kindOf cs)) [] g with
  | ok m =>
    rw [hf] at key
    obtain ⟨e2, S2, h1, _⟩ := key
    exact rets_seq ((forX_l (seqI_m pD g rfl)).trans h1) (rets_ret rfl)
  | error x =>
    rw [hf] at key
    obtain ⟨e2, S2, h1⟩ := key
    exact rets_seqr ⟨e2, S2, (forX_l (seqI_m pD g rfl)).trans h1⟩
end K02

/-! KL: books sorted. -/
namespace K02
open PySem PySem.Spec PyProof.Rows L2 Y Z PySem.W
def kLe (x y : (Int × Int) × Val) : Bool := sortLe (listOrd itemOrd) false (fun p : (Int × Int) × Val => keyToks (kT p.1)) x y
def sortB (b : Bk) : Bk := b.mergeSort kLe
theorem sort_book (b : Bk) : sortP (bookP b) = bookP (sortB b) := by
  unfold sortP bookP sortB
  exact (List.map_mergeSort (r := kLe) (s := dataLe false (Prod.fst : PyData × PyData → PyData)) (f := fun p : (Int × Int) × Val => (kT p.1, vD p.2)) (l := b) fun _ _ _ _ => rfl).symm
theorem kLe_tot : TotalLe kLe := sortLe_total (listOrd itemOrd) false _
theorem toks_inj {a b : Int × Int} (h : keyToks (kT a) = keyToks (kT b)) : a = b := by
  obtain ⟨a1, a2⟩ := a
  obtain ⟨b1, b2⟩ := b
  simp only [kT, keyToks, keyToksAll, List.cons_append, List.nil_append, List.cons.injEq, Sum.inl.injEq, and_true, true_and] at h
  rw [h.1, h.2]
theorem sort_uniqG {α : Type} (le : α → α → Bool) : ∀ {l1 l2 : List α}, l1.Perm l2 → l1.Pairwise (fun a b => le a b = true) → l2.Pairwise (fun a b => le a b = true) → (∀ a ∈ l1, ∀ b ∈ l1, le a b = true → le b a = true → a = b) → l1 = l2
  | [], l2, p, _, _, _ => (List.nil_perm.mp p).symm
  | a :: l1, [], p, _, _, _ => absurd p.length_eq (by simp)
  | a :: l1, b :: l2, p, h1, h2, an => by
    have ha : a ∈ b :: l2 := p.mem_iff.mp List.mem_cons_self
    have hb : b ∈ a :: l1 := p.mem_iff.mpr List.mem_cons_self
    obtain ⟨g1, g1'⟩ := List.pairwise_cons.mp h1
    obtain ⟨g2, g2'⟩ := List.pairwise_cons.mp h2
    have e : a = b := by
      rcases List.mem_cons.mp hb with e | hb
      · exact e.symm
      · rcases List.mem_cons.mp ha with e | ha
        · exact e
        · exact an a List.mem_cons_self b (List.mem_cons_of_mem _ hb) (g1 b hb) (g2 a ha)
    subst e
    rw [sort_uniqG le p.cons_inv g1' g2' fun x hx y hy => an x (List.mem_cons_of_mem _ hx) y (List.mem_cons_of_mem _ hy)]
theorem nodup_key {b : Bk} (nd : (b.map (·.1)).Nodup) {x y : (Int × Int) × Val} (hx : x ∈ b) (hy : y ∈ b) (e : x.1 = y.1) : x = y := by
  induction b with
  | nil => cases hx
  | cons p b ih =>
    rw [List.map_cons, List.nodup_cons] at nd
    rcases List.mem_cons.mp hx with ex | hx2
    · rcases List.mem_cons.mp hy with ey | hy2
      · rw [ex, ey]
      · exact absurd (List.mem_map.mpr ⟨y, hy2, by rw [← e, ex]⟩) nd.1
    · rcases List.mem_cons.mp hy with ey | hy2
      · exact absurd (List.mem_map.mpr ⟨x, hx2, by rw [e, ey]⟩) nd.1
      · exact ih nd.2 hx2 hy2
theorem sortB_perm {b c : Bk} (p : b.Perm c) (nd : (b.map (·.1)).Nodup) : sortB b = sortB c := by
  have pb : (sortB b).Perm b := List.mergeSort_perm _ _
  have pc : (sortB c).Perm c := List.mergeSort_perm _ _
  refine sort_uniqG kLe ((pb.trans p).trans pc.symm) (sort_pairwise kLe_tot b) (sort_pairwise kLe_tot c) fun x hx y hy h1 h2 => ?_
  refine nodup_key nd (pb.mem_iff.mp hx) (pb.mem_iff.mp hy) (toks_inj ?_)
  have h1 : (!(listOrd itemOrd).blt (keyToks (kT y.1)) (keyToks (kT x.1))) = true := h1
  have h2 : (!(listOrd itemOrd).blt (keyToks (kT x.1)) (keyToks (kT y.1))) = true := h2
  rw [Bool.not_eq_true'] at h1 h2
  exact (listOrd itemOrd).total _ _ h2 h1
theorem sortB_nodup {b : Bk} (nd : (b.map (·.1)).Nodup) : ((sortB b).map (·.1)).Nodup := ((List.mergeSort_perm b kLe).map _).nodup_iff.mpr nd
theorem pairs_ok {b : Bk} (nd : (b.map (·.1)).Nodup) : PairsOk (bookP b) := by
  have hk : ∀ a c : Int × Int, alike (kT a) (kT c) = true := fun _ _ => rfl
  have mem : ∀ d ∈ bookP b, ∃ p ∈ b, d = (kT p.1, vD p.2) := fun d hd => by
    obtain ⟨p, hp, rfl⟩ := List.mem_map.mp hd
    exact ⟨p, hp, rfl⟩
  refine ⟨?_, ⟨fun d hd e he => ?_, fun d hd e he h => ?_, fun d hd => ?_, fun d hd => ?_⟩, fun d hd => ?_⟩
  · have gen : ∀ b : Bk, PyData.hasDictAll ((bookP b).map Z.prD) = false := by
      intro b
      induction b with
      | nil => rfl
      | cons p b ih =>
        have : PyData.hasDict (Z.prD (kT p.1, vD p.2)) = false := by
          obtain ⟨k, v⟩ := p
          cases v <;> rfl
        show (PyData.hasDict (Z.prD (kT p.1, vD p.2)) || PyData.hasDictAll ((bookP b).map Z.prD)) = false
        rw [this, ih]
        rfl
    exact gen b
  · obtain ⟨p, _, rfl⟩ := mem d hd
    obtain ⟨q, _, rfl⟩ := mem e he
    exact hk _ _
  · obtain ⟨p, hp, rfl⟩ := mem d hd
    obtain ⟨q, hq, rfl⟩ := mem e he
    have h : PyData.eqv (kT p.1) (kT q.1) = true := h
    rw [kT_eqv] at h
    rw [nodup_key nd hp hq (of_decide_eq_true h)]
  · obtain ⟨p, _, rfl⟩ := mem d hd
    obtain ⟨k, v⟩ := p
    cases v <;> rfl
  · obtain ⟨p, _, rfl⟩ := mem d hd
    exact fun z => nomatch z
  · obtain ⟨p, _, rfl⟩ := mem d hd
    obtain ⟨k, v⟩ := p
    refine ⟨?_, ?_⟩
    · show PyData.depth (kT k) ≤ 50
      rw [show PyData.depth (kT k) = 1 from rfl]
      decide
    · show PyData.depth (vD v) ≤ 50
      cases v
      · exact Nat.le_trans (Nat.le_of_eq (show PyData.depth (.int _) = 0 from rfl)) (by decide)
      · exact Nat.le_trans (Nat.le_of_eq (show PyData.depth (.str _) = 0 from rfl)) (by decide)
theorem rec_book (b : Bk) : (bookP b).map Z.prD = b.map fun p => .tuple [kT p.1, vD p.2] := by
  unfold bookP
  rw [List.map_map]
  rfl
end K02

/-! KM: what is written. -/
namespace K02
open PySem PySem.Spec PyProof.Rows L2 Y Z
def gS (g : Gv) : List (Str × PyData) := g.map fun p => (p.1, vD p.2)
def gP (g : Gv) : List (PyData × PyData) := g.map fun p => (.str p.1, vD p.2)
def told (g : Gv) (n : Str) : Option Val := (g.find? fun p => decide (p.1 = n)).map (·.2)
def unsh (c : Col) (v : Val) : Option Val := if c.kind = "int" then (match v with
  | .int i => some (.int (i - c.shift))
  | _ => none) else some v
def wr1 (g : Gv) (c : Col) : Bk := match told g c.name with
  | none => []
  | some v => [((c.birth, c.tag), (unsh c v).getD (.int 0))]
def writ (g : Gv) (cs : List Col) : Bk := cs.flatMap (wr1 g)
theorem pairs_given : ∀ g : Gv, pairsW ((g.map pD).map W.d) = some (gP g)
  | [] => rfl
  | p :: g => by
    rw [List.map_cons, List.map_cons]
    unfold pairsW
    rw [pairs_given g]
    rfl
theorem dict_given {fa : FE} {env : Z.Env} {S S1 : Store} (g : Gv) (nd : (g.map (·.1)).Nodup) (h : fa env S = some (.d (.list (g.map pD)), S1)) : argX dictW (consX fa nilX) env S = some (.c S1.length, S1 ++ [.dic (sW (gS g))]) := by
  refine arg_n (cons_n h rfl) ?_
  show (match pairsW ((g.map pD).map W.d) with
    | some ps => if ((ps.all fun p => (leafK p.1).isSome) || (ps.all fun p => goodTup p.1)) = true then some (W.c S1.length, S1 ++ [Cell.dic (putsD [] (wpairs ps))]) else none
    | none => none) = _
  rw [pairs_given]
  dsimp only
  have h1 : (gP g).all (fun p => (leafK p.1).isSome) = true := by
    rw [List.all_eq_true]
    intro x hx
    obtain ⟨p, _, rfl⟩ := List.mem_map.mp hx
    rfl
  rw [if_pos (by rw [h1, Bool.true_or])]
  have : wpairs (gP g) = sW (gS g) := by unfold wpairs gP sW gS; rw [List.map_map, List.map_map]; rfl
  rw [this, show putsD [] (sW (gS g)) = putsD (sW []) (sW (gS g)) from rfl, putsS (gS g) [] (by simpa [gS, List.map_map, Function.comp_def] using nd), List.nil_append]
theorem kv_given (S : Store) : ∀ g : Gv, kvData S (sW (gS g)) = some (gP g)
  | [] => rfl
  | p :: g => by
    show kvData S ((PyData.str p.1, W.d (vD p.2)) :: sW (gS g)) = some ((PyData.str p.1, vD p.2) :: gP g)
    unfold kvData
    rw [kv_given S g]
    rfl
theorem frz_given {fa : FE} {env : Z.Env} {S S1 : Store} (g : Gv) (h : fa env S = some (.c S1.length, S1 ++ [.dic (sW (gS g))])) : frzDX fa env S = some (.d (.dict (gP g)), S1 ++ [.frz (.dict (gP g))]) := by
  unfold frzDX
  rw [h]
  dsimp only
  rw [List.getElem?_append_right (Nat.le_refl _), Nat.sub_self]
  dsimp only [List.getElem?_cons_zero]
  rw [kv_given]
  dsimp only
  rw [List.set_append_right _ _ (Nat.le_refl _), Nat.sub_self]
  rfl
theorem dict_told (S : Store) (g : Gv) : dictOf S (.d (.dict (gP g))) = some (sW (gS g)) := by
  show some ((gP g).map fun p => (p.1, W.d p.2)) = _
  unfold gP sW gS
  rw [List.map_map, List.map_map]
  rfl
theorem look_told (g : Gv) (n : Str) : lookD (sW (gS g)) (.str n) = (told g n).map fun v => W.d (vD v) := by
  rw [look_s]
  unfold gS told
  rw [List.find?_map]
  show ((g.find? fun p => decide (p.1 = n)).map _).map _ = ((g.find? fun p => decide (p.1 = n)).map _).map _
  cases g.find? fun p => decide (p.1 = n) <;> rfl
def bp (p : (Int × Int) × Val) : PyData := .tuple [kT p.1, vD p.2]
def IW (d1 d2 : W) (g : Gv) (xs : List Col) (acc : Bk) (env : Z.Env) (S : Store) : Prop := ∃ y1 y2 y3 y4 y5 y6, env = [some d1, some d2, some (.d (.dict (gP g))), some (.c 1), y1, y2, y3, y4, y5, y6] ∧ S = [.frz (.dict (gP g)), .lst ((acc.map bp).map W.d)] ∧ acc.length + xs.length < 64 ∧ ∀ c ∈ xs, ∀ v, told g c.name = some v → (unsh c v).isSome = true
theorem r_written (cs : List Col) (g : Gv) (hl : cs.length < 64) (hg : g.length < 64) (nd : (g.map (·.1)).Nodup) (hv : ∀ c ∈ cs, ∀ v, told g c.name = some v → (unsh c v).isSome = true) (ndk : ((writ g cs).map (·.1)).Nodup) : ∃ S, fn_written [.d (.list (cs.map cD)), .d (.list (g.map pD))] [] = some (.d (recD (sortB (writ g cs))), S) := by
  refine ⟨_, rets_fn rfl ?_⟩
  unfold b_written pk_written
  dsimp only
  have hb := big
  refine rets_seq (asgX_n (frz_given (S1 := []) g (dict_given (S1 := []) (fa := varX 1) g nd rfl)) rfl) ?_
  refine rets_seq (e1 := [some (.d (.list (cs.map cD))), some (.d (.list (g.map pD))), some (.d (.dict (gP g))), some (.c 1), none, none, none, none, none, none]) (S1 := [.frz (.dict (gP g)), .lst []]) rfl ?_
  have key := for_fold (fun c => W.d (cD c)) (fun acc c => acc ++ wr1 g c) (IW (.d (.list (cs.map cD))) (.d (.list (g.map pD))) g) (gd := none) (tg := tupG 6 (gConsX (nameG 4) (gConsX (nameG 5) (gConsX (nameG 6) (gConsX (nameG 7) (gConsX (nameG 8) (gConsX (nameG 9) gNilX)))))))
    (body := ifS (bbX (dinX false (varX 6) (varX 2))) (dropX (bmX appW (varX 3) (consX (argX newT (consX (argX newT (consX (varX 4) (consX (varX 5) nilX))) (consX (ifX (bbX (op2X eqW (varX 7) (conX (.str "int")))) (op2X (numX subI) (dgetX (varX 2) (varX 6)) (varX 9)) (dgetX (varX 2) (varX 6))) nilX))) nilX))) skipX) (fun _ _ _ _ _ => True.intro) (fun acc c xs env S ⟨y1, y2, y3, y4, y5, y6, e1, e2, e3, e4⟩ => by
    subst e1; subst e2
    rw [List.length_cons] at e3
    refine ⟨_, _, rfl, ?_⟩
    have hin : bbX (dinX false (varX 6) (varX 2)) [some (.d (.list (cs.map cD))), some (.d (.list (g.map pD))), some (.d (.dict (gP g))), some (.c 1), some (.d (.int c.birth)), some (.d (.int c.tag)), some (.d (.str c.name)), some (.d (.str c.kind)), some (.d (vD c.dflt)), some (.d (.int c.shift))] [.frz (.dict (gP g)), .lst ((acc.map bp).map W.d)] = some ((told g c.name).isSome, [.frz (.dict (gP g)), .lst ((acc.map bp).map W.d)]) := by
      refine (bb_n (din_n (k := .str c.name) (kvs := sW (gS g)) rfl rfl (dict_told _ g) (fits_s _ _))).trans ?_
      rw [look_told]
      cases told g c.name <;> rfl
    unfold wr1
    cases ht : told g c.name with
    | none =>
      rw [ht] at hin
      refine ⟨.next, _, _, ret_iff hin, .inl rfl, ⟨_, _, _, _, _, _, rfl, by rw [List.append_nil], by rw [List.append_nil]; omega, fun c' hc => e4 c' (List.mem_cons_of_mem _ hc)⟩⟩
    | some v =>
      rw [ht] at hin
      obtain ⟨u, hu⟩ := Option.isSome_iff_exists.mp (e4 c List.mem_cons_self v ht)
      have hget : dgetX (varX 2) (varX 6) [some (.d (.list (cs.map cD))), some (.d (.list (g.map pD))), some (.d (.dict (gP g))), some (.c 1), some (.d (.int c.birth)), some (.d (.int c.tag)), some (.d (.str c.name)), some (.d (.str c.kind)), some (.d (vD c.dflt)), some (.d (.int c.shift))] [.frz (.dict (gP g)), .lst ((acc.map bp).map W.d)] = some (.d (vD v), [.frz (.dict (gP g)), .lst ((acc.map bp).map W.d)]) := dget_n (k := .str c.name) (kvs := sW (gS g)) rfl rfl (dict_told _ g) (fits_s _ _) (by rw [look_told, ht]; rfl)
      have hval : ifX (bbX (op2X eqW (varX 7) (conX (.str "int")))) (op2X (numX subI) (dgetX (varX 2) (varX 6)) (varX 9)) (dgetX (varX 2) (varX 6)) [some (.d (.list (cs.map cD))), some (.d (.list (g.map pD))), some (.d (.dict (gP g))), some (.c 1), some (.d (.int c.birth)), some (.d (.int c.tag)), some (.d (.str c.name)), some (.d (.str c.kind)), some (.d (vD c.dflt)), some (.d (.int c.shift))] [.frz (.dict (gP g)), .lst ((acc.map bp).map W.d)] = some (.d (vD u), [.frz (.dict (gP g)), .lst ((acc.map bp).map W.d)]) := by
        unfold unsh at hu
        by_cases hk : c.kind = "int"
        · rw [if_pos hk] at hu
          refine if_t (S1 := [.frz (.dict (gP g)), .lst ((acc.map bp).map W.d)]) (by rw [show bbX (op2X eqW (varX 7) (conX (.str "int"))) _ [.frz (.dict (gP g)), .lst ((acc.map bp).map W.d)] = some (decide (c.kind = "int"), [.frz (.dict (gP g)), .lst ((acc.map bp).map W.d)]) from rfl, decide_eq_true hk]) ?_
          cases v with
          | int i =>
            cases hu
            exact op2_n hget rfl rfl
          | text x => cases hu
        · rw [if_neg hk] at hu
          cases hu
          exact if_f (S1 := [.frz (.dict (gP g)), .lst ((acc.map bp).map W.d)]) (by rw [show bbX (op2X eqW (varX 7) (conX (.str "int"))) _ [.frz (.dict (gP g)), .lst ((acc.map bp).map W.d)] = some (decide (c.kind = "int"), [.frz (.dict (gP g)), .lst ((acc.map bp).map W.d)]) from rfl, decide_eq_false hk]) hget
      have happ := app_d (fo := varX 3) (fa := consX (argX newT (consX (argX newT (consX (varX 4) (consX (varX 5) nilX))) (consX (ifX (bbX (op2X eqW (varX 7) (conX (.str "int")))) (op2X (numX subI) (dgetX (varX 2) (varX 6)) (varX 9)) (dgetX (varX 2) (varX 6))) nilX))) nilX) (env := [some (.d (.list (cs.map cD))), some (.d (.list (g.map pD))), some (.d (.dict (gP g))), some (.c 1), some (.d (.int c.birth)), some (.d (.int c.tag)), some (.d (.str c.name)), some (.d (.str c.kind)), some (.d (vD c.dflt)), some (.d (.int c.shift))]) (S := [.frz (.dict (gP g)), .lst ((acc.map bp).map W.d)]) (n := 1) (xs := (acc.map bp).map W.d) (y := .d (bp ((c.birth, c.tag), u))) rfl rfl (cons_n (arg_n (cons_n (a := .d (kT (c.birth, c.tag))) rfl (cons_n hval rfl)) rfl) rfl) rfl (by simp; omega)
      refine ⟨.next, _, _, (ifS_b hin).trans ((if_pos rfl).trans (dropX_n happ)), .inl rfl, ⟨_, _, _, _, _, _, rfl, ?_, ?_, fun c' hc => e4 c' (List.mem_cons_of_mem _ hc)⟩⟩
      · dsimp only; rw [hu]; simp
      · rw [List.length_append, List.length_cons, List.length_nil]; omega) cs [] [some (.d (.list (cs.map cD))), some (.d (.list (g.map pD))), some (.d (.dict (gP g))), some (.c 1), none, none, none, none, none, none] [.frz (.dict (gP g)), .lst []] ⟨none, none, none, none, none, none, rfl, rfl, by simpa using hl, hv⟩
  obtain ⟨e2, S2, h1, y1, y2, y3, y4, y5, y6, rfl, rfl, _⟩ := key
  rw [show cs.foldl (fun acc c => acc ++ wr1 g c) [] = writ g cs by unfold writ; rw [List.flatMap_eq_foldl]] at h1
  refine rets_seq ((forX_l (seqI_m cD cs rfl)).trans h1) ?_
  refine rets_ret (S1 := [.frz (.dict (gP g)), .lst (((writ g cs).map bp).map W.d)]) (arg_n (as := [.c 1]) (S1 := [.frz (.dict (gP g)), .lst (((writ g cs).map bp).map W.d)]) rfl ?_)
  have hs : sortPW newL [.frz (.dict (gP g)), .lst (((writ g cs).map bp).map W.d)] [.c 1] = some (.d (recD (sortB (writ g cs))), [.frz (.dict (gP g)), .lst (((writ g cs).map bp).map W.d)]) := by
    have h2 : pairsW (((writ g cs).map bp).map W.d) = some (bookP (writ g cs)) := pairs_rec (writ g cs)
    unfold sortPW
    dsimp only [itemsL, List.getElem?_cons_succ, List.getElem?_cons_zero]
    rw [h2]
    dsimp only
    rw [if_pos (pairs_ok ndk), sort_book]
    have h3 : (bookP (sortB (writ g cs))).map (fun p => W.d (Z.prD p)) = ((sortB (writ g cs)).map bp).map W.d := by
      unfold bookP
      rw [List.map_map, List.map_map]
      rfl
    rw [h3]
    refine newL_d _ ?_
    have hlw : ∀ cs : List Col, (writ g cs).length ≤ cs.length := by
      intro cs
      induction cs with
      | nil => exact Nat.le_refl _
      | cons c cs ih =>
        have : (wr1 g c).length ≤ 1 := by unfold wr1; split <;> simp
        unfold writ at ih ⊢
        rw [List.flatMap_cons, List.length_append, List.length_cons]
        omega
    have := hlw cs
    unfold sortB
    rw [List.length_map, List.length_mergeSort]
    omega
  show (sortPW newL _ [.c 1]).or _ = _
  rw [hs]
  rfl
end K02

/-! KN: records new, records set; the law's book. -/
namespace K02
open PySem PySem.Spec PyProof.Rows L2 Y Z
def dfl (c : Col) : Val := (shiftV c c.dflt).getD (.int 0)
def rowsG (g : Gv) (cs : List Col) : Gv := cs.map fun c => (c.name, (told g c.name).getD (dfl c))
theorem comp_any {α : Type} (a : α → W) (b : α → PyData) {tg : FG} {te : FE} {env : Z.Env} : ∀ (xs : List α) (S : Store), (∀ x ∈ xs, ∀ S, ∃ e1 S2, tg (a x) env S = some (e1, S) ∧ te e1 S = some (.d (b x), S2)) → ∃ S', compL none tg yesT te env (xs.map a) S = some (xs.map (fun x => W.d (b x)), S')
  | [], S, _ => ⟨S, comp_nil (gd := none) (S := S) True.intro⟩
  | x :: xs, S, h => by
    obtain ⟨e1, S2, h1, h2⟩ := h x List.mem_cons_self S
    obtain ⟨S', h3⟩ := comp_any a b xs S2 fun y hy => h y (List.mem_cons_of_mem _ hy)
    exact ⟨S', comp_yes (gd := none) (S := S) True.intro h1 rfl h2 h3⟩
theorem get2_g {fd fk fz : FE} {env : Z.Env} {S S2 : Store} {z : W} {k : PyData} {ds : List (PyData × PyData)} {kvs : List (PyData × W)} (h1 : fd env S = some (.d (.dict ds), S)) (h3 : ∀ S, dictOf S (.d (.dict ds)) = some kvs) (h2 : fk env S = some (.d k, S)) (hz : fz env S = some (z, S2)) (h4 : keyFits k kvs = true) : get2X fd fk fz env S = some ((lookD kvs k).getD z, S2) := by
  unfold get2X
  rw [h1]
  dsimp only
  rw [h3, if_pos (show (some kvs).isSome = true from rfl)]
  rw [h2]
  dsimp only
  rw [hz]
  dsimp only
  unfold getX
  rw [h3, show Z.dataOf S2 (.d k) = some k from rfl]
  dsimp only
  rw [if_pos h4]
theorem new_frz (env : Z.Env) (S : Store) : frzDX dnewX env S = some (.d (.dict (bookP [])), S ++ [.frz (.dict [])]) := by
  have : dnewX env S = some (.c S.length, S ++ [.dic (bookW [])]) := rfl
  exact frz_new [] this
theorem r_new_record (rs : List Raw) (ss : List Stp) (n : Nat) (g : Gv) (hn : n ≤ ss.length) (hl : rs.length + ss.length < 60) (nd : ((stateAt rs ss n).map (·.tag)).Nodup) (ndn : ((srt (stateAt rs ss n)).map (·.name)).Nodup) (hg : g.length < 64) (ndg : (g.map (·.1)).Nodup)
    (hd : ∀ c ∈ stateAt rs ss n, (shiftV c c.dflt).isSome = true) (hv : ∀ c ∈ srt (stateAt rs ss n), ∀ v, told (rowsG g (srt (stateAt rs ss n))) c.name = some v → (unsh c v).isSome = true) (ndk : ((writ (rowsG g (srt (stateAt rs ss n))) (srt (stateAt rs ss n))).map (·.1)).Nodup) :
    ∃ S, fn_new_record [.d (tD rs ss), .d (.int n), .d (.list (g.map pD))] [] = some (.d (recD (sortB (writ (rowsG g (srt (stateAt rs ss n))) (srt (stateAt rs ss n))))), S) := by
  refine ⟨_, rets_fn rfl ?_⟩
  unfold b_new_record pk_new_record
  dsimp only
  have hb := big
  have hlen : (srt (stateAt rs ss n)).length < 64 := by
    have := run_len (ss.take n) (rs.map (bornC · 0)) 0
    simp only [List.length_map, List.length_take] at this
    rw [srt_len]
    unfold stateAt
    omega
  have hmem : ∀ c ∈ srt (stateAt rs ss n), c ∈ stateAt rs ss n := fun c hc => by unfold srt at hc; exact (List.mergeSort_perm _ _).mem_iff.mp hc
  refine rets_seq (asgX_n (call_d (ds := [tD rs ss, .int n]) rfl (r_columns_at rs ss n hn hl nd)) rfl) ?_
  generalize hcs : srt (stateAt rs ss n) = cs at *
  refine rets_seq (asgX_n (frz_given (S1 := []) g (dict_given (S1 := []) (fa := varX 2) g ndg rfl)) rfl) ?_
  have hdf : ∀ c ∈ cs, shiftV c (got [] c) = some (dfl c) := fun c hc => by
    obtain ⟨v, hv⟩ := Option.isSome_iff_exists.mp (hd c (hmem c hc))
    show shiftV c c.dflt = _
    unfold dfl
    rw [hv]
    rfl
  have hrows : ∃ S', lcX newL [6] (seqI (varX 3)) (nameG 6) yesT (argX newT (consX (op2X ixW (varX 6) (conX (.int 2))) (consX (get2X (varX 4) (op2X ixW (varX 6) (conX (.int 2))) (callL [] fn_value_at (consX (frzDX dnewX) (consX (varX 6) nilX)))) nilX))) [some (.d (tD rs ss)), some (.d (.int n)), some (.d (.list (g.map pD))), some (.d (.list (cs.map cD))), some (.d (.dict (gP g))), none, none] [.frz (.dict (gP g))] = some (.d (.list ((rowsG g cs).map pD)), S') := by
    obtain ⟨S', h⟩ := comp_any (fun c => W.d (cD c)) (fun c => pD (c.name, (told g c.name).getD (dfl c))) (tg := nameG 6) (te := argX newT (consX (op2X ixW (varX 6) (conX (.int 2))) (consX (get2X (varX 4) (op2X ixW (varX 6) (conX (.int 2))) (callL [] fn_value_at (consX (frzDX dnewX) (consX (varX 6) nilX)))) nilX))) (env := [some (.d (tD rs ss)), some (.d (.int n)), some (.d (.list (g.map pD))), some (.d (.list (cs.map cD))), some (.d (.dict (gP g))), none, none]) cs [.frz (.dict (gP g))] (fun c hc S => by
      refine ⟨_, S ++ [.frz (.dict [])], rfl, ?_⟩
      have hva := call_d (f := fn_value_at) (fa := consX (frzDX dnewX) (consX (varX 6) nilX)) (env := [some (.d (tD rs ss)), some (.d (.int n)), some (.d (.list (g.map pD))), some (.d (.list (cs.map cD))), some (.d (.dict (gP g))), none, some (.d (cD c))]) (S := S) (ds := [.dict (bookP []), cD c]) (cons_n (new_frz _ S) rfl) (r_value_at [] c (dfl c) (hdf c hc))
      refine arg_n (cons_n (a := .d (.str c.name)) (S1 := S) rfl (cons_n (get2_g (k := .str c.name) rfl (fun S => dict_told S g) rfl hva (fits_s _ _)) rfl)) ?_
      rw [look_told]
      cases told g c.name <;> rfl)
    refine ⟨S', lc_n (seqI_m cD cs rfl) h ?_⟩
    have : cs.map (fun x => W.d (pD (x.name, (told g x.name).getD (dfl x)))) = ((rowsG g cs).map pD).map W.d := by
      unfold rowsG
      rw [List.map_map, List.map_map]
      rfl
    rw [this]
    exact newL_d _ (by unfold rowsG; rw [List.length_map, List.length_map]; omega)
  obtain ⟨S', hrows⟩ := hrows
  refine rets_seq (asgX_n hrows rfl) ?_
  obtain ⟨S, h⟩ := r_written cs (rowsG g cs) hlen (by unfold rowsG; rw [List.length_map]; exact hlen) (by unfold rowsG; rw [List.map_map]; exact ndn) hv ndk
  exact rets_ret (call_d (ds := [.list (cs.map cD), .list ((rowsG g cs).map pD)]) rfl h)
theorem sortIt_n {fo : FE} {env : Z.Env} {S S1 : Store} {w : W} (b : Bk) (ndb : (b.map (·.1)).Nodup) (h : fo env S = some (w, S1)) (hd : dictOf S1 w = some (bookW b)) : sortItX fo env S = some (.d (recD (sortB b)), S1) := by
  unfold sortItX
  rw [h]
  dsimp only
  rw [hd]
  dsimp only
  rw [kv_book]
  dsimp only
  rw [if_pos (pairs_ok ndb), sort_book, rec_book]
  rfl
theorem head_book (b : Bk) : headFits true (bookW b) = true := by cases b <;> rfl
theorem r_set_record (rs : List Raw) (ss : List Stp) (n : Nat) (b : Bk) (g : Gv) (hn : n ≤ ss.length) (hl : rs.length + ss.length < 60) (nd : ((stateAt rs ss n).map (·.tag)).Nodup) (hg : g.length < 64) (ndg : (g.map (·.1)).Nodup) (ndb : (b.map (·.1)).Nodup) (hb0 : b ≠ []) (hbl : b.length < 10000)
    (hv : ∀ c ∈ srt (stateAt rs ss n), ∀ v, told g c.name = some v → (unsh c v).isSome = true) (ndk : ((writ g (srt (stateAt rs ss n))).map (·.1)).Nodup) (ndp : ((puts b (sortB (writ g (srt (stateAt rs ss n))))).map (·.1)).Nodup) (hwl : (writ g (srt (stateAt rs ss n))).length < 10000) :
    ∃ S, fn_set_record [.d (tD rs ss), .d (.int n), .d (recD b), .d (.list (g.map pD))] [] = some (.d (recD (sortB (puts b (sortB (writ g (srt (stateAt rs ss n))))))), S) := by
  refine ⟨_, rets_fn rfl ?_⟩
  unfold b_set_record pk_set_record
  dsimp only
  have hb : (20000 : Nat) < sizeLine := by rw [sizeLine_eq]; decide
  have hlen : (srt (stateAt rs ss n)).length < 64 := by
    have := run_len (ss.take n) (rs.map (bornC · 0)) 0
    simp only [List.length_map, List.length_take] at this
    rw [srt_len]
    unfold stateAt
    omega
  refine rets_seq (asgX_n (dict_rec (S1 := []) (fa := varX 2) b ndb rfl) rfl) ?_
  obtain ⟨S, hw⟩ := r_written (srt (stateAt rs ss n)) g hlen hg ndg hv ndk
  generalize hcs : writ g (srt (stateAt rs ss n)) = ws at *
  have h2 := dict_rec (fa := callL [] fn_written (consX (callL [] fn_columns_at (consX (varX 0) (consX (varX 1) nilX))) (consX (varX 3) nilX))) (env := [some (.d (tD rs ss)), some (.d (.int n)), some (.d (recD b)), some (.d (.list (g.map pD))), some (.c 0)]) (S := [.dic (bookW b)]) (S1 := [.dic (bookW b)]) (sortB ws) (sortB_nodup ndk) (call_d (ds := [.list ((srt (stateAt rs ss n)).map cD), .list (g.map pD)]) (cons_n (call_d (ds := [tD rs ss, .int n]) rfl (r_columns_at rs ss n hn hl nd)) rfl) hw)
  have hupd : updX (varX 4) (argX dictW (consX (callL [] fn_written (consX (callL [] fn_columns_at (consX (varX 0) (consX (varX 1) nilX))) (consX (varX 3) nilX))) nilX)) [some (.d (tD rs ss)), some (.d (.int n)), some (.d (recD b)), some (.d (.list (g.map pD))), some (.c 0)] [.dic (bookW b)] = some (.d .none, [.dic (bookW (puts b (sortB ws))), .dic (bookW (sortB ws))]) := by
    unfold updX
    rw [show varX 4 [some (.d (tD rs ss)), some (.d (.int n)), some (.d (recD b)), some (.d (.list (g.map pD))), some (.c 0)] [.dic (bookW b)] = some (.c 0, [.dic (bookW b)]) from rfl]
    dsimp only [dictOf, List.getElem?_cons_zero]
    rw [h2]
    dsimp only
    have : updW ([Cell.dic (bookW b)] ++ [Cell.dic (bookW (sortB ws))]) (.c 0) (.c [Cell.dic (bookW b)].length) = some [.dic (bookW (puts b (sortB ws))), .dic (bookW (sortB ws))] := by
      show (if otherW 0 (.c 1) = true ∧ (bookW b).length + (bookW (sortB ws)).length ≤ sizeLine ∧ ((headFits false (bookW b) = true ∧ headFits false (bookW (sortB ws)) = true ∧ bookW b ≠ [] ∧ bookW (sortB ws) ≠ []) ∨ (headFits true (bookW b) = true ∧ headFits true (bookW (sortB ws)) = true ∧ (bookW b ≠ [] ∨ apartD (bookW (sortB ws)) = true))) then some ([Cell.dic (bookW b), Cell.dic (bookW (sortB ws))].set 0 (.dic (putsD (bookW b) (bookW (sortB ws))))) else none) = _
      have q1 : (bookW b).length + (bookW (sortB ws)).length ≤ sizeLine := by
        unfold bookW sortB
        rw [List.length_map, List.length_map, List.length_mergeSort]
        omega
      have q2 : bookW b ≠ [] := by
        intro e
        apply hb0
        cases b with
        | nil => rfl
        | cons p b => cases e
      refine (if_pos ⟨rfl, q1, .inr ⟨head_book b, head_book _, .inl q2⟩⟩).trans ?_
      rw [puts_book]
      rfl
    rw [this]
  exact rets_seq (dropX_n hupd) (rets_ret (sortIt_n (puts b (sortB ws)) ndp (w := .c 0) rfl rfl))
end K02

/-! KO: the law's book is written. -/
namespace K02
open PySem PySem.Spec PyProof.Rows L2 Y Z
def lput1 (isnew : Bool) (g : Gv) (b : Bk) (c : Col) : Bk := match told g c.name with
  | some v => put b (c.birth, c.tag) ((unsh c v).getD (.int 0))
  | none => if isnew = true then put b (c.birth, c.tag) c.dflt else b
def lput (isnew : Bool) (g : Gv) (cs : List Col) (b : Bk) : Bk := cs.foldl (lput1 isnew g) b
theorem put_len (b : Bk) (k : Int × Int) (v : Val) : (put b k v).length ≤ b.length + 1 := by
  unfold put
  split
  · rw [List.length_map]; omega
  · rw [List.length_append, List.length_cons, List.length_nil]; omega
def IB (d1 : W) (d3 : W) (isnew : Bool) (g : Gv) (xs : List Col) (b : Bk) (env : Z.Env) (S : Store) : Prop := ∃ y1 y2 y3 y4 y5 y6, env = [some d1, some (.c 0), some d3, some (.d (.bool isnew)), some (.d (.dict (gP g))), y1, y2, y3, y4, y5, y6] ∧ S = [.dic (bookW b), .frz (.dict (gP g))] ∧ b.length + xs.length < 10000 ∧ ∀ c ∈ xs, ∀ v, told g c.name = some v → (unsh c v).isSome = true
theorem dset_book (b : Bk) (k : Int × Int) (v : Val) (L : Store) (hl : b.length < 10000) : dsetW (.dic (bookW b) :: L) (.c 0) (.d (kT k)) (.d (vD v)) = some (.dic (bookW (put b k v)) :: L) := by
  have hb : (20000 : Nat) < sizeLine := by rw [sizeLine_eq]; decide
  show (if keyFits (kT k) (bookW b) = true ∧ (bookW b).length < sizeLine then some ((Cell.dic (bookW b) :: L).set 0 (.dic (putD (bookW b) (kT k) (.d (vD v))))) else none) = _
  rw [if_pos ⟨fits_book k b, by unfold bookW; rw [List.length_map]; omega⟩, put_book]
  rfl
theorem r_lput (cs : List Col) (b : Bk) (g : Gv) (isnew : Bool) (hl : cs.length < 64) (hg : g.length < 64) (hbl : b.length < 9000) (nd : (cs.map (·.tag)).Nodup) (ndg : (g.map (·.1)).Nodup) (hv : ∀ c ∈ cs, ∀ v, told g c.name = some v → (unsh c v).isSome = true) :
    fn__law_put [.d (.list (cs.map lD)), .c 0, .d (.list (g.map pD)), .d (.bool isnew)] [.dic (bookW b)] = some (.c 0, [.dic (bookW (lput isnew g (srt cs) b)), .frz (.dict (gP g))]) := by
  refine ret_fn rfl ?_
  unfold b__law_put pk__law_put
  dsimp only
  have hb := big
  refine ret_seq (asgX_n (frz_given (S1 := [.dic (bookW b)]) g (dict_given (S1 := [.dic (bookW b)]) (fa := varX 2) g ndg rfl)) rfl) ?_
  have key := for_fold (fun c => W.d (cD c)) (lput1 isnew g) (IB (.d (.list (cs.map lD))) (.d (.list (g.map pD))) isnew g) (gd := none) (tg := tupG 6 (gConsX (nameG 5) (gConsX (nameG 6) (gConsX (nameG 7) (gConsX (nameG 8) (gConsX (nameG 9) (gConsX (nameG 10) gNilX)))))))
    (body := ifS (bbX (dinX false (varX 7) (varX 4))) (asgX (ifX (bbX (op2X eqW (varX 8) (conX (.str "int")))) (op2X (numX subI) (dgetX (varX 4) (varX 7)) (varX 10)) (dgetX (varX 4) (varX 7))) (subG dsetW (varX 1) (argX newT (consX (varX 5) (consX (varX 6) nilX)))))
      (ifS (bbX (varX 3)) (asgX (varX 9) (subG dsetW (varX 1) (argX newT (consX (varX 5) (consX (varX 6) nilX))))) skipX)) (fun _ _ _ _ _ => True.intro) (fun b c xs env S ⟨y1, y2, y3, y4, y5, y6, e1, e2, e3, e4⟩ => by
    subst e1; subst e2
    rw [List.length_cons] at e3
    refine ⟨_, _, rfl, ?_⟩
    have hin : bbX (dinX false (varX 7) (varX 4)) [some (.d (.list (cs.map lD))), some (.c 0), some (.d (.list (g.map pD))), some (.d (.bool isnew)), some (.d (.dict (gP g))), some (.d (.int c.birth)), some (.d (.int c.tag)), some (.d (.str c.name)), some (.d (.str c.kind)), some (.d (vD c.dflt)), some (.d (.int c.shift))] [.dic (bookW b), .frz (.dict (gP g))] = some ((told g c.name).isSome, [.dic (bookW b), .frz (.dict (gP g))]) := by
      refine (bb_n (din_n (k := .str c.name) (kvs := sW (gS g)) rfl rfl (dict_told _ g) (fits_s _ _))).trans ?_
      rw [look_told]
      cases told g c.name <;> rfl
    have hset : ∀ v : Val, subG dsetW (varX 1) (argX newT (consX (varX 5) (consX (varX 6) nilX))) (.d (vD v)) [some (.d (.list (cs.map lD))), some (.c 0), some (.d (.list (g.map pD))), some (.d (.bool isnew)), some (.d (.dict (gP g))), some (.d (.int c.birth)), some (.d (.int c.tag)), some (.d (.str c.name)), some (.d (.str c.kind)), some (.d (vD c.dflt)), some (.d (.int c.shift))] [.dic (bookW b), .frz (.dict (gP g))] = some ([some (.d (.list (cs.map lD))), some (.c 0), some (.d (.list (g.map pD))), some (.d (.bool isnew)), some (.d (.dict (gP g))), some (.d (.int c.birth)), some (.d (.int c.tag)), some (.d (.str c.name)), some (.d (.str c.kind)), some (.d (vD c.dflt)), some (.d (.int c.shift))], [.dic (bookW (put b (c.birth, c.tag) v)), .frz (.dict (gP g))]) := fun v => by
      show (match dsetW [.dic (bookW b), .frz (.dict (gP g))] (.c 0) (.d (kT (c.birth, c.tag))) (.d (vD v)) with
        | some S3 => some (_, S3)
        | none => none) = _
      rw [dset_book b (c.birth, c.tag) v _ (by omega)]
    have hstep : ∀ v, (put b (c.birth, c.tag) v).length + xs.length < 10000 := fun v => by
      have := put_len b (c.birth, c.tag) v
      omega
    unfold lput1
    cases ht : told g c.name with
    | none =>
      rw [ht] at hin
      dsimp only
      cases isnew with
      | true =>
        rw [if_pos rfl]
        refine ⟨.next, _, _, (ifS_b hin).trans ((if_neg Bool.false_ne_true).trans ((ifS_b (b := true) (S1 := [.dic (bookW b), .frz (.dict (gP g))]) rfl).trans ((if_pos rfl).trans (asgX_n (w := .d (vD c.dflt)) rfl (hset c.dflt))))), .inl rfl, ⟨_, _, _, _, _, _, rfl, rfl, hstep _, fun c' hc => e4 c' (List.mem_cons_of_mem _ hc)⟩⟩
      | false =>
        rw [if_neg Bool.false_ne_true]
        refine ⟨.next, _, _, (ifS_b hin).trans ((if_neg Bool.false_ne_true).trans (ret_iff (S1 := [.dic (bookW b), .frz (.dict (gP g))]) rfl)), .inl rfl, ⟨_, _, _, _, _, _, rfl, rfl, by omega, fun c' hc => e4 c' (List.mem_cons_of_mem _ hc)⟩⟩
    | some v =>
      rw [ht] at hin
      dsimp only
      obtain ⟨u, hu⟩ := Option.isSome_iff_exists.mp (e4 c List.mem_cons_self v ht)
      rw [hu]
      have hget : dgetX (varX 4) (varX 7) [some (.d (.list (cs.map lD))), some (.c 0), some (.d (.list (g.map pD))), some (.d (.bool isnew)), some (.d (.dict (gP g))), some (.d (.int c.birth)), some (.d (.int c.tag)), some (.d (.str c.name)), some (.d (.str c.kind)), some (.d (vD c.dflt)), some (.d (.int c.shift))] [.dic (bookW b), .frz (.dict (gP g))] = some (.d (vD v), [.dic (bookW b), .frz (.dict (gP g))]) := dget_n (k := .str c.name) (kvs := sW (gS g)) rfl rfl (dict_told _ g) (fits_s _ _) (by rw [look_told, ht]; rfl)
      have hval : ifX (bbX (op2X eqW (varX 8) (conX (.str "int")))) (op2X (numX subI) (dgetX (varX 4) (varX 7)) (varX 10)) (dgetX (varX 4) (varX 7)) [some (.d (.list (cs.map lD))), some (.c 0), some (.d (.list (g.map pD))), some (.d (.bool isnew)), some (.d (.dict (gP g))), some (.d (.int c.birth)), some (.d (.int c.tag)), some (.d (.str c.name)), some (.d (.str c.kind)), some (.d (vD c.dflt)), some (.d (.int c.shift))] [.dic (bookW b), .frz (.dict (gP g))] = some (.d (vD u), [.dic (bookW b), .frz (.dict (gP g))]) := by
        unfold unsh at hu
        by_cases hk : c.kind = "int"
        · rw [if_pos hk] at hu
          refine if_t (S1 := [.dic (bookW b), .frz (.dict (gP g))]) (by rw [show bbX (op2X eqW (varX 8) (conX (.str "int"))) _ [.dic (bookW b), .frz (.dict (gP g))] = some (decide (c.kind = "int"), [.dic (bookW b), .frz (.dict (gP g))]) from rfl, decide_eq_true hk]) ?_
          cases v with
          | int i =>
            cases hu
            exact op2_n hget rfl rfl
          | text x => cases hu
        · rw [if_neg hk] at hu
          cases hu
          exact if_f (S1 := [.dic (bookW b), .frz (.dict (gP g))]) (by rw [show bbX (op2X eqW (varX 8) (conX (.str "int"))) _ [.dic (bookW b), .frz (.dict (gP g))] = some (decide (c.kind = "int"), [.dic (bookW b), .frz (.dict (gP g))]) from rfl, decide_eq_false hk]) hget
      refine ⟨.next, _, _, (ifS_b hin).trans ((if_pos rfl).trans (asgX_n hval (hset u))), .inl rfl, ⟨_, _, _, _, _, _, rfl, rfl, hstep _, fun c' hc => e4 c' (List.mem_cons_of_mem _ hc)⟩⟩) (srt cs) b [some (.d (.list (cs.map lD))), some (.c 0), some (.d (.list (g.map pD))), some (.d (.bool isnew)), some (.d (.dict (gP g))), none, none, none, none, none, none] [.dic (bookW b), .frz (.dict (gP g))] ⟨none, none, none, none, none, none, rfl, rfl, by rw [srt_len]; omega, fun c hc => hv c (by unfold srt at hc; exact (List.mergeSort_perm _ _).mem_iff.mp hc)⟩
  obtain ⟨e2, S2, h1, y1, y2, y3, y4, y5, y6, rfl, rfl, _⟩ := key
  exact ret_seq ((forX_l (seqI_m cD (srt cs) (call_d (ds := [.list (cs.map lD)]) rfl (r_lrows cs hl nd)))).trans h1) (ret_ret rfl)
end K02

/-! KP: what is drawn. -/
namespace K02
open PySem PySem.Spec PyProof.Rows L2 Y Z
structure Dr where
  ns : List Int
  pos : Nat
  big : Int
  seed : Int
def Dr.ok (d : Dr) : Prop := 0 ≤ d.big ∧ 0 ≤ d.seed ∧ d.seed < 2147483647
def drW (d : Dr) : List W := [.d (.list (d.ns.map PyData.int)), .d (.int d.pos), .d (.int d.big), .d (.int d.seed)]
def drC (d : Dr) : Cell := .lst (drW d)
theorem ix_cell (d : Dr) (k : Int) (w : W) (h : atI (drW d) k = some w) : ixW [drC d] (.c 0) (.d (.int k)) = some (w, [drC d]) := by
  show (match atI (drW d) k with
    | some w => some (w, [drC d])
    | none => none) = _
  rw [h]
theorem mul_small {a b : Int} (ha : 0 ≤ a) (ha2 : a < 2147483647) (hb : b = 48271 ∨ b = 69621) : mulI a b = some (.int (a * b)) := by
  unfold mulI
  refine if_pos ?_
  have h1 : a.natAbs.log2 < 31 := by
    by_cases h : a.natAbs = 0
    · rw [h]; decide
    · rw [Nat.log2_lt h]; omega
  have h2 : b.natAbs.log2 < 31 := by rcases hb with rfl | rfl <;> decide
  omega
abbrev E4 (v w x y : Option W) : Z.Env := [v, w, x, y]
theorem len_ints (S : Store) (ns : List Int) : lenW S [.d (.list (ns.map PyData.int))] = some (.d (.int ns.length), S) := len_d S PyData.int ns
/-- what is drawn from the script -/
theorem draw1 (d : Dr) (ok : d.ok) (l : W) : ∃ (y : Option W) (d' : Dr), d'.ok ∧ ifS (andT (bbX (op2X eqW (op2X ixW (varX 0) (conX (.int 2))) (conX (.int 0)))) (bbX (op2X (ordW (ordD ltI ltK)) (op2X ixW (varX 0) (conX (.int 1))) (argX lenW (consX (op2X ixW (varX 0) (conX (.int 0))) nilX)))))
    (seqX (asgX (op2X ixW (op2X ixW (varX 0) (conX (.int 0))) (op2X ixW (varX 0) (conX (.int 1)))) (nameG 2)) (seqX (asgX (op2X (addW newL) (op2X ixW (varX 0) (conX (.int 1))) (conX (.int 1))) (subG setW (varX 0) (conX (.int 1)))) (seqX (ifS (bbX (op2X (ordW (ordD geI geK)) (varX 2) (op2X (numX powI) (conX (.int 10)) (conX (.int 18))))) (asgX (varX 2) (subG setW (varX 0) (conX (.int 2)))) skipX)
      (asgX (op2X (numX modI) (argX intW (consX (op2X (addW newL) (op2X (addW newL) (op2X (numX mulI) (op2X ixW (varX 0) (conX (.int 3))) (conX (.int 48271))) (varX 2)) (conX (.int 13))) nilX)) (conX (.int 2147483647))) (subG setW (varX 0) (conX (.int 3))))))) skipX [some (.c 0), some l, none, none] [drC d] = some (.next, [some (.c 0), some l, y, none], [drC d']) := by
  obtain ⟨h1, h2, h3⟩ := ok
  have c1 : bbX (op2X eqW (op2X ixW (varX 0) (conX (.int 2))) (conX (.int 0))) [some (.c 0), some l, none, none] [drC d] = some (decide (d.big = 0), [drC d]) := rfl
  have c2 : bbX (op2X (ordW (ordD ltI ltK)) (op2X ixW (varX 0) (conX (.int 1))) (argX lenW (consX (op2X ixW (varX 0) (conX (.int 0))) nilX))) [some (.c 0), some l, none, none] [drC d] = some (decide ((d.pos : Int) < (d.ns.length : Int)), [drC d]) := bb_n (op2_n (a := .d (.int d.pos)) rfl (arg_n (as := [.d (.list (d.ns.map PyData.int))]) rfl (len_ints _ _)) rfl)
  by_cases hb : d.big = 0
  · rw [decide_eq_true hb] at c1
    by_cases hp : (d.pos : Int) < (d.ns.length : Int)
    · rw [decide_eq_true hp] at c2
      have hp' : d.pos < d.ns.length := by omega
      have hcell : op2X ixW (op2X ixW (varX 0) (conX (.int 0))) (op2X ixW (varX 0) (conX (.int 1))) [some (.c 0), some l, none, none] [drC d] = some (.d (.int d.ns[d.pos]), [drC d]) := by
        refine op2_n (a := .d (.list (d.ns.map PyData.int))) (b := .d (.int d.pos)) (S1 := [drC d]) (S2 := [drC d]) rfl rfl ?_
        show (match atI ((d.ns.map PyData.int).map W.d) (d.pos : Int) with
          | some w => some (w, [drC d])
          | none => none) = _
        rw [at_nat _ _ (by simpa using hp')]
        simp
      generalize hx : d.ns[d.pos] = x at hcell
      -- the state behind each write
      let d2 : Dr := ⟨d.ns, d.pos + 1, d.big, d.seed⟩
      let d3 : Dr := ⟨d.ns, d.pos + 1, if 10 ^ 18 ≤ x then x else d.big, d.seed⟩
      let d4 : Dr := ⟨d.ns, d.pos + 1, if 10 ^ 18 ≤ x then x else d.big, (d.seed * 48271 + x + 13) % 2147483647⟩
      refine ⟨some (.d (.int x)), d4, ⟨?_, Int.emod_nonneg _ (by decide), Int.emod_lt_of_pos _ (by decide)⟩, ?_⟩
      · show 0 ≤ (if 10 ^ 18 ≤ x then x else d.big)
        split <;> omega
      · refine (ifS_b (and_n c1 ((if_pos rfl).trans c2))).trans ((if_pos rfl).trans ?_)
        refine (seqX_n (asgX_n hcell rfl)).trans ?_
        have s2 : asgX (op2X (addW newL) (op2X ixW (varX 0) (conX (.int 1))) (conX (.int 1))) (subG setW (varX 0) (conX (.int 1))) [some (.c 0), some l, some (.d (.int x)), none] [drC d] = some (.next, [some (.c 0), some l, some (.d (.int x)), none], [drC d2]) := rfl
        refine (seqX_n s2).trans ?_
        have cg : bbX (op2X (ordW (ordD geI geK)) (varX 2) (op2X (numX powI) (conX (.int 10)) (conX (.int 18)))) [some (.c 0), some l, some (.d (.int x)), none] [drC d2] = some (decide (10 ^ 18 ≤ x), [drC d2]) := by
          have hpw : powI 10 18 = some (.int (10 ^ 18)) := by
            unfold powI
            exact if_pos ⟨by decide, by decide, by decide⟩
          refine bb_n (op2_n (a := .d (.int x)) (b := .d (.int (10 ^ 18))) (S1 := [drC d2]) (S2 := [drC d2]) rfl ?_ rfl)
          refine op2_n (a := .d (.int 10)) (b := .d (.int 18)) rfl rfl ?_
          show (match powI 10 18 with
            | some x => some (W.d x, [drC d2])
            | none => none) = _
          rw [hpw]
        have s3 : ifS (bbX (op2X (ordW (ordD geI geK)) (varX 2) (op2X (numX powI) (conX (.int 10)) (conX (.int 18))))) (asgX (varX 2) (subG setW (varX 0) (conX (.int 2)))) skipX [some (.c 0), some l, some (.d (.int x)), none] [drC d2] = some (.next, [some (.c 0), some l, some (.d (.int x)), none], [drC d3]) := by
          refine (ifS_b cg).trans ?_
          by_cases hge : 10 ^ 18 ≤ x
          · rw [decide_eq_true hge, if_pos rfl]
            show some (Ctl.next, _, [Cell.lst [.d (.list (d.ns.map PyData.int)), .d (.int ((d.pos + 1 : Nat) : Int)), .d (.int x), .d (.int d.seed)]]) = some (Ctl.next, _, [Cell.lst [.d (.list (d.ns.map PyData.int)), .d (.int ((d.pos + 1 : Nat) : Int)), .d (.int (if 10 ^ 18 ≤ x then x else d.big)), .d (.int d.seed)]])
            rw [if_pos hge]
          · rw [decide_eq_false hge, if_neg Bool.false_ne_true]
            show some (Ctl.next, _, [Cell.lst [.d (.list (d.ns.map PyData.int)), .d (.int ((d.pos + 1 : Nat) : Int)), .d (.int d.big), .d (.int d.seed)]]) = some (Ctl.next, _, [Cell.lst [.d (.list (d.ns.map PyData.int)), .d (.int ((d.pos + 1 : Nat) : Int)), .d (.int (if 10 ^ 18 ≤ x then x else d.big)), .d (.int d.seed)]])
            rw [if_neg hge]
        refine (seqX_n s3).trans ?_
        have hm : op2X (numX mulI) (op2X ixW (varX 0) (conX (.int 3))) (conX (.int 48271)) [some (.c 0), some l, some (.d (.int x)), none] [drC d3] = some (.d (.int (d.seed * 48271)), [drC d3]) := by
          refine op2_n (a := .d (.int d.seed)) (b := .d (.int 48271)) rfl rfl ?_
          show (match mulI d.seed 48271 with
            | some x => some (W.d x, [drC d3])
            | none => none) = _
          rw [mul_small h2 h3 (.inl rfl)]
        refine asgX_n (w := .d (.int ((d.seed * 48271 + x + 13) % 2147483647))) (S1 := [drC d3]) (op2_n (a := .d (.int (d.seed * 48271 + x + 13))) (b := .d (.int 2147483647)) (arg_n (cons_n (op2_n (op2_n hm rfl rfl) rfl rfl) rfl) rfl) rfl rfl) rfl
    · rw [decide_eq_false hp] at c2
      exact ⟨none, d, ⟨h1, h2, h3⟩, ret_iff (and_n c1 ((if_pos rfl).trans c2))⟩
  · rw [decide_eq_false hb] at c1
    exact ⟨none, d, ⟨h1, h2, h3⟩, ret_iff (and_n c1 ((if_neg Bool.false_ne_true).trans rfl))⟩
theorem r_draw (d : Dr) (ok : d.ok) (l : Int) (hl : 0 < l) (hl2 : l < 1000) : ∃ (v : Int) (d' : Dr), d'.ok ∧ 0 ≤ v ∧ v < l ∧ fn__law_draw [.c 0, .d (.int l)] [drC d] = some (.d (.int v), [drC d']) := by
  obtain ⟨y, d1, ok1, h⟩ := draw1 d ok (.d (.int l))
  obtain ⟨h1, h2, h3⟩ := ok1
  have hmod : ∀ i : Int, modI i l = some (.int (i % l)) := fun i => by unfold modI; exact if_pos hl
  have hdiv : ∀ i : Int, divI i l = some (.int (i / l)) := fun i => by
    unfold divI
    refine if_pos ⟨hl, ?_⟩
    rw [Nat.log2_lt (by omega)]
    have : l.natAbs < 2 ^ 10 := by omega
    exact Nat.lt_of_lt_of_le this (Nat.pow_le_pow_right (by decide) (by decide))
  have c : bbX (op2X (ordW (ordD gtI gtK)) (op2X ixW (varX 0) (conX (.int 2))) (conX (.int 0))) [some (.c 0), some (.d (.int l)), y, none] [drC d1] = some (decide (d1.big > 0), [drC d1]) := rfl
  by_cases hb : d1.big > 0
  · rw [decide_eq_true hb] at c
    let d2 : Dr := ⟨d1.ns, d1.pos, d1.big / l, d1.seed⟩
    refine ⟨d1.big % l, d2, ⟨Int.ediv_nonneg h1 (by omega), h2, h3⟩, Int.emod_nonneg _ (by omega), Int.emod_lt_of_pos _ hl, ret_fn rfl ?_⟩
    unfold b__law_draw pk__law_draw
    dsimp only
    refine ret_seq h (ret_seqr (ret_ift c ?_))
    have m1 : op2X (numX modI) (argX intW (consX (op2X ixW (varX 0) (conX (.int 2))) nilX)) (varX 1) [some (.c 0), some (.d (.int l)), y, none] [drC d1] = some (.d (.int (d1.big % l)), [drC d1]) := by
      refine op2_n (a := .d (.int d1.big)) (b := .d (.int l)) rfl rfl ?_
      show (match modI d1.big l with
        | some x => some (W.d x, [drC d1])
        | none => none) = _
      rw [hmod]
    have m2 : op2X (numX divI) (op2X ixW (varX 0) (conX (.int 2))) (varX 1) [some (.c 0), some (.d (.int l)), y, some (.d (.int (d1.big % l)))] [drC d1] = some (.d (.int (d1.big / l)), [drC d1]) := by
      refine op2_n (a := .d (.int d1.big)) (b := .d (.int l)) rfl rfl ?_
      show (match divI d1.big l with
        | some x => some (W.d x, [drC d1])
        | none => none) = _
      rw [hdiv]
    exact ret_seq (asgX_n m1 rfl) (ret_seq (e1 := [some (.c 0), some (.d (.int l)), y, some (.d (.int (d1.big % l)))]) (S1 := [drC d2]) (asgX_n m2 rfl) (ret_ret rfl))
  · rw [decide_eq_false hb] at c
    let d2 : Dr := ⟨d1.ns, d1.pos, d1.big, (d1.seed * 69621 + 7) % 2147483629⟩
    refine ⟨(d2.seed / 11) % l, d2, ⟨h1, Int.emod_nonneg _ (by decide), Int.lt_trans (Int.emod_lt_of_pos _ (by decide)) (by decide)⟩, Int.emod_nonneg _ (by omega), Int.emod_lt_of_pos _ hl, ret_fn rfl ?_⟩
    unfold b__law_draw pk__law_draw
    dsimp only
    have hm : op2X (numX mulI) (op2X ixW (varX 0) (conX (.int 3))) (conX (.int 69621)) [some (.c 0), some (.d (.int l)), y, none] [drC d1] = some (.d (.int (d1.seed * 69621)), [drC d1]) := by
      refine op2_n (a := .d (.int d1.seed)) (b := .d (.int 69621)) rfl rfl ?_
      show (match mulI d1.seed 69621 with
        | some x => some (W.d x, [drC d1])
        | none => none) = _
      rw [mul_small h2 h3 (.inr rfl)]
    have m1 : op2X (numX modI) (argX intW (consX (op2X (addW newL) (op2X (numX mulI) (op2X ixW (varX 0) (conX (.int 3))) (conX (.int 69621))) (conX (.int 7))) nilX)) (conX (.int 2147483629)) [some (.c 0), some (.d (.int l)), y, none] [drC d1] = some (.d (.int ((d1.seed * 69621 + 7) % 2147483629)), [drC d1]) :=
      op2_n (a := .d (.int (d1.seed * 69621 + 7))) (b := .d (.int 2147483629)) (arg_n (cons_n (op2_n hm rfl rfl) rfl) rfl) rfl rfl
    refine ret_seq h (ret_seq (ret_iff c) (ret_seq (e1 := [some (.c 0), some (.d (.int l)), y, none]) (S1 := [drC d2]) (asgX_n m1 rfl) (ret_ret ?_)))
    refine op2_n (a := .d (.int (d2.seed / 11))) (b := .d (.int l)) (S1 := [drC d2]) (S2 := [drC d2]) (arg_n (cons_n (op2_n (a := .d (.int d2.seed)) (b := .d (.int 11)) rfl rfl rfl) rfl) rfl) rfl ?_
    show (match modI (d2.seed / 11) l with
      | some x => some (W.d x, [drC d2])
      | none => none) = _
    rw [hmod]
end K02

/-! KQ: what is picked, columns drawn. -/
namespace K02
open PySem PySem.Spec PyProof.Rows L2 Y Z
/-- a call of a drawing def from anywhere -/
theorem call_dr {f : FnD} {fa : FA} {env : Z.Env} {S : Store} {ds : List PyData} {r : PyData} {m : Nat} {d d' : Dr} {io : List Bool} (hf : f (.c 0 :: ds.map W.d) [drC d] = some (.d r, [drC d'])) (h : fa env S = some (.c m :: ds.map W.d, S)) (hio : io = true :: ds.map fun _ => false) (hm : S[m]? = some (drC d)) : callL io f fa env S = some (.d r, S.set m (drC d')) :=
  call_c1 h hio hm rfl rfl hf
theorem r_pick (d : Dr) (ok : d.ok) (xs : List PyData) (h0 : 0 < xs.length) (h1 : xs.length < 1000) : ∃ (x : PyData) (d' : Dr), d'.ok ∧ x ∈ xs ∧ fn__law_pick [.c 0, .d (.list xs)] [drC d] = some (.d x, [drC d']) := by
  obtain ⟨v, d', ok', g1, g2, hf⟩ := r_draw d ok xs.length (by omega) (by omega)
  obtain ⟨i, rfl⟩ : ∃ i : Nat, v = i := ⟨v.toNat, by omega⟩
  have hi : i < xs.length := by omega
  refine ⟨xs[i], d', ok', List.getElem_mem hi, ret_fn rfl ?_⟩
  unfold b__law_pick pk__law_pick
  dsimp only
  have hlen : lenW [drC d] [.d (.list xs)] = some (.d (.int xs.length), [drC d]) := by
    have := len_d [drC d] (fun x : PyData => x) xs
    rwa [List.map_id'] at this
  refine ret_ret (op2_n (a := .d (.list xs)) (S1 := [drC d]) rfl (call_dr (ds := [.int xs.length]) (m := 0) hf (cons_n rfl (cons_n (arg_n (as := [.d (.list xs)]) rfl hlen) rfl)) rfl rfl) ?_)
  show (match atI (xs.map W.d) (i : Int) with
    | some w => some (w, [drC d'])
    | none => none) = _
  rw [at_nat _ _ (by simpa using hi)]
  simp
def okV : Val → Prop
  | .int i => -20 ≤ i ∧ i < 20
  | .text x => x ∈ ([Str.ofString "", Str.ofString "a", Str.ofString "b0", Str.ofString "z z"] : List Str)
theorem r_value (d : Dr) (ok : d.ok) (k : Str) : ∃ (v : Val) (d' : Dr), d'.ok ∧ okV v ∧ v.isText = !decide (k = "int") ∧ fn__law_value [.c 0, .d (.str k)] [drC d] = some (.d (vD v), [drC d']) := by
  have c : bbX (op2X eqW (varX 1) (conX (.str "int"))) [some (.c 0), some (.d (.str k))] [drC d] = some (decide (k = "int"), [drC d]) := rfl
  by_cases hk : k = "int"
  · obtain ⟨v, d', ok', g1, g2, hf⟩ := r_draw d ok 40 (by decide) (by decide)
    refine ⟨.int (v - 20), d', ok', ⟨by omega, by omega⟩, by rw [decide_eq_true hk]; rfl, ret_fn rfl ?_⟩
    unfold b__law_value pk__law_value
    dsimp only
    rw [decide_eq_true hk] at c
    exact ret_ret (if_t c (op2_n (call_dr (ds := [.int 40]) (m := 0) hf rfl rfl rfl) rfl rfl))
  · obtain ⟨v, d', ok', g1, g2, hf⟩ := r_draw d ok 4 (by decide) (by decide)
    obtain ⟨i, rfl⟩ : ∃ i : Nat, v = i := ⟨v.toNat, by omega⟩
    have hi : i < 4 := by omega
    have hx : ∃ x : Str, x ∈ ([Str.ofString "", Str.ofString "a", Str.ofString "b0", Str.ofString "z z"] : List Str) ∧ ixW [drC d'] (.d (.list [.str "", .str "a", .str "b0", .str "z z"])) (.d (.int i)) = some (.d (.str x), [drC d']) := by
      have : i = 0 ∨ i = 1 ∨ i = 2 ∨ i = 3 := by omega
      rcases this with rfl | rfl | rfl | rfl
      · exact ⟨Str.ofString "", by simp, rfl⟩
      · exact ⟨Str.ofString "a", by simp, rfl⟩
      · exact ⟨Str.ofString "b0", by simp, rfl⟩
      · exact ⟨Str.ofString "z z", by simp, rfl⟩
    obtain ⟨x, hx1, hx2⟩ := hx
    refine ⟨.text x, d', ok', hx1, by rw [decide_eq_false hk]; rfl, ret_fn rfl ?_⟩
    unfold b__law_value pk__law_value
    dsimp only
    rw [decide_eq_false hk] at c
    exact ret_ret (if_f c (op2_n (a := .d (.list [.str "", .str "a", .str "b0", .str "z z"])) (S1 := [drC d]) rfl (call_dr (ds := [.int 4]) (m := 0) hf rfl rfl rfl) hx2))
def okR (r : Raw) : Prop := r.tag ∈ ([1, 2, 3, 4, 5, 200, 0, 201] : List Int) ∧ r.name ∈ ([Str.ofString "a", Str.ofString "b", Str.ofString "c", Str.ofString "d"] : List Str) ∧ (r.kind = "int" ∨ r.kind = "text") ∧ okV r.dflt
theorem r_column (d : Dr) (ok : d.ok) : ∃ (r : Raw) (d' : Dr), d'.ok ∧ okR r ∧ fn__law_column [.c 0] [drC d] = some (.d (rD r), [drC d']) := by
  obtain ⟨v, d1, ok1, g1, g2, hf1⟩ := r_draw d ok 2 (by decide) (by decide)
  obtain ⟨i, rfl⟩ : ∃ i : Nat, v = i := ⟨v.toNat, by omega⟩
  have hx : ∃ x : Str, (x = "int" ∨ x = "text") ∧ ixW [drC d1] (.d (.list [.str "int", .str "text"])) (.d (.int i)) = some (.d (.str x), [drC d1]) := by
    have : i = 0 ∨ i = 1 := by omega
    rcases this with rfl | rfl
    · exact ⟨Str.ofString "int", .inl rfl, rfl⟩
    · exact ⟨Str.ofString "text", .inr rfl, rfl⟩
  obtain ⟨kind, hk1, hk2⟩ := hx
  obtain ⟨u, d2, ok2, g3, g4, hf2⟩ := r_draw d1 ok1 12 (by decide) (by decide)
  -- the value
  have hval : ∃ (w : Val) (d3 : Dr), d3.ok ∧ okV w ∧ callL [true, false] fn__law_value (consX (varX 0) (consX (ifX (bbX (op2X (ordW (ordD gtI gtK)) (callL [true, false] fn__law_draw (consX (varX 0) (consX (conX (.int 12)) nilX))) (conX (.int 0)))) (varX 1) (conX (.str "int"))) nilX)) [some (.c 0), some (.d (.str kind)), none] [drC d1] = some (.d (vD w), [drC d3]) := by
    have c : bbX (op2X (ordW (ordD gtI gtK)) (callL [true, false] fn__law_draw (consX (varX 0) (consX (conX (.int 12)) nilX))) (conX (.int 0))) [some (.c 0), some (.d (.str kind)), none] [drC d1] = some (decide (u > 0), [drC d2]) := bb_n (op2_n (call_dr (ds := [.int 12]) (m := 0) hf2 rfl rfl rfl) rfl rfl)
    have hkk : ∃ k : Str, ifX (bbX (op2X (ordW (ordD gtI gtK)) (callL [true, false] fn__law_draw (consX (varX 0) (consX (conX (.int 12)) nilX))) (conX (.int 0)))) (varX 1) (conX (.str "int")) [some (.c 0), some (.d (.str kind)), none] [drC d1] = some (.d (.str k), [drC d2]) := by
      by_cases hu : u > 0
      · rw [decide_eq_true hu] at c
        exact ⟨kind, if_t c rfl⟩
      · rw [decide_eq_false hu] at c
        exact ⟨Str.ofString "int", if_f c rfl⟩
    obtain ⟨k, hkk⟩ := hkk
    obtain ⟨w, d3, ok3, hw, _, hf3⟩ := r_value d2 ok2 k
    refine ⟨w, d3, ok3, hw, ?_⟩
    have := call_c1 (f := fn__law_value) (fa := consX (varX 0) (consX (ifX (bbX (op2X (ordW (ordD gtI gtK)) (callL [true, false] fn__law_draw (consX (varX 0) (consX (conX (.int 12)) nilX))) (conX (.int 0)))) (varX 1) (conX (.str "int"))) nilX)) (env := [some (.c 0), some (.d (.str kind)), none]) (S := [drC d1]) (S1 := [drC d2]) (ds := [.str k]) (n := 0) (io := [true, false]) (cons_n rfl (cons_n hkk rfl)) rfl rfl (show plainC (drC d2) = true from rfl) (show plainC (drC d3) = true from rfl) hf3
    exact this
  obtain ⟨w, d3, ok3, hw, hval⟩ := hval
  obtain ⟨t, d4, ok4, ht, hf4⟩ := r_pick d3 ok3 [.int 1, .int 2, .int 3, .int 4, .int 5, .int 200, .int 0, .int 201] (by decide) (by decide)
  obtain ⟨nm, d5, ok5, hnm, hf5⟩ := r_pick d4 ok4 [.str "a", .str "b", .str "c", .str "d"] (by decide) (by decide)
  have ht' : ∃ ti : Int, t = .int ti ∧ ti ∈ ([1, 2, 3, 4, 5, 200, 0, 201] : List Int) := by
    simp only [List.mem_cons, List.not_mem_nil, or_false] at ht
    rcases ht with h | h | h | h | h | h | h | h <;> exact ⟨_, h, by decide⟩
  have hn' : ∃ x : Str, nm = .str x ∧ x ∈ ([Str.ofString "a", Str.ofString "b", Str.ofString "c", Str.ofString "d"] : List Str) := by
    simp only [List.mem_cons, List.not_mem_nil, or_false] at hnm
    rcases hnm with h | h | h | h <;> exact ⟨_, h, by simp⟩
  obtain ⟨ti, rfl, hti⟩ := ht'
  obtain ⟨x, rfl, hx⟩ := hn'
  refine ⟨⟨ti, x, kind, w⟩, d5, ok5, ⟨hti, hx, hk1, hw⟩, ret_fn rfl ?_⟩
  unfold b__law_column pk__law_column
  dsimp only
  refine ret_seq (e1 := [some (.c 0), some (.d (.str kind)), none]) (S1 := [drC d1]) (asgX_n (op2_n (a := .d (.list [.str "int", .str "text"])) (S1 := [drC d]) rfl (call_dr (ds := [.int 2]) (m := 0) hf1 rfl rfl rfl) hk2) rfl) ?_
  refine ret_seq (e1 := [some (.c 0), some (.d (.str kind)), some (.d (vD w))]) (S1 := [drC d3]) (asgX_n hval rfl) ?_
  refine ret_ret (arg_n (as := [.d (.int ti), .d (.str x), .d (.str kind), .d (vD w)]) (S1 := [drC d5]) (cons_n (call_dr (ds := [.list [.int 1, .int 2, .int 3, .int 4, .int 5, .int 200, .int 0, .int 201]]) (m := 0) hf4 rfl rfl rfl) (cons_n (call_dr (ds := [.list [.str "a", .str "b", .str "c", .str "d"]]) (m := 0) hf5 rfl rfl rfl) rfl)) rfl)
end K02

/-! KR: steps drawn, what is given drawn. -/
namespace K02
open PySem PySem.Spec PyProof.Rows L2 Y Z
def okS (cs : List Col) : Stp → Prop
  | .add r => okR r
  | .drop t => t = 77 ∨ t ∈ cs.map (·.tag)
  | .name t x => (t = 77 ∨ t ∈ cs.map (·.tag)) ∧ x ∈ ([Str.ofString "a", Str.ofString "b", Str.ofString "e", Str.ofString "f"] : List Str)
  | .shift t n => (t = 77 ∨ t ∈ cs.map (·.tag)) ∧ -7 ≤ n ∧ n ≤ 7
theorem r_lstep (d : Dr) (ok : d.ok) (cs : List Col) (h0 : 0 < cs.length) (h1 : cs.length < 64) : ∃ (s : Stp) (d' : Dr), d'.ok ∧ okS cs s ∧ fn__law_step [.c 0, .d (.list (cs.map lD))] [drC d] = some (.d (sD s), [drC d']) := by
  obtain ⟨v, d1, ok1, g1, g2, hf1⟩ := r_draw d ok 6 (by decide) (by decide)
  obtain ⟨u, d2, ok2, g3, g4, hf2⟩ := r_draw d1 ok1 9 (by decide) (by decide)
  have c : bbX (op2X (ordW (ordD gtI gtK)) (callL [true, false] fn__law_draw (consX (varX 0) (consX (conX (.int 9)) nilX))) (conX (.int 0))) [some (.c 0), some (.d (.list (cs.map lD))), some (.d (.int v)), none] [drC d1] = some (decide (u > 0), [drC d2]) := bb_n (op2_n (call_dr (ds := [.int 9]) (m := 0) hf2 rfl rfl rfl) rfl rfl)
  have htag : ∃ (t : Int) (d3 : Dr), d3.ok ∧ (t = 77 ∨ t ∈ cs.map (·.tag)) ∧ ifX (bbX (op2X (ordW (ordD gtI gtK)) (callL [true, false] fn__law_draw (consX (varX 0) (consX (conX (.int 9)) nilX))) (conX (.int 0)))) (dgetX (callL [true, false] fn__law_pick (consX (varX 0) (consX (varX 1) nilX))) (conX (.str "tag"))) (conX (.int 77)) [some (.c 0), some (.d (.list (cs.map lD))), some (.d (.int v)), none] [drC d1] = some (.d (.int t), [drC d3]) := by
    by_cases hu : u > 0
    · rw [decide_eq_true hu] at c
      obtain ⟨x, d3, ok3, hx, hf3⟩ := r_pick d2 ok2 (cs.map lD) (by simpa using h0) (by simp; omega)
      obtain ⟨cc, hcc, rfl⟩ := List.mem_map.mp hx
      refine ⟨cc.tag, d3, ok3, .inr (List.mem_map.mpr ⟨cc, hcc, rfl⟩), if_t c ?_⟩
      exact dget_n (w := .d (lD cc)) (v := .d (.int cc.tag)) (call_dr (ds := [.list (cs.map lD)]) (m := 0) hf3 rfl rfl rfl) rfl rfl rfl rfl
    · rw [decide_eq_false hu] at c
      exact ⟨77, d2, ok2, .inl rfl, if_f c rfl⟩
  obtain ⟨t, d3, ok3, ht, htag⟩ := htag
  have ckind : bbX (op2X (ordW (ordD ltI ltK)) (varX 2) (conX (.int 2))) [some (.c 0), some (.d (.list (cs.map lD))), some (.d (.int v)), some (.d (.int t))] [drC d3] = some (decide (v < 2), [drC d3]) := rfl
  by_cases hv : v < 2
  · rw [decide_eq_true hv] at ckind
    obtain ⟨r, d4, ok4, hr, hf4⟩ := r_column d3 ok3
    refine ⟨.add r, d4, ok4, hr, ret_fn rfl ?_⟩
    unfold b__law_step pk__law_step
    dsimp only
    refine ret_seq (e1 := [some (.c 0), some (.d (.list (cs.map lD))), some (.d (.int v)), none]) (S1 := [drC d1]) (asgX_n (call_dr (ds := [.int 6]) (m := 0) hf1 rfl rfl rfl) rfl) ?_
    refine ret_seq (e1 := [some (.c 0), some (.d (.list (cs.map lD))), some (.d (.int v)), some (.d (.int t))]) (S1 := [drC d3]) (asgX_n htag rfl) (ret_seqr (ret_ift ckind (ret_ret ?_)))
    exact op2_n (a := .d (.tuple [.str "add"])) (S1 := [drC d3]) rfl (call_dr (ds := []) (m := 0) hf4 rfl rfl rfl) rfl
  · rw [decide_eq_false hv] at ckind
    obtain ⟨x, d4, ok4, hx, hf4⟩ := r_pick d3 ok3 [.str "a", .str "b", .str "e", .str "f"] (by decide) (by decide)
    have hx' : ∃ y : Str, x = .str y ∧ y ∈ ([Str.ofString "a", Str.ofString "b", Str.ofString "e", Str.ofString "f"] : List Str) := by
      simp only [List.mem_cons, List.not_mem_nil, or_false] at hx
      rcases hx with h | h | h | h <;> exact ⟨_, h, by simp⟩
    obtain ⟨y, rfl, hy⟩ := hx'
    obtain ⟨m, d5, ok5, g5, g6, hf5⟩ := r_draw d4 ok4 9 (by decide) (by decide)
    obtain ⟨i, hi⟩ : ∃ i : Nat, v = i := ⟨v.toNat, by omega⟩
    subst hi
    have hs : ∃ s : Stp, okS cs s ∧ ixW [drC d5] (.d (.list [sD (.drop t), sD (.name t y), sD (.shift t (m - 4)), sD (.shift t 7)])) (.d (.int ((i : Int) - 2))) = some (.d (sD s), [drC d5]) := by
      have : i = 2 ∨ i = 3 ∨ i = 4 ∨ i = 5 := by omega
      rcases this with rfl | rfl | rfl | rfl
      · exact ⟨.drop t, ht, rfl⟩
      · exact ⟨.name t y, ⟨ht, hy⟩, rfl⟩
      · exact ⟨.shift t (m - 4), ⟨ht, by omega, by omega⟩, rfl⟩
      · exact ⟨.shift t 7, ⟨ht, by omega, by omega⟩, rfl⟩
    obtain ⟨s, hs1, hs2⟩ := hs
    refine ⟨s, d5, ok5, hs1, ret_fn rfl ?_⟩
    unfold b__law_step pk__law_step
    dsimp only
    refine ret_seq (e1 := [some (.c 0), some (.d (.list (cs.map lD))), some (.d (.int (i : Int))), none]) (S1 := [drC d1]) (asgX_n (call_dr (ds := [.int 6]) (m := 0) hf1 rfl rfl rfl) rfl) ?_
    refine ret_seq (e1 := [some (.c 0), some (.d (.list (cs.map lD))), some (.d (.int (i : Int))), some (.d (.int t))]) (S1 := [drC d3]) (asgX_n htag rfl) (ret_seq (ret_iff ckind) (ret_ret ?_))
    refine op2_n (a := .d (.list [sD (.drop t), sD (.name t y), sD (.shift t (m - 4)), sD (.shift t 7)])) (b := .d (.int ((i : Int) - 2))) (S1 := [drC d5]) (S2 := [drC d5]) ?_ rfl hs2
    refine arg_n (as := [.d (sD (.drop t)), .d (sD (.name t y)), .d (sD (.shift t (m - 4))), .d (sD (.shift t 7))]) (S1 := [drC d5]) ?_ rfl
    refine cons_n (S1 := [drC d3]) rfl (cons_n (S1 := [drC d4]) ?_ (cons_n (S1 := [drC d5]) ?_ (cons_n (S1 := [drC d5]) rfl rfl)))
    · exact arg_n (as := [.d (.str "name"), .d (.int t), .d (.str y)]) (cons_n rfl (cons_n rfl (cons_n (call_dr (ds := [.list [.str "a", .str "b", .str "e", .str "f"]]) (m := 0) hf4 rfl rfl rfl) rfl))) rfl
    · exact arg_n (as := [.d (.str "shift"), .d (.int t), .d (.int (m - 4))]) (cons_n rfl (cons_n rfl (cons_n (op2_n (call_dr (ds := [.int 9]) (m := 0) hf5 rfl rfl rfl) rfl rfl) rfl))) rfl
end K02

/-! KS: what is given, drawn. -/
namespace K02
open PySem PySem.Spec PyProof.Rows L2 Y Z
def gC (acc : Gv) : Cell := .lst ((acc.map pD).map W.d)
def IG (l : PyData) (xs : List Col) (_ : Unit) (env : Z.Env) (S : Store) : Prop := ∃ (d : Dr) (acc : Gv) (y : Option W), d.ok ∧ env = [some (.c 0), some (.d l), some (.c 1), y] ∧ S = [drC d, gC acc] ∧ acc.length + xs.length < 62 ∧ ∀ p ∈ acc, okV p.2
theorem app_c1 {fa : FA} {env : Z.Env} {acc : Gv} {p : Str × Val} {d d' : Dr} (hk : env[2]? = some (some (.c 1))) (h : fa env [drC d, gC acc] = some ([.d (pD p)], [drC d', gC acc])) (hl : acc.length < 64) : dropX (bmX appW (varX 2) fa) env [drC d, gC acc] = some (.next, env, [drC d', gC (acc ++ [p])]) := by
  have hb := big
  refine dropX_n (w := .d .none) ?_
  have := app_d (fo := varX 2) (fa := fa) (env := env) (S := [drC d, gC acc]) (S1 := [drC d, gC acc]) (S2 := [drC d', gC acc]) (n := 1) (xs := (acc.map pD).map W.d) (y := .d (pD p)) (by unfold varX; rw [hk]) rfl h rfl (by simp; omega)
  rw [this]
  unfold gC
  simp
theorem r_lgiven (d : Dr) (ok : d.ok) (cs : List Col) (h1 : cs.length < 60) : ∃ (g : Gv) (d' : Dr) (S2 : Store), d'.ok ∧ g.length < 64 ∧ (∀ p ∈ g, okV p.2) ∧ fn__law_given [.c 0, .d (.list (cs.map lD))] [drC d] = some (.d (.list (g.map pD)), drC d' :: S2) := by
  have hb := big
  have key := for_fold (fun c => W.d (lD c)) (fun (_ : Unit) (_ : Col) => ()) (IG (.list (cs.map lD))) (gd := none) (tg := nameG 3)
    (body := ifS (bbX (op2X eqW (callL [true, false] fn__law_draw (consX (varX 0) (consX (conX (.int 2)) nilX))) (conX (.int 0)))) (dropX (bmX appW (varX 2) (consX (argX newT (consX (dgetX (varX 3) (conX (.str "name"))) (consX (callL [true, false] fn__law_value (consX (varX 0) (consX (dgetX (varX 3) (conX (.str "kind"))) nilX))) nilX))) nilX))) skipX) (fun _ _ _ _ _ => True.intro) (fun _ c xs env S ⟨d, acc, y, ok, e1, e2, e3, e4⟩ => by
    subst e1; subst e2
    rw [List.length_cons] at e3
    refine ⟨_, _, rfl, ?_⟩
    obtain ⟨v, d1, ok1, g1, g2, hf1⟩ := r_draw d ok 2 (by decide) (by decide)
    have cc : bbX (op2X eqW (callL [true, false] fn__law_draw (consX (varX 0) (consX (conX (.int 2)) nilX))) (conX (.int 0))) [some (.c 0), some (.d (.list (cs.map lD))), some (.c 1), some (.d (lD c))] [drC d, gC acc] = some (decide (v = 0), [drC d1, gC acc]) := bb_n (op2_n (call_dr (ds := [.int 2]) (m := 0) hf1 rfl rfl rfl) rfl rfl)
    by_cases hv : v = 0
    · rw [decide_eq_true hv] at cc
      obtain ⟨w, d2, ok2, hw, _, hf2⟩ := r_value d1 ok1 c.kind
      have hk : dgetX (varX 3) (conX (.str "kind")) [some (.c 0), some (.d (.list (cs.map lD))), some (.c 1), some (.d (lD c))] [drC d1, gC acc] = some (.d (.str c.kind), [drC d1, gC acc]) := rfl
      refine ⟨.next, _, _, (ifS_b cc).trans ((if_pos rfl).trans (app_c1 (p := (c.name, w)) (d := d1) (d' := d2) rfl (cons_n (arg_n (as := [.d (.str c.name), .d (vD w)]) (cons_n (a := .d (.str c.name)) (S1 := [drC d1, gC acc]) rfl (cons_n (call_dr (ds := [.str c.kind]) (m := 0) hf2 (cons_n rfl (cons_n hk rfl)) rfl rfl) rfl)) rfl) rfl) (by omega))), .inl rfl, ⟨d2, _, _, ok2, rfl, rfl, ?_, fun p hp => ?_⟩⟩
      · rw [List.length_append, List.length_cons, List.length_nil]; omega
      · rcases List.mem_append.mp hp with h | h
        · exact e4 p h
        · rw [List.mem_singleton.mp h]; exact hw
    · rw [decide_eq_false hv] at cc
      exact ⟨.next, _, _, ret_iff cc, .inl rfl, ⟨d1, acc, _, ok1, rfl, rfl, by omega, e4⟩⟩) cs () [some (.c 0), some (.d (.list (cs.map lD))), some (.c 1), none] [drC d, gC []] ⟨d, [], none, ok, rfl, rfl, by simp; omega, fun p hp => by cases hp⟩
  obtain ⟨e2, S2, hfor, d1, acc, y, ok1, rfl, rfl, hl, hacc⟩ := key
  -- the last one
  have hn : ∀ k : Int, op2X eqW (argX lenW (consX (varX 2) nilX)) (conX (.int 0)) [some (.c 0), some (.d (.list (cs.map lD))), some (.c 1), y] [drC d1, gC acc] = some (.d (.bool (decide (acc.length = 0))), [drC d1, gC acc]) := fun _ => by
    refine op2_n (arg_n (as := [.c 1]) (S1 := [drC d1, gC acc]) rfl ?_) rfl (eq_len _ acc.length 0)
    show vI _ _ = _
    unfold vI
    simp
  have last : ∃ (g : Gv) (d2 : Dr), d2.ok ∧ g.length < 64 ∧ (∀ p ∈ g, okV p.2) ∧ ifS (orT (bbX (op2X eqW (argX lenW (consX (varX 2) nilX)) (conX (.int 0)))) (bbX (op2X eqW (callL [true, false] fn__law_draw (consX (varX 0) (consX (conX (.int 8)) nilX))) (conX (.int 0)))))
      (dropX (bmX appW (varX 2) (consX (argX newT (consX (callL [true, false] fn__law_pick (consX (varX 0) (consX (argX newL (consX (conX (.str "a")) (consX (conX (.str "b")) (consX (conX (.str "q")) nilX)))) nilX))) (consX (callL [true, false] fn__law_value (consX (varX 0) (consX (callL [true, false] fn__law_pick (consX (varX 0) (consX (argX newL (consX (conX (.str "int")) (consX (conX (.str "text")) nilX))) nilX))) nilX))) nilX))) nilX))) skipX
      [some (.c 0), some (.d (.list (cs.map lD))), some (.c 1), y] [drC d1, gC acc] = some (.next, [some (.c 0), some (.d (.list (cs.map lD))), some (.c 1), y], [drC d2, gC g]) := by
    have add : ∀ d : Dr, d.ok → ∃ (p : Str × Val) (d2 : Dr), d2.ok ∧ okV p.2 ∧ dropX (bmX appW (varX 2) (consX (argX newT (consX (callL [true, false] fn__law_pick (consX (varX 0) (consX (argX newL (consX (conX (.str "a")) (consX (conX (.str "b")) (consX (conX (.str "q")) nilX)))) nilX))) (consX (callL [true, false] fn__law_value (consX (varX 0) (consX (callL [true, false] fn__law_pick (consX (varX 0) (consX (argX newL (consX (conX (.str "int")) (consX (conX (.str "text")) nilX))) nilX))) nilX))) nilX))) nilX)) [some (.c 0), some (.d (.list (cs.map lD))), some (.c 1), y] [drC d, gC acc] = some (.next, [some (.c 0), some (.d (.list (cs.map lD))), some (.c 1), y], [drC d2, gC (acc ++ [p])]) := fun d ok => by
      obtain ⟨x, d2, ok2, hx, hf2⟩ := r_pick d ok [.str "a", .str "b", .str "q"] (by decide) (by decide)
      obtain ⟨k, d3, ok3, hk, hf3⟩ := r_pick d2 ok2 [.str "int", .str "text"] (by decide) (by decide)
      have hx' : ∃ y : Str, x = .str y := by
        simp only [List.mem_cons, List.not_mem_nil, or_false] at hx
        rcases hx with h | h | h <;> exact ⟨_, h⟩
      have hk' : ∃ y : Str, k = .str y := by
        simp only [List.mem_cons, List.not_mem_nil, or_false] at hk
        rcases hk with h | h <;> exact ⟨_, h⟩
      obtain ⟨x, rfl⟩ := hx'
      obtain ⟨k, rfl⟩ := hk'
      obtain ⟨w, d4, ok4, hw, _, hf4⟩ := r_value d3 ok3 k
      have hpk : consX (varX 0) (consX (callL [true, false] fn__law_pick (consX (varX 0) (consX (argX newL (consX (conX (.str "int")) (consX (conX (.str "text")) nilX))) nilX))) nilX) [some (.c 0), some (.d (.list (cs.map lD))), some (.c 1), y] [drC d2, gC acc] = some ([.c 0, .d (.str k)], [drC d3, gC acc]) := cons_n rfl (cons_n (call_dr (ds := [.list [.str "int", .str "text"]]) (m := 0) hf3 rfl rfl rfl) rfl)
      refine ⟨(x, w), d4, ok4, hw, app_c1 rfl (cons_n (arg_n (as := [.d (.str x), .d (vD w)]) (S1 := [drC d4, gC acc]) (cons_n (call_dr (ds := [.list [.str "a", .str "b", .str "q"]]) (m := 0) hf2 rfl rfl rfl) (cons_n (call_c1 (ds := [.str k]) (n := 0) hpk rfl rfl (show plainC (drC d3) = true from rfl) (show plainC (drC d4) = true from rfl) hf4) rfl)) rfl) rfl) (by omega)⟩
    have fin : ∀ d : Dr, d.ok → ∃ (g : Gv) (d2 : Dr), d2.ok ∧ g.length < 64 ∧ (∀ p ∈ g, okV p.2) ∧ dropX (bmX appW (varX 2) (consX (argX newT (consX (callL [true, false] fn__law_pick (consX (varX 0) (consX (argX newL (consX (conX (.str "a")) (consX (conX (.str "b")) (consX (conX (.str "q")) nilX)))) nilX))) (consX (callL [true, false] fn__law_value (consX (varX 0) (consX (callL [true, false] fn__law_pick (consX (varX 0) (consX (argX newL (consX (conX (.str "int")) (consX (conX (.str "text")) nilX))) nilX))) nilX))) nilX))) nilX)) [some (.c 0), some (.d (.list (cs.map lD))), some (.c 1), y] [drC d, gC acc] = some (.next, [some (.c 0), some (.d (.list (cs.map lD))), some (.c 1), y], [drC d2, gC g]) := fun d ok => by
      obtain ⟨p, d2, ok2, hp, h⟩ := add d ok
      refine ⟨acc ++ [p], d2, ok2, by rw [List.length_append, List.length_cons, List.length_nil]; simp only [List.length_nil] at hl; omega, fun q hq => ?_, h⟩
      rcases List.mem_append.mp hq with h | h
      · exact hacc q h
      · rw [List.mem_singleton.mp h]; exact hp
    have c1 := bb_n (hn 0)
    by_cases ha : acc.length = 0
    · rw [decide_eq_true ha] at c1
      obtain ⟨g, d2, ok2, q1, q2, q3⟩ := fin d1 ok1
      exact ⟨g, d2, ok2, q1, q2, (ifS_b (or_n (k := true) c1 (if_pos rfl))).trans ((if_pos rfl).trans q3)⟩
    · rw [decide_eq_false ha] at c1
      obtain ⟨v, d2, ok2, g1, g2, hf⟩ := r_draw d1 ok1 8 (by decide) (by decide)
      have c2 : bbX (op2X eqW (callL [true, false] fn__law_draw (consX (varX 0) (consX (conX (.int 8)) nilX))) (conX (.int 0))) [some (.c 0), some (.d (.list (cs.map lD))), some (.c 1), y] [drC d1, gC acc] = some (decide (v = 0), [drC d2, gC acc]) := bb_n (op2_n (call_dr (ds := [.int 8]) (m := 0) hf rfl rfl rfl) rfl rfl)
      have c3 := or_n (d := bbX (op2X eqW (callL [true, false] fn__law_draw (consX (varX 0) (consX (conX (.int 8)) nilX))) (conX (.int 0)))) c1 ((if_neg Bool.false_ne_true).trans c2)
      by_cases hv : v = 0
      · rw [decide_eq_true hv] at c3
        obtain ⟨g, d3, ok3, q1, q2, q3⟩ := fin d2 ok2
        exact ⟨g, d3, ok3, q1, q2, (ifS_b c3).trans ((if_pos rfl).trans q3)⟩
      · rw [decide_eq_false hv] at c3
        exact ⟨acc, d2, ok2, by simp only [List.length_nil] at hl; omega, hacc, ret_iff c3⟩
  obtain ⟨g, d2, ok2, q1, q2, q3⟩ := last
  have hfrz : frzX (varX 2) [some (.c 0), some (.d (.list (cs.map lD))), some (.c 1), y] [drC d2, gC g] = some (.d (.list (g.map pD)), [drC d2, .frz (.list (g.map pD))]) := by
    show (match datas [drC d2, gC g] ((g.map pD).map W.d) with
      | some ds => some (W.d (.list ds), [drC d2, gC g].set 1 (.frz (.list ds)))
      | none => none) = _
    rw [datas_d]
    rfl
  refine ⟨g, d2, [.frz (.list (g.map pD))], ok2, q1, q2, ret_fn rfl ?_⟩
  unfold b__law_given pk__law_given
  dsimp only
  refine ret_seq (e1 := [some (.c 0), some (.d (.list (cs.map lD))), some (.c 1), none]) (S1 := [drC d, gC []]) rfl ?_
  exact ret_seq ((forX_l (seqI_m lD cs rfl)).trans hfor) (ret_seq q3 (ret_ret hfrz))
end K02

/-! KT: states are whole. -/
namespace K02
open PySem PySem.Spec PyProof.Rows L2 Y Z
def okC (c : Col) : Prop := (c.kind = "int" ∨ c.kind = "text") ∧ c.dflt.isText = decide (c.kind = "text")
structure WF (cs : List Col) : Prop where
  tags : cs.Pairwise fun a b => a.tag ≠ b.tag
  names : cs.Pairwise fun a b => a.name ≠ b.name
  some : cs ≠ []
  cols : ∀ c ∈ cs, okC c
theorem WF.nd {cs : List Col} (w : WF cs) : (cs.map (·.tag)).Nodup := List.pairwise_map.mpr w.tags
theorem WF.ndn {cs : List Col} (w : WF cs) : (cs.map (·.name)).Nodup := List.pairwise_map.mpr w.names
theorem col_none {r : Raw} {os : List Col} (h : colFault r os = none) : r.tag ∉ os.map (·.tag) ∧ r.name ∉ os.map (·.name) ∧ r.dflt.isText = decide (r.kind = "text") ∧ 1 ≤ r.tag ∧ r.tag ≤ 200 := by
  unfold colFault at h
  split at h
  · cases h
  · rename_i h1
    split at h
    · cases h
    · rename_i h2
      split at h
      · rename_i h3
        simp only [Bool.or_eq_true, Bool.not_eq_true', decide_eq_true_eq, not_or, Bool.and_eq_false_iff, decide_eq_false_iff_not] at h1
        refine ⟨h1.2, by simpa using h2, by simpa using h3, ?_, ?_⟩
        · have := h1.1
          omega
        · have := h1.1
          omega
      · cases h
/-- one more column -/
theorem WF.add {cs : List Col} (h1 : cs.Pairwise fun a b => a.tag ≠ b.tag) (h2 : cs.Pairwise fun a b => a.name ≠ b.name) (h3 : ∀ c ∈ cs, okC c) {r : Raw} {n : Int} (hk : r.kind = "int" ∨ r.kind = "text") (h : colFault r cs = none) : WF (cs ++ [bornC r n]) := by
  obtain ⟨q1, q2, q3, _⟩ := col_none h
  refine ⟨List.pairwise_append.mpr ⟨h1, List.pairwise_singleton _ _, fun a ha b hb => ?_⟩, List.pairwise_append.mpr ⟨h2, List.pairwise_singleton _ _, fun a ha b hb => ?_⟩, by simp, fun c hc => ?_⟩
  · rw [List.mem_singleton.mp hb]
    exact fun e => q1 (List.mem_map.mpr ⟨a, ha, e⟩)
  · rw [List.mem_singleton.mp hb]
    exact fun e => q2 (List.mem_map.mpr ⟨a, ha, e⟩)
  · rcases List.mem_append.mp hc with h | h
    · exact h3 c h
    · rw [List.mem_singleton.mp h]
      exact ⟨hk, q3⟩
theorem tab_wf : ∀ (rs : List Raw) (acc : List Col), (acc.Pairwise fun a b => a.tag ≠ b.tag) → (acc.Pairwise fun a b => a.name ≠ b.name) → (∀ c ∈ acc, okC c) → (∀ r ∈ rs, r.kind = "int" ∨ r.kind = "text") → tabFault acc rs = none → (acc ++ rs.map (bornC · 0)) ≠ [] → WF (acc ++ rs.map (bornC · 0))
  | [], acc, h1, h2, h3, _, _, hn => by
    rw [List.map_nil, List.append_nil] at hn ⊢
    exact ⟨h1, h2, hn, h3⟩
  | r :: rs, acc, h1, h2, h3, hk, h, _ => by
    unfold tabFault at h
    cases hc : colFault r acc with
    | none =>
      rw [hc] at h
      have w := WF.add (n := 0) h1 h2 h3 (hk r List.mem_cons_self) hc
      have := tab_wf rs (acc ++ [bornC r 0]) w.tags w.names w.cols (fun r hr => hk r (List.mem_cons_of_mem _ hr)) h (by simp)
      simpa using this
    | some x => rw [hc] at h; cases h
theorem upd_tag (s : Stp) (c : Col) : (upd1 s c).tag = c.tag := by
  unfold upd1
  split
  · split <;> rfl
  · split <;> rfl
  · rfl
theorem upd_ok (s : Stp) (c : Col) (h : okC c) : okC (upd1 s c) := by
  unfold upd1
  split
  · split <;> exact h
  · split <;> exact h
  · exact h
theorem step_wf {cs : List Col} {s : Stp} {at' : Int} (w : WF cs) (hk : ∀ r, s = .add r → r.kind = "int" ∨ r.kind = "text") (h : stepFault cs s = none) : WF (step cs at' s) := by
  cases s with
  | add r =>
    have e : step cs at' (.add r) = cs ++ [bornC r at'] := by
      show cs.flatMap (fun c => [c]) ++ _ = _
      rw [List.flatMap_singleton']
    rw [e]
    exact WF.add w.tags w.names w.cols (hk r rfl) h
  | drop t =>
    have e : step cs at' (.drop t) = cs.filter (keepB (.drop t)) := by
      show cs.flatMap (step1 at' (.drop t)) ++ [] = _
      rw [List.append_nil, step_keep]
      exact List.map_id' _
    rw [e]
    refine ⟨w.tags.filter _, w.names.filter _, fun hn => ?_, fun c hc => w.cols c (List.mem_filter.mp hc).1⟩
    have hall : ∀ c ∈ cs, c.tag = t := fun c hc => by
      have := List.filter_eq_nil_iff.mp hn c hc
      simpa [keepB] using this
    have h : (if (has cs t).length = 0 then some (Str.ofString "tag") else if cs.length = 1 then some (Str.ofString "last") else none) = none := h
    split at h
    · cases h
    · split at h
      · cases h
      · rename_i h1
        match cs, w.tags, w.some, hall, h1 with
        | [], _, h, _, _ => exact h rfl
        | [_], _, _, _, h1 => exact h1 rfl
        | a :: b :: r, hp, _, hall, _ =>
          have := (List.pairwise_cons.mp hp).1 b List.mem_cons_self
          exact this ((hall a List.mem_cons_self).trans (hall b (List.mem_cons_of_mem _ List.mem_cons_self)).symm)
  | name t x =>
    have e : step cs at' (.name t x) = cs.map (upd1 (.name t x)) := by
      show cs.flatMap (step1 at' (.name t x)) ++ [] = _
      rw [List.append_nil, step_keep, List.filter_eq_self.mpr fun c _ => (rfl : keepB (.name t x) c = true)]
    have hx : x ∉ cs.map (·.name) := by
      have h : (if (has cs t).length = 0 then some (Str.ofString "tag") else if x ∈ cs.map (·.name) then some (Str.ofString "name") else none) = none := h
      split at h
      · cases h
      · split at h
        · cases h
        · assumption
    rw [e]
    refine ⟨List.pairwise_map.mpr (w.tags.imp fun {a b} q => by rw [upd_tag, upd_tag]; exact q), List.pairwise_map.mpr ?_, by simpa using w.some, fun c hc => ?_⟩
    · refine (w.tags.and w.names).imp_of_mem fun {a b} ha hb q => ?_
      have na : ∀ c ∈ cs, c.name ≠ x := fun c hc z => hx (List.mem_map.mpr ⟨c, hc, z⟩)
      by_cases h1 : a.tag = t
      · have h2 : ¬ b.tag = t := fun z => q.1 (h1.trans z.symm)
        rw [show upd1 (.name t x) a = { a with name := x } from if_pos h1, show upd1 (.name t x) b = b from if_neg h2]
        exact fun z => na b hb z.symm
      · rw [show upd1 (.name t x) a = a from if_neg h1]
        by_cases h2 : b.tag = t
        · rw [show upd1 (.name t x) b = { b with name := x } from if_pos h2]
          exact na a ha
        · rw [show upd1 (.name t x) b = b from if_neg h2]
          exact q.2
    · obtain ⟨d, hd, rfl⟩ := List.mem_map.mp hc
      exact upd_ok _ d (w.cols d hd)
  | shift t n =>
    have e : step cs at' (.shift t n) = cs.map (upd1 (.shift t n)) := by
      show cs.flatMap (step1 at' (.shift t n)) ++ [] = _
      rw [List.append_nil, step_keep, List.filter_eq_self.mpr fun c _ => (rfl : keepB (.shift t n) c = true)]
    have hn : ∀ c : Col, (upd1 (.shift t n) c).name = c.name := fun c => by
      show (if c.tag = t then _ else _ : Col).name = _
      split <;> rfl
    rw [e]
    refine ⟨List.pairwise_map.mpr (w.tags.imp fun {a b} q => by rw [upd_tag, upd_tag]; exact q), List.pairwise_map.mpr (w.names.imp fun {a b} q => by rw [hn, hn]; exact q), by simpa using w.some, fun c hc => ?_⟩
    obtain ⟨d, hd, rfl⟩ := List.mem_map.mp hc
    exact upd_ok _ d (w.cols d hd)
/-! sorted by tags nothing else changes -/
theorem srt_perm (cs : List Col) : (srt cs).Perm cs := List.mergeSort_perm _ _
theorem WF.perm {cs ds : List Col} (w : WF cs) (p : ds.Perm cs) : WF ds :=
  ⟨(p.pairwise_iff fun {a b} h => fun z => h z.symm).mpr w.tags, (p.pairwise_iff fun {a b} h => fun z => h z.symm).mpr w.names, fun z => w.some (by subst z; exact (List.nil_perm.mp p)), fun c hc => w.cols c (p.mem_iff.mp hc)⟩
theorem find_perm {α : Type} {p : α → Bool} : ∀ {l1 l2 : List α}, l1.Perm l2 → (∀ a ∈ l1, ∀ b ∈ l1, p a = true → p b = true → a = b) → l1.find? p = l2.find? p := by
  intro l1 l2 h u
  cases h1 : l1.find? p with
  | none =>
    symm
    rw [List.find?_eq_none] at h1 ⊢
    exact fun x hx => h1 x (h.mem_iff.mpr hx)
  | some a =>
    have ha := List.mem_of_find?_eq_some h1
    have pa := List.find?_some h1
    cases h2 : l2.find? p with
    | none => exact absurd pa (List.find?_eq_none.mp h2 a (h.mem_iff.mp ha))
    | some b =>
      have hb := h.mem_iff.mpr (List.mem_of_find?_eq_some h2)
      rw [u a ha b hb pa (List.find?_some h2)]
theorem pair_eq {α β : Type} {f : α → β} {l : List α} (h : l.Pairwise fun a b => f a ≠ f b) {a b : α} (ha : a ∈ l) (hb : b ∈ l) (e : f a = f b) : a = b := by
  induction l with
  | nil => cases ha
  | cons x l ih =>
    obtain ⟨h1, h2⟩ := List.pairwise_cons.mp h
    rcases List.mem_cons.mp ha with ea | ha2
    · rcases List.mem_cons.mp hb with eb | hb2
      · rw [ea, eb]
      · rw [ea] at e; exact absurd e (h1 b hb2)
    · rcases List.mem_cons.mp hb with eb | hb2
      · rw [eb] at e; exact absurd e.symm (h1 a ha2)
      · exact ih h2 ha2 hb2
theorem kindOf_srt {cs : List Col} (w : WF cs) (n : Str) : kindOf (srt cs) n = kindOf cs n := by
  unfold kindOf
  rw [find_perm (srt_perm cs) fun a ha b hb pa pb => pair_eq (w.perm (srt_perm cs)).names ha hb ((of_decide_eq_true pa).trans (of_decide_eq_true pb).symm)]
theorem colFault_perm {r : Raw} {cs ds : List Col} (p : ds.Perm cs) : colFault r ds = colFault r cs := by
  unfold colFault
  have h1 : (r.tag ∈ ds.map (·.tag)) = (r.tag ∈ cs.map (·.tag)) := propext (p.map _).mem_iff
  have h2 : (r.name ∈ ds.map (·.name)) = (r.name ∈ cs.map (·.name)) := propext (p.map _).mem_iff
  simp only [h1, h2]
theorem stepFault_srt {cs : List Col} (w : WF cs) (s : Stp) : stepFault (srt cs) s = stepFault cs s := by
  have p := srt_perm cs
  have hl : ∀ t, (has (srt cs) t).Perm (has cs t) := fun t => p.filter _
  cases s with
  | add r => exact colFault_perm p
  | drop t =>
    unfold stepFault
    dsimp only
    rw [(hl t).length_eq, p.length_eq]
  | name t x =>
    unfold stepFault
    dsimp only
    have h2 : (x ∈ (srt cs).map (·.name)) = (x ∈ cs.map (·.name)) := propext (p.map _).mem_iff
    rw [(hl t).length_eq]
    simp only [h2]
  | shift t n =>
    have e : ∀ l : List Col, stepFault l (.shift t n) = (match (l.find? fun c => decide (c.tag = t)) with
      | none => some (Str.ofString "tag")
      | some c => if c.kind = "int" then none else some (Str.ofString "kind")) := fun l => by
      rw [← List.head?_filter]
      show (match has l t with
        | [] => some (Str.ofString "tag")
        | c :: _ => if c.kind = "int" then none else some (Str.ofString "kind")) = _
      unfold has
      cases l.filter fun c => decide (c.tag = t) <;> rfl
    rw [e, e, find_perm p fun a ha b hb pa pb => pair_eq (w.perm p).tags ha hb ((of_decide_eq_true pa).trans (of_decide_eq_true pb).symm)]
end K02

/-! KU: books, plain. -/
namespace K02
open PySem PySem.Spec PyProof.Rows L2 Y Z
def ND (b : Bk) : Prop := (b.map (·.1)).Nodup
theorem look_perm {b c : Bk} (p : b.Perm c) (nd : ND b) (k : Int × Int) : look b k = look c k := by
  unfold look
  rw [find_perm p fun x hx y hy h1 h2 => nodup_key nd hx hy ((of_decide_eq_true h1).trans (of_decide_eq_true h2).symm)]
theorem got_perm {b c : Bk} (p : b.Perm c) (nd : ND b) (x : Col) : got b x = got c x := by
  unfold got
  rw [look_perm p nd]
theorem any_key (b : Bk) (k : Int × Int) : (b.any fun p => decide (p.1 = k)) = true ↔ k ∈ b.map (·.1) := by
  rw [List.any_eq_true, List.mem_map]
  constructor
  · rintro ⟨p, h1, h2⟩; exact ⟨p, h1, of_decide_eq_true h2⟩
  · rintro ⟨p, h1, h2⟩; exact ⟨p, h1, decide_eq_true h2⟩
theorem put_nd {b : Bk} (nd : ND b) (k : Int × Int) (v : Val) : ND (put b k v) := by
  unfold ND put
  split
  · rename_i h
    have : (b.map fun p => if p.1 = k then (p.1, v) else p).map (·.1) = b.map (·.1) := by
      rw [List.map_map]
      apply List.map_congr_left
      intro p _
      show (if p.1 = k then (p.1, v) else p).1 = p.1
      split <;> rfl
    rw [this]
    exact nd
  · rename_i h
    rw [List.map_append, List.nodup_append]
    refine ⟨nd, by simp, fun x hx y hy e => h ((any_key b k).mpr ?_)⟩
    have : y = k := by simpa using hy
    rw [← this, ← e]
    exact hx
theorem puts_nd : ∀ (ps b : Bk), ND b → ND (puts b ps)
  | [], b, h => h
  | p :: ps, b, h => puts_nd ps _ (put_nd h p.1 p.2)
theorem mem_put {b : Bk} (nd : ND b) (k : Int × Int) (v : Val) (x : (Int × Int) × Val) : x ∈ put b k v ↔ x = (k, v) ∨ (x ∈ b ∧ x.1 ≠ k) := by
  unfold put
  split
  · rename_i h
    have h := (any_key b k).mp h
    rw [List.mem_map]
    constructor
    · rintro ⟨p, hp, rfl⟩
      by_cases e : p.1 = k
      · rw [if_pos e]; exact .inl (by rw [e])
      · rw [if_neg e]; exact .inr ⟨hp, e⟩
    · rintro (rfl | ⟨h1, h2⟩)
      · obtain ⟨p, hp, e⟩ := List.mem_map.mp h
        exact ⟨p, hp, by rw [if_pos e, e]⟩
      · exact ⟨x, h1, by rw [if_neg h2]⟩
  · rename_i h
    rw [List.mem_append]
    constructor
    · rintro (h1 | h1)
      · exact .inr ⟨h1, fun e => h ((any_key b k).mpr (List.mem_map.mpr ⟨x, h1, e⟩))⟩
      · exact .inl (by simpa using h1)
    · rintro (rfl | ⟨h1, h2⟩)
      · exact .inr (by simp)
      · exact .inl h1
theorem mem_puts : ∀ (ps b : Bk), ND b → ND ps → ∀ x, x ∈ puts b ps ↔ x ∈ ps ∨ (x ∈ b ∧ x.1 ∉ ps.map (·.1))
  | [], b, _, _, x => by simp [puts]
  | p :: ps, b, nb, np, x => by
    have np' := List.nodup_cons.mp (show (p.1 :: ps.map (·.1)).Nodup from np)
    show x ∈ puts (put b p.1 p.2) ps ↔ _
    rw [mem_puts ps _ (put_nd nb p.1 p.2) np'.2, mem_put nb, List.mem_cons, List.map_cons, List.mem_cons]
    constructor
    · rintro (h | ⟨h | ⟨h1, h2⟩, h3⟩)
      · exact .inl (.inr h)
      · exact .inl (.inl h)
      · exact .inr ⟨h1, fun z => z.elim h2 h3⟩
    · rintro ((h | h) | ⟨h1, h2⟩)
      · exact .inr ⟨.inl h, by rw [h]; exact np'.1⟩
      · exact .inl h
      · exact .inr ⟨.inr ⟨h1, fun z => h2 (.inl z)⟩, fun z => h2 (.inr z)⟩
theorem nd_nodup {b : Bk} (nd : ND b) : b.Nodup := by
  unfold ND at nd
  exact (List.pairwise_map.mp nd).imp fun h e => h (by rw [e])
theorem puts_perm {b c ps qs : Bk} (pb : b.Perm c) (pp : ps.Perm qs) (nb : ND b) (np : ND ps) : (puts b ps).Perm (puts c qs) := by
  have nc : ND c := (pb.map _).nodup_iff.mp nb
  have nq : ND qs := (pp.map _).nodup_iff.mp np
  refine (List.perm_ext_iff_of_nodup (nd_nodup (puts_nd ps b nb)) (nd_nodup (puts_nd qs c nc))).mpr fun x => ?_
  rw [mem_puts ps b nb np, mem_puts qs c nc nq, pp.mem_iff, pb.mem_iff, (pp.map (·.1)).mem_iff]
/-! what is written has no key twice -/
theorem writ_sub (g : Gv) (cs : List Col) : ((writ g cs).map (·.1)).Sublist (cs.map fun c => (c.birth, c.tag)) := by
  induction cs with
  | nil => exact List.Sublist.slnil
  | cons c cs ih =>
    unfold writ at ih ⊢
    rw [List.flatMap_cons, List.map_append, List.map_cons]
    unfold wr1
    cases told g c.name with
    | none => exact ih.cons _
    | some v => exact ih.cons_cons _
theorem keys_nd {cs : List Col} (w : WF cs) : (cs.map fun c => (c.birth, c.tag)).Nodup := List.pairwise_map.mpr (w.tags.imp fun {a b} h e => h (congrArg Prod.snd e))
theorem writ_nd {cs : List Col} (w : WF cs) (g : Gv) : ND (writ g cs) := (writ_sub g cs).nodup (keys_nd w)
theorem lput_old (g : Gv) : ∀ (cs : List Col) (b : Bk), lput false g cs b = puts b (writ g cs)
  | [], b => rfl
  | c :: cs, b => by
    show lput false g cs (lput1 false g b c) = puts b (writ g (c :: cs))
    rw [lput_old g cs]
    unfold writ puts
    rw [List.flatMap_cons, List.foldl_append]
    unfold lput1 wr1
    cases told g c.name <;> rfl
theorem told_rows (g : Gv) : ∀ (cs : List Col), (cs.Pairwise fun a b => a.name ≠ b.name) → ∀ c ∈ cs, told (rowsG g cs) c.name = some ((told g c.name).getD (dfl c))
  | [], _, c, h => by cases h
  | d :: cs, hp, c, h => by
    obtain ⟨h1, h2⟩ := List.pairwise_cons.mp hp
    unfold told rowsG
    rw [List.map_cons, List.find?_cons]
    rcases List.mem_cons.mp h with rfl | hc
    · rw [decide_eq_true rfl]
      rfl
    · rw [decide_eq_false (h1 c hc)]
      exact told_rows g cs h2 c hc
/-- what a new record holds, as the law's book gets it -/
theorem lput_new (g : Gv) (cs : List Col) (w : WF cs) (hd : ∀ c ∈ cs, unsh c (dfl c) = some c.dflt) : lput true g cs [] = writ (rowsG g cs) cs := by
  have step : ∀ (ds : List Col) (b : Bk), (∀ c ∈ ds, c ∈ cs) → lput true g ds b = puts b (ds.flatMap (wr1 (rowsG g cs))) := by
    intro ds
    induction ds with
    | nil => intro b _; rfl
    | cons c ds ih =>
      intro b hm
      show lput true g ds (lput1 true g b c) = _
      rw [ih _ fun x hx => hm x (List.mem_cons_of_mem _ hx), List.flatMap_cons]
      unfold puts
      rw [List.foldl_append]
      have hc := hm c List.mem_cons_self
      have ht := told_rows g cs w.names c hc
      unfold lput1 wr1
      rw [ht]
      cases told g c.name with
      | none =>
        show _ = List.foldl _ (put b (c.birth, c.tag) ((unsh c (dfl c)).getD (.int 0))) _
        rw [hd c hc]
        rfl
      | some v => rfl
  rw [step cs [] fun _ h => h]
  have := puts_nil (writ (rowsG g cs) cs) [] (by rw [List.nil_append]; exact writ_nd w (rowsG g cs))
  rw [List.nil_append] at this
  exact this
theorem dfl_unsh (c : Col) (h : okC c) : unsh c (dfl c) = some c.dflt ∧ (shiftV c c.dflt).isSome = true := by
  obtain ⟨hk, ht⟩ := h
  rcases hk with hk | hk
  · have hn : ¬ c.kind = "text" := by rw [hk]; decide
    rw [decide_eq_false hn] at ht
    cases hd : c.dflt with
    | text x => rw [hd] at ht; cases ht
    | int i =>
      have h1 : shiftV c c.dflt = some (.int (i + c.shift)) := by unfold shiftV; rw [if_pos hk, hd]
      have h2 : dfl c = .int (i + c.shift) := by unfold dfl; rw [h1]; rfl
      rw [hd] at h1
      refine ⟨?_, by rw [h1]; rfl⟩
      rw [h2]
      unfold unsh
      rw [if_pos hk]
      show some (Val.int (i + c.shift - c.shift)) = _
      rw [Int.add_sub_cancel]
  · have hn : ¬ c.kind = "int" := by rw [hk]; decide
    have h1 : shiftV c c.dflt = some c.dflt := if_neg hn
    have h2 : dfl c = c.dflt := by unfold dfl; rw [h1]; rfl
    refine ⟨?_, by rw [h1]; rfl⟩
    rw [h2]
    exact if_neg hn
end K02

/-! KV: values of the right kind; where columns come from. -/
namespace K02
open PySem PySem.Spec PyProof.Rows L2 Y Z
def fitsV (kind : Str) (v : Val) : Prop := v.isText = decide (kind = "text")
theorem giv_ok (kind : Str → Option Str) : ∀ (g : Gv) (met : List Str), (∃ m, foldE (givStep kind) met g = .ok m) → (∀ p ∈ g, ∃ k, kind p.1 = some k ∧ fitsV k p.2) ∧ (g.map (·.1)).Nodup ∧ ∀ p ∈ g, p.1 ∉ met
  | [], met, _ => ⟨fun p h => (by cases h), List.nodup_nil, fun p h => (by cases h)⟩
  | p :: g, met, ⟨m, h⟩ => by
    unfold foldE at h
    cases hs : givStep kind met p with
    | error w => rw [hs] at h; cases h
    | ok met' =>
      rw [hs] at h
      unfold givStep at hs
      cases hk : kind p.1 with
      | none => rw [hk] at hs; cases hs
      | some k =>
        rw [hk] at hs
        dsimp only at hs
        split at hs
        · cases hs
        · rename_i hm
          split at hs
          · cases hs
          · rename_i hf
            injection hs with hs
            subst hs
            obtain ⟨q1, q2, q3⟩ := giv_ok kind g _ ⟨m, h⟩
            have hfit : fitsV k p.2 := by
              have : decide (decide (k = "text") = p.2.isText) = true := by simpa using hf
              exact (of_decide_eq_true this).symm
            refine ⟨fun q hq => ?_, ?_, fun q hq => ?_⟩
            · rcases List.mem_cons.mp hq with e | hq
              · rw [e]; exact ⟨k, hk, hfit⟩
              · exact q1 q hq
            · rw [List.map_cons, List.nodup_cons]
              refine ⟨fun z => ?_, q2⟩
              obtain ⟨q, hq, e⟩ := List.mem_map.mp z
              exact q3 q hq (by rw [e]; exact List.mem_append_right _ List.mem_cons_self)
            · rcases List.mem_cons.mp hq with e | hq
              · rw [e]; exact hm
              · exact fun z => q3 q hq (List.mem_append_left _ z)
theorem giv_none {kind : Str → Option Str} {g : Gv} (h : givRes kind g = .d .none) : ∃ m, foldE (givStep kind) [] g = .ok m := by
  unfold givRes at h
  cases hf : foldE (givStep kind) [] g with
  | ok m => exact ⟨m, rfl⟩
  | error w =>
    rw [hf] at h
    have gen : ∀ (g : Gv) (met : List Str) (w : W), foldE (givStep kind) met g = .error w → w ≠ .d .none := by
      intro g
      induction g with
      | nil => intro met w h; cases h
      | cons p g ih =>
        intro met w h
        unfold foldE at h
        cases hs : givStep kind met p with
        | ok met' => rw [hs] at h; exact ih _ _ h
        | error w' =>
          rw [hs] at h
          cases h
          unfold givStep at hs
          split at hs
          · cases hs; exact fun z => by cases z
          · split at hs
            · cases hs; exact fun z => by cases z
            · split at hs
              · cases hs; exact fun z => by cases z
              · cases hs
    exact absurd h (gen g [] w hf)
theorem told_mem {g : Gv} {n : Str} {v : Val} (h : told g n = some v) : (n, v) ∈ g := by
  unfold told at h
  cases hf : g.find? fun p => decide (p.1 = n) with
  | none => rw [hf] at h; cases h
  | some p =>
    rw [hf] at h
    cases h
    have h1 := List.mem_of_find?_eq_some hf
    have h2 := List.find?_some hf
    have h2 : p.1 = n := of_decide_eq_true h2
    rw [← h2]
    exact h1
theorem kind_of_col {cs : List Col} (w : WF cs) {c : Col} (hc : c ∈ cs) : kindOf cs c.name = some c.kind := by
  unfold kindOf
  cases hf : cs.find? fun d => decide (d.name = c.name) with
  | none =>
    have := List.find?_eq_none.mp hf c hc
    simp at this
  | some d =>
    have h1 := List.mem_of_find?_eq_some hf
    have h2 := List.find?_some hf
    have h2 : d.name = c.name := of_decide_eq_true h2
    rw [pair_eq w.names h1 hc h2]
    rfl
/-- what is told of a column is of its kind -/
theorem told_fits {cs : List Col} (w : WF cs) {g : Gv} (hg : ∀ p ∈ g, ∃ k, kindOf cs p.1 = some k ∧ fitsV k p.2) {c : Col} (hc : c ∈ cs) {v : Val} (h : told g c.name = some v) : fitsV c.kind v := by
  obtain ⟨k, h1, h2⟩ := hg _ (told_mem h)
  rw [kind_of_col w hc] at h1
  cases h1
  exact h2
theorem unsh_fits {c : Col} (ho : okC c) {v : Val} (h : fitsV c.kind v) : ∃ u, unsh c v = some u ∧ fitsV c.kind u := by
  unfold fitsV at *
  rcases ho.1 with hk | hk
  · have hn : ¬ c.kind = "text" := by rw [hk]; decide
    rw [decide_eq_false hn] at h ⊢
    cases v with
    | text x => cases h
    | int i => exact ⟨.int (i - c.shift), by unfold unsh; rw [if_pos hk], rfl⟩
  · have hn : ¬ c.kind = "int" := by rw [hk]; decide
    exact ⟨v, if_neg hn, h⟩
theorem shift_fits {c : Col} (ho : okC c) {v : Val} (h : fitsV c.kind v) : (shiftV c v).isSome = true := by
  unfold fitsV at h
  rcases ho.1 with hk | hk
  · have hn : ¬ c.kind = "text" := by rw [hk]; decide
    rw [decide_eq_false hn] at h
    cases v with
    | text x => cases h
    | int i => unfold shiftV; rw [if_pos hk]; rfl
  · have hn : ¬ c.kind = "int" := by rw [hk]; decide
    unfold shiftV
    rw [if_neg hn]
    rfl
theorem dfl_fits {c : Col} (ho : okC c) : fitsV c.kind (dfl c) := by
  have h := dfl_unsh c ho
  unfold fitsV
  rcases ho.1 with hk | hk
  · have hn : ¬ c.kind = "text" := by rw [hk]; decide
    rw [decide_eq_false hn]
    have h1 := h.1
    unfold unsh at h1
    rw [if_pos hk] at h1
    cases hd : dfl c with
    | int i => rfl
    | text x => rw [hd] at h1; cases h1
  · have hn : ¬ c.kind = "int" := by rw [hk]; decide
    have h1 := h.1
    unfold unsh at h1
    rw [if_neg hn] at h1
    rw [Option.some.inj h1]
    exact ho.2
end K02

/-! KW: where columns come from; books hold values of the right kind. -/
namespace K02
open PySem PySem.Spec PyProof.Rows L2 Y Z
def Org (rs : List Raw) (ss : List Stp) (c : Col) : Prop := ∃ r : Raw, c.tag = r.tag ∧ c.kind = r.kind ∧ ((c.birth = 0 ∧ r ∈ rs) ∨ ∃ b : Nat, c.birth = (b : Int) + 1 ∧ ss[b]? = some (.add r))
theorem upd_birth (s : Stp) (c : Col) : (upd1 s c).birth = c.birth ∧ (upd1 s c).kind = c.kind := by
  unfold upd1
  split
  · split <;> exact ⟨rfl, rfl⟩
  · split <;> exact ⟨rfl, rfl⟩
  · exact ⟨rfl, rfl⟩
theorem step_mem {cs : List Col} {s : Stp} {n : Int} {c : Col} (h : c ∈ step cs n s) : (∃ d ∈ cs, c = upd1 s d) ∨ ∃ r, s = .add r ∧ c = bornC r n := by
  unfold step at h
  rcases List.mem_append.mp h with h | h
  · rw [step_keep] at h
    obtain ⟨d, hd, rfl⟩ := List.mem_map.mp h
    exact .inl ⟨d, (List.mem_filter.mp hd).1, rfl⟩
  · cases s with
    | add r => exact .inr ⟨r, rfl, List.mem_singleton.mp h⟩
    | drop t => cases h
    | name t x => cases h
    | shift t m => cases h
theorem org_run (rs : List Raw) (ss : List Stp) : ∀ (qs : List Stp) (cs : List Col) (i : Nat), (∀ c ∈ cs, Org rs ss c) → (∀ (j : Nat) (s : Stp), qs[j]? = some s → ss[i + j]? = some s) → ∀ c ∈ runFrom cs i qs, Org rs ss c
  | [], cs, i, h, _ => h
  | q :: qs, cs, i, h, hq => by
    refine org_run rs ss qs _ (i + 1) (fun c hc => ?_) fun j s hj => ?_
    · rcases step_mem hc with ⟨d, hd, rfl⟩ | ⟨r, rfl, rfl⟩
      · obtain ⟨r, h1, h2, h3⟩ := h d hd
        refine ⟨r, by rw [upd_tag]; exact h1, by rw [(upd_birth q d).2]; exact h2, ?_⟩
        rw [(upd_birth q d).1]
        exact h3
      · exact ⟨r, rfl, rfl, .inr ⟨i, rfl, hq 0 _ rfl⟩⟩
    · have := hq (j + 1) s (by simpa using hj)
      rw [show i + 1 + j = i + (j + 1) by omega]
      exact this
theorem org_state (rs : List Raw) (ss : List Stp) (n : Nat) : ∀ c ∈ stateAt rs ss n, Org rs ss c := by
  refine org_run rs ss _ _ 0 (fun c hc => ?_) fun j s hj => ?_
  · obtain ⟨r, hr, rfl⟩ := List.mem_map.mp hc
    exact ⟨r, rfl, rfl, .inl ⟨rfl, hr⟩⟩
  · rw [Nat.zero_add]
    rw [List.getElem?_take] at hj
    split at hj
    · exact hj
    · cases hj
theorem org_kind {rs : List Raw} {ss : List Stp} (hr : rs.Pairwise fun a b => a.tag ≠ b.tag) {c d : Col} (h1 : Org rs ss c) (h2 : Org rs ss d) (hb : c.birth = d.birth) (ht : c.tag = d.tag) : c.kind = d.kind := by
  obtain ⟨r, a1, a2, a3⟩ := h1
  obtain ⟨q, b1, b2, b3⟩ := h2
  rcases a3 with ⟨c1, c2⟩ | ⟨i, c1, c2⟩
  · rcases b3 with ⟨d1, d2⟩ | ⟨j, d1, d2⟩
    · rw [a2, b2, pair_eq hr c2 d2 (a1.symm.trans (ht.trans b1))]
    · omega
  · rcases b3 with ⟨d1, d2⟩ | ⟨j, d1, d2⟩
    · omega
    · have : i = j := by omega
      subst this
      rw [c2] at d2
      cases d2
      rw [a2, b2]
/-- all values are of their columns' kinds, at each shape -/
def TB (rs : List Raw) (ss : List Stp) (b : Bk) : Prop := ∀ p ∈ b, ∀ n : Nat, n ≤ ss.length → ∀ c ∈ stateAt rs ss n, (c.birth, c.tag) = p.1 → fitsV c.kind p.2
theorem got_fits {rs : List Raw} {ss : List Stp} {b : Bk} (tb : TB rs ss b) {n : Nat} (hn : n ≤ ss.length) {c : Col} (hc : c ∈ stateAt rs ss n) (ho : okC c) : fitsV c.kind (got b c) := by
  unfold got look
  cases hf : b.find? fun p => decide (p.1 = (c.birth, c.tag)) with
  | none => exact ho.2
  | some p =>
    have h2 := List.find?_some hf
    have h2 : p.1 = (c.birth, c.tag) := of_decide_eq_true h2
    exact tb p (List.mem_of_find?_eq_some hf) n hn c hc h2.symm
theorem writ_fits {cs : List Col} (w : WF cs) {g : Gv} (hg : ∀ c ∈ cs, ∀ v, told g c.name = some v → fitsV c.kind v) {p : (Int × Int) × Val} (hp : p ∈ writ g cs) : ∃ c ∈ cs, (c.birth, c.tag) = p.1 ∧ fitsV c.kind p.2 := by
  unfold writ at hp
  obtain ⟨c, hc, hp⟩ := List.mem_flatMap.mp hp
  unfold wr1 at hp
  cases ht : told g c.name with
  | none => rw [ht] at hp; cases hp
  | some v =>
    rw [ht] at hp
    have hp := List.mem_singleton.mp hp
    obtain ⟨u, h1, h2⟩ := unsh_fits (w.cols c hc) (hg c hc v ht)
    rw [h1] at hp
    subst hp
    exact ⟨c, hc, rfl, h2⟩
theorem tb_puts {rs : List Raw} {ss : List Stp} (hr : rs.Pairwise fun a b => a.tag ≠ b.tag) {b : Bk} (tb : TB rs ss b) (nb : ND b) {n : Nat} (hn : n ≤ ss.length) {cs : List Col} (hcs : ∀ c ∈ cs, c ∈ stateAt rs ss n) (w : WF cs) {g : Gv} (hg : ∀ c ∈ cs, ∀ v, told g c.name = some v → fitsV c.kind v) : TB rs ss (puts b (writ g cs)) := by
  intro p hp m hm d hd hk
  rcases (mem_puts (writ g cs) b nb (writ_nd w g) p).mp hp with h | ⟨h, _⟩
  · obtain ⟨c, hc, h1, h2⟩ := writ_fits w hg h
    have e : (d.birth, d.tag) = (c.birth, c.tag) := hk.trans h1.symm
    injection e with e1 e2
    rw [org_kind hr (org_state rs ss m d hd) (org_state rs ss n c (hcs c hc)) e1 e2]
    exact h2
  · exact tb p h m hm d hd hk
theorem tb_perm {rs : List Raw} {ss : List Stp} {b c : Bk} (p : b.Perm c) (tb : TB rs ss b) : TB rs ss c := fun x hx => tb x (p.mem_iff.mpr hx)
theorem rows_fits {cs : List Col} (w : WF cs) {g : Gv} (hg : ∀ c ∈ cs, ∀ v, told g c.name = some v → fitsV c.kind v) : ∀ c ∈ cs, ∀ v, told (rowsG g cs) c.name = some v → fitsV c.kind v := fun c hc v hv => by
  rw [told_rows g cs w.names c hc] at hv
  cases hv
  cases ht : told g c.name with
  | none => exact dfl_fits (w.cols c hc)
  | some u => exact hg c hc u ht
/-! states, one behind the other -/
theorem run_snoc : ∀ (qs : List Stp) (cs : List Col) (i : Nat) (s : Stp), runFrom cs i (qs ++ [s]) = step (runFrom cs i qs) (((i + qs.length : Nat) : Int) + 1) s
  | [], cs, i, s => by simp [runFrom]
  | q :: qs, cs, i, s => by
    rw [List.cons_append]
    unfold runFrom
    rw [run_snoc qs _ (i + 1) s, List.length_cons, show i + 1 + qs.length = i + (qs.length + 1) by omega]
theorem state_snoc (rs : List Raw) (ss : List Stp) (s : Stp) : stateAt rs (ss ++ [s]) (ss.length + 1) = step (stateAt rs ss ss.length) ((ss.length : Int) + 1) s := by
  unfold stateAt
  rw [List.take_of_length_le (by simp), List.take_of_length_le (Nat.le_refl _), run_snoc, Nat.zero_add]
theorem state_old (rs : List Raw) (ss : List Stp) (s : Stp) (n : Nat) (h : n ≤ ss.length) : stateAt rs (ss ++ [s]) n = stateAt rs ss n := by
  unfold stateAt
  rw [List.take_append_of_le_length h]
end K02

/-! KY: a turn: records and books. -/
namespace K02
open PySem PySem.Spec PyProof.Rows L2 Y Z
structure Tb (rs : List Raw) (ss : List Stp) : Prop where
  len : rs.length + ss.length < 60
  wf : ∀ n : Nat, n ≤ ss.length → WF (stateAt rs ss n)
  tags : rs.Pairwise fun a b => a.tag ≠ b.tag
structure BK (rs : List Raw) (ss : List Stp) (k : Nat) (b bk : Bk) : Prop where
  perm : b.Perm bk
  nd : ND b
  some : b ≠ []
  tb : TB rs ss bk
  len : b.length ≤ k
theorem Tb.srt_len {rs : List Raw} {ss : List Stp} (t : Tb rs ss) (n : Nat) : (srt (stateAt rs ss n)).length < 60 := by
  have := run_len (ss.take n) (rs.map (bornC · 0)) 0
  simp only [List.length_map, List.length_take] at this
  have := t.len
  rw [K02.srt_len]
  unfold stateAt
  omega
theorem Tb.srt_le (rs : List Raw) (ss : List Stp) (n : Nat) : (srt (stateAt rs ss n)).length ≤ rs.length + ss.length := by
  have := run_len (ss.take n) (rs.map (bornC · 0)) 0
  simp only [List.length_map, List.length_take] at this
  rw [K02.srt_len]
  unfold stateAt
  omega
theorem Tb.wfs {rs : List Raw} {ss : List Stp} (t : Tb rs ss) {n : Nat} (hn : n ≤ ss.length) : WF (srt (stateAt rs ss n)) := (t.wf n hn).perm (srt_perm _)
theorem giv_told {rs : List Raw} {ss : List Stp} (t : Tb rs ss) {n : Nat} (hn : n ≤ ss.length) {g : Gv} (h : givRes (kindOf (stateAt rs ss n)) g = .d .none) : (g.map (·.1)).Nodup ∧ ∀ c ∈ srt (stateAt rs ss n), ∀ v, told g c.name = some v → fitsV c.kind v := by
  obtain ⟨q1, q2, _⟩ := giv_ok _ g [] (giv_none h)
  refine ⟨q2, fun c hc v hv => told_fits (t.wfs hn) (fun p hp => ?_) hc hv⟩
  rw [kindOf_srt (t.wf n hn)]
  exact q1 p hp
theorem writ_len (g : Gv) : ∀ cs : List Col, (writ g cs).length ≤ cs.length
  | [] => Nat.le_refl _
  | c :: cs => by
    have ih := writ_len g cs
    have : (wr1 g c).length ≤ 1 := by unfold wr1; split <;> simp
    unfold writ at ih ⊢
    rw [List.flatMap_cons, List.length_append, List.length_cons]
    omega
theorem puts_len : ∀ (ps b : Bk), (puts b ps).length ≤ b.length + ps.length
  | [], b => by simp [puts]
  | p :: ps, b => by
    have h1 := puts_len ps (put b p.1 p.2)
    have h2 := put_len b p.1 p.2
    show (puts (put b p.1 p.2) ps).length ≤ _
    rw [List.length_cons]
    omega
theorem sortB_p (b : Bk) : (sortB b).Perm b := List.mergeSort_perm _ _
theorem turn_new {rs : List Raw} {ss : List Stp} (t : Tb rs ss) {n : Nat} (hn : n ≤ ss.length) {g : Gv} (hg : g.length < 64) (h : givRes (kindOf (stateAt rs ss n)) g = .d .none) : ∃ (b bk : Bk), BK rs ss (rs.length + ss.length) b bk ∧ b = sortB bk ∧ bk = writ (rowsG g (srt (stateAt rs ss n))) (srt (stateAt rs ss n)) ∧
    (∃ S, fn_new_record [.d (tD rs ss), .d (.int n), .d (.list (g.map pD))] [] = some (.d (recD b), S)) ∧
    fn__law_put [.d (.list ((stateAt rs ss n).map lD)), .c 0, .d (.list (g.map pD)), .d (.bool true)] [.dic (bookW [])] = some (.c 0, [.dic (bookW bk), .frz (.dict (gP g))]) := by
  obtain ⟨ndg, hf⟩ := giv_told t hn h
  have w := t.wfs hn
  have w0 := t.wf n hn
  have hl := t.srt_len n
  have hrf := rows_fits w hf
  have hun : ∀ c ∈ srt (stateAt rs ss n), ∀ v, told g c.name = some v → (unsh c v).isSome = true := fun c hc v hv => by
    obtain ⟨u, hu, _⟩ := unsh_fits (w.cols c hc) (hf c hc v hv)
    rw [hu]; rfl
  have e := lput_new g (srt (stateAt rs ss n)) w fun c hc => (dfl_unsh c (w.cols c hc)).1
  have hne : writ (rowsG g (srt (stateAt rs ss n))) (srt (stateAt rs ss n)) ≠ [] := by
    obtain ⟨c, hc⟩ := List.exists_mem_of_ne_nil _ w.some
    intro z
    have ht := told_rows g _ w.names c hc
    have : ∃ p, p ∈ writ (rowsG g (srt (stateAt rs ss n))) (srt (stateAt rs ss n)) := by
      refine ⟨((c.birth, c.tag), (unsh c ((told g c.name).getD (dfl c))).getD (.int 0)), List.mem_flatMap.mpr ⟨c, hc, ?_⟩⟩
      unfold wr1
      rw [ht]
      exact List.mem_singleton.mpr rfl
    obtain ⟨p, hp⟩ := this
    rw [z] at hp
    cases hp
  refine ⟨sortB (writ (rowsG g (srt (stateAt rs ss n))) (srt (stateAt rs ss n))), writ (rowsG g (srt (stateAt rs ss n))) (srt (stateAt rs ss n)), ⟨sortB_p _, sortB_nodup (writ_nd w _), fun z => hne ?_, ?_, ?_⟩, rfl, rfl, ?_, ?_⟩
  · have := sortB_p (writ (rowsG g (srt (stateAt rs ss n))) (srt (stateAt rs ss n)))
    rw [z] at this
    exact List.nil_perm.mp this
  · have := tb_puts (b := []) t.tags (fun p hp => by cases hp) List.nodup_nil hn (fun c hc => (srt_perm _).mem_iff.mp hc) w hrf
    have e2 := puts_nil (writ (rowsG g (srt (stateAt rs ss n))) (srt (stateAt rs ss n))) [] (by rw [List.nil_append]; exact writ_nd w _)
    rw [List.nil_append] at e2
    rwa [e2] at this
  · rw [(sortB_p _).length_eq]
    have := writ_len (rowsG g (srt (stateAt rs ss n))) (srt (stateAt rs ss n))
    have := Tb.srt_le rs ss n
    omega
  · exact r_new_record rs ss n g hn t.len w0.nd w.ndn hg ndg (fun c hc => (dfl_unsh c (w0.cols c hc)).2) (fun c hc v hv => by
      obtain ⟨u, hu, _⟩ := unsh_fits (w.cols c hc) (hrf c hc v hv)
      rw [hu]; rfl) (writ_nd w _)
  · rw [← e]
    exact r_lput (stateAt rs ss n) [] g true (by rw [← K02.srt_len]; omega) hg (by simp) w0.nd ndg (fun c hc v hv => hun c ((srt_perm _).mem_iff.mpr hc) v hv)
theorem turn_set {rs : List Raw} {ss : List Stp} (t : Tb rs ss) {n k : Nat} (hn : n ≤ ss.length) {g : Gv} (hg : g.length < 64) (h : givRes (kindOf (stateAt rs ss n)) g = .d .none) {b bk : Bk} (B : BK rs ss k b bk) (hk : k < 5000) : ∃ (b' bk' : Bk), BK rs ss (k + (rs.length + ss.length)) b' bk' ∧ b' = sortB bk' ∧ bk' = puts bk (writ g (srt (stateAt rs ss n))) ∧
    (∃ S, fn_set_record [.d (tD rs ss), .d (.int n), .d (recD b), .d (.list (g.map pD))] [] = some (.d (recD b'), S)) ∧
    fn__law_put [.d (.list ((stateAt rs ss n).map lD)), .c 0, .d (.list (g.map pD)), .d (.bool false)] [.dic (bookW bk)] = some (.c 0, [.dic (bookW bk'), .frz (.dict (gP g))]) := by
  obtain ⟨ndg, hf⟩ := giv_told t hn h
  have w := t.wfs hn
  have w0 := t.wf n hn
  have hl := t.srt_len n
  have hun : ∀ c ∈ srt (stateAt rs ss n), ∀ v, told g c.name = some v → (unsh c v).isSome = true := fun c hc v hv => by
    obtain ⟨u, hu, _⟩ := unsh_fits (w.cols c hc) (hf c hc v hv)
    rw [hu]; rfl
  have nbk : ND bk := (B.perm.map _).nodup_iff.mp B.nd
  have pp := puts_perm B.perm (sortB_p (writ g (srt (stateAt rs ss n)))) B.nd (sortB_nodup (writ_nd w g))
  have ndp : ND (puts b (sortB (writ g (srt (stateAt rs ss n))))) := puts_nd _ _ B.nd
  have hlw := writ_len g (srt (stateAt rs ss n))
  have hbl := B.len
  have hlb : bk.length = b.length := B.perm.length_eq.symm
  have es : sortB (puts b (sortB (writ g (srt (stateAt rs ss n))))) = sortB (puts bk (writ g (srt (stateAt rs ss n)))) := sortB_perm pp ndp
  have hne : puts bk (writ g (srt (stateAt rs ss n))) ≠ [] := by
    have gen : ∀ (ps b : Bk), b ≠ [] → puts b ps ≠ [] := by
      intro ps
      induction ps with
      | nil => intro b h; exact h
      | cons p ps ih =>
        intro b h
        refine ih (put b p.1 p.2) ?_
        unfold put
        split
        · simpa using h
        · simp
    refine gen _ _ fun z => B.some ?_
    have := B.perm
    rw [z] at this
    exact List.perm_nil.mp this
  refine ⟨sortB (puts b (sortB (writ g (srt (stateAt rs ss n))))), puts bk (writ g (srt (stateAt rs ss n))), ⟨(sortB_p _).trans pp, sortB_nodup ndp, fun z => hne ?_, tb_puts t.tags B.tb nbk hn (fun c hc => (srt_perm _).mem_iff.mp hc) w hf, ?_⟩, es, rfl, ?_, ?_⟩
  · have := ((sortB_p _).trans pp)
    rw [z] at this
    exact List.nil_perm.mp this
  · rw [(sortB_p _).length_eq]
    have := puts_len (sortB (writ g (srt (stateAt rs ss n)))) b
    rw [(sortB_p (writ g (srt (stateAt rs ss n)))).length_eq] at this
    have := Tb.srt_le rs ss n
    omega
  · exact r_set_record rs ss n b g hn t.len w0.nd hg ndg B.nd B.some (by omega) hun (writ_nd w g) ndp (by omega)
  · rw [← lput_old]
    exact r_lput (stateAt rs ss n) bk g false (by rw [← K02.srt_len]; omega) hg (by omega) w0.nd ndg (fun c hc v hv => hun c ((srt_perm _).mem_iff.mpr hc) v hv)
/-- what is read is the same -/
theorem turn_read {rs : List Raw} {ss : List Stp} (t : Tb rs ss) {n k : Nat} (hn : n ≤ ss.length) {b bk : Bk} (B : BK rs ss k b bk) : ∃ y : PyData, (∃ S, fn_row_at [.d (tD rs ss), .d (.int n), .d (recD b)] [] = some (.d y, S)) ∧ (∃ S, fn__law_read [.d (.list ((stateAt rs ss n).map lD)), .d (.dict (bookP bk))] [] = some (.d y, S)) ∧ deep 2 y := by
  have w0 := t.wf n hn
  have hl := t.srt_len n
  have nbk : ND bk := (B.perm.map _).nodup_iff.mp B.nd
  have hv : ∀ c ∈ stateAt rs ss n, (shiftV c (got bk c)).isSome = true := fun c hc => shift_fits (w0.cols c hc) (got_fits B.tb hn hc (w0.cols c hc))
  have hg : ∀ c, got b c = got bk c := fun c => got_perm B.perm B.nd c
  have hc : ∀ c, cellR b c = cellR bk c := fun c => by unfold cellR; rw [hg]
  refine ⟨.list ((srt (stateAt rs ss n)).map (cellR bk)), ⟨[.frz (.dict (bookP b))], ?_⟩, r_lread (stateAt rs ss n) bk (by rw [← K02.srt_len]; omega) w0.nd hv, .inr ⟨_, .inl rfl, by rw [List.length_map]; omega, fun y hy => ?_⟩⟩
  · have := r_row_at rs ss n b hn t.len w0.nd B.nd fun c hc => by rw [hg]; exact hv c hc
    rw [show (srt (stateAt rs ss n)).map (cellR b) = (srt (stateAt rs ss n)).map (cellR bk) from List.map_congr_left fun c _ => hc c] at this
    exact this
  · obtain ⟨c, hc, rfl⟩ := List.mem_map.mp hy
    refine .inr ⟨_, .inr rfl, (by show 2 < 1000; decide), fun z hz => ?_⟩
    rcases List.mem_cons.mp hz with rfl | hz
    · rfl
    · rw [List.mem_singleton.mp hz]
      cases (shiftV c (got bk c)).getD (.int 0) <;> rfl
end K02

/-! KZA: the law's beginning. -/
namespace K02
open PySem PySem.Spec PyProof.Rows L2 Y Z
theorem call_draws (ns : List Int) (hl : ns.length ≤ 63) (S : Store) (env : Z.Env) (h : env[0]? = some (some (.k ns))) : callL [] fn__law_draws (consX (varX 0) nilX) env S = some (.c S.length, S ++ [drC ⟨ns, 0, 0, 1⟩]) := by
  have hb := big
  have hf : fn__law_draws [.k ns] [] = some (.c 0, [drC ⟨ns, 0, 0, 1⟩]) := by
    refine ret_fn rfl ?_
    unfold b__law_draws pk__law_draws
    dsimp only
    refine ret_ret (arg_n (as := [.d (.list (ns.map PyData.int)), .d (.int 0), .d (.int 0), .d (.int 1)]) (S1 := []) (cons_n (arg_n (as := [.k ns]) (S1 := []) rfl ?_) rfl) rfl)
    show (match itemsK (.k ns) with
      | some xs => newL [] xs
      | none => none) = _
    show newL [] (ns.map fun i => W.d (.int i)) = _
    rw [show ns.map (fun i => W.d (.int i)) = (ns.map PyData.int).map W.d by rw [List.map_map]; rfl]
    exact newL_d [] (by rw [List.length_map]; omega)
  unfold callL
  rw [show consX (varX 0) nilX env S = some ([.k ns], S) from cons_n (by unfold varX; rw [h]) rfl]
  have e1 : cellIx [] [.k ns] = [] := rfl
  have e2 : argsW S [] [] [.k ns] = some [.k ns] := by simp [argsW]
  dsimp only
  rw [e1, e2]
  dsimp only [cellsAt]
  rw [hf]
  simp only [putBack, backW, List.getElem?_nil, List.getElem?_cons_zero]
  rw [if_pos (show plainC (drC ⟨ns, 0, 0, 1⟩) = true from rfl)]
/-- columns drawn, one by one -/
theorem columns_n {env : Z.Env} (he : (env.set 3 none)[1]? = some (some (.c 0))) (h3 : 3 < env.length) : ∀ (ws : List W) (d : Dr) (L : Store), d.ok → ∃ (rs : List Raw) (d' : Dr), d'.ok ∧ rs.length = ws.length ∧ (∀ r ∈ rs, okR r) ∧ compL none (nameG 3) yesT (callL [true] fn__law_column (consX (varX 1) nilX)) (env.set 3 none) ws (drC d :: L) = some ((rs.map rD).map W.d, drC d' :: L)
  | [], d, L, ok => ⟨[], d, ok, rfl, fun r h => (by cases h), comp_nil (gd := none) (S := drC d :: L) True.intro⟩
  | w :: ws, d, L, ok => by
    obtain ⟨r, d1, ok1, hr, hf⟩ := r_column d ok
    obtain ⟨rs, d2, ok2, q1, q2, q3⟩ := columns_n he h3 ws d1 L ok1
    refine ⟨r :: rs, d2, ok2, by rw [List.length_cons, q1, List.length_cons], fun x hx => ?_, ?_⟩
    · rcases List.mem_cons.mp hx with rfl | hx
      · exact hr
      · exact q2 x hx
    · rw [List.map_cons, List.map_cons]
      have hv : varX 1 ((env.set 3 none).set 3 (some w)) (drC d :: L) = some (.c 0, drC d :: L) := by
        unfold varX
        rw [List.getElem?_set_ne (by decide), he]
      exact comp_yes (gd := none) (S := drC d :: L) True.intro rfl rfl (call_dr (ds := []) (m := 0) hf (cons_n hv rfl) rfl rfl) q3
def dueStep (q : Option Str × List Col) (r : Raw) : Option Str × List Col := (match q.1 with
  | none => colFault r q.2
  | some x => some x, q.2 ++ [bornC r 0])
theorem due_fold : ∀ (rs : List Raw) (q : Option Str × List Col), rs.foldl dueStep q = (match q.1 with
    | none => tabFault q.2 rs
    | some x => some x, q.2 ++ rs.map (bornC · 0))
  | [], (due, acc) => by
    cases due <;> simp [tabFault]
  | r :: rs, (due, acc) => by
    rw [List.foldl_cons, due_fold rs]
    cases due with
    | some x => simp [dueStep]
    | none =>
      have e : tabFault acc (r :: rs) = (match colFault r acc with
        | none => tabFault (acc ++ [bornC r 0]) rs
        | some x => some x) := rfl
      dsimp only
      rw [e]
      cases hc : colFault r acc <;> simp [dueStep, hc]
theorem ne_fault (x : Option Str) (S : Store) : neW S (.d (fD x)) (.d (fD x)) = some (.d (.bool false), S) := by
  cases x with
  | none => rfl
  | some s =>
    show some (W.d (.bool (!decide (s = s))), S) = _
    rw [decide_eq_true rfl]
    rfl
theorem is_none_f (x : Option Str) : isNoneW (.d (fD x)) = x.isNone := by cases x <;> rfl
end K02

/-! KZB: what repr can show. -/
namespace K02
open PySem PySem.Spec PyProof.Rows L2 Y Z
mutual
def tiny : PyData → Bool
  | .none => true
  | .bool _ => true
  | .int i => decide (i.natAbs < 1000000)
  | .str x => decide (x.cps.size ≤ 20) && x.cps.toList.all fun c => decide (c < 16 ^ 8)
  | .list xs => tinyAll xs
  | .tuple xs => tinyAll xs
  | .dict _ => false
def tinyAll : List PyData → Bool
  | [] => true
  | x :: xs => tiny x && tinyAll xs
end
theorem int_small {i : Int} (h : i.natAbs < 1000000) : i.natAbs.log2 < 1920 := by
  by_cases h0 : i.natAbs = 0
  · rw [h0]; decide
  · rw [Nat.log2_lt h0]
    exact Nat.lt_of_lt_of_le (Nat.lt_of_lt_of_le h (by decide : 1000000 ≤ 2 ^ 20)) (Nat.pow_le_pow_right (by decide) (by decide))
mutual
theorem tiny_ok : ∀ d : PyData, tiny d = true → d.showable = true ∧ d.hasDict = false ∧ d.leavesShort 1921 = true
  | .none, _ => ⟨rfl, rfl, rfl⟩
  | .bool _, _ => ⟨rfl, rfl, rfl⟩
  | .int i, h => by
    have h : i.natAbs < 1000000 := by simpa only [tiny, decide_eq_true_eq] using h
    refine ⟨by simpa only [PyData.showable, decide_eq_true_eq] using int_small h, rfl, ?_⟩
    simp only [PyData.leavesShort, decide_eq_true_eq]
    simp only [PyData.shown]
    exact int_text_len_1921 (int_small h)
  | .str x, h => by
    simp only [tiny, Bool.and_eq_true] at h
    exact ⟨rfl, rfl, h.2⟩
  | .list xs, h => by
    obtain ⟨h1, h2, h3⟩ := tinys_ok xs (by simpa only [tiny] using h)
    exact ⟨by simpa only [PyData.showable] using h1, by simpa only [PyData.hasDict] using h2, by simpa only [PyData.leavesShort] using h3⟩
  | .tuple xs, h => by
    obtain ⟨h1, h2, h3⟩ := tinys_ok xs (by simpa only [tiny] using h)
    exact ⟨by simpa only [PyData.showable] using h1, by simpa only [PyData.hasDict] using h2, by simpa only [PyData.leavesShort] using h3⟩
  | .dict _, h => by simp [tiny] at h
theorem tinys_ok : ∀ ds : List PyData, tinyAll ds = true → PyData.showableAll ds = true ∧ PyData.hasDictAll ds = false ∧ PyData.leavesShortAll 1921 ds = true
  | [], _ => ⟨rfl, rfl, rfl⟩
  | d :: ds, h => by
    simp only [tinyAll, Bool.and_eq_true] at h
    obtain ⟨a1, a2, a3⟩ := tiny_ok d h.1
    obtain ⟨b1, b2, b3⟩ := tinys_ok ds h.2
    simp only [PyData.showableAll, PyData.hasDictAll, PyData.leavesShortAll, a1, a2, a3, b1, b2, b3]
    exact ⟨rfl, rfl, rfl⟩
end
theorem tinyAll_of {α : Type} (d : α → PyData) : ∀ xs : List α, (∀ x ∈ xs, tiny (d x) = true) → tinyAll (xs.map d) = true
  | [], _ => rfl
  | x :: xs, h => by
    rw [List.map_cons]
    simp only [tinyAll, Bool.and_eq_true]
    exact ⟨h x List.mem_cons_self, tinyAll_of d xs fun y hy => h y (List.mem_cons_of_mem _ hy)⟩
theorem bulkAll_of {α : Type} (d : α → PyData) (k : Nat) : ∀ xs : List α, (∀ x ∈ xs, (d x).bulk ≤ k) → PyData.bulkAll (xs.map d) ≤ (k + 1) * xs.length
  | [], _ => Nat.zero_le _
  | x :: xs, h => by
    rw [List.map_cons, List.length_cons, Nat.mul_succ]
    simp only [PyData.bulkAll]
    have h1 := h x List.mem_cons_self
    have h2 := bulkAll_of d k xs fun y hy => h y (List.mem_cons_of_mem _ hy)
    omega
theorem repr_n {fa : FE} {env : Z.Env} {S S1 : Store} {d : PyData} (h : fa env S = some (.d d, S1)) (hs : isSeq d = true) (ht : tiny d = true) (hb : d.bulk ≤ 8000) (hd : d.depth ≤ 60) : argX reprW (consX fa nilX) env S = some (.d (.str d.shown), S1) := by
  obtain ⟨h1, h2, h3⟩ := tiny_ok d ht
  have hl := PyData.shown_le_bulk 1921 (by decide) d h3
  have hl2 : (1921 + 2) * d.bulk ≤ 1923 * 8000 := Nat.mul_le_mul_left 1923 hb
  have hz : d.shown.length ≤ sizeLine := by
    rw [sizeLine_eq]
    omega
  refine arg_n (cons_n h rfl) ?_
  have hne : ∀ S, reprW S [.d d] = (match snap S (.d d) with
    | some d => if isSeq d = true ∧ d.showable = true ∧ d.hasDict = false ∧ d.depth ≤ 60 ∧ d.shown.length ≤ sizeLine then some (.d (.str d.shown), S) else none
    | none => none) := fun S => by
    cases d <;> first | rfl | cases hs
  rw [hne]
  show (if isSeq d = true ∧ d.showable = true ∧ d.hasDict = false ∧ d.depth ≤ 60 ∧ d.shown.length ≤ sizeLine then some (W.d (.str d.shown), S1) else none) = _
  rw [if_pos ⟨hs, h1, h2, hd, hz⟩]
end K02

/-! KZC: the table can be shown. -/
namespace K02
open PySem PySem.Spec PyProof.Rows L2 Y Z
def small (d : PyData) (k : Nat) : Prop := tiny d = true ∧ d.bulk ≤ k ∧ d.depth ≤ 3
theorem okR_small {r : Raw} (h : okR r) : small (rD r) 40 := by
  obtain ⟨tag, name, kind, dflt⟩ := r
  obtain ⟨h1, h2, h3, h4⟩ := h
  dsimp only at h1 h2 h3 h4
  have a1 : tiny (.int tag) = true := by
    simp only [List.mem_cons, List.not_mem_nil, or_false] at h1
    rcases h1 with rfl | rfl | rfl | rfl | rfl | rfl | rfl | rfl <;> rfl
  have a2 : tiny (.str name) = true ∧ name.cps.size ≤ 1 := by
    simp only [List.mem_cons, List.not_mem_nil, or_false] at h2
    rcases h2 with rfl | rfl | rfl | rfl <;> exact ⟨by decide +kernel, by decide +kernel⟩
  have a3 : tiny (.str kind) = true ∧ kind.cps.size ≤ 4 := by
    rcases h3 with rfl | rfl <;> exact ⟨by decide +kernel, by decide +kernel⟩
  have a4 : tiny (vD dflt) = true ∧ (vD dflt).bulk ≤ 20 ∧ (vD dflt).depth = 0 := by
    cases dflt with
    | int i =>
      refine ⟨?_, Nat.zero_le _, rfl⟩
      have : i.natAbs < 1000000 := by have := h4.1; have := h4.2; omega
      show decide (i.natAbs < 1000000) = true
      exact decide_eq_true this
    | text x =>
      have h4 : x ∈ ([Str.ofString "", Str.ofString "a", Str.ofString "b0", Str.ofString "z z"] : List Str) := h4
      simp only [List.mem_cons, List.not_mem_nil, or_false] at h4
      rcases h4 with rfl | rfl | rfl | rfl <;> exact ⟨by decide +kernel, by decide +kernel, rfl⟩
  refine ⟨?_, ?_, ?_⟩
  · show tiny (.tuple [.int tag, .str name, .str kind, vD dflt]) = true
    simp only [tiny, tinyAll] at a1 a2 a3 ⊢
    simp only [a1, a2.1, a3.1, a4.1, Bool.and_true]
  · show PyData.bulk (.tuple [.int tag, .str name, .str kind, vD dflt]) ≤ 40
    simp only [PyData.bulk, PyData.bulkAll]
    omega
  · show PyData.depth (.tuple [.int tag, .str name, .str kind, vD dflt]) ≤ 3
    cases dflt <;> (simp only [vD]; exact (by decide : (1 : Nat) ≤ 3))
end K02

/-! KZD: steps and tables can be shown. -/
namespace K02
open PySem PySem.Spec PyProof.Rows L2 Y Z
def smallI (i : Int) : Prop := i.natAbs < 1000000
theorem tiny_int {i : Int} (h : smallI i) : tiny (.int i) = true := decide_eq_true h
theorem raw_tag {r : Raw} {k : Nat} (h : small (rD r) k) : smallI r.tag := by
  have h1 := h.1
  have h1 : tiny (.tuple [.int r.tag, .str r.name, .str r.kind, vD r.dflt]) = true := h1
  simp only [tiny, tinyAll, Bool.and_eq_true, decide_eq_true_eq] at h1
  exact h1.1
theorem okS_small {cs : List Col} {s : Stp} (h : okS cs s) (ht : ∀ c ∈ cs, smallI c.tag) : small (sD s) 60 := by
  have tg : ∀ t : Int, (t = 77 ∨ t ∈ cs.map (·.tag)) → smallI t := fun t ht2 => by
    rcases ht2 with rfl | h2
    · show (77 : Int).natAbs < 1000000
      decide
    · obtain ⟨c, hc, rfl⟩ := List.mem_map.mp h2
      exact ht c hc
  have b1 : (Str.ofString "add").cps.size ≤ 8 ∧ (Str.ofString "drop").cps.size ≤ 8 ∧ (Str.ofString "name").cps.size ≤ 8 ∧ (Str.ofString "shift").cps.size ≤ 8 := ⟨by decide +kernel, by decide +kernel, by decide +kernel, by decide +kernel⟩
  have b2 : tiny (.str (Str.ofString "add")) = true ∧ tiny (.str (Str.ofString "drop")) = true ∧ tiny (.str (Str.ofString "name")) = true ∧ tiny (.str (Str.ofString "shift")) = true := ⟨by decide +kernel, by decide +kernel, by decide +kernel, by decide +kernel⟩
  cases s with
  | add r =>
    obtain ⟨h1, h2, h3⟩ := okR_small (show okR r from h)
    have h1 : tinyAll [.int r.tag, .str r.name, .str r.kind, vD r.dflt] = true := by
      have : tiny (.tuple [.int r.tag, .str r.name, .str r.kind, vD r.dflt]) = true := h1
      simpa only [tiny] using this
    have h2 : PyData.bulkAll [.int r.tag, .str r.name, .str r.kind, vD r.dflt] ≤ 40 := by
      have : PyData.bulk (.tuple [.int r.tag, .str r.name, .str r.kind, vD r.dflt]) ≤ 40 := h2
      simpa only [PyData.bulk] using this
    refine ⟨?_, ?_, ?_⟩
    · show tiny (.tuple (.str "add" :: [.int r.tag, .str r.name, .str r.kind, vD r.dflt])) = true
      unfold tiny tinyAll
      rw [b2.1, h1]
      rfl
    · show PyData.bulk (.tuple (.str "add" :: [.int r.tag, .str r.name, .str r.kind, vD r.dflt])) ≤ 60
      have e : PyData.bulk (.tuple (.str "add" :: [.int r.tag, .str r.name, .str r.kind, vD r.dflt])) = (Str.ofString "add").cps.size + 1 + PyData.bulkAll [.int r.tag, .str r.name, .str r.kind, vD r.dflt] := by
        simp only [PyData.bulk, PyData.bulkAll]
      have := b1.1
      omega
    · show PyData.depth (.tuple [.str "add", .int r.tag, .str r.name, .str r.kind, vD r.dflt]) ≤ 3
      cases r.dflt <;> (simp only [vD]; exact (by decide : (1 : Nat) ≤ 3))
  | drop t =>
    have := tiny_int (tg t h)
    refine ⟨?_, ?_, (by show PyData.depth (.tuple [.str "drop", .int t]) ≤ 3; exact (by decide : (1 : Nat) ≤ 3))⟩
    · show tiny (.tuple [.str "drop", .int t]) = true
      simp only [tiny, tinyAll, Bool.and_true, Bool.and_eq_true] at this b2 ⊢
      exact ⟨b2.2.1, this⟩
    · show PyData.bulk (.tuple [.str "drop", .int t]) ≤ 60
      simp only [PyData.bulk, PyData.bulkAll]
      omega
  | name t x =>
    have := tiny_int (tg t h.1)
    have hx : tiny (.str x) = true ∧ x.cps.size ≤ 1 := by
      have h2 := h.2
      simp only [List.mem_cons, List.not_mem_nil, or_false] at h2
      rcases h2 with rfl | rfl | rfl | rfl <;> exact ⟨by decide +kernel, by decide +kernel⟩
    refine ⟨?_, ?_, (by show PyData.depth (.tuple [.str "name", .int t, .str x]) ≤ 3; exact (by decide : (1 : Nat) ≤ 3))⟩
    · show tiny (.tuple [.str "name", .int t, .str x]) = true
      simp only [tiny, tinyAll, Bool.and_true, Bool.and_eq_true] at this b2 hx ⊢
      exact ⟨b2.2.2.1, this, hx.1⟩
    · show PyData.bulk (.tuple [.str "name", .int t, .str x]) ≤ 60
      simp only [PyData.bulk, PyData.bulkAll]
      omega
  | shift t n =>
    have := tiny_int (tg t h.1)
    have hn : smallI n := by
      have h1 := h.2.1
      have h2 := h.2.2
      show n.natAbs < 1000000
      omega
    have hn := tiny_int hn
    refine ⟨?_, ?_, (by show PyData.depth (.tuple [.str "shift", .int t, .int n]) ≤ 3; exact (by decide : (1 : Nat) ≤ 3))⟩
    · show tiny (.tuple [.str "shift", .int t, .int n]) = true
      simp only [tiny, tinyAll, Bool.and_true, Bool.and_eq_true] at this b2 hn ⊢
      exact ⟨b2.2.2.2, this, hn⟩
    · show PyData.bulk (.tuple [.str "shift", .int t, .int n]) ≤ 60
      simp only [PyData.bulk, PyData.bulkAll]
      omega
theorem depthAll_of {α : Type} (d : α → PyData) (k : Nat) : ∀ xs : List α, (∀ x ∈ xs, (d x).depth ≤ k) → PyData.depthAll (xs.map d) ≤ k
  | [], _ => Nat.zero_le _
  | x :: xs, h => by
    rw [List.map_cons]
    have h1 := h x List.mem_cons_self
    have h2 := depthAll_of d k xs fun y hy => h y (List.mem_cons_of_mem _ hy)
    show max (PyData.depth (d x)) (PyData.depthAll (xs.map d)) ≤ k
    omega
theorem tab_small {rs : List Raw} {ss : List Stp} (hl : rs.length + ss.length < 60) (hr : ∀ r ∈ rs, small (rD r) 40) (hs : ∀ s ∈ ss, small (sD s) 60) : tiny (tD rs ss) = true ∧ (tD rs ss).bulk ≤ 8000 ∧ (tD rs ss).depth ≤ 60 := by
  have a1 := tinyAll_of rD rs fun r h => (hr r h).1
  have a2 := tinyAll_of sD ss fun r h => (hs r h).1
  have b1 := bulkAll_of rD 40 rs fun r h => (hr r h).2.1
  have b2 := bulkAll_of sD 60 ss fun r h => (hs r h).2.1
  have c1 := depthAll_of rD 3 rs fun r h => (hr r h).2.2
  have c2 := depthAll_of sD 3 ss fun r h => (hs r h).2.2
  have t1 : tiny (.str (Str.ofString "table")) = true := by decide +kernel
  have t2 : tiny (.str (Str.ofString "t")) = true := by decide +kernel
  have s1 : (Str.ofString "table").cps.size ≤ 5 := by decide +kernel
  have s2 : (Str.ofString "t").cps.size ≤ 1 := by decide +kernel
  refine ⟨?_, ?_, ?_⟩
  · show tiny (.tuple [.str "table", .str "t", .list (rs.map rD), .list (ss.map sD)]) = true
    simp only [tiny, tinyAll] at t1 t2 ⊢
    simp only [t1, t2, a1, a2, Bool.and_true]
  · show PyData.bulk (.tuple [.str "table", .str "t", .list (rs.map rD), .list (ss.map sD)]) ≤ 8000
    simp only [PyData.bulk, PyData.bulkAll]
    omega
  · show max 0 (max 0 (max (PyData.depthAll (rs.map rD) + 1) (max (PyData.depthAll (ss.map sD) + 1) 0))) + 1 ≤ 60
    omega
/-- tags of states are small -/
theorem state_tags {rs : List Raw} {ss : List Stp} (hr : ∀ r ∈ rs, smallI r.tag) (hs : ∀ r, Stp.add r ∈ ss → smallI r.tag) (n : Nat) : ∀ c ∈ stateAt rs ss n, smallI c.tag := fun c hc => by
  obtain ⟨r, h1, _, h3⟩ := org_state rs ss n c hc
  rw [h1]
  rcases h3 with ⟨_, h⟩ | ⟨b, _, h⟩
  · exact hr r h
  · exact hs r (List.mem_of_getElem? h)
end K02

/-! KZE: records can be shown. -/
namespace K02
open PySem PySem.Spec PyProof.Rows L2 Y Z
/-- a value within m -/
def valB (m : Nat) : Val → Prop
  | .int i => i.natAbs ≤ m
  | .text x => tiny (.str x) = true
structure colB (k : Nat) (c : Col) : Prop where
  sh : c.shift.natAbs ≤ 7 * k
  df : valB 20 c.dflt
  bi : c.birth.natAbs ≤ k
  tg : smallI c.tag
theorem okV_B {v : Val} (h : okV v) : valB 20 v := by
  cases v with
  | int i => have h1 := h.1; have h2 := h.2; show i.natAbs ≤ 20; omega
  | text x =>
    have h : x ∈ ([Str.ofString "", Str.ofString "a", Str.ofString "b0", Str.ofString "z z"] : List Str) := h
    simp only [List.mem_cons, List.not_mem_nil, or_false] at h
    show tiny (.str x) = true
    rcases h with rfl | rfl | rfl | rfl <;> decide +kernel
theorem colB.mono {k j : Nat} {c : Col} (h : colB k c) (hk : k ≤ j) : colB j c := ⟨by have := h.sh; omega, h.df, by have := h.bi; omega, h.tg⟩
theorem step_B {cs : List Col} {s : Stp} {k : Nat} (h : ∀ c ∈ cs, colB k c) (hr : ∀ r, s = .add r → valB 20 r.dflt ∧ smallI r.tag) (hn : ∀ t n, s = .shift t n → n.natAbs ≤ 7) : ∀ c ∈ step cs ((k : Int) + 1) s, colB (k + 1) c := fun c hc => by
  rcases step_mem hc with ⟨d, hd, rfl⟩ | ⟨r, rfl, rfl⟩
  · have hb := h d hd
    have hm := hb.mono (Nat.le_succ k)
    cases s with
    | add r => exact hm
    | drop t => exact hm
    | name t x =>
      show colB (k + 1) (if d.tag = t then _ else _)
      split
      · exact ⟨hm.sh, hm.df, hm.bi, hm.tg⟩
      · exact hm
    | shift t n =>
      show colB (k + 1) (if d.tag = t then _ else _)
      split
      · refine ⟨?_, hm.df, hm.bi, hm.tg⟩
        have h1 := hb.sh
        have h2 := hn t n rfl
        show (d.shift + n).natAbs ≤ 7 * (k + 1)
        omega
      · exact hm
  · obtain ⟨h1, h2⟩ := hr r rfl
    exact ⟨Nat.zero_le _, h1, (by show ((k : Int) + 1).natAbs ≤ k + 1; omega), h2⟩
theorem run_B : ∀ (qs : List Stp) (cs : List Col) (i : Nat), (∀ c ∈ cs, colB i c) → (∀ r, Stp.add r ∈ qs → valB 20 r.dflt ∧ smallI r.tag) → (∀ t n, Stp.shift t n ∈ qs → n.natAbs ≤ 7) → ∀ c ∈ runFrom cs i qs, colB (i + qs.length) c
  | [], cs, i, h, _, _ => h
  | q :: qs, cs, i, h, hr, hn => fun c hc => by
    have := run_B qs (step cs ((i : Int) + 1) q) (i + 1) (step_B h (fun r e => hr r (by rw [e]; exact List.mem_cons_self)) fun t n e => hn t n (by rw [e]; exact List.mem_cons_self)) (fun r hr2 => hr r (List.mem_cons_of_mem _ hr2)) (fun t n h2 => hn t n (List.mem_cons_of_mem _ h2)) c hc
    rw [List.length_cons, show i + (qs.length + 1) = i + 1 + qs.length by omega]
    exact this
theorem state_B {rs : List Raw} {ss : List Stp} (h0 : ∀ r ∈ rs, valB 20 r.dflt ∧ smallI r.tag) (hr : ∀ r, Stp.add r ∈ ss → valB 20 r.dflt ∧ smallI r.tag) (hn : ∀ t n, Stp.shift t n ∈ ss → n.natAbs ≤ 7) (n : Nat) : ∀ c ∈ stateAt rs ss n, colB ss.length c := fun c hc => by
  have := run_B (ss.take n) (rs.map (bornC · 0)) 0 (fun c hc => by
    obtain ⟨r, hr, rfl⟩ := List.mem_map.mp hc
    exact ⟨Nat.le_refl _, (h0 r hr).1, Nat.le_refl _, (h0 r hr).2⟩) (fun r h => hr r (List.mem_of_mem_take h)) (fun t m h => hn t m (List.mem_of_mem_take h)) c hc
  exact this.mono (by rw [Nat.zero_add, List.length_take]; omega)
/-- what stands in books is small -/
def BS (b : Bk) : Prop := ∀ p ∈ b, smallI p.1.1 ∧ smallI p.1.2 ∧ valB 1000 p.2
theorem unsh_B {c : Col} {k : Nat} (h : colB k c) (hk : k ≤ 60) {v u : Val} (hv : valB 500 v) (e : unsh c v = some u) : valB 1000 u := by
  unfold unsh at e
  split at e
  · cases v with
    | int i =>
      cases e
      have h1 := h.sh
      have h2 : i.natAbs ≤ 500 := hv
      show (i - c.shift).natAbs ≤ 1000
      omega
    | text x => cases e
  · cases e
    cases v with
    | int i =>
      have h2 : i.natAbs ≤ 500 := hv
      show i.natAbs ≤ 1000
      omega
    | text x => exact hv
theorem writ_BS {cs : List Col} {g : Gv} {k : Nat} (hk : k ≤ 60) (h : ∀ c ∈ cs, colB k c) (hg : ∀ c ∈ cs, ∀ v, told g c.name = some v → valB 500 v) : BS (writ g cs) := fun p hp => by
  unfold writ at hp
  obtain ⟨c, hc, hp⟩ := List.mem_flatMap.mp hp
  unfold wr1 at hp
  cases ht : told g c.name with
  | none => rw [ht] at hp; cases hp
  | some v =>
    rw [ht] at hp
    rw [List.mem_singleton.mp hp]
    have hb := h c hc
    refine ⟨?_, hb.tg, ?_⟩
    · have := hb.bi
      show c.birth.natAbs < 1000000
      omega
    · cases hu : unsh c v with
      | none => exact Nat.zero_le _
      | some u => exact unsh_B hb hk (hg c hc v ht) hu
theorem puts_BS {b ps : Bk} (nb : ND b) (np : ND ps) (h1 : BS b) (h2 : BS ps) : BS (puts b ps) := fun p hp => by
  rcases (mem_puts ps b nb np p).mp hp with h | ⟨h, _⟩
  · exact h2 p h
  · exact h1 p h
theorem rec_small {b : Bk} (h : BS b) (hl : b.length ≤ 150) : tiny (recD b) = true ∧ (recD b).bulk ≤ 8000 ∧ (recD b).depth ≤ 60 := by
  have each : ∀ p ∈ b, tiny (.tuple [kT p.1, vD p.2]) = true ∧ PyData.bulk (.tuple [kT p.1, vD p.2]) ≤ 40 ∧ PyData.depth (.tuple [kT p.1, vD p.2]) ≤ 3 := fun p hp => by
    obtain ⟨h1, h2, h3⟩ := h p hp
    have a1 := tiny_int h1
    have a2 := tiny_int h2
    have a3 : tiny (vD p.2) = true ∧ (vD p.2).bulk ≤ 20 ∧ (vD p.2).depth = 0 := by
      cases hv : p.2 with
      | int i =>
        rw [hv] at h3
        have h3 : i.natAbs ≤ 1000 := h3
        exact ⟨tiny_int (show i.natAbs < 1000000 by omega), Nat.zero_le _, rfl⟩
      | text x =>
        rw [hv] at h3
        have h3 : tiny (.str x) = true := h3
        refine ⟨h3, ?_, rfl⟩
        simp only [tiny, Bool.and_eq_true, decide_eq_true_eq] at h3
        exact h3.1
    refine ⟨?_, ?_, ?_⟩
    · unfold kT
      simp only [tiny, tinyAll, Bool.and_true, Bool.and_eq_true] at a1 a2 ⊢
      exact ⟨⟨a1, a2⟩, a3.1⟩
    · unfold kT
      simp only [PyData.bulk, PyData.bulkAll]
      omega
    · show max (max 0 (max 0 0) + 1) (max (PyData.depth (vD p.2)) 0) + 1 ≤ 3
      rw [a3.2.2]
      decide
  have c1 := tinyAll_of (fun p : (Int × Int) × Val => PyData.tuple [kT p.1, vD p.2]) b fun p hp => (each p hp).1
  have c2 := bulkAll_of (fun p : (Int × Int) × Val => PyData.tuple [kT p.1, vD p.2]) 40 b fun p hp => (each p hp).2.1
  have c3 := depthAll_of (fun p : (Int × Int) × Val => PyData.tuple [kT p.1, vD p.2]) 3 b fun p hp => (each p hp).2.2
  refine ⟨?_, ?_, ?_⟩
  · unfold recD
    simp only [tiny]
    exact c1
  · unfold recD
    simp only [PyData.bulk]
    omega
  · show PyData.depthAll _ + 1 ≤ 60
    omega
end K02

/-! KZK: the law's promise from what it tells. -/
namespace K02
open PySem PySem.Spec PyProof.Rows L2 Y Z
theorem law_of (LT : ∀ ns : List Int, ns.length ≤ 63 → ∃ S, fn_law [.k ns] [] = some (.d (.bool true), S)) {P : Program} {w : World} {K : PySem.W.Frag} {a : Addr} {ns : List Int} {H : Hp} (hl : ns.length ≤ 63) (hS : SqL K H a (ns.map V.int)) : spLaw P w K [.ref a] H (fun v _ => v = .bl true) fun _ _ _ => False := by
  obtain ⟨S, h⟩ := LT ns hl
  refine ⟨[.k ns], [], .d (.bool true), S, H, [], rfl, ⟨Same.refl H, rfl, List.nodup_nil, (fun _ z => nomatch z), fun n a c h1 _ => by simp at h1⟩, .cons ⟨a, rfl, hS⟩ .nil, h, fun v G' H' μ' x r => ?_⟩
  cases r
  rfl
end K02

/-! KZF: the law draws its columns; what is due of them. -/
namespace K02
open PySem PySem.Spec PyProof.Rows L2 Y Z
theorem law_columns {env : Z.Env} (he : env[1]? = some (some (.c 0))) (h3 : 3 < env.length) (d : Dr) (ok : d.ok) : ∃ (rs : List Raw) (d' : Dr), d'.ok ∧ 1 ≤ rs.length ∧ rs.length ≤ 4 ∧ (∀ r ∈ rs, okR r) ∧
    lcX newL [3] (range1I (consX (op2X (addW newL) (conX (.int 1)) (callL [true, false] fn__law_draw (consX (varX 1) (consX (conX (.int 4)) nilX)))) nilX)) (nameG 3) yesT (callL [true] fn__law_column (consX (varX 1) nilX)) env [drC d] = some (.d (.list (rs.map rD)), [drC d']) := by
  have hb := big
  obtain ⟨v, d1, ok1, g1, g2, hf⟩ := r_draw d ok 4 (by decide) (by decide)
  obtain ⟨i, hi⟩ : ∃ i : Nat, v = i := ⟨v.toNat, by omega⟩
  subst hi
  have hv : varX 1 env [drC d] = some (.c 0, [drC d]) := by unfold varX; rw [he]
  have hdr := call_dr (f := fn__law_draw) (fa := consX (varX 1) (consX (conX (.int 4)) nilX)) (env := env) (S := [drC d]) (ds := [.int 4]) (m := 0) (io := [true, false]) hf (cons_n hv rfl) rfl rfl
  have hsum : consX (op2X (addW newL) (conX (.int 1)) (callL [true, false] fn__law_draw (consX (varX 1) (consX (conX (.int 4)) nilX)))) nilX env [drC d] = some ([.d (.int (1 + i))], [drC d1]) := cons_n (op2_n (a := .d (.int 1)) (S1 := [drC d]) rfl hdr rfl) rfl
  have hrg : range1I (consX (op2X (addW newL) (conX (.int 1)) (callL [true, false] fn__law_draw (consX (varX 1) (consX (conX (.int 4)) nilX)))) nilX) env [drC d] = some (rngI 0 (1 + (i : Int)).toNat, none, [drC d1]) := by
    unfold range1I
    rw [hsum]
    dsimp only
    rw [if_pos (by omega)]
  have he2 : (env.set 3 none)[1]? = some (some (.c 0)) := by rw [List.getElem?_set_ne (by decide)]; exact he
  obtain ⟨rs, d2, ok2, q1, q2, q3⟩ := columns_n he2 h3 (rngI 0 (1 + (i : Int)).toNat) d1 [] ok1
  have hlen : rs.length = 1 + i := by
    rw [q1]
    unfold rngI
    rw [List.length_map, List.length_range]
    omega
  refine ⟨rs, d2, ok2, by omega, by omega, q2, lc_n hrg q3 (newL_d _ (by rw [List.length_map]; omega))⟩
/-- the loop over what is due -/
def ID (k : Nat) (pre : Z.Env) (d : Dr) (xs : List Raw) (q : Option Str × List Col) (env : Z.Env) (S : Store) : Prop := ∃ y post, env = pre ++ [some (.c 1), some (.d (fD q.1)), y] ++ post ∧ post.length = k ∧ S = [drC d, .lst ((q.2.map lD).map W.d)] ∧ q.2.length + xs.length < 60
theorem law_due (pre post : Z.Env) (hp : pre.length = 4) (d : Dr) (rs : List Raw) (hl : rs.length < 60) (y0 : Option W) : ∃ y, forL none (nameG 6) (seqX (asgX (ifX (bbX (isNX (varX 5))) (callL [false, true] fn__law_column_fault (consX (varX 6) (consX (varX 4) nilX))) (varX 5)) (nameG 5)) (dropX (bmX appW (varX 4) (consX (callL [] fn__law_born (consX (varX 6) (consX (conX (.int 0)) nilX))) nilX))))
    (rs.map fun r => W.d (rD r)) (pre ++ [some (.c 1), some (.d .none), y0] ++ post) [drC d, .lst []] = some (.next, pre ++ [some (.c 1), some (.d (fD (tabFault [] rs))), y] ++ post, [drC d, .lst (((rs.map (bornC · 0)).map lD).map W.d)]) := by
  have hb := big
  match pre, hp with
  | [p0, p1, p2, p3], _ =>
  obtain ⟨e2, S2, h1, y, rfl, rfl, _⟩ := for_fold (fun r => W.d (rD r)) dueStep (fun xs (q : Option Str × List Col) env S => ∃ y, env = [p0, p1, p2, p3] ++ [some (.c 1), some (.d (fD q.1)), y] ++ post ∧ S = [drC d, .lst ((q.2.map lD).map W.d)] ∧ q.2.length + xs.length < 60) (gd := none) (tg := nameG 6)
    (body := seqX (asgX (ifX (bbX (isNX (varX 5))) (callL [false, true] fn__law_column_fault (consX (varX 6) (consX (varX 4) nilX))) (varX 5)) (nameG 5)) (dropX (bmX appW (varX 4) (consX (callL [] fn__law_born (consX (varX 6) (consX (conX (.int 0)) nilX))) nilX)))) (fun _ _ _ _ _ => True.intro) (fun q r xs env S ⟨y, e1, e2, e3⟩ => by
    subst e1; subst e2
    rw [List.length_cons] at e3
    refine ⟨[p0, p1, p2, p3] ++ [some (.c 1), some (.d (fD q.1)), some (.d (rD r))] ++ post, _, rfl, ?_⟩
    obtain ⟨due, acc⟩ := q
    have e3 : acc.length + (xs.length + 1) < 60 := e3
    have hdue : ifX (bbX (isNX (varX 5))) (callL [false, true] fn__law_column_fault (consX (varX 6) (consX (varX 4) nilX))) (varX 5) ([p0, p1, p2, p3] ++ [some (.c 1), some (.d (fD due)), some (.d (rD r))] ++ post) [drC d, .lst ((acc.map lD).map W.d)] = some (.d (fD (dueStep (due, acc) r).1), [drC d, .lst ((acc.map lD).map W.d)]) := by
      cases due with
      | none =>
        refine if_t (S1 := [drC d, .lst ((acc.map lD).map W.d)]) rfl ?_
        exact call_c2 (f := fn__law_column_fault) (n := 1) (S1 := [drC d, .lst ((acc.map lD).map W.d)]) (c := .lst ((acc.map lD).map W.d)) (c' := .lst ((acc.map lD).map W.d)) rfl rfl (plain_data _) (plain_data _) (r_lcolumn_fault r acc (.c 0) [.lst ((acc.map lD).map W.d)] _ (stands_c lD acc) (by omega))
      | some x => exact if_f (S1 := [drC d, .lst ((acc.map lD).map W.d)]) rfl rfl
    have happ := app_d (fo := varX 4) (fa := consX (callL [] fn__law_born (consX (varX 6) (consX (conX (.int 0)) nilX))) nilX) (env := [p0, p1, p2, p3] ++ [some (.c 1), some (.d (fD (dueStep (due, acc) r).1)), some (.d (rD r))] ++ post) (S := [drC d, .lst ((acc.map lD).map W.d)]) (n := 1) (xs := (acc.map lD).map W.d) (y := .d (lD (bornC r 0))) rfl rfl (cons_n (call_d (ds := [rD r, .int 0]) rfl (e_lborn r 0)) rfl) rfl (by simp; omega)
    refine ⟨.next, _, _, (seqX_n (asgX_n hdue rfl)).trans (dropX_n happ), .inl rfl, ⟨_, rfl, ?_, ?_⟩⟩
    · show [drC d, Cell.lst ((acc.map lD).map W.d ++ [.d (lD (bornC r 0))])] = [drC d, Cell.lst (((acc ++ [bornC r 0]).map lD).map W.d)]
      simp
    · show (acc ++ [bornC r 0]).length + xs.length < 60
      rw [List.length_append, List.length_cons, List.length_nil]; omega) rs (none, []) ([p0, p1, p2, p3] ++ [some (.c 1), some (.d .none), y0] ++ post) [drC d, .lst []] ⟨y0, rfl, rfl, by simpa using hl⟩
  rw [due_fold] at h1
  refine ⟨y, h1.trans ?_⟩
  simp
end K02

/-! KZG: the book handed on; rows that are the same. -/
namespace K02
open PySem PySem.Spec PyProof.Rows L2 Y Z
theorem plain_book (b : Bk) : plainC (.dic (bookW b)) = true := by
  show (bookW b).all (fun p => plainW p.2) = true
  rw [List.all_eq_true]
  intro x hx
  obtain ⟨p, _, rfl⟩ := List.mem_map.mp hx
  rfl
/-- f(x, c, y, z) that gives the cell back -/
theorem call_put {f : FnD} {fa : FA} {env : Z.Env} {S S1 : Store} {x y z : PyData} {n : Nat} {c c' : Cell} {L : Store} (h : fa env S = some ([.d x, .c n, .d y, .d z], S1)) (hn : S1[n]? = some c) (hp : plainC c = true) (hp' : plainC c' = true) (hf : f [.d x, .c 0, .d y, .d z] [c] = some (.c 0, c' :: L)) : callL [false, true, false, false] f fa env S = some (.c n, S1.set n c') := by
  unfold callL
  rw [h]
  have e1 : cellIx [false, true, false, false] [.d x, .c n, .d y, .d z] = [n] := by simp [cellIx]
  have e2 : argsW S1 [n] [false, true, false, false] [.d x, .c n, .d y, .d z] = some [.d x, .c 0, .d y, .d z] := by simp [argsW, posOf]
  have e3 : cellsAt S1 [n] = some [c] := by simp [cellsAt, hn, hp]
  dsimp only
  rw [e1, e2, e3]
  dsimp only
  rw [hf]
  simp [putBack, hp', backW]
theorem deep_cols (cs : List Col) (h : cs.length < 1000) : deep 2 (.list (cs.map cD)) := by
  refine .inr ⟨_, .inl rfl, by rw [List.length_map]; exact h, fun y hy => ?_⟩
  obtain ⟨c, _, rfl⟩ := List.mem_map.mp hy
  refine .inr ⟨[.int c.birth, .int c.tag, .str c.name, .str c.kind, vD c.dflt, .int c.shift], .inr rfl, (by show 6 < 1000; decide), fun z hz => ?_⟩
  simp only [List.mem_cons, List.not_mem_nil, or_false] at hz
  rcases hz with rfl | rfl | rfl | rfl | rfl | rfl
  · rfl
  · rfl
  · rfl
  · rfl
  · cases c.dflt <;> rfl
  · rfl
theorem deep_rec (b : Bk) (h : b.length < 1000) : deep 3 (recD b) := by
  refine .inr ⟨_, .inl rfl, by rw [List.length_map]; exact h, fun y hy => ?_⟩
  obtain ⟨p, _, rfl⟩ := List.mem_map.mp hy
  refine .inr ⟨[kT p.1, vD p.2], .inr rfl, (by show 2 < 1000; decide), fun z hz => ?_⟩
  simp only [List.mem_cons, List.not_mem_nil, or_false] at hz
  rcases hz with rfl | rfl
  · refine .inr ⟨[.int p.1.1, .int p.1.2], .inr rfl, (by show 2 < 1000; decide), fun z hz => ?_⟩
    simp only [List.mem_cons, List.not_mem_nil, or_false] at hz
    rcases hz with rfl | rfl <;> rfl
  · refine .inl ?_
    cases p.2 <;> rfl
theorem deep_up : ∀ (n : Nat) (x : PyData), deep n x → deep (n + 1) x
  | 0, x, h => .inl h
  | n + 1, x, h => by
    rcases h with h | ⟨xs, h1, h2, h3⟩
    · exact .inl h
    · exact .inr ⟨xs, h1, h2, fun y hy => deep_up n y (h3 y hy)⟩
theorem is_eq {n : Nat} (hn : n ≤ 3) {x : PyData} (h : deep n x) : fn__law_is [.d x, .d x] [] = some (.d (.bool true), []) := by
  have : deep 3 x := by
    match n, hn, h with
    | 0, _, h => exact deep_up 2 _ (deep_up 1 _ (deep_up 0 _ h))
    | 1, _, h => exact deep_up 2 _ (deep_up 1 _ h)
    | 2, _, h => exact deep_up 2 _ h
    | 3, _, h => exact h
  exact is_same 3 x this
end K02

/-! KZH: the law looks at each shape. -/
namespace K02
open PySem PySem.Spec PyProof.Rows L2 Y Z
def shapesC (rs : List Raw) (ss : List Stp) : Cell := .lst (((List.range (ss.length + 1)).map fun n => PyData.list ((stateAt rs ss n).map lD)).map W.d)
theorem shape_at (rs : List Raw) (ss : List Stp) {S : Store} {m n : Nat} (hm : S[m]? = some (shapesC rs ss)) (hn : n ≤ ss.length) : ixW S (.c m) (.d (.int n)) = some (.d (.list ((stateAt rs ss n).map lD)), S) := by
  have e : itemsL S (.c m) = some (((List.range (ss.length + 1)).map fun n => PyData.list ((stateAt rs ss n).map lD)).map W.d) := by
    unfold itemsL
    dsimp only
    rw [hm]
    rfl
  unfold ixW
  dsimp only
  rw [e]
  dsimp only
  rw [at_nat _ n (by simp; omega)]
  simp
theorem shapes_len (rs : List Raw) (ss : List Stp) {S : Store} {m : Nat} (hm : S[m]? = some (shapesC rs ss)) : lenW S [.c m] = some (.d (.int ((ss.length + 1 : Nat) : Int)), S) := by
  have e : itemsL S (.c m) = some (((List.range (ss.length + 1)).map fun n => PyData.list ((stateAt rs ss n).map lD)).map W.d) := by
    unfold itemsL
    dsimp only
    rw [hm]
    rfl
  unfold lenW
  dsimp only
  rw [e]
  simp [vI]
theorem law_shapes {rs : List Raw} {ss : List Stp} (t : Tb rs ss) {env : Z.Env} {S : Store} {m : Nat} (h8 : env[8]? = some (some (.c m))) (h12 : env[12]? = some (some (.d (tD rs ss)))) (hl : 14 < env.length) (hm : S[m]? = some (shapesC rs ss)) :
    ∃ y, forX (range1I (consX (argX lenW (consX (varX 8) nilX)) nilX)) (nameG 14) (ifS (notT (bbX (callL [] fn__law_is (consX (callL [] fn_columns_at (consX (varX 12) (consX (varX 14) nilX))) (consX (callL [] fn__law_rows (consX (op2X ixW (varX 8) (varX 14)) nilX)) nilX))))) (retX (conX (.bool false))) skipX) env S = some (.next, env.set 14 y, S) := by
  have hr : range1I (consX (argX lenW (consX (varX 8) nilX)) nilX) env S = some ((List.range (ss.length + 1)).map fun i : Nat => W.d (.int (i : Nat)), none, S) := by
    have hc : consX (argX lenW (consX (varX 8) nilX)) nilX env S = some ([.d (.int ((ss.length + 1 : Nat) : Int))], S) := cons_n (arg_n (as := [.c m]) (cons_n (by unfold varX; rw [h8]) rfl) (shapes_len rs ss hm)) rfl
    have := t.len
    unfold range1I
    rw [hc]
    dsimp only
    rw [if_pos (by omega)]
    unfold rngI
    rw [Int.toNat_natCast]
    simp
  have hset : ∀ y, (env.set 14 y)[8]? = some (some (.c m)) ∧ (env.set 14 y)[12]? = some (some (.d (tD rs ss))) := fun y => ⟨by rw [List.getElem?_set_ne (by decide)]; exact h8, by rw [List.getElem?_set_ne (by decide)]; exact h12⟩
  have loop : ∀ (xs : List Nat) (y : Option W), (∀ n ∈ xs, n ≤ ss.length) → ∃ y', forL none (nameG 14) (ifS (notT (bbX (callL [] fn__law_is (consX (callL [] fn_columns_at (consX (varX 12) (consX (varX 14) nilX))) (consX (callL [] fn__law_rows (consX (op2X ixW (varX 8) (varX 14)) nilX)) nilX))))) (retX (conX (.bool false))) skipX) (xs.map fun i : Nat => W.d (.int (i : Nat))) (env.set 14 y) S = some (.next, env.set 14 y', S) := by
    intro xs
    induction xs with
    | nil => intro y _; exact ⟨y, for_nil (gd := none) True.intro⟩
    | cons n xs ih =>
      intro y hx
      have hn := hx n List.mem_cons_self
      obtain ⟨y', h⟩ := ih (some (.d (.int n))) fun k hk => hx k (List.mem_cons_of_mem _ hk)
      refine ⟨y', ?_⟩
      have w0 := t.wf n hn
      have hlen := t.srt_len n
      have e : (env.set 14 y).set 14 (some (.d (.int (n : Nat)))) = env.set 14 (some (.d (.int n))) := List.set_set ..
      have v8 : varX 8 (env.set 14 (some (.d (.int n)))) S = some (.c m, S) := by unfold varX; rw [(hset _).1]
      have v12 : varX 12 (env.set 14 (some (.d (.int n)))) S = some (.d (tD rs ss), S) := by unfold varX; rw [(hset _).2]
      have v14 : varX 14 (env.set 14 (some (.d (.int n)))) S = some (.d (.int n), S) := by unfold varX; rw [List.getElem?_set_self hl]
      have c1 := call_d (f := fn_columns_at) (fa := consX (varX 12) (consX (varX 14) nilX)) (ds := [tD rs ss, .int n]) (cons_n v12 (cons_n v14 rfl)) (r_columns_at rs ss n hn t.len w0.nd)
      have c2 := call_d (f := fn__law_rows) (fa := consX (op2X ixW (varX 8) (varX 14)) nilX) (ds := [.list ((stateAt rs ss n).map lD)]) (cons_n (op2_n v8 v14 (shape_at rs ss hm hn)) rfl) (r_lrows (stateAt rs ss n) (by rw [← K02.srt_len]; omega) w0.nd)
      have c3 := call_d (f := fn__law_is) (ds := [.list ((srt (stateAt rs ss n)).map cD), .list ((srt (stateAt rs ss n)).map cD)]) (cons_n c1 (cons_n c2 (show nilX _ _ = some ([], _) from rfl))) (is_eq (n := 2) (by decide) (deep_cols _ (by omega)))
      rw [List.map_cons]
      refine (for_next (gd := none) True.intro (by show some ((env.set 14 y).set 14 (some (W.d (.int (n : Nat)))), S) = _; rw [e]) (e1 := env.set 14 (some (.d (.int n)))) (S1 := S) (e2 := env.set 14 (some (.d (.int n)))) (S2 := S) ?_ |>.trans h)
      exact ret_iff (not_n (bb_n c3))
  obtain ⟨y, h⟩ := loop (List.range (ss.length + 1)) (env[14]'hl) fun n hn => by have := List.mem_range.mp hn; omega
  rw [List.set_getElem_self] at h
  exact ⟨y, (forX_l hr).trans h⟩
end K02

/-! KZI: the law reads the record at each shape. -/
namespace K02
open PySem PySem.Spec PyProof.Rows L2 Y Z
theorem law_reads {rs : List Raw} {ss : List Stp} (t : Tb rs ss) {k : Nat} {b bk : Bk} (B : BK rs ss k b bk) {env : Z.Env} {S T : Store} {m : Nat} (h8 : env[8]? = some (some (.c m))) (h12 : env[12]? = some (some (.d (tD rs ss)))) (h15 : env[15]? = some (some (.d (recD b)))) (hl : 20 < env.length) (hmS : S[m]? = some (shapesC rs ss)) (hmT : T[m]? = some (shapesC rs ss))
    (hfS : ∀ y, frzDX (varX 16) (env.set 20 y) S = some (.d (.dict (bookP bk)), T)) (hfT : ∀ y, frzDX (varX 16) (env.set 20 y) T = some (.d (.dict (bookP bk)), T)) :
    ∃ y, forX (range1I (consX (argX lenW (consX (varX 8) nilX)) nilX)) (nameG 20) (ifS (notT (bbX (callL [] fn__law_is (consX (callL [] fn_row_at (consX (varX 12) (consX (varX 20) (consX (varX 15) nilX)))) (consX (callL [] fn__law_read (consX (op2X ixW (varX 8) (varX 20)) (consX (frzDX (varX 16)) nilX))) nilX))))) (retX (conX (.bool false))) skipX) env S = some (.next, env.set 20 y, T) := by
  have hr : range1I (consX (argX lenW (consX (varX 8) nilX)) nilX) env S = some ((List.range (ss.length + 1)).map fun i : Nat => W.d (.int (i : Nat)), none, S) := by
    have hc : consX (argX lenW (consX (varX 8) nilX)) nilX env S = some ([.d (.int ((ss.length + 1 : Nat) : Int))], S) := cons_n (arg_n (as := [.c m]) (cons_n (by unfold varX; rw [h8]) rfl) (shapes_len rs ss hmS)) rfl
    have := t.len
    unfold range1I
    rw [hc]
    dsimp only
    rw [if_pos (by omega)]
    unfold rngI
    rw [Int.toNat_natCast]
    simp
  have hset : ∀ y, (env.set 20 y)[8]? = some (some (.c m)) ∧ (env.set 20 y)[12]? = some (some (.d (tD rs ss))) ∧ (env.set 20 y)[15]? = some (some (.d (recD b))) := fun y => ⟨by rw [List.getElem?_set_ne (by decide)]; exact h8, by rw [List.getElem?_set_ne (by decide)]; exact h12, by rw [List.getElem?_set_ne (by decide)]; exact h15⟩
  have one : ∀ (U : Store), U[m]? = some (shapesC rs ss) → (∀ y, frzDX (varX 16) (env.set 20 y) U = some (.d (.dict (bookP bk)), T)) → ∀ n : Nat, n ≤ ss.length → ifS (notT (bbX (callL [] fn__law_is (consX (callL [] fn_row_at (consX (varX 12) (consX (varX 20) (consX (varX 15) nilX)))) (consX (callL [] fn__law_read (consX (op2X ixW (varX 8) (varX 20)) (consX (frzDX (varX 16)) nilX))) nilX))))) (retX (conX (.bool false))) skipX (env.set 20 (some (.d (.int n)))) U = some (.next, env.set 20 (some (.d (.int n))), T) := fun U hU hf n hn => by
    obtain ⟨y, ⟨S1, h1⟩, ⟨S2, h2⟩, hd⟩ := turn_read t hn B
    have v8 : varX 8 (env.set 20 (some (.d (.int n)))) U = some (.c m, U) := by unfold varX; rw [(hset _).1]
    have v12 : varX 12 (env.set 20 (some (.d (.int n)))) U = some (.d (tD rs ss), U) := by unfold varX; rw [(hset _).2.1]
    have v15 : varX 15 (env.set 20 (some (.d (.int n)))) U = some (.d (recD b), U) := by unfold varX; rw [(hset _).2.2]
    have v20 : varX 20 (env.set 20 (some (.d (.int n)))) U = some (.d (.int n), U) := by unfold varX; rw [List.getElem?_set_self hl]
    have c1 := call_d (f := fn_row_at) (fa := consX (varX 12) (consX (varX 20) (consX (varX 15) nilX))) (ds := [tD rs ss, .int n, recD b]) (cons_n v12 (cons_n v20 (cons_n v15 (show nilX _ _ = some ([], _) from rfl)))) h1
    have c2 := call_d (f := fn__law_read) (fa := consX (op2X ixW (varX 8) (varX 20)) (consX (frzDX (varX 16)) nilX)) (ds := [.list ((stateAt rs ss n).map lD), .dict (bookP bk)]) (cons_n (op2_n v8 v20 (shape_at rs ss hU hn)) (cons_n (hf _) (show nilX _ _ = some ([], _) from rfl))) h2
    have c3 := call_d (f := fn__law_is) (ds := [y, y]) (cons_n c1 (cons_n c2 (show nilX _ _ = some ([], _) from rfl))) (is_eq (n := 2) (by decide) hd)
    exact ret_iff (not_n (bb_n c3))
  have step : ∀ (y : Option W) (n : Nat), nameG 20 (W.d (.int (n : Nat))) (env.set 20 y) = fun U => some (env.set 20 (some (.d (.int n))), U) := fun y n => by
    funext U
    show some ((env.set 20 y).set 20 (some (W.d (.int (n : Nat)))), U) = _
    rw [List.set_set]
  have loop : ∀ (xs : List Nat) (y : Option W), (∀ n ∈ xs, n ≤ ss.length) → ∃ y', forL none (nameG 20) (ifS (notT (bbX (callL [] fn__law_is (consX (callL [] fn_row_at (consX (varX 12) (consX (varX 20) (consX (varX 15) nilX)))) (consX (callL [] fn__law_read (consX (op2X ixW (varX 8) (varX 20)) (consX (frzDX (varX 16)) nilX))) nilX))))) (retX (conX (.bool false))) skipX) (xs.map fun i : Nat => W.d (.int (i : Nat))) (env.set 20 y) T = some (.next, env.set 20 y', T) := by
    intro xs
    induction xs with
    | nil => intro y _; exact ⟨y, for_nil (gd := none) True.intro⟩
    | cons n xs ih =>
      intro y hx
      obtain ⟨y', h⟩ := ih (some (.d (.int n))) fun k hk => hx k (List.mem_cons_of_mem _ hk)
      refine ⟨y', ?_⟩
      rw [List.map_cons]
      exact (for_next (gd := none) (S := T) True.intro (by rw [step]) (one T hmT hfT n (hx n List.mem_cons_self))).trans h
  obtain ⟨y, h⟩ := loop ((List.range ss.length).map Nat.succ) (some (.d (.int (0 : Nat)))) fun n hn => by
    obtain ⟨k, hk, rfl⟩ := List.mem_map.mp hn
    have := List.mem_range.mp hk
    omega
  refine ⟨y, (forX_l hr).trans ?_⟩
  rw [List.range_succ_eq_map, List.map_cons]
  have e0 : env = env.set 20 (env[20]'hl) := (List.set_getElem_self hl).symm
  have hs := step (env[20]'hl) 0
  rw [← e0] at hs
  exact (for_next (gd := none) (S := S) True.intro (by rw [hs]) (one S hmS hfS 0 (Nat.zero_le _))).trans h
end K02

/-! KZL: tables as they are drawn; keys of books. -/
namespace K02
open PySem PySem.Spec PyProof.Rows L2 Y Z
structure RB (r : Raw) : Prop where
  tag : r.tag ∈ ([1, 2, 3, 4, 5, 200, 0, 201] : List Int)
  kind : r.kind = "int" ∨ r.kind = "text"
  df : valB 20 r.dflt
  sm : small (rD r) 40
theorem rb_of {r : Raw} (h : okR r) : RB r := ⟨h.1, h.2.2.1, okV_B h.2.2.2, okR_small h⟩
theorem RB.tagS {r : Raw} (h : RB r) : smallI r.tag := raw_tag h.sm
structure Sp (s : Stp) : Prop where
  sm : small (sD s) 60
  add : ∀ r, s = .add r → RB r
  sh : ∀ t n, s = .shift t n → n.natAbs ≤ 7
structure TS (rs : List Raw) (ss : List Stp) : Prop where
  rl : rs.length ≤ 4
  rb : ∀ r ∈ rs, RB r
  sl : ss.length ≤ 7
  sb : ∀ s ∈ ss, Sp s
  wf : ∀ n : Nat, n ≤ ss.length → WF (stateAt rs ss n)
theorem TS.tb {rs : List Raw} {ss : List Stp} (t : TS rs ss) : Tb rs ss := ⟨by have := t.rl; have := t.sl; omega, t.wf, by
  have h : (rs.map (bornC · 0)).Pairwise fun a b => a.tag ≠ b.tag := (t.wf 0 (Nat.zero_le _)).tags
  have h2 := List.pairwise_map.mp h
  exact h2⟩
theorem TS.tags {rs : List Raw} {ss : List Stp} (t : TS rs ss) (n : Nat) : ∀ c ∈ stateAt rs ss n, smallI c.tag := state_tags (fun r hr => (t.rb r hr).tagS) (fun r hr => ((t.sb _ hr).add r rfl).tagS) n
theorem TS.snoc {rs : List Raw} {ss : List Stp} (t : TS rs ss) (h7 : ss.length < 7) {s : Stp} (ho : okS (stateAt rs ss ss.length) s) (hf : stepFault (stateAt rs ss ss.length) s = none) : TS rs (ss ++ [s]) := by
  have hsp : Sp s := ⟨okS_small ho (t.tags _), fun r e => by subst e; exact rb_of ho, fun a n e => by
    subst e
    have h1 := ho.2.1
    have h2 := ho.2.2
    omega⟩
  refine ⟨t.rl, t.rb, by rw [List.length_append, List.length_cons, List.length_nil]; omega, fun x hx => ?_, fun n hn => ?_⟩
  · rcases List.mem_append.mp hx with h | h
    · exact t.sb x h
    · rw [List.mem_singleton.mp h]; exact hsp
  · rw [List.length_append, List.length_cons, List.length_nil] at hn
    by_cases h : n ≤ ss.length
    · rw [state_old rs ss s n h]
      exact t.wf n h
    · have e : n = ss.length + 1 := by omega
      subst e
      rw [state_snoc]
      exact step_wf (t.wf _ (Nat.le_refl _)) (fun r e => (hsp.add r e).kind) hf
theorem TS.cols {rs : List Raw} {ss : List Stp} (t : TS rs ss) (n : Nat) : ∀ c ∈ stateAt rs ss n, colB ss.length c :=
  state_B (fun r hr => ⟨(t.rb r hr).df, (t.rb r hr).tagS⟩) (fun r hr => ⟨((t.sb _ hr).add r rfl).df, ((t.sb _ hr).add r rfl).tagS⟩) (fun a m h => (t.sb _ h).sh a m rfl) n
/-! keys -/
def tagsK : List Int := [1, 2, 3, 4, 5, 200, 0, 201]
def birthsK : List Int := [0, 1, 2, 3, 4, 5, 6, 7]
def allK : List (Int × Int) := birthsK.flatMap fun b => tagsK.map fun t => (b, t)
theorem in_allK {b t : Int} (hb : b ∈ birthsK) (ht : t ∈ tagsK) : (b, t) ∈ allK := List.mem_flatMap.mpr ⟨b, hb, List.mem_map.mpr ⟨t, ht, rfl⟩⟩
theorem birth_in {n : Nat} (h : n ≤ 7) : (n : Int) ∈ birthsK := by
  have : n = 0 ∨ n = 1 ∨ n = 2 ∨ n = 3 ∨ n = 4 ∨ n = 5 ∨ n = 6 ∨ n = 7 := by omega
  rcases this with rfl | rfl | rfl | rfl | rfl | rfl | rfl | rfl <;> decide
theorem TS.keys {rs : List Raw} {ss : List Stp} (t : TS rs ss) {n : Nat} {c : Col} (hc : c ∈ stateAt rs ss n) : (c.birth, c.tag) ∈ allK := by
  obtain ⟨r, e1, e2, h⟩ := org_state rs ss n c hc
  rcases h with ⟨h1, h2⟩ | ⟨b, h1, h2⟩
  · rw [h1, e1]
    exact in_allK (birth_in (n := 0) (by decide)) (t.rb r h2).tag
  · obtain ⟨hb, hs⟩ := List.getElem?_eq_some_iff.mp h2
    have hm : Stp.add r ∈ ss := List.mem_of_getElem? h2
    have := t.sl
    rw [h1, e1]
    exact in_allK (birth_in (n := b + 1) (by omega)) ((t.sb _ hm).add r rfl).tag
def hK (k : Int × Int) : Int := reduceHash (Builtin.Tuple.tupleHashOf [hashInt k.1, hashInt k.2])
theorem apart_all : (allK.map hK).Nodup := by decide +kernel
theorem hashes_book : ∀ b : Bk, hashesD (bookW b) = some (b.map fun p => hK p.1)
  | [] => rfl
  | p :: b => by
    have ih := hashes_book b
    unfold bookW at ih ⊢
    rw [List.map_cons]
    unfold hashesD
    rw [ih]
    rfl
theorem apart_book {b : Bk} (nd : ND b) (hk : ∀ p ∈ b, p.1 ∈ allK) : apartD (bookW b) = true := by
  unfold apartD
  rw [hashes_book]
  refine decide_eq_true ?_
  have inj : ∀ x ∈ allK, ∀ y ∈ allK, hK x = hK y → x = y := fun x hx y hy e => pair_eq (List.pairwise_map.mp apart_all) hx hy e
  have : b.map (fun p => hK p.1) = (b.map (·.1)).map hK := by rw [List.map_map]; rfl
  rw [this]
  refine List.pairwise_map.mpr (List.Pairwise.imp_of_mem (fun {x y} hx hy h e => h (inj x ?_ y ?_ e)) nd)
  · obtain ⟨p, hp, rfl⟩ := List.mem_map.mp hx; exact hk p hp
  · obtain ⟨p, hp, rfl⟩ := List.mem_map.mp hy; exact hk p hp
/-! books as they are drawn -/
structure BX (b : Bk) : Prop where
  bs : BS b
  ks : ∀ p ∈ b, p.1 ∈ allK
theorem valB.mono {m n : Nat} {v : Val} (h : valB m v) (hm : m ≤ n) : valB n v := by
  cases v with
  | int i => have h : i.natAbs ≤ m := h; show i.natAbs ≤ n; omega
  | text x => exact h
theorem writ_BX {rs : List Raw} {ss : List Stp} (t : TS rs ss) {n : Nat} {g : Gv} (hg : ∀ c ∈ srt (stateAt rs ss n), ∀ v, told g c.name = some v → valB 500 v) : BX (writ g (srt (stateAt rs ss n))) := by
  have hc : ∀ c ∈ srt (stateAt rs ss n), c ∈ stateAt rs ss n := fun c h => (srt_perm _).mem_iff.mp h
  refine ⟨writ_BS (by have := t.sl; omega) (fun c h => t.cols n c (hc c h)) hg, fun p hp => ?_⟩
  have := (writ_sub g (srt (stateAt rs ss n))).subset (List.mem_map.mpr ⟨p, hp, rfl⟩)
  obtain ⟨c, h, e⟩ := List.mem_map.mp this
  rw [← e]
  exact t.keys (hc c h)
theorem puts_BX {b ps : Bk} (nb : ND b) (np : ND ps) (h1 : BX b) (h2 : BX ps) : BX (puts b ps) := ⟨puts_BS nb np h1.bs h2.bs, fun p hp => by
  rcases (mem_puts ps b nb np p).mp hp with h | ⟨h, _⟩
  · exact h2.ks p h
  · exact h1.ks p h⟩
theorem told_B {g : Gv} (hg : ∀ p ∈ g, okV p.2) {n : Str} {v : Val} (h : told g n = some v) : valB 500 v := (okV_B (hg _ (told_mem h))).mono (by decide)
theorem dfl_B {k : Nat} {c : Col} (h : colB k c) (hk : k ≤ 60) : valB 500 (dfl c) := by
  have h1 := h.sh
  have h2 := h.df
  unfold dfl shiftV
  split
  · split
    · rename_i i e
      rw [e] at h2
      have h2 : i.natAbs ≤ 20 := h2
      show (i + c.shift).natAbs ≤ 500
      omega
    · exact Nat.zero_le _
  · exact h2.mono (by decide)
theorem rows_B {rs : List Raw} {ss : List Stp} (t : TS rs ss) {n : Nat} (hn : n ≤ ss.length) {g : Gv} (hg : ∀ p ∈ g, okV p.2) : ∀ c ∈ srt (stateAt rs ss n), ∀ v, told (rowsG g (srt (stateAt rs ss n))) c.name = some v → valB 500 v := fun c hc v hv => by
  rw [told_rows g _ (t.tb.wfs hn).names c hc] at hv
  cases hv
  cases h : told g c.name with
  | some v => exact told_B hg h
  | none => exact dfl_B (t.cols n c ((srt_perm _).mem_iff.mp hc)) (by have := t.sl; omega)
end K02

/-! KZM: the loop over steps. -/
namespace K02
open PySem PySem.Spec PyProof.Rows L2 Y Z
noncomputable def sBody : FS :=
  seqX (asgX (callL [true, false] fn__law_step (consX (varX 1) (consX (op2X ixW (varX 8) (op1X negW (conX (.int 1)))) nilX))) (nameG 10))
    (seqX (asgX (callL [] fn__law_step_fault (consX (op2X ixW (varX 8) (op1X negW (conX (.int 1)))) (consX (varX 10) nilX))) (nameG 11))
      (seqX
        (ifS (bbX (op2X neW (callL [] fn_step_fault (consX (callL [] fn_columns_at (consX (argX newT (consX (conX (.str ("table"))) (consX (conX (.str ("t"))) (consX (varX 2) (consX (varX 7) nilX))))) (consX (argX lenW (consX (varX 7) nilX)) nilX))) (consX (varX 10) nilX))) (varX 11)))
          (retX (conX (.bool false))) skipX)
        (ifS (bbX (isNX (varX 11)))
          (seqX (asgX (op2X (addW newL) (varX 7) (argX newL (consX (varX 10) nilX))) (nameG 7))
            (dropX (bmX appW (varX 8) (consX (callL [] fn__law_behind (consX (op2X ixW (varX 8) (op1X negW (conX (.int 1)))) (consX (varX 10) (consX (argX lenW (consX (varX 7) nilX)) nilX)))) nilX))))
          skipX)))
structure Lay (rs : List Raw) (ss : List Stp) (m : Nat) (env : Z.Env) (S : Store) : Prop where
  len : env.length = 21
  dr : env[1]? = some (some (.c 0))
  cols : env[2]? = some (some (.d (.list (rs.map rD))))
  steps : env[7]? = some (some (.d (.list (ss.map sD))))
  shapes : env[8]? = some (some (.c m))
  d0 : ∃ d : Dr, d.ok ∧ S[0]? = some (drC d)
  sh : S[m]? = some (shapesC rs ss)
  pos : m ≠ 0
theorem set_off {α : Type} {l : List α} {i j : Nat} {x : α} (h : i ≠ j) {r : Option α} (e : l[j]? = r) : (l.set i x)[j]? = r := by rw [List.getElem?_set_ne h]; exact e
theorem set_on {α : Type} {l : List α} {i : Nat} {x : α} (h : i < l.length) : (l.set i x)[i]? = some x := List.getElem?_set_self h
theorem at_some {α : Type} {l : List α} {i : Nat} {x : α} (h : l[i]? = some x) : i < l.length := (List.getElem?_eq_some_iff.mp h).1
theorem Lay.env {rs : List Raw} {ss : List Stp} {m : Nat} {env : Z.Env} {S : Store} (l : Lay rs ss m env S) {i : Nat} (h : i ≠ 1 ∧ i ≠ 2 ∧ i ≠ 7 ∧ i ≠ 8) (x : Option W) : Lay rs ss m (env.set i x) S :=
  ⟨by rw [List.length_set]; exact l.len, set_off h.1 l.dr, set_off h.2.1 l.cols, set_off h.2.2.1 l.steps, set_off h.2.2.2 l.shapes, l.d0, l.sh, l.pos⟩
theorem Lay.draw {rs : List Raw} {ss : List Stp} {m : Nat} {env : Z.Env} {S : Store} (l : Lay rs ss m env S) {d : Dr} (ok : d.ok) : Lay rs ss m env (S.set 0 (drC d)) := by
  obtain ⟨d0, _, h⟩ := l.d0
  exact ⟨l.len, l.dr, l.cols, l.steps, l.shapes, ⟨d, ok, set_on (at_some h)⟩, set_off (fun z => l.pos z.symm) l.sh, l.pos⟩
theorem v_at {env : Z.Env} {i : Nat} {w : W} {S : Store} (h : env[i]? = some (some w)) : varX i env S = some (w, S) := by unfold varX; rw [h]
theorem last_at (rs : List Raw) (ss : List Stp) {S : Store} {m : Nat} (hm : S[m]? = some (shapesC rs ss)) {env : Z.Env} (h8 : env[8]? = some (some (.c m))) : op2X ixW (varX 8) (op1X negW (conX (.int 1))) env S = some (.d (.list ((stateAt rs ss ss.length).map lD)), S) := by
  have e : itemsL S (.c m) = some (((List.range (ss.length + 1)).map fun n => PyData.list ((stateAt rs ss n).map lD)).map W.d) := by
    unfold itemsL
    dsimp only
    rw [hm]
    rfl
  refine op2_n (v_at h8) (b := .d (.int (-1))) (S2 := S) rfl ?_
  unfold ixW
  dsimp only
  rw [e]
  dsimp only
  have : ∀ ws : List W, ws.length = ss.length + 1 → atI ws (-1) = ws[ss.length]? := fun ws h => by
    unfold atI ixN
    rw [if_neg (by decide), h, if_pos (by omega)]
    have : ((-1 : Int) + ((ss.length + 1 : Nat) : Int)).toNat = ss.length := by omega
    show ws[((-1 : Int) + ((ss.length + 1 : Nat) : Int)).toNat]? = _
    rw [this]
  rw [this _ (by simp)]
  simp
theorem shapes_snoc (rs : List Raw) (ss : List Stp) (s : Stp) : shapesC rs (ss ++ [s]) = .lst (((List.range (ss.length + 1)).map fun n => PyData.list ((stateAt rs ss n).map lD)).map W.d ++ [W.d (.list ((step (stateAt rs ss ss.length) ((ss.length : Int) + 1) s).map lD))]) := by
  unfold shapesC
  rw [List.length_append, List.length_cons, List.length_nil, List.range_succ, List.map_append, List.map_append]
  congr 1
  congr 1
  · congr 1
    refine List.map_congr_left fun n hn => ?_
    have := List.mem_range.mp hn
    rw [state_old rs ss s n (by omega)]
  · rw [List.map_cons, List.map_nil, List.map_cons, List.map_nil, state_snoc]
/-! what a run leaves -/
def Run (f : FS) (env : Z.Env) (S : Store) (Q : Ctl → Z.Env → Store → Prop) : Prop := ∃ c e1 S1, f env S = some (c, e1, S1) ∧ Q c e1 S1
theorem run_of {f : FS} {env e1 : Z.Env} {S S1 : Store} {c : Ctl} {Q : Ctl → Z.Env → Store → Prop} (h : f env S = some (c, e1, S1)) (q : Q c e1 S1) : Run f env S Q := ⟨c, e1, S1, h, q⟩
theorem run_n {f g : FS} {env e1 : Z.Env} {S S1 : Store} {Q : Ctl → Z.Env → Store → Prop} (h : f env S = some (.next, e1, S1)) (r : Run g e1 S1 Q) : Run (seqX f g) env S Q := by
  obtain ⟨c, e2, S2, h2, q⟩ := r
  exact ⟨c, e2, S2, (seqX_n h).trans h2, q⟩
theorem run_a {fa : FE} {i : Nat} {g : FS} {env : Z.Env} {S S1 : Store} {w : W} {Q : Ctl → Z.Env → Store → Prop} (h : fa env S = some (w, S1)) (r : Run g (env.set i (some w)) S1 Q) : Run (seqX (asgX fa (nameG i)) g) env S Q := run_n (asgX_n h rfl) r
theorem run_t {c : FT} {f g : FS} {env : Z.Env} {S S1 : Store} {Q : Ctl → Z.Env → Store → Prop} (h : c env S = some (true, S1)) (r : Run f env S1 Q) : Run (ifS c f g) env S Q := by
  obtain ⟨c, e2, S2, h2, q⟩ := r
  exact ⟨c, e2, S2, ((ifS_b h).trans (if_pos rfl)).trans h2, q⟩
theorem step_body {rs : List Raw} {ss : List Stp} {m : Nat} {env : Z.Env} {S : Store} (t : TS rs ss) (h7 : ss.length < 7) (l : Lay rs ss m env S) : Run sBody env S fun c env' S' => c = .next ∧ ∃ ss' : List Stp, TS rs ss' ∧ ss'.length ≤ ss.length + 1 ∧ Lay rs ss' m env' S' ∧ S'.length = S.length := by
  have hb := big
  have rl := t.rl
  obtain ⟨d, ok, hd⟩ := l.d0
  have w0 := t.wf ss.length (Nat.le_refl _)
  have hlen := t.tb.srt_len ss.length
  rw [K02.srt_len] at hlen
  obtain ⟨s, d1, ok1, ho, hf⟩ := r_lstep d ok (stateAt rs ss ss.length) (List.length_pos_iff.mpr w0.some) (by omega)
  have c1 := call_dr (f := fn__law_step) (fa := consX (varX 1) (consX (op2X ixW (varX 8) (op1X negW (conX (.int 1)))) nilX)) (env := env) (S := S) (ds := [.list ((stateAt rs ss ss.length).map lD)]) (m := 0) (io := [true, false]) hf (cons_n (v_at l.dr) (cons_n (last_at rs ss l.sh l.shapes) rfl)) rfl hd
  have l1 := (l.draw ok1).env (i := 10) (by decide) (some (.d (sD s)))
  have g10 : (env.set 10 (some (W.d (sD s))))[10]? = some (some (.d (sD s))) := set_on (by rw [l.len]; decide)
  have hS1 : (S.set 0 (drC d1)).length = S.length := List.length_set
  rw [← hS1]
  refine run_a c1 ?_
  clear c1 hS1 hd hf l
  generalize env.set 10 (some (W.d (sD s))) = e1 at l1 g10 ⊢
  generalize S.set 0 (drC d1) = S1 at l1 ⊢
  clear env S
  have c2 := call_d (f := fn__law_step_fault) (fa := consX (op2X ixW (varX 8) (op1X negW (conX (.int 1)))) (consX (varX 10) nilX)) (env := e1) (S := S1) (ds := [.list ((stateAt rs ss ss.length).map lD), sD s]) (cons_n (last_at rs ss l1.sh l1.shapes) (cons_n (v_at g10) (show nilX _ _ = some ([], _) from rfl))) (r_lstep_fault (stateAt rs ss ss.length) s (by omega))
  have l2 := l1.env (i := 11) (by decide) (some (.d (fD (stepFault (stateAt rs ss ss.length) s))))
  have g11 : (e1.set 11 (some (W.d (fD (stepFault (stateAt rs ss ss.length) s)))))[11]? = some (some (.d (fD (stepFault (stateAt rs ss ss.length) s)))) := set_on (by rw [l1.len]; decide)
  have g10' : (e1.set 11 (some (W.d (fD (stepFault (stateAt rs ss ss.length) s)))))[10]? = some (some (.d (sD s))) := set_off (by decide) g10
  refine run_a c2 ?_
  clear c2 l1 g10
  generalize e1.set 11 (some (W.d (fD (stepFault (stateAt rs ss ss.length) s)))) = e2 at l2 g11 g10' ⊢
  clear e1
  have ctab : argX newT (consX (conX (.str ("table"))) (consX (conX (.str ("t"))) (consX (varX 2) (consX (varX 7) nilX)))) e2 S1 = some (.d (tD rs ss), S1) := arg_n (as := [.d (.str "table"), .d (.str "t"), .d (.list (rs.map rD)), .d (.list (ss.map sD))]) (cons_n rfl (cons_n rfl (cons_n (v_at l2.cols) (cons_n (v_at l2.steps) rfl)))) rfl
  have clen : argX lenW (consX (varX 7) nilX) e2 S1 = some (.d (.int ss.length), S1) := arg_n (as := [.d (.list (ss.map sD))]) (cons_n (v_at l2.steps) rfl) (len_d S1 sD ss)
  have ccol := call_d (f := fn_columns_at) (ds := [tD rs ss, .int ss.length]) (cons_n ctab (cons_n clen (show nilX _ _ = some ([], _) from rfl))) (r_columns_at rs ss ss.length (Nat.le_refl _) t.tb.len w0.nd)
  have cfl := call_d (f := fn_step_fault) (ds := [.list ((srt (stateAt rs ss ss.length)).map cD), sD s]) (cons_n ccol (cons_n (v_at g10') (show nilX _ _ = some ([], _) from rfl))) (r_step_fault (srt (stateAt rs ss ss.length)) s (by rw [K02.srt_len]; omega))
  rw [stepFault_srt w0] at cfl
  have c3 := bb_n (op2_n cfl (v_at g11) (ne_fault _ _))
  have c4 : bbX (isNX (varX 11)) e2 S1 = some ((stepFault (stateAt rs ss ss.length) s).isNone, S1) := bb_n (op1_n (v_at g11) (show vB _ _ = _ by rw [is_none_f]; rfl))
  cases hx : stepFault (stateAt rs ss ss.length) s with
  | some x =>
    rw [hx] at c4
    exact run_n (ret_iff c3) (run_of (ret_iff c4) ⟨rfl, ss, t, Nat.le_succ _, l2, rfl⟩)
  | none =>
    rw [hx] at c4
    have cadd : op2X (addW newL) (varX 7) (argX newL (consX (varX 10) nilX)) e2 S1 = some (.d (.list ((ss ++ [s]).map sD)), S1) := op2_n (v_at l2.steps) (arg_n (cons_n (v_at g10') (show nilX _ _ = some ([], _) from rfl)) (newL_d S1 (ds := [sD s]) (by show 1 ≤ _; omega))) (by
      rw [List.map_append]
      exact add_lists S1 (by rw [List.length_map]; show _ + 1 ≤ _; omega))
    have k7 : (e2.set 7 (some (W.d (.list ((ss ++ [s]).map sD)))))[7]? = some (some (.d (.list ((ss ++ [s]).map sD)))) := set_on (by rw [l2.len]; decide)
    have k8 : (e2.set 7 (some (W.d (.list ((ss ++ [s]).map sD)))))[8]? = some (some (.c m)) := set_off (by decide) l2.shapes
    have k10 : (e2.set 7 (some (W.d (.list ((ss ++ [s]).map sD)))))[10]? = some (some (.d (sD s))) := set_off (by decide) g10'
    have klen : argX lenW (consX (varX 7) nilX) (e2.set 7 (some (W.d (.list ((ss ++ [s]).map sD))))) S1 = some (.d (.int ((ss.length : Int) + 1)), S1) := arg_n (as := [.d (.list ((ss ++ [s]).map sD))]) (cons_n (v_at k7) rfl) (by
      rw [len_d S1 sD (ss ++ [s]), List.length_append]
      rfl)
    obtain ⟨S9, hbe⟩ := r_lbehind (stateAt rs ss ss.length) s ((ss.length : Int) + 1) (by omega)
    have cbe := call_d (f := fn__law_behind) (ds := [.list ((stateAt rs ss ss.length).map lD), sD s, .int ((ss.length : Int) + 1)]) (cons_n (last_at rs ss l2.sh k8) (cons_n (v_at k10) (cons_n klen (show nilX _ _ = some ([], _) from rfl)))) hbe
    have happ := app_d (fo := varX 8) (v_at k8) l2.sh (cons_n cbe (show nilX _ _ = some ([], _) from rfl)) l2.sh (by simp; omega)
    refine run_n (ret_iff c3) (run_t c4 (run_a cadd (run_of (dropX_n happ) ⟨rfl, ss ++ [s], t.snoc h7 ho hx, by rw [List.length_append]; exact Nat.le_refl _, ?_, by rw [List.length_set]⟩)))
    rw [← shapes_snoc]
    exact ⟨by rw [List.length_set]; exact l2.len, set_off (by decide) l2.dr, set_off (by decide) l2.cols, k7, k8, (by
      obtain ⟨d, ok, h⟩ := l2.d0
      exact ⟨d, ok, set_off l2.pos h⟩), set_on (at_some l2.sh), l2.pos⟩
theorem steps_loop {rs : List Raw} {m : Nat} : ∀ (ws : List W) (ss : List Stp) (env : Z.Env) (S : Store), TS rs ss → ss.length + ws.length ≤ 7 → Lay rs ss m env S → ∃ (ss' : List Stp) (env' : Z.Env) (S' : Store), forL none (nameG 9) sBody ws env S = some (.next, env', S') ∧ TS rs ss' ∧ Lay rs ss' m env' S' ∧ S'.length = S.length
  | [], ss, env, S, t, _, l => ⟨ss, env, S, for_nil (gd := none) True.intro, t, l, rfl⟩
  | w :: ws, ss, env, S, t, h7, l => by
    rw [List.length_cons] at h7
    obtain ⟨_, e1, S1, h1, rfl, s1, t1, k1, l1, q1⟩ := step_body t (by omega) (l.env (i := 9) (by decide) (some w))
    obtain ⟨s2, e2, S2, h2, t2, l2, q2⟩ := steps_loop ws s1 e1 S1 t1 (by omega) l1
    exact ⟨s2, e2, S2, (for_next (gd := none) (S := S) True.intro rfl h1).trans h2, t2, l2, q2.trans q1⟩
end K02

/-! KZN: a turn with the record. -/
namespace K02
open PySem PySem.Spec PyProof.Rows L2 Y Z
def oD : Option Bk → PyData
  | none => .none
  | some b => recD b
def RS (rs : List Raw) (ss : List Stp) (k : Nat) : Option Bk → Bk → Prop
  | none, bk => bk = []
  | some b, bk => BK rs ss k b bk ∧ BX bk
theorem RS.book {rs : List Raw} {ss : List Stp} {k : Nat} : ∀ {r : Option Bk} {bk : Bk}, RS rs ss k r bk → ND bk ∧ BX bk
  | none, bk, h => by
    have h : bk = [] := h
    subst h
    exact ⟨List.nodup_nil, ⟨fun p h => (by cases h), fun p h => (by cases h)⟩⟩
  | some b, bk, h => ⟨(h.1.perm.map _).nodup_iff.mp h.1.nd, h.2⟩
theorem RS.mono {rs : List Raw} {ss : List Stp} {k j : Nat} (hk : k ≤ j) : ∀ {r : Option Bk} {bk : Bk}, RS rs ss k r bk → RS rs ss j r bk
  | none, bk, h => h
  | some b, bk, h => ⟨⟨h.1.perm, h.1.nd, h.1.some, h.1.tb, Nat.le_trans h.1.len hk⟩, h.2⟩
theorem giv_fold (kind : Str → Option Str) : ∀ (g : Gv) (met : List Str), (∃ m, foldE (givStep kind) met g = .ok m) ∨ ∃ x : Str, foldE (givStep kind) met g = .error (.d (.str x))
  | [], met => .inl ⟨met, rfl⟩
  | p :: g, met => by
    unfold foldE
    have : (∃ m, givStep kind met p = .ok m) ∨ ∃ x : Str, givStep kind met p = .error (.d (.str x)) := by
      unfold givStep
      split
      · exact .inr ⟨_, rfl⟩
      · split
        · exact .inr ⟨_, rfl⟩
        · split
          · exact .inr ⟨_, rfl⟩
          · exact .inl ⟨_, rfl⟩
    rcases this with ⟨m, e⟩ | ⟨x, e⟩
    · rw [e]; exact giv_fold kind g m
    · rw [e]; exact .inr ⟨x, rfl⟩
theorem giv_fD (kind : Str → Option Str) (g : Gv) : ∃ x, givRes kind g = .d (fD x) := by
  unfold givRes
  rcases giv_fold kind g [] with ⟨m, e⟩ | ⟨x, e⟩
  · rw [e]; exact ⟨none, rfl⟩
  · rw [e]; exact ⟨some x, rfl⟩
theorem repr_rec {rs : List Raw} {ss : List Stp} {k : Nat} (hk : k ≤ 150) : ∀ {r : Option Bk} {bk : Bk}, RS rs ss k r bk → ∃ x : Str, ∀ (env : Z.Env) (S : Store), env[15]? = some (some (.d (oD r))) → argX reprW (consX (varX 15) nilX) env S = some (.d (.str x), S)
  | none, bk, h => ⟨"None", fun env S e => arg_n (as := [.d .none]) (cons_n (v_at e) rfl) rfl⟩
  | some b, bk, h => by
    obtain ⟨q1, q2, q3⟩ := rec_small (b := b) (fun p hp => h.2.bs p (h.1.perm.mem_iff.mp hp)) (Nat.le_trans h.1.len hk)
    exact ⟨_, fun env S e => repr_n (v_at e) rfl q1 q2 q3⟩
theorem turn_one {rs : List Raw} {ss : List Stp} (t : TS rs ss) {n k : Nat} (hn : n ≤ ss.length) {g : Gv} (hg : g.length < 64) (hv : ∀ p ∈ g, okV p.2) (h : givRes (kindOf (stateAt rs ss n)) g = .d .none) (hk : k ≤ 130) : ∀ {r : Option Bk} {bk : Bk}, RS rs ss k r bk → ∃ b' bk', RS rs ss (k + 11) (some b') bk' ∧ b' = sortB bk' ∧
    (∀ (env : Z.Env) (S : Store), env[12]? = some (some (.d (tD rs ss))) → env[14]? = some (some (.d (.int n))) → env[15]? = some (some (.d (oD r))) → env[17]? = some (some (.d (.list (g.map pD)))) →
      ifX (bbX (isNX (varX 15))) (callL [] fn_new_record (consX (varX 12) (consX (varX 14) (consX (varX 17) nilX)))) (callL [] fn_set_record (consX (varX 12) (consX (varX 14) (consX (varX 15) (consX (varX 17) nilX))))) env S = some (.d (recD b'), S)) ∧
    fn__law_put [.d (.list ((stateAt rs ss n).map lD)), .c 0, .d (.list (g.map pD)), .d (.bool (isNoneW (.d (oD r))))] [.dic (bookW bk)] = some (.c 0, [.dic (bookW bk'), .frz (.dict (gP g))])
  | none, bk, hR => by
    have hR : bk = [] := hR
    subst hR
    obtain ⟨b, bk', B, e1, e2, ⟨S9, h1⟩, h2⟩ := turn_new t.tb hn hg h
    have rl := t.rl
    have sl := t.sl
    refine ⟨b, bk', ⟨⟨B.perm, B.nd, B.some, B.tb, Nat.le_trans B.len (by omega)⟩, ?_⟩, e1, fun env S v12 v14 v15 v17 => ?_, h2⟩
    · rw [e2]
      exact writ_BX t (rows_B t hn hv)
    · refine if_t (bb_n (op1_n (v_at v15) rfl)) ?_
      exact call_d (f := fn_new_record) (ds := [tD rs ss, .int n, .list (g.map pD)]) (cons_n (v_at v12) (cons_n (v_at v14) (cons_n (v_at v17) (show nilX _ _ = some ([], _) from rfl)))) h1
  | some b0, bk, hR => by
    obtain ⟨b, bk', B, e1, e2, ⟨S9, h1⟩, h2⟩ := turn_set t.tb hn hg h hR.1 (by omega)
    have rl := t.rl
    have sl := t.sl
    refine ⟨b, bk', ⟨⟨B.perm, B.nd, B.some, B.tb, Nat.le_trans B.len (by omega)⟩, ?_⟩, e1, fun env S v12 v14 v15 v17 => ?_, h2⟩
    · rw [e2]
      exact puts_BX (RS.book (r := some b0) hR).1 (writ_nd (t.tb.wfs hn) g) hR.2 (writ_BX t fun c _ v ht => told_B hv ht)
    · refine if_f (bb_n (op1_n (v_at v15) rfl)) ?_
      exact call_d (f := fn_set_record) (ds := [tD rs ss, .int n, recD b0, .list (g.map pD)]) (cons_n (v_at v12) (cons_n (v_at v14) (cons_n (v_at v15) (cons_n (v_at v17) (show nilX _ _ = some ([], _) from rfl))))) h1
def bookC (bk : Bk) (c : Cell) : Prop := c = .dic (bookW bk) ∨ c = .frz (.dict (bookP bk))
theorem dict_of {S : Store} {q : Nat} {c : Cell} {bk : Bk} (h : S[q]? = some c) (hc : bookC bk c) : dictOf S (.c q) = some (bookW bk) := by
  rcases hc with rfl | rfl
  · simp only [dictOf]; rw [h]
  · have := dict_book S bk
    simp only [dictOf] at this ⊢
    rw [h]
    exact this
structure Lay2 (rs : List Raw) (ss : List Stp) (m : Nat) (r : Option Bk) (bk : Bk) (env : Z.Env) (S : Store) : Prop where
  len : env.length = 21
  dr : env[1]? = some (some (.c 0))
  shapes : env[8]? = some (some (.c m))
  tab : env[12]? = some (some (.d (tD rs ss)))
  kept : env[13]? = some (some (.d (.str (tD rs ss).shown)))
  recd : env[15]? = some (some (.d (oD r)))
  book : ∃ (q : Nat) (c : Cell), env[16]? = some (some (.c q)) ∧ S[q]? = some c ∧ bookC bk c ∧ q ≠ 0
  d0 : ∃ d : Dr, d.ok ∧ S[0]? = some (drC d)
  sh : S[m]? = some (shapesC rs ss)
  pos : m ≠ 0
theorem Lay2.env {rs : List Raw} {ss : List Stp} {m : Nat} {r : Option Bk} {bk : Bk} {env : Z.Env} {S : Store} (l : Lay2 rs ss m r bk env S) {i : Nat} (h : i ≠ 1 ∧ i ≠ 8 ∧ i ≠ 12 ∧ i ≠ 13 ∧ i ≠ 15 ∧ i ≠ 16) (x : Option W) : Lay2 rs ss m r bk (env.set i x) S :=
  ⟨by rw [List.length_set]; exact l.len, set_off h.1 l.dr, set_off h.2.1 l.shapes, set_off h.2.2.1 l.tab, set_off h.2.2.2.1 l.kept, set_off h.2.2.2.2.1 l.recd, (by
    obtain ⟨q, c, h1, h2⟩ := l.book
    exact ⟨q, c, set_off h.2.2.2.2.2 h1, h2⟩), l.d0, l.sh, l.pos⟩
theorem Lay2.draw {rs : List Raw} {ss : List Stp} {m : Nat} {r : Option Bk} {bk : Bk} {env : Z.Env} {S : Store} (l : Lay2 rs ss m r bk env S) {d : Dr} (ok : d.ok) : Lay2 rs ss m r bk env (S.set 0 (drC d)) := by
  obtain ⟨d0, _, h⟩ := l.d0
  exact ⟨l.len, l.dr, l.shapes, l.tab, l.kept, l.recd, (by
    obtain ⟨q, c, h1, h2, h3, h4⟩ := l.book
    exact ⟨q, c, h1, set_off (fun z => h4 z.symm) h2, h3, h4⟩), ⟨d, ok, set_on (at_some h)⟩, set_off (fun z => l.pos z.symm) l.sh, l.pos⟩
theorem app_at {α : Type} {l : List α} {x : α} {i : Nat} {y : α} (h : l[i]? = some y) : (l ++ [x])[i]? = some y := by rw [List.getElem?_append_left (at_some h)]; exact h
end K02

/-! KZO: the loop over turns. -/
namespace K02
open PySem PySem.Spec PyProof.Rows L2 Y Z
noncomputable def thereX : FE := ifX (bbX (isNX (varX 15))) (callL [] fn_new_record (consX (varX 12) (consX (varX 14) (consX (varX 17) nilX)))) (callL [] fn_set_record (consX (varX 12) (consX (varX 14) (consX (varX 15) (consX (varX 17) nilX)))))
noncomputable def putX : FE := callL [false, true, false, false] fn__law_put (consX (op2X ixW (varX 8) (varX 14)) (consX (argX dictW (consX (varX 16) nilX)) (consX (varX 17) (consX (isNX (varX 15)) nilX))))
noncomputable def readS : FS := forX (range1I (consX (argX lenW (consX (varX 8) nilX)) nilX)) (nameG 20)
  (ifS (notT (bbX (callL [] fn__law_is (consX (callL [] fn_row_at (consX (varX 12) (consX (varX 20) (consX (varX 15) nilX)))) (consX (callL [] fn__law_read (consX (op2X ixW (varX 8) (varX 20)) (consX (frzDX (varX 16)) nilX))) nilX))))) (retX (conX (.bool false))) skipX)
/-- what comes behind the faults -/
noncomputable def wBody : FS :=
  seqX (asgX (argX reprW (consX (varX 15) nilX)) (nameG 18))
    (seqX (asgX thereX (nameG 19))
      (seqX (asgX putX (nameG 16))
        (seqX (ifS (orT (bbX (op2X neW (argX reprW (consX (varX 15) nilX)) (varX 18))) (notT (bbX (callL [] fn__law_is (consX (varX 19) (consX (sortItX (varX 16)) nilX)))))) (retX (conX (.bool false))) skipX)
          (seqX (asgX (varX 19) (nameG 15)) readS))))
noncomputable def tBody : FS :=
  seqX (asgX (callL [true, false] fn__law_draw (consX (varX 1) (consX (argX lenW (consX (varX 8) nilX)) nilX))) (nameG 14))
    (seqX (asgX (callL [true, false] fn__law_given (consX (varX 1) (consX (op2X ixW (varX 8) (varX 14)) nilX))) (nameG 17))
      (seqX (asgX (callL [] fn__law_given_fault (consX (op2X ixW (varX 8) (varX 14)) (consX (varX 17) nilX))) (nameG 11))
        (seqX (ifS (bbX (op2X neW (callL [] fn_given_fault (consX (callL [] fn_columns_at (consX (varX 12) (consX (varX 14) nilX))) (consX (varX 17) nilX))) (varX 11))) (retX (conX (.bool false))) skipX)
          (seqX (ifS (bbX (notNX (varX 11))) cntX skipX) wBody))))
theorem nil_n (env : Z.Env) (S : Store) : nilX env S = some ([], S) := rfl
theorem write_body {rs : List Raw} {ss : List Stp} {m k : Nat} {r : Option Bk} {bk : Bk} {env : Z.Env} {S : Store} (t : TS rs ss) (R : RS rs ss k r bk) (hk : k ≤ 130) (l : Lay2 rs ss m r bk env S) {n : Nat} (hn : n ≤ ss.length) {g : Gv} (hg : g.length < 64) (hv : ∀ p ∈ g, okV p.2) (h : givRes (kindOf (stateAt rs ss n)) g = .d .none) (v14 : env[14]? = some (some (.d (.int n)))) (v17 : env[17]? = some (some (.d (.list (g.map pD))))) :
    Run wBody env S fun c env' S' => c = .next ∧ ∃ b' bk' : Bk, RS rs ss (k + 11) (some b') bk' ∧ Lay2 rs ss m (some b') bk' env' S' := by
  obtain ⟨x, hx⟩ := repr_rec (by omega) R
  obtain ⟨b', bk', R', eb, hthere, hput⟩ := turn_one t hn hg hv h hk R
  obtain ⟨nd, bx⟩ := R.book
  obtain ⟨nd', bx'⟩ := RS.book (r := some b') R'
  have hb' : b'.length < 1000 := by have := R'.1.len; omega
  -- held
  have c1 := hx env S l.recd
  have l1 := l.env (i := 18) (by decide) (some (.d (.str x)))
  have a14 : (env.set 18 (some (W.d (.str x))))[14]? = some (some (.d (.int n))) := set_off (by decide) v14
  have a17 : (env.set 18 (some (W.d (.str x))))[17]? = some (some (.d (.list (g.map pD)))) := set_off (by decide) v17
  have a18 : (env.set 18 (some (W.d (.str x))))[18]? = some (some (.d (.str x))) := set_on (by rw [l.len]; decide)
  refine run_a c1 ?_
  clear c1 l v14 v17
  generalize env.set 18 (some (W.d (.str x))) = e1 at l1 a14 a17 a18 ⊢
  clear env
  -- there
  have c2 : thereX e1 S = some (.d (recD b'), S) := hthere e1 S l1.tab a14 l1.recd a17
  have l2 := l1.env (i := 19) (by decide) (some (.d (recD b')))
  have b14 : (e1.set 19 (some (W.d (recD b'))))[14]? = some (some (.d (.int n))) := set_off (by decide) a14
  have b17 : (e1.set 19 (some (W.d (recD b'))))[17]? = some (some (.d (.list (g.map pD)))) := set_off (by decide) a17
  have b18 : (e1.set 19 (some (W.d (recD b'))))[18]? = some (some (.d (.str x))) := set_off (by decide) a18
  have b19 : (e1.set 19 (some (W.d (recD b'))))[19]? = some (some (.d (recD b'))) := set_on (by rw [l1.len]; decide)
  refine run_a c2 ?_
  clear c2 l1 a14 a17 a18
  generalize e1.set 19 (some (W.d (recD b'))) = e2 at l2 b14 b17 b18 b19 ⊢
  clear e1
  -- put
  obtain ⟨q, c, k16, kq, kc, k0⟩ := l2.book
  have cd : argX dictW (consX (varX 16) nilX) e2 S = some (.c S.length, S ++ [.dic (bookW bk)]) := arg_n (as := [.c q]) (cons_n (v_at k16) rfl) (by
    unfold dictW
    dsimp only
    rw [dict_of kq kc]
    dsimp only
    rw [if_pos (by rw [apart_book nd bx.ks, Bool.or_true])])
  have cput : putX e2 S = some (.c S.length, S ++ [.dic (bookW bk')]) := by
    have := call_put (f := fn__law_put) (fa := consX (op2X ixW (varX 8) (varX 14)) (consX (argX dictW (consX (varX 16) nilX)) (consX (varX 17) (consX (isNX (varX 15)) nilX)))) (env := e2) (S := S) (S1 := S ++ [.dic (bookW bk)]) (n := S.length) (c := .dic (bookW bk)) (c' := .dic (bookW bk'))
      (cons_n (op2_n (v_at l2.shapes) (v_at b14) (shape_at rs ss l2.sh hn)) (cons_n cd (cons_n (v_at b17) (cons_n (op1_n (v_at l2.recd) rfl) (nil_n _ _))))) (by rw [List.getElem?_append_right (Nat.le_refl _), Nat.sub_self]; rfl) (plain_book bk) (plain_book bk') hput
    refine this.trans ?_
    rw [List.set_append_right _ _ (Nat.le_refl _), Nat.sub_self]
    rfl
  have m14 : (e2.set 16 (some (W.c S.length)))[14]? = some (some (.d (.int n))) := set_off (by decide) b14
  have m18 : (e2.set 16 (some (W.c S.length)))[18]? = some (some (.d (.str x))) := set_off (by decide) b18
  have m19 : (e2.set 16 (some (W.c S.length)))[19]? = some (some (.d (recD b'))) := set_off (by decide) b19
  have m15 : (e2.set 16 (some (W.c S.length)))[15]? = some (some (.d (oD r))) := set_off (by decide) l2.recd
  have m16 : (e2.set 16 (some (W.c S.length)))[16]? = some (some (.c S.length)) := set_on (by rw [l2.len]; decide)
  have m1 : (e2.set 16 (some (W.c S.length)))[1]? = some (some (.c 0)) := set_off (by decide) l2.dr
  have m8 : (e2.set 16 (some (W.c S.length)))[8]? = some (some (.c m)) := set_off (by decide) l2.shapes
  have m12 : (e2.set 16 (some (W.c S.length)))[12]? = some (some (.d (tD rs ss))) := set_off (by decide) l2.tab
  have m13 : (e2.set 16 (some (W.c S.length)))[13]? = some (some (.d (.str (tD rs ss).shown))) := set_off (by decide) l2.kept
  have mlen : (e2.set 16 (some (W.c S.length))).length = 21 := by rw [List.length_set]; exact l2.len
  have hne : S.length ≠ 0 := by
    have := at_some l2.sh
    omega
  have shm : m ≠ S.length := by
    have := at_some l2.sh
    omega
  have d0 := l2.d0
  have sh := l2.sh
  have pos := l2.pos
  refine run_a cput ?_
  clear cput cd l2 b14 b17 b18 b19 k16
  generalize e2.set 16 (some (W.c S.length)) = e3 at m14 m18 m19 m15 m16 m1 m8 m12 m13 mlen ⊢
  clear e2
  have hl2 : (S ++ [Cell.dic (bookW bk')])[S.length]? = some (.dic (bookW bk')) := by rw [List.getElem?_append_right (Nat.le_refl _), Nat.sub_self]; rfl
  -- the same
  have c4 := bb_n (op2_n (hx e3 (S ++ [Cell.dic (bookW bk')]) m15) (v_at m18) (ne_fault (some x) _))
  have c5 := call_d (f := fn__law_is) (fa := consX (varX 19) (consX (sortItX (varX 16)) nilX)) (env := e3) (S := S ++ [Cell.dic (bookW bk')]) (ds := [recD b', recD b']) (cons_n (v_at m19) (cons_n (by
    rw [eb]
    exact sortIt_n bk' nd' (v_at m16) (dict_of hl2 (.inl rfl))) (nil_n _ _))) (is_eq (n := 3) (Nat.le_refl _) (deep_rec b' hb'))
  have c6 := or_n c4 ((if_neg Bool.false_ne_true).trans (not_n (bb_n c5)))
  -- record = there
  have n15 : (e3.set 15 (some (W.d (recD b'))))[15]? = some (some (.d (recD b'))) := set_on (by rw [mlen]; decide)
  have n16 : (e3.set 15 (some (W.d (recD b'))))[16]? = some (some (.c S.length)) := set_off (by decide) m16
  have n1 : (e3.set 15 (some (W.d (recD b'))))[1]? = some (some (.c 0)) := set_off (by decide) m1
  have n8 : (e3.set 15 (some (W.d (recD b'))))[8]? = some (some (.c m)) := set_off (by decide) m8
  have n12 : (e3.set 15 (some (W.d (recD b'))))[12]? = some (some (.d (tD rs ss))) := set_off (by decide) m12
  have n13 : (e3.set 15 (some (W.d (recD b'))))[13]? = some (some (.d (.str (tD rs ss).shown))) := set_off (by decide) m13
  have nlen : (e3.set 15 (some (W.d (recD b')))).length = 21 := by rw [List.length_set]; exact mlen
  refine run_n (ret_iff c6) (run_a (v_at m19) ?_)
  clear c4 c5 c6 m14 m18 m19 m15 m16 m1 m8 m12 m13
  generalize e3.set 15 (some (W.d (recD b'))) = e4 at n15 n16 n1 n8 n12 n13 nlen ⊢
  clear e3 mlen
  -- read
  have v16 : ∀ (y : Option W) (U : Store), varX 16 (e4.set 20 y) U = some (.c S.length, U) := fun y U => v_at (set_off (by decide) n16)
  have hT : (S ++ [Cell.dic (bookW bk')]).set S.length (.frz (.dict (bookP bk'))) = S ++ [.frz (.dict (bookP bk'))] := by
    rw [List.set_append_right _ _ (Nat.le_refl _), Nat.sub_self]
    rfl
  have lT : (S ++ [Cell.frz (.dict (bookP bk'))])[S.length]? = some (.frz (.dict (bookP bk'))) := by rw [List.getElem?_append_right (Nat.le_refl _), Nat.sub_self]; rfl
  obtain ⟨y, hr⟩ := law_reads t.tb R'.1 (env := e4) (S := S ++ [.dic (bookW bk')]) (T := S ++ [.frz (.dict (bookP bk'))]) n8 n12 n15 (by omega) (app_at sh) (app_at sh) (fun y => by
    unfold frzDX
    rw [v16]
    dsimp only
    rw [hl2]
    dsimp only
    rw [kv_book]
    dsimp only
    rw [hT]) (fun y => by
    unfold frzDX
    rw [v16]
    dsimp only
    rw [lT])
  refine run_of hr ⟨rfl, b', bk', R', ⟨by rw [List.length_set]; exact nlen, set_off (by decide) n1, set_off (by decide) n8, set_off (by decide) n12, set_off (by decide) n13, set_off (by decide) n15, ⟨S.length, _, set_off (by decide) n16, lT, .inr rfl, hne⟩, ?_, app_at sh, pos⟩⟩
  obtain ⟨d, ok, h⟩ := d0
  exact ⟨d, ok, app_at h⟩
theorem turn_body {rs : List Raw} {ss : List Stp} {m k : Nat} {r : Option Bk} {bk : Bk} {env : Z.Env} {S : Store} (t : TS rs ss) (R : RS rs ss k r bk) (hk : k ≤ 130) (l : Lay2 rs ss m r bk env S) :
    Run tBody env S fun c env' S' => (c = .next ∨ c = .cnt) ∧ ∃ (r' : Option Bk) (bk' : Bk), RS rs ss (k + 11) r' bk' ∧ Lay2 rs ss m r' bk' env' S' := by
  have hb := big
  have sl := t.sl
  obtain ⟨d, ok, hd⟩ := l.d0
  obtain ⟨v, d1, ok1, g1, g2, hf⟩ := r_draw d ok ((ss.length + 1 : Nat) : Int) (by omega) (by omega)
  obtain ⟨n, hv⟩ : ∃ n : Nat, v = n := ⟨v.toNat, by omega⟩
  subst hv
  have hn : n ≤ ss.length := by omega
  have c1 := call_dr (f := fn__law_draw) (fa := consX (varX 1) (consX (argX lenW (consX (varX 8) nilX)) nilX)) (env := env) (S := S) (ds := [.int ((ss.length + 1 : Nat) : Int)]) (m := 0) (io := [true, false]) hf (cons_n (v_at l.dr) (cons_n (arg_n (as := [.c m]) (cons_n (v_at l.shapes) (nil_n _ _)) (shapes_len rs ss l.sh)) (nil_n _ _))) rfl hd
  have l1 := (l.draw ok1).env (i := 14) (by decide) (some (.d (.int n)))
  have a14 : (env.set 14 (some (W.d (.int n))))[14]? = some (some (.d (.int n))) := set_on (by rw [l.len]; decide)
  have hd1 : (S.set 0 (drC d1))[0]? = some (drC d1) := set_on (at_some hd)
  refine run_a c1 ?_
  clear c1 l hd hf
  generalize env.set 14 (some (W.d (.int n))) = e1 at l1 a14 ⊢
  generalize S.set 0 (drC d1) = S1 at l1 hd1 ⊢
  clear env S
  -- what is given
  have w0 := t.wf n hn
  have hlen := t.tb.srt_len n
  rw [K02.srt_len] at hlen
  obtain ⟨g, d2, S9, ok2, hg, hgv, hgiv⟩ := r_lgiven d1 ok1 (stateAt rs ss n) hlen
  have c2 := call_c1 (f := fn__law_given) (fa := consX (varX 1) (consX (op2X ixW (varX 8) (varX 14)) nilX)) (env := e1) (S := S1) (S1 := S1) (ds := [.list ((stateAt rs ss n).map lD)]) (n := 0) (c := drC d1) (c' := drC d2) (io := [true, false]) (cons_n (v_at l1.dr) (cons_n (op2_n (v_at l1.shapes) (v_at a14) (shape_at rs ss l1.sh hn)) (nil_n _ _))) rfl hd1 rfl rfl hgiv
  have l2 := (l1.draw ok2).env (i := 17) (by decide) (some (.d (.list (g.map pD))))
  have b17 : (e1.set 17 (some (W.d (.list (g.map pD)))))[17]? = some (some (.d (.list (g.map pD)))) := set_on (by rw [l1.len]; decide)
  have b14 : (e1.set 17 (some (W.d (.list (g.map pD)))))[14]? = some (some (.d (.int n))) := set_off (by decide) a14
  refine run_a c2 ?_
  clear c2 l1 a14
  generalize e1.set 17 (some (W.d (.list (g.map pD)))) = e2 at l2 b17 b14 ⊢
  generalize S1.set 0 (drC d2) = S2 at l2 ⊢
  clear e1
  -- faults
  obtain ⟨x, hx⟩ := giv_fD (kindOf (stateAt rs ss n)) g
  obtain ⟨S3, hlf⟩ := r_lgiven_fault (stateAt rs ss n) g (by omega) hg
  rw [hx] at hlf
  have c3 := call_d (f := fn__law_given_fault) (fa := consX (op2X ixW (varX 8) (varX 14)) (consX (varX 17) nilX)) (env := e2) (S := S2) (ds := [.list ((stateAt rs ss n).map lD), .list (g.map pD)]) (cons_n (op2_n (v_at l2.shapes) (v_at b14) (shape_at rs ss l2.sh hn)) (cons_n (v_at b17) (nil_n _ _))) hlf
  have l3 := l2.env (i := 11) (by decide) (some (.d (fD x)))
  have d17 : (e2.set 11 (some (W.d (fD x))))[17]? = some (some (.d (.list (g.map pD)))) := set_off (by decide) b17
  have d14 : (e2.set 11 (some (W.d (fD x))))[14]? = some (some (.d (.int n))) := set_off (by decide) b14
  have d11 : (e2.set 11 (some (W.d (fD x))))[11]? = some (some (.d (fD x))) := set_on (by rw [l2.len]; decide)
  refine run_a c3 ?_
  clear c3 l2 b14 b17
  generalize e2.set 11 (some (W.d (fD x))) = e3 at l3 d17 d14 d11 ⊢
  clear e2
  have ccol := call_d (f := fn_columns_at) (fa := consX (varX 12) (consX (varX 14) nilX)) (env := e3) (S := S2) (ds := [tD rs ss, .int n]) (cons_n (v_at l3.tab) (cons_n (v_at d14) (nil_n _ _))) (r_columns_at rs ss n hn t.tb.len w0.nd)
  obtain ⟨S4, hgf⟩ := r_given_fault (srt (stateAt rs ss n)) g (by rw [K02.srt_len]; omega) hg (t.tb.wfs hn).ndn
  rw [funext (kindOf_srt w0), hx] at hgf
  have cgf := call_d (f := fn_given_fault) (ds := [.list ((srt (stateAt rs ss n)).map cD), .list (g.map pD)]) (cons_n ccol (cons_n (v_at d17) (nil_n _ _))) hgf
  have c4 := bb_n (op2_n cgf (v_at d11) (ne_fault _ _))
  have c5 : bbX (notNX (varX 11)) e3 S2 = some (!x.isNone, S2) := bb_n (op1_n (v_at d11) (show vB _ _ = _ by rw [is_none_f]; rfl))
  refine run_n (ret_iff c4) ?_
  cases x with
  | some y =>
    have h9 : ifS (bbX (notNX (varX 11))) cntX skipX e3 S2 = some (.cnt, e3, S2) := (ifS_b c5).trans (if_pos rfl)
    exact run_of (seqX_c h9) ⟨.inr rfl, r, bk, R.mono (Nat.le_add_right _ _), l3⟩
  | none =>
    refine run_n (ret_iff c5) ?_
    obtain ⟨c, e9, S8, h1, h2, b', bk', h3, h4⟩ := write_body t R hk l3 hn hg hgv hx d14 d17
    exact ⟨c, e9, S8, h1, .inl h2, some b', bk', h3, h4⟩
theorem turns_loop {rs : List Raw} {ss : List Stp} {m : Nat} (t : TS rs ss) : ∀ (ws : List W) (k : Nat) (r : Option Bk) (bk : Bk) (env : Z.Env) (S : Store), RS rs ss k r bk → k + 11 * ws.length ≤ 130 → Lay2 rs ss m r bk env S → ∃ (r' : Option Bk) (bk' : Bk) (env' : Z.Env) (S' : Store), forL none (nameG 9) tBody ws env S = some (.next, env', S') ∧ Lay2 rs ss m r' bk' env' S'
  | [], k, r, bk, env, S, R, _, l => ⟨r, bk, env, S, for_nil (gd := none) True.intro, l⟩
  | w :: ws, k, r, bk, env, S, R, hk, l => by
    rw [List.length_cons] at hk
    obtain ⟨c, e1, S1, h1, hc, r1, bk1, R1, l1⟩ := turn_body t R (by omega) (l.env (i := 9) (by decide) (some w))
    obtain ⟨r2, bk2, e2, S2, h2, l2⟩ := turns_loop t ws (k + 11) r1 bk1 e1 S1 R1 (by omega) l1
    refine ⟨r2, bk2, e2, S2, ?_, l2⟩
    rcases hc with rfl | rfl
    · exact (for_next (gd := none) (S := S) True.intro rfl h1).trans h2
    · exact (for_cnt (gd := none) (S := S) True.intro rfl h1).trans h2
end K02

/-! KZP: the law. -/
namespace K02
open PySem PySem.Spec PyProof.Rows L2 Y Z
noncomputable def restS : FS :=
  seqX (asgX (argX newL nilX) (nameG 7))
    (seqX (asgX (argX newC (consX (frzX (varX 4)) nilX)) (nameG 8))
      (seqX (forX (range1I (consX (callL [true, false] fn__law_draw (consX (varX 1) (consX (conX (.int 8)) nilX))) nilX)) (nameG 9) sBody)
        (seqX (asgX (argX newT (consX (conX (.str ("table"))) (consX (conX (.str ("t"))) (consX (varX 2) (consX (varX 7) nilX))))) (nameG 12))
          (seqX (asgX (argX reprW (consX (varX 12) nilX)) (nameG 13))
            (seqX
              (forX (range1I (consX (argX lenW (consX (varX 8) nilX)) nilX)) (nameG 14)
                (ifS (notT (bbX (callL [] fn__law_is (consX (callL [] fn_columns_at (consX (varX 12) (consX (varX 14) nilX))) (consX (callL [] fn__law_rows (consX (op2X ixW (varX 8) (varX 14)) nilX)) nilX)))))
                  (retX (conX (.bool false))) skipX))
              (seqX (asgX (conX .none) (nameG 15))
                (seqX (asgX dnewX (nameG 16))
                  (seqX (forX (range1I (consX (op2X (addW newL) (conX (.int 1)) (callL [true, false] fn__law_draw (consX (varX 1) (consX (conX (.int 5)) nilX)))) nilX)) (nameG 9) tBody)
                    (retX (op2X eqW (argX reprW (consX (varX 12) nilX)) (varX 13)))))))))))
theorem run_for {fi : FI} {tg : FG} {body g : FS} {env : Z.Env} {S S1 : Store} {ws : List W} {gd : Gd} {Q : Ctl → Z.Env → Store → Prop} (h : fi env S = some (ws, gd, S1)) {e2 : Z.Env} {S2 : Store} (h2 : forL gd tg body ws env S1 = some (.next, e2, S2)) (r : Run g e2 S2 Q) : Run (seqX (forX fi tg body) g) env S Q := run_n ((forX_l h).trans h2) r
theorem law_rest {rs : List Raw} {p : Nat} {env : Z.Env} {S : Store} (rl : rs.length ≤ 4) (rb : ∀ r ∈ rs, RB r) (w : WF (rs.map (bornC · 0))) (hlen : env.length = 21) (v1 : env[1]? = some (some (.c 0))) (v2 : env[2]? = some (some (.d (.list (rs.map rD))))) (v4 : env[4]? = some (some (.c p))) (hd : ∃ d : Dr, d.ok ∧ S[0]? = some (drC d)) (hp : S[p]? = some (.lst (((rs.map (bornC · 0)).map lD).map W.d))) (p0 : p ≠ 0) :
    Run restS env S fun c _ _ => c = .ret (.d (.bool true)) := by
  have hb := big
  refine run_a (w := .d (.list [])) (S1 := S) rfl ?_
  have h2 : (env.set 7 (some (W.d (.list []))))[2]? = some (some (.d (.list (rs.map rD)))) := set_off (by decide) v2
  have h1 : (env.set 7 (some (W.d (.list []))))[1]? = some (some (.c 0)) := set_off (by decide) v1
  have h4 : (env.set 7 (some (W.d (.list []))))[4]? = some (some (.c p)) := set_off (by decide) v4
  have h7 : (env.set 7 (some (W.d (.list []))))[7]? = some (some (.d (.list []))) := set_on (by rw [hlen]; decide)
  have hl : (env.set 7 (some (W.d (.list [])))).length = 21 := by rw [List.length_set]; exact hlen
  generalize env.set 7 (some (W.d (.list []))) = e1 at h1 h2 h4 h7 hl ⊢
  clear v1 v2 v4 hlen env
  have cf : frzX (varX 4) e1 S = some (.d (.list ((rs.map (bornC · 0)).map lD)), S.set p (.frz (.list ((rs.map (bornC · 0)).map lD)))) := by
    unfold frzX
    rw [v_at h4]
    dsimp only
    rw [hp]
    dsimp only
    rw [datas_d]
  have cn : argX newC (consX (frzX (varX 4)) nilX) e1 S = some (.c (S.set p (.frz (.list ((rs.map (bornC · 0)).map lD)))).length, S.set p (.frz (.list ((rs.map (bornC · 0)).map lD))) ++ [shapesC rs []]) := arg_n (cons_n cf (nil_n _ _)) rfl
  obtain ⟨d, ok, hd⟩ := hd
  have hS0 : (S.set p (.frz (.list ((rs.map (bornC · 0)).map lD))))[0]? = some (drC d) := set_off p0 hd
  generalize S.set p (.frz (.list ((rs.map (bornC · 0)).map lD))) = S1 at cn hS0
  refine run_a cn ?_
  have l0 : Lay rs [] S1.length (e1.set 8 (some (.c S1.length))) (S1 ++ [shapesC rs []]) := ⟨by rw [List.length_set]; exact hl, set_off (by decide) h1, set_off (by decide) h2, set_off (by decide) h7, set_on (by rw [hl]; decide), ⟨d, ok, app_at hS0⟩, by rw [List.getElem?_append_right (Nat.le_refl _), Nat.sub_self]; rfl, by have := at_some hS0; omega⟩
  have t0 : TS rs [] := ⟨rl, rb, Nat.zero_le _, (fun _ h => (by cases h)), fun n hn => by
    have : n = 0 := Nat.le_zero.mp hn
    subst this
    exact w⟩
  generalize S1.length = m at l0 ⊢
  generalize S1 ++ [shapesC rs []] = S2 at l0 ⊢
  generalize e1.set 8 (some (.c m)) = e2 at l0 ⊢
  clear cn cf hd hS0 h1 h2 h4 h7 hl hp
  -- steps
  obtain ⟨d, ok, hd⟩ := l0.d0
  obtain ⟨v, d1, ok1, g1, g2, hf⟩ := r_draw d ok 8 (by decide) (by decide)
  have c1 := call_dr (f := fn__law_draw) (fa := consX (varX 1) (consX (conX (.int 8)) nilX)) (env := e2) (S := S2) (ds := [.int 8]) (m := 0) (io := [true, false]) hf (cons_n (v_at l0.dr) (show consX _ nilX _ _ = some ([.d (.int 8)], _) from rfl)) rfl hd
  have hr1 : range1I (consX (callL [true, false] fn__law_draw (consX (varX 1) (consX (conX (.int 8)) nilX))) nilX) e2 S2 = some (rngI 0 v.toNat, none, S2.set 0 (drC d1)) := by
    unfold range1I
    rw [cons_n c1 (nil_n _ _)]
    dsimp only
    rw [if_pos (by omega)]
  obtain ⟨ss, e3, S3, hs, t, l, _⟩ := steps_loop (rngI 0 v.toNat) [] e2 (S2.set 0 (drC d1)) t0 (by unfold rngI; rw [List.length_map, List.length_range]; show 0 + _ ≤ 7; omega) (l0.draw ok1)
  refine run_for hr1 hs ?_
  clear hs hr1 c1 hf hd l0 t0
  -- the table
  have ctab : argX newT (consX (conX (.str ("table"))) (consX (conX (.str ("t"))) (consX (varX 2) (consX (varX 7) nilX)))) e3 S3 = some (.d (tD rs ss), S3) := arg_n (as := [.d (.str "table"), .d (.str "t"), .d (.list (rs.map rD)), .d (.list (ss.map sD))]) (cons_n rfl (cons_n rfl (cons_n (v_at l.cols) (cons_n (v_at l.steps) rfl)))) rfl
  refine run_a ctab ?_
  have a12 : (e3.set 12 (some (W.d (tD rs ss))))[12]? = some (some (.d (tD rs ss))) := set_on (by rw [l.len]; decide)
  obtain ⟨q1, q2, q3⟩ := tab_small (rs := rs) (ss := ss) t.tb.len (fun r hr => (t.rb r hr).sm) fun s hs => (t.sb s hs).sm
  have l1 := l.env (i := 12) (by decide) (some (.d (tD rs ss)))
  generalize e3.set 12 (some (W.d (tD rs ss))) = e4 at a12 l1 ⊢
  clear l ctab
  refine run_a (repr_n (v_at a12) rfl q1 q2 q3) ?_
  have l2 := l1.env (i := 13) (by decide) (some (.d (.str (tD rs ss).shown)))
  have b12 : (e4.set 13 (some (W.d (.str (tD rs ss).shown))))[12]? = some (some (.d (tD rs ss))) := set_off (by decide) a12
  have b13 : (e4.set 13 (some (W.d (.str (tD rs ss).shown))))[13]? = some (some (.d (.str (tD rs ss).shown))) := set_on (by rw [l1.len]; decide)
  generalize e4.set 13 (some (W.d (.str (tD rs ss).shown))) = e5 at l2 b12 b13 ⊢
  clear l1 a12
  obtain ⟨y, hsh⟩ := law_shapes t.tb (env := e5) (S := S3) l2.shapes b12 (by rw [l2.len]; decide) l2.sh
  refine run_n hsh ?_
  have l3 := l2.env (i := 14) (by decide) y
  have c12 : (e5.set 14 y)[12]? = some (some (.d (tD rs ss))) := set_off (by decide) b12
  have c13 : (e5.set 14 y)[13]? = some (some (.d (.str (tD rs ss).shown))) := set_off (by decide) b13
  generalize e5.set 14 y = e6 at l3 c12 c13 ⊢
  clear hsh l2 b12 b13
  refine run_a (w := .d .none) (S1 := S3) rfl (run_a (w := .c S3.length) (S1 := S3 ++ [.dic []]) rfl ?_)
  have L : Lay2 rs ss m none [] ((e6.set 15 (some (.d .none))).set 16 (some (.c S3.length))) (S3 ++ [.dic []]) := by
    refine ⟨by rw [List.length_set, List.length_set]; exact l3.len, set_off (by decide) (set_off (by decide) l3.dr), set_off (by decide) (set_off (by decide) l3.shapes), set_off (by decide) (set_off (by decide) c12), set_off (by decide) (set_off (by decide) c13), set_off (by decide) (set_on (by rw [l3.len]; decide)), ⟨S3.length, .dic [], set_on (by rw [List.length_set, l3.len]; decide), by rw [List.getElem?_append_right (Nat.le_refl _), Nat.sub_self]; rfl, .inl rfl, ?_⟩, ?_, app_at l3.sh, l3.pos⟩
    · have := at_some l3.sh
      omega
    · obtain ⟨d, ok, h⟩ := l3.d0
      exact ⟨d, ok, app_at h⟩
  generalize (e6.set 15 (some (W.d .none))).set 16 (some (W.c S3.length)) = e7 at L ⊢
  generalize S3 ++ [Cell.dic []] = S4 at L ⊢
  clear l3 c12 c13
  -- turns
  obtain ⟨d, ok, hd⟩ := L.d0
  obtain ⟨u, d2, ok2, g3, g4, hf⟩ := r_draw d ok 5 (by decide) (by decide)
  have c1 := call_dr (f := fn__law_draw) (fa := consX (varX 1) (consX (conX (.int 5)) nilX)) (env := e7) (S := S4) (ds := [.int 5]) (m := 0) (io := [true, false]) hf (cons_n (v_at L.dr) (show consX _ nilX _ _ = some ([.d (.int 5)], _) from rfl)) rfl hd
  have hr2 : range1I (consX (op2X (addW newL) (conX (.int 1)) (callL [true, false] fn__law_draw (consX (varX 1) (consX (conX (.int 5)) nilX)))) nilX) e7 S4 = some (rngI 0 (1 + u).toNat, none, S4.set 0 (drC d2)) := by
    have hsum : consX (op2X (addW newL) (conX (.int 1)) (callL [true, false] fn__law_draw (consX (varX 1) (consX (conX (.int 5)) nilX)))) nilX e7 S4 = some ([.d (.int (1 + u))], S4.set 0 (drC d2)) := cons_n (op2_n (a := .d (.int 1)) (S1 := S4) rfl c1 rfl) (nil_n _ _)
    unfold range1I
    rw [hsum]
    dsimp only
    rw [if_pos (by omega)]
  obtain ⟨r', bk', e8, S5, ht, L2⟩ := turns_loop t (rngI 0 (1 + u).toNat) 0 none [] e7 (S4.set 0 (drC d2)) rfl (by unfold rngI; rw [List.length_map, List.length_range]; omega) (L.draw ok2)
  refine run_for hr2 ht ?_
  have he : eqW S5 (.d (.str (tD rs ss).shown)) (.d (.str (tD rs ss).shown)) = some (.d (.bool true), S5) := by
    show some (W.d (.bool (decide ((tD rs ss).shown = (tD rs ss).shown))), S5) = _
    rw [decide_eq_true rfl]
  exact run_of (retX_n (op2_n (repr_n (v_at L2.tab) rfl q1 q2 q3) (v_at L2.kept) he)) rfl
theorem run_fn {np nl : Nat} {body : FS} {ws : List W} {v : W} (hl : ws.length = np) (r : Run body (ws.map some ++ List.replicate nl none) [] fun c _ _ => c = .ret v) : ∃ S, fnD np nl body ws [] = some (v, S) := by
  obtain ⟨c, e1, S1, h, rfl⟩ := r
  exact ⟨S1, fnD_r hl h⟩
def rsF : List Raw := [⟨1, "a", "int", .int 3⟩, ⟨2, "b", "text", .text "x"⟩]
theorem rbF : ∀ r ∈ rsF, RB r := fun r hr => by
  simp only [rsF, List.mem_cons, List.not_mem_nil, or_false] at hr
  rcases hr with rfl | rfl
  · exact ⟨by decide, .inl rfl, (by show (3 : Int).natAbs ≤ 20; decide), by unfold small; decide +kernel⟩
  · exact ⟨by decide, .inr rfl, (by show tiny (.str "x") = true; decide +kernel), by unfold small; decide +kernel⟩
theorem wf_of {rs : List Raw} (h0 : 1 ≤ rs.length) (rb : ∀ r ∈ rs, RB r) (h : tabFault [] rs = none) : WF (rs.map (bornC · 0)) := tab_wf rs [] List.Pairwise.nil List.Pairwise.nil (fun _ h => by cases h) (fun r hr => (rb r hr).kind) h (by
  rw [List.nil_append]
  intro z
  have := congrArg List.length z
  rw [List.length_map] at this
  rw [this] at h0
  cases h0)
def envL (ns : List Int) (rs : List Raw) (x : PyData) (y : Option W) : Z.Env := [some (W.k ns), some (W.c 0), some (W.d (.list (rs.map rD))), none] ++ [some (W.c 1), some (W.d x), y] ++ List.replicate 14 none
theorem law_true (ns : List Int) (hl : ns.length ≤ 63) : ∃ S, fn_law [.k ns] [] = some (.d (.bool true), S) := by
  have hb := big
  refine run_fn rfl ?_
  unfold b_law pk_law
  dsimp only
  refine run_a (call_draws ns hl [] _ rfl) ?_
  obtain ⟨rs, d, ok, l1, l4, hr, hc⟩ := law_columns (env := [some (W.k ns), some (W.c 0)] ++ List.replicate 19 none) rfl (by simp) ⟨ns, 0, 0, 1⟩ ⟨Int.le_refl 0, (show (0 : Int) ≤ 1 by decide), (show (1 : Int) < 2147483647 by decide)⟩
  have rb : ∀ r ∈ rs, RB r := fun r h => rb_of (hr r h)
  refine run_a hc (run_a (w := .c 1) (S1 := [drC d, .lst []]) rfl (run_a (w := .d .none) (S1 := [drC d, .lst []]) rfl ?_))
  obtain ⟨y, hdue⟩ := law_due [some (.k ns), some (.c 0), some (.d (.list (rs.map rD))), none] (List.replicate 14 none) rfl d rs (by omega) none
  refine run_for (seqI_m rD rs (v_at rfl)) hdue ?_
  have ctf := call_d (f := fn_table_fault) (fa := consX (varX 2) nilX) (env := envL ns rs (fD (tabFault [] rs)) y) (S := [drC d, .lst (((rs.map (bornC · 0)).map lD).map W.d)]) (ds := [.list (rs.map rD)]) (cons_n (v_at rfl) (nil_n _ _)) (r_table_fault rs (by omega))
  refine run_n (ret_iff (bb_n (op2_n ctf (v_at rfl) (ne_fault _ _)))) ?_
  have c5 : bbX (notNX (varX 5)) (envL ns rs (fD (tabFault [] rs)) y) [drC d, .lst (((rs.map (bornC · 0)).map lD).map W.d)] = some (!(tabFault [] rs).isNone, [drC d, .lst (((rs.map (bornC · 0)).map lD).map W.d)]) := bb_n (op1_n (v_at rfl) (show vB _ _ = _ by rw [is_none_f]; rfl))
  cases hx : tabFault [] rs with
  | none =>
    rw [hx] at c5
    exact run_n (ret_iff c5) (law_rest (p := 1) l4 rb (wf_of l1 rb hx) rfl rfl rfl rfl ⟨d, ok, rfl⟩ rfl (by decide))
  | some x =>
    rw [hx] at c5
    have cc : argX newL (consX (argX newT (consX (conX (.int 1)) (consX (conX (.str ("a"))) (consX (conX (.str ("int"))) (consX (conX (.int 3)) nilX))))) (consX (argX newT (consX (conX (.int 2)) (consX (conX (.str ("b"))) (consX (conX (.str ("text"))) (consX (conX (.str ("x"))) nilX))))) nilX)) (envL ns rs (fD (some x)) y) [drC d, .lst (((rs.map (bornC · 0)).map lD).map W.d)] = some (.d (.list (rsF.map rD)), [drC d, .lst (((rs.map (bornC · 0)).map lD).map W.d)]) := arg_n (as := (rsF.map rD).map W.d) rfl (newL_d _ (by show 2 ≤ _; omega))
    have hlc : lcX newC (List.map (fun x => x.snd) [("column", 6)]) (seqI (varX 2)) (nameG 6) yesT (callL [] fn__law_born (consX (varX 6) (consX (conX (.int 0)) nilX))) ((envL ns rs (fD (some x)) y).set 2 (some (.d (.list (rsF.map rD))))) [drC d, .lst (((rs.map (bornC · 0)).map lD).map W.d)] = some (.c 2, [drC d, .lst (((rs.map (bornC · 0)).map lD).map W.d)] ++ [.lst (((rsF.map (bornC · 0)).map lD).map W.d)]) := by
      refine lc_n (seqI_m rD rsF (v_at rfl)) (comp_filter (fun r => W.d (rD r)) (fun r => W.d (lD (bornC r 0))) (fun _ => true) (gd := none) True.intro rsF fun r _ => ⟨_, rfl, rfl, fun _ => call_d (ds := [rD r, .int 0]) rfl (e_lborn r 0)⟩) ?_
      rfl
    exact run_n (((ifS_b c5).trans (if_pos rfl)).trans ((seqX_n (asgX_n cc rfl)).trans (asgX_n hlc rfl))) (law_rest (rs := rsF) (p := 2) (by decide) rbF (wf_of (by decide) rbF (by decide +kernel)) rfl rfl rfl rfl ⟨d, ok, rfl⟩ rfl (by decide))
theorem law_in {P : Program} {w : World} {K : PySem.W.Frag} {a : Addr} {ns : List Int} {H : Hp} (hl : ns.length ≤ 63) (hS : SqL K H a (ns.map V.int)) : spLaw P w K [.ref a] H (fun v _ => v = .bl true) fun _ _ _ => False := law_of law_true hl hS
end K02

/-! the end: what the top has written; the law. -/
namespace K02
open PySem PySem.Spec PyProof.Rows L2 Y Z
theorem all_mk {l : PySem.W.OpenLaw} {w : World} {K : PySem.W.Frag} {h : Heap} {mg : Str → Option Value} {fa  f1 f2 f3 f4 f5 f6 f7 f8 f9 f10 f11 f12 f13 f14 f15 f16 f17 f18 f19 f20 f21 f22 f23 f24 f25 f26 f27 f28 f29 f30 f31 : Addr} {t_MOST_TAG : Tok} (X : K.In h) (G : h.Ns mainGlobals mg) (hfa : mg "law" = some (.ref fa))
    {od1 an1 od2 an2 od3 an3 od4 an4 od5 an5 od6 an6 od7 an7 od8 an8 od9 an9 od10 an10 od11 an11 od12 an12 od13 an13 od14 an14 od15 an15 od16 an16 od17 an17 od18 an18 od19 an19 od20 an20 od21 an21 od22 an22 od23 an23 od24 an24 od25 an25 od26 an26 od27 an27 od28 an28 od29 an29 od30 an30 od31 an31 : Option Addr} {sl1 sl2 sl3 sl4 sl5 sl6 sl7 sl8 sl9 sl10 sl11 sl12 sl13 sl14 sl15 sl16 sl17 sl18 sl19 sl20 sl21 sl22 sl23 sl24 sl25 sl26 sl27 sl28 sl29 sl30 sl31 : Array (Option Value)} {oc1 kV1 dc1 pm1 cd1 ct1 oc2 kV2 dc2 pm2 cd2 ct2 oc3 kV3 dc3 pm3 cd3 ct3 oc4 kV4 dc4 pm4 cd4 ct4 oc5 kV5 dc5 pm5 cd5 ct5 oc6 kV6 dc6 pm6 cd6 ct6 oc7 kV7 dc7 pm7 cd7 ct7 oc8 kV8 dc8 pm8 cd8 ct8 oc9 kV9 dc9 pm9 cd9 ct9 oc10 kV10 dc10 pm10 cd10 ct10 oc11 kV11 dc11 pm11 cd11 ct11 oc12 kV12 dc12 pm12 cd12 ct12 oc13 kV13 dc13 pm13 cd13 ct13 oc14 kV14 dc14 pm14 cd14 ct14 oc15 kV15 dc15 pm15 cd15 ct15 oc16 kV16 dc16 pm16 cd16 ct16 oc17 kV17 dc17 pm17 cd17 ct17 oc18 kV18 dc18 pm18 cd18 ct18 oc19 kV19 dc19 pm19 cd19 ct19 oc20 kV20 dc20 pm20 cd20 ct20 oc21 kV21 dc21 pm21 cd21 ct21 oc22 kV22 dc22 pm22 cd22 ct22 oc23 kV23 dc23 pm23 cd23 ct23 oc24 kV24 dc24 pm24 cd24 ct24 oc25 kV25 dc25 pm25 cd25 ct25 oc26 kV26 dc26 pm26 cd26 ct26 oc27 kV27 dc27 pm27 cd27 ct27 oc28 kV28 dc28 pm28 cd28 ct28 oc29 kV29 dc29 pm29 cd29 ct29 oc30 kV30 dc30 pm30 cd30 ct30 oc31 kV31 dc31 pm31 cd31 ct31 : Value}
    (a1 : PySem.W.nsIn K mainGlobals "_law_draws" = some (some (.ref f1)))
    (l1 : K.lookup f1 = some ⟨oc1, od1, .func (PySem.W.fnOf "_law_draws" "_law_draws" (defArgs s__law_draws) (defBody s__law_draws) (defScope s__law_draws) .none kV1 dc1 pm1 an1 cd1 ct1), sl1⟩)
    (c1 : PySem.W.codeIn K cd1 "_law_draws" = true)
    (k1 : PySem.W.keepIn K (.ref f1) = true)
    (a2 : PySem.W.nsIn K mainGlobals "_law_draw" = some (some (.ref f2)))
    (l2 : K.lookup f2 = some ⟨oc2, od2, .func (PySem.W.fnOf "_law_draw" "_law_draw" (defArgs s__law_draw) (defBody s__law_draw) (defScope s__law_draw) .none kV2 dc2 pm2 an2 cd2 ct2), sl2⟩)
    (c2 : PySem.W.codeIn K cd2 "_law_draw" = true)
    (k2 : PySem.W.keepIn K (.ref f2) = true)
    (a3 : PySem.W.nsIn K mainGlobals "_law_value" = some (some (.ref f3)))
    (l3 : K.lookup f3 = some ⟨oc3, od3, .func (PySem.W.fnOf "_law_value" "_law_value" (defArgs s__law_value) (defBody s__law_value) (defScope s__law_value) .none kV3 dc3 pm3 an3 cd3 ct3), sl3⟩)
    (c3 : PySem.W.codeIn K cd3 "_law_value" = true)
    (k3 : PySem.W.keepIn K (.ref f3) = true)
    (a4 : PySem.W.nsIn K mainGlobals "_law_pick" = some (some (.ref f4)))
    (l4 : K.lookup f4 = some ⟨oc4, od4, .func (PySem.W.fnOf "_law_pick" "_law_pick" (defArgs s__law_pick) (defBody s__law_pick) (defScope s__law_pick) .none kV4 dc4 pm4 an4 cd4 ct4), sl4⟩)
    (c4 : PySem.W.codeIn K cd4 "_law_pick" = true)
    (k4 : PySem.W.keepIn K (.ref f4) = true)
    (a5 : PySem.W.nsIn K mainGlobals "_law_column" = some (some (.ref f5)))
    (l5 : K.lookup f5 = some ⟨oc5, od5, .func (PySem.W.fnOf "_law_column" "_law_column" (defArgs s__law_column) (defBody s__law_column) (defScope s__law_column) .none kV5 dc5 pm5 an5 cd5 ct5), sl5⟩)
    (c5 : PySem.W.codeIn K cd5 "_law_column" = true)
    (k5 : PySem.W.keepIn K (.ref f5) = true)
    (a6 : PySem.W.nsIn K mainGlobals "column_fault" = some (some (.ref f6)))
    (l6 : K.lookup f6 = some ⟨oc6, od6, .func (PySem.W.fnOf "column_fault" "column_fault" (defArgs s_column_fault) (defBody s_column_fault) (defScope s_column_fault) .none kV6 dc6 pm6 an6 cd6 ct6), sl6⟩)
    (c6 : PySem.W.codeIn K cd6 "column_fault" = true)
    (k6 : PySem.W.keepIn K (.ref f6) = true)
    (a7 : PySem.W.nsIn K mainGlobals "born" = some (some (.ref f7)))
    (l7 : K.lookup f7 = some ⟨oc7, od7, .func (PySem.W.fnOf "born" "born" (defArgs s_born) (defBody s_born) (defScope s_born) .none kV7 dc7 pm7 an7 cd7 ct7), sl7⟩)
    (c7 : PySem.W.codeIn K cd7 "born" = true)
    (k7 : PySem.W.keepIn K (.ref f7) = true)
    (a8 : PySem.W.nsIn K mainGlobals "table_fault" = some (some (.ref f8)))
    (l8 : K.lookup f8 = some ⟨oc8, od8, .func (PySem.W.fnOf "table_fault" "table_fault" (defArgs s_table_fault) (defBody s_table_fault) (defScope s_table_fault) .none kV8 dc8 pm8 an8 cd8 ct8), sl8⟩)
    (c8 : PySem.W.codeIn K cd8 "table_fault" = true)
    (k8 : PySem.W.keepIn K (.ref f8) = true)
    (a9 : PySem.W.nsIn K mainGlobals "_law_step" = some (some (.ref f9)))
    (l9 : K.lookup f9 = some ⟨oc9, od9, .func (PySem.W.fnOf "_law_step" "_law_step" (defArgs s__law_step) (defBody s__law_step) (defScope s__law_step) .none kV9 dc9 pm9 an9 cd9 ct9), sl9⟩)
    (c9 : PySem.W.codeIn K cd9 "_law_step" = true)
    (k9 : PySem.W.keepIn K (.ref f9) = true)
    (a10 : PySem.W.nsIn K mainGlobals "_law_column_fault" = some (some (.ref f10)))
    (l10 : K.lookup f10 = some ⟨oc10, od10, .func (PySem.W.fnOf "_law_column_fault" "_law_column_fault" (defArgs s__law_column_fault) (defBody s__law_column_fault) (defScope s__law_column_fault) .none kV10 dc10 pm10 an10 cd10 ct10), sl10⟩)
    (c10 : PySem.W.codeIn K cd10 "_law_column_fault" = true)
    (k10 : PySem.W.keepIn K (.ref f10) = true)
    (a11 : PySem.W.nsIn K mainGlobals "_law_step_fault" = some (some (.ref f11)))
    (l11 : K.lookup f11 = some ⟨oc11, od11, .func (PySem.W.fnOf "_law_step_fault" "_law_step_fault" (defArgs s__law_step_fault) (defBody s__law_step_fault) (defScope s__law_step_fault) .none kV11 dc11 pm11 an11 cd11 ct11), sl11⟩)
    (c11 : PySem.W.codeIn K cd11 "_law_step_fault" = true)
    (k11 : PySem.W.keepIn K (.ref f11) = true)
    (a12 : PySem.W.nsIn K mainGlobals "_law_given" = some (some (.ref f12)))
    (l12 : K.lookup f12 = some ⟨oc12, od12, .func (PySem.W.fnOf "_law_given" "_law_given" (defArgs s__law_given) (defBody s__law_given) (defScope s__law_given) .none kV12 dc12 pm12 an12 cd12 ct12), sl12⟩)
    (c12 : PySem.W.codeIn K cd12 "_law_given" = true)
    (k12 : PySem.W.keepIn K (.ref f12) = true)
    (a13 : PySem.W.nsIn K mainGlobals "_law_given_fault" = some (some (.ref f13)))
    (l13 : K.lookup f13 = some ⟨oc13, od13, .func (PySem.W.fnOf "_law_given_fault" "_law_given_fault" (defArgs s__law_given_fault) (defBody s__law_given_fault) (defScope s__law_given_fault) .none kV13 dc13 pm13 an13 cd13 ct13), sl13⟩)
    (c13 : PySem.W.codeIn K cd13 "_law_given_fault" = true)
    (k13 : PySem.W.keepIn K (.ref f13) = true)
    (a14 : PySem.W.nsIn K mainGlobals "_law_first" = some (some (.ref f14)))
    (l14 : K.lookup f14 = some ⟨oc14, od14, .func (PySem.W.fnOf "_law_first" "_law_first" (defArgs s__law_first) (defBody s__law_first) (defScope s__law_first) .none kV14 dc14 pm14 an14 cd14 ct14), sl14⟩)
    (c14 : PySem.W.codeIn K cd14 "_law_first" = true)
    (k14 : PySem.W.keepIn K (.ref f14) = true)
    (a15 : PySem.W.nsIn K mainGlobals "_law_rows" = some (some (.ref f15)))
    (l15 : K.lookup f15 = some ⟨oc15, od15, .func (PySem.W.fnOf "_law_rows" "_law_rows" (defArgs s__law_rows) (defBody s__law_rows) (defScope s__law_rows) .none kV15 dc15 pm15 an15 cd15 ct15), sl15⟩)
    (c15 : PySem.W.codeIn K cd15 "_law_rows" = true)
    (k15 : PySem.W.keepIn K (.ref f15) = true)
    (a16 : PySem.W.nsIn K mainGlobals "_law_put" = some (some (.ref f16)))
    (l16 : K.lookup f16 = some ⟨oc16, od16, .func (PySem.W.fnOf "_law_put" "_law_put" (defArgs s__law_put) (defBody s__law_put) (defScope s__law_put) .none kV16 dc16 pm16 an16 cd16 ct16), sl16⟩)
    (c16 : PySem.W.codeIn K cd16 "_law_put" = true)
    (k16 : PySem.W.keepIn K (.ref f16) = true)
    (a17 : PySem.W.nsIn K mainGlobals "_law_born" = some (some (.ref f17)))
    (l17 : K.lookup f17 = some ⟨oc17, od17, .func (PySem.W.fnOf "_law_born" "_law_born" (defArgs s__law_born) (defBody s__law_born) (defScope s__law_born) .none kV17 dc17 pm17 an17 cd17 ct17), sl17⟩)
    (c17 : PySem.W.codeIn K cd17 "_law_born" = true)
    (k17 : PySem.W.keepIn K (.ref f17) = true)
    (a18 : PySem.W.nsIn K mainGlobals "step_fault" = some (some (.ref f18)))
    (l18 : K.lookup f18 = some ⟨oc18, od18, .func (PySem.W.fnOf "step_fault" "step_fault" (defArgs s_step_fault) (defBody s_step_fault) (defScope s_step_fault) .none kV18 dc18 pm18 an18 cd18 ct18), sl18⟩)
    (c18 : PySem.W.codeIn K cd18 "step_fault" = true)
    (k18 : PySem.W.keepIn K (.ref f18) = true)
    (a19 : PySem.W.nsIn K mainGlobals "_law_is" = some (some (.ref f19)))
    (l19 : K.lookup f19 = some ⟨oc19, od19, .func (PySem.W.fnOf "_law_is" "_law_is" (defArgs s__law_is) (defBody s__law_is) (defScope s__law_is) .none kV19 dc19 pm19 an19 cd19 ct19), sl19⟩)
    (c19 : PySem.W.codeIn K cd19 "_law_is" = true)
    (k19 : PySem.W.keepIn K (.ref f19) = true)
    (a20 : PySem.W.nsIn K mainGlobals "given_fault" = some (some (.ref f20)))
    (l20 : K.lookup f20 = some ⟨oc20, od20, .func (PySem.W.fnOf "given_fault" "given_fault" (defArgs s_given_fault) (defBody s_given_fault) (defScope s_given_fault) .none kV20 dc20 pm20 an20 cd20 ct20), sl20⟩)
    (c20 : PySem.W.codeIn K cd20 "given_fault" = true)
    (k20 : PySem.W.keepIn K (.ref f20) = true)
    (a21 : PySem.W.nsIn K mainGlobals "stepped" = some (some (.ref f21)))
    (l21 : K.lookup f21 = some ⟨oc21, od21, .func (PySem.W.fnOf "stepped" "stepped" (defArgs s_stepped) (defBody s_stepped) (defScope s_stepped) .none kV21 dc21 pm21 an21 cd21 ct21), sl21⟩)
    (c21 : PySem.W.codeIn K cd21 "stepped" = true)
    (k21 : PySem.W.keepIn K (.ref f21) = true)
    (a22 : PySem.W.nsIn K mainGlobals "tag_of" = some (some (.ref f22)))
    (l22 : K.lookup f22 = some ⟨oc22, od22, .func (PySem.W.fnOf "tag_of" "tag_of" (defArgs s_tag_of) (defBody s_tag_of) (defScope s_tag_of) .none kV22 dc22 pm22 an22 cd22 ct22), sl22⟩)
    (c22 : PySem.W.codeIn K cd22 "tag_of" = true)
    (k22 : PySem.W.keepIn K (.ref f22) = true)
    (a23 : PySem.W.nsIn K mainGlobals "columns_at" = some (some (.ref f23)))
    (l23 : K.lookup f23 = some ⟨oc23, od23, .func (PySem.W.fnOf "columns_at" "columns_at" (defArgs s_columns_at) (defBody s_columns_at) (defScope s_columns_at) .none kV23 dc23 pm23 an23 cd23 ct23), sl23⟩)
    (c23 : PySem.W.codeIn K cd23 "columns_at" = true)
    (k23 : PySem.W.keepIn K (.ref f23) = true)
    (a24 : PySem.W.nsIn K mainGlobals "written" = some (some (.ref f24)))
    (l24 : K.lookup f24 = some ⟨oc24, od24, .func (PySem.W.fnOf "written" "written" (defArgs s_written) (defBody s_written) (defScope s_written) .none kV24 dc24 pm24 an24 cd24 ct24), sl24⟩)
    (c24 : PySem.W.codeIn K cd24 "written" = true)
    (k24 : PySem.W.keepIn K (.ref f24) = true)
    (a25 : PySem.W.nsIn K mainGlobals "value_at" = some (some (.ref f25)))
    (l25 : K.lookup f25 = some ⟨oc25, od25, .func (PySem.W.fnOf "value_at" "value_at" (defArgs s_value_at) (defBody s_value_at) (defScope s_value_at) .none kV25 dc25 pm25 an25 cd25 ct25), sl25⟩)
    (c25 : PySem.W.codeIn K cd25 "value_at" = true)
    (k25 : PySem.W.keepIn K (.ref f25) = true)
    (a26 : PySem.W.nsIn K mainGlobals "new_record" = some (some (.ref f26)))
    (l26 : K.lookup f26 = some ⟨oc26, od26, .func (PySem.W.fnOf "new_record" "new_record" (defArgs s_new_record) (defBody s_new_record) (defScope s_new_record) .none kV26 dc26 pm26 an26 cd26 ct26), sl26⟩)
    (c26 : PySem.W.codeIn K cd26 "new_record" = true)
    (k26 : PySem.W.keepIn K (.ref f26) = true)
    (a27 : PySem.W.nsIn K mainGlobals "set_record" = some (some (.ref f27)))
    (l27 : K.lookup f27 = some ⟨oc27, od27, .func (PySem.W.fnOf "set_record" "set_record" (defArgs s_set_record) (defBody s_set_record) (defScope s_set_record) .none kV27 dc27 pm27 an27 cd27 ct27), sl27⟩)
    (c27 : PySem.W.codeIn K cd27 "set_record" = true)
    (k27 : PySem.W.keepIn K (.ref f27) = true)
    (a28 : PySem.W.nsIn K mainGlobals "_law_behind" = some (some (.ref f28)))
    (l28 : K.lookup f28 = some ⟨oc28, od28, .func (PySem.W.fnOf "_law_behind" "_law_behind" (defArgs s__law_behind) (defBody s__law_behind) (defScope s__law_behind) .none kV28 dc28 pm28 an28 cd28 ct28), sl28⟩)
    (c28 : PySem.W.codeIn K cd28 "_law_behind" = true)
    (k28 : PySem.W.keepIn K (.ref f28) = true)
    (a29 : PySem.W.nsIn K mainGlobals "row_at" = some (some (.ref f29)))
    (l29 : K.lookup f29 = some ⟨oc29, od29, .func (PySem.W.fnOf "row_at" "row_at" (defArgs s_row_at) (defBody s_row_at) (defScope s_row_at) .none kV29 dc29 pm29 an29 cd29 ct29), sl29⟩)
    (c29 : PySem.W.codeIn K cd29 "row_at" = true)
    (k29 : PySem.W.keepIn K (.ref f29) = true)
    (a30 : PySem.W.nsIn K mainGlobals "_law_read" = some (some (.ref f30)))
    (l30 : K.lookup f30 = some ⟨oc30, od30, .func (PySem.W.fnOf "_law_read" "_law_read" (defArgs s__law_read) (defBody s__law_read) (defScope s__law_read) .none kV30 dc30 pm30 an30 cd30 ct30), sl30⟩)
    (c30 : PySem.W.codeIn K cd30 "_law_read" = true)
    (k30 : PySem.W.keepIn K (.ref f30) = true)
    (a31 : PySem.W.nsIn K mainGlobals "law" = some (some (.ref f31)))
    (l31 : K.lookup f31 = some ⟨oc31, od31, .func (PySem.W.fnOf "law" "law" (defArgs s_law) (defBody s_law) (defScope s_law) .none kV31 dc31 pm31 an31 cd31 ct31), sl31⟩)
    (c31 : PySem.W.codeIn K cd31 "law" = true)
    (k31 : PySem.W.keepIn K (.ref f31) = true)
    (z_MOST_TAG : PySem.W.nsIn K mainGlobals "MOST_TAG" = some (some (.int 200 t_MOST_TAG)))
    (b_all : PySem.W.nsIn K mainGlobals "all" = some none)
    (b_bool : PySem.W.nsIn K mainGlobals "bool" = some none)
    (b_dict : PySem.W.nsIn K mainGlobals "dict" = some none)
    (b_enumerate : PySem.W.nsIn K mainGlobals "enumerate" = some none)
    (b_int : PySem.W.nsIn K mainGlobals "int" = some none)
    (b_isinstance : PySem.W.nsIn K mainGlobals "isinstance" = some none)
    (b_len : PySem.W.nsIn K mainGlobals "len" = some none)
    (b_list : PySem.W.nsIn K mainGlobals "list" = some none)
    (b_range : PySem.W.nsIn K mainGlobals "range" = some none)
    (b_repr : PySem.W.nsIn K mainGlobals "repr" = some none)
    (b_sorted : PySem.W.nsIn K mainGlobals "sorted" = some none)
    (b_str : PySem.W.nsIn K mainGlobals "str" = some none)
    (b_tuple : PySem.W.nsIn K mainGlobals "tuple" = some none)
    : ∃ fd : FuncData, (∀ (s : Shared) (v : Value), BindsTo s fd ⟨[v], []⟩ [("script", v)]) ∧ ∀ base : Heap, K.In base → base.Ns mainGlobals mg → FnG l.prog w K mg base CX0 6 fa fd ["script"] (spLaw l.prog w K) := by
  have e := hfa.symm.trans (PySem.W.mg_of X G a31)
  cases e
  have T_Tx : Tx mg t_MOST_TAG := ⟨PySem.W.mg_none_of X G b_all, PySem.W.mg_none_of X G b_bool, PySem.W.mg_none_of X G b_dict, PySem.W.mg_none_of X G b_enumerate, PySem.W.mg_none_of X G b_int, PySem.W.mg_none_of X G b_isinstance, PySem.W.mg_none_of X G b_len, PySem.W.mg_none_of X G b_list, PySem.W.mg_none_of X G b_range, PySem.W.mg_none_of X G b_repr, PySem.W.mg_none_of X G b_sorted, PySem.W.mg_none_of X G b_str, PySem.W.mg_none_of X G b_tuple, PySem.W.mg_of X G z_MOST_TAG⟩
  have F1 := fun_mk (st := s__law_draws) l1 c1 k1
  have B1 := F1.binds (ps := ["script"]) fun _ _ _ _ _ _ us hl => match us, hl with | [_], _ => rfl
  have F2 := fun_mk (st := s__law_draw) l2 c2 k2
  have B2 := F2.binds (ps := ["draws", "limit"]) fun _ _ _ _ _ _ us hl => match us, hl with | [_, _], _ => rfl
  have F3 := fun_mk (st := s__law_value) l3 c3 k3
  have B3 := F3.binds (ps := ["draws", "kind"]) fun _ _ _ _ _ _ us hl => match us, hl with | [_, _], _ => rfl
  have F4 := fun_mk (st := s__law_pick) l4 c4 k4
  have B4 := F4.binds (ps := ["draws", "some"]) fun _ _ _ _ _ _ us hl => match us, hl with | [_, _], _ => rfl
  have F5 := fun_mk (st := s__law_column) l5 c5 k5
  have B5 := F5.binds (ps := ["draws"]) fun _ _ _ _ _ _ us hl => match us, hl with | [_], _ => rfl
  have F6 := fun_mk (st := s_column_fault) l6 c6 k6
  have B6 := F6.binds (ps := ["column", "others"]) fun _ _ _ _ _ _ us hl => match us, hl with | [_, _], _ => rfl
  have F7 := fun_mk (st := s_born) l7 c7 k7
  have B7 := F7.binds (ps := ["column", "at"]) fun _ _ _ _ _ _ us hl => match us, hl with | [_, _], _ => rfl
  have F8 := fun_mk (st := s_table_fault) l8 c8 k8
  have B8 := F8.binds (ps := ["columns"]) fun _ _ _ _ _ _ us hl => match us, hl with | [_], _ => rfl
  have F9 := fun_mk (st := s__law_step) l9 c9 k9
  have B9 := F9.binds (ps := ["draws", "lives"]) fun _ _ _ _ _ _ us hl => match us, hl with | [_, _], _ => rfl
  have F10 := fun_mk (st := s__law_column_fault) l10 c10 k10
  have B10 := F10.binds (ps := ["column", "lives"]) fun _ _ _ _ _ _ us hl => match us, hl with | [_, _], _ => rfl
  have F11 := fun_mk (st := s__law_step_fault) l11 c11 k11
  have B11 := F11.binds (ps := ["lives", "step"]) fun _ _ _ _ _ _ us hl => match us, hl with | [_, _], _ => rfl
  have F12 := fun_mk (st := s__law_given) l12 c12 k12
  have B12 := F12.binds (ps := ["draws", "lives"]) fun _ _ _ _ _ _ us hl => match us, hl with | [_, _], _ => rfl
  have F13 := fun_mk (st := s__law_given_fault) l13 c13 k13
  have B13 := F13.binds (ps := ["lives", "given"]) fun _ _ _ _ _ _ us hl => match us, hl with | [_, _], _ => rfl
  have F14 := fun_mk (st := s__law_first) l14 c14 k14
  have B14 := F14.binds (ps := ["row"]) fun _ _ _ _ _ _ us hl => match us, hl with | [_], _ => rfl
  have F15 := fun_mk (st := s__law_rows) l15 c15 k15
  have B15 := F15.binds (ps := ["lives"]) fun _ _ _ _ _ _ us hl => match us, hl with | [_], _ => rfl
  have F16 := fun_mk (st := s__law_put) l16 c16 k16
  have B16 := F16.binds (ps := ["lives", "book", "given", "is_new"]) fun _ _ _ _ _ _ us hl => match us, hl with | [_, _, _, _], _ => rfl
  have F17 := fun_mk (st := s__law_born) l17 c17 k17
  have B17 := F17.binds (ps := ["column", "shape"]) fun _ _ _ _ _ _ us hl => match us, hl with | [_, _], _ => rfl
  have F18 := fun_mk (st := s_step_fault) l18 c18 k18
  have B18 := F18.binds (ps := ["columns", "step"]) fun _ _ _ _ _ _ us hl => match us, hl with | [_, _], _ => rfl
  have F19 := fun_mk (st := s__law_is) l19 c19 k19
  have B19 := F19.binds (ps := ["told", "due"]) fun _ _ _ _ _ _ us hl => match us, hl with | [_, _], _ => rfl
  have F20 := fun_mk (st := s_given_fault) l20 c20 k20
  have B20 := F20.binds (ps := ["columns", "given"]) fun _ _ _ _ _ _ us hl => match us, hl with | [_, _], _ => rfl
  have F21 := fun_mk (st := s_stepped) l21 c21 k21
  have B21 := F21.binds (ps := ["columns", "step", "at"]) fun _ _ _ _ _ _ us hl => match us, hl with | [_, _, _], _ => rfl
  have F22 := fun_mk (st := s_tag_of) l22 c22 k22
  have B22 := F22.binds (ps := ["column"]) fun _ _ _ _ _ _ us hl => match us, hl with | [_], _ => rfl
  have F23 := fun_mk (st := s_columns_at) l23 c23 k23
  have B23 := F23.binds (ps := ["table", "shape"]) fun _ _ _ _ _ _ us hl => match us, hl with | [_, _], _ => rfl
  have F24 := fun_mk (st := s_written) l24 c24 k24
  have B24 := F24.binds (ps := ["columns", "given"]) fun _ _ _ _ _ _ us hl => match us, hl with | [_, _], _ => rfl
  have F25 := fun_mk (st := s_value_at) l25 c25 k25
  have B25 := F25.binds (ps := ["known", "column"]) fun _ _ _ _ _ _ us hl => match us, hl with | [_, _], _ => rfl
  have F26 := fun_mk (st := s_new_record) l26 c26 k26
  have B26 := F26.binds (ps := ["table", "shape", "given"]) fun _ _ _ _ _ _ us hl => match us, hl with | [_, _, _], _ => rfl
  have F27 := fun_mk (st := s_set_record) l27 c27 k27
  have B27 := F27.binds (ps := ["table", "shape", "record", "given"]) fun _ _ _ _ _ _ us hl => match us, hl with | [_, _, _, _], _ => rfl
  have F28 := fun_mk (st := s__law_behind) l28 c28 k28
  have B28 := F28.binds (ps := ["lives", "step", "shape"]) fun _ _ _ _ _ _ us hl => match us, hl with | [_, _, _], _ => rfl
  have F29 := fun_mk (st := s_row_at) l29 c29 k29
  have B29 := F29.binds (ps := ["table", "shape", "record"]) fun _ _ _ _ _ _ us hl => match us, hl with | [_, _, _], _ => rfl
  have F30 := fun_mk (st := s__law_read) l30 c30 k30
  have B30 := F30.binds (ps := ["lives", "book"]) fun _ _ _ _ _ _ us hl => match us, hl with | [_, _], _ => rfl
  have F31 := fun_mk (st := s_law) l31 c31 k31
  refine ⟨PySem.W.fnOf "law" "law" (defArgs s_law) (defBody s_law) (defScope s_law) .none kV31 dc31 pm31 an31 cd31 ct31, fun s v => .of_eq rfl, fun base _ _ => ?_⟩
  have L__law_draws : FnC l.prog w K mg base "_law_draws" 1 ["script"] (spD ⟨K, l.prog, w⟩ 1 fn__law_draws) := ⟨⟨_, _, ok__law_draws (P := l.prog) (w := w) (base := base) F1 T_Tx, PySem.W.mg_of X G a1, k1, B1⟩⟩
  have L__law_draw : FnC l.prog w K mg base "_law_draw" 1 ["draws", "limit"] (spD ⟨K, l.prog, w⟩ 2 fn__law_draw) := ⟨⟨_, _, ok__law_draw (P := l.prog) (w := w) (base := base) F2 T_Tx, PySem.W.mg_of X G a2, k2, B2⟩⟩
  have L__law_value : FnC l.prog w K mg base "_law_value" 2 ["draws", "kind"] (spD ⟨K, l.prog, w⟩ 2 fn__law_value) := ⟨⟨_, _, ok__law_value (P := l.prog) (w := w) (base := base) F3 T_Tx L__law_draw, PySem.W.mg_of X G a3, k3, B3⟩⟩
  have L__law_pick : FnC l.prog w K mg base "_law_pick" 2 ["draws", "some"] (spD ⟨K, l.prog, w⟩ 2 fn__law_pick) := ⟨⟨_, _, ok__law_pick (P := l.prog) (w := w) (base := base) F4 T_Tx L__law_draw, PySem.W.mg_of X G a4, k4, B4⟩⟩
  have L__law_column : FnC l.prog w K mg base "_law_column" 3 ["draws"] (spD ⟨K, l.prog, w⟩ 1 fn__law_column) := ⟨⟨_, _, ok__law_column (P := l.prog) (w := w) (base := base) F5 T_Tx L__law_value L__law_draw L__law_pick, PySem.W.mg_of X G a5, k5, B5⟩⟩
  have L_column_fault : FnC l.prog w K mg base "column_fault" 1 ["column", "others"] (spD ⟨K, l.prog, w⟩ 2 fn_column_fault) := ⟨⟨_, _, ok_column_fault (P := l.prog) (w := w) (base := base) F6 T_Tx, PySem.W.mg_of X G a6, k6, B6⟩⟩
  have L_born : FnC l.prog w K mg base "born" 1 ["column", "at"] (spD ⟨K, l.prog, w⟩ 2 fn_born) := ⟨⟨_, _, ok_born (P := l.prog) (w := w) (base := base) F7 T_Tx, PySem.W.mg_of X G a7, k7, B7⟩⟩
  have L_table_fault : FnC l.prog w K mg base "table_fault" 2 ["columns"] (spD ⟨K, l.prog, w⟩ 1 fn_table_fault) := ⟨⟨_, _, ok_table_fault (P := l.prog) (w := w) (base := base) F8 T_Tx L_column_fault L_born, PySem.W.mg_of X G a8, k8, B8⟩⟩
  have L__law_step : FnC l.prog w K mg base "_law_step" 4 ["draws", "lives"] (spD ⟨K, l.prog, w⟩ 2 fn__law_step) := ⟨⟨_, _, ok__law_step (P := l.prog) (w := w) (base := base) F9 T_Tx L__law_draw L__law_pick L__law_column, PySem.W.mg_of X G a9, k9, B9⟩⟩
  have L__law_column_fault : FnC l.prog w K mg base "_law_column_fault" 1 ["column", "lives"] (spD ⟨K, l.prog, w⟩ 2 fn__law_column_fault) := ⟨⟨_, _, ok__law_column_fault (P := l.prog) (w := w) (base := base) F10 T_Tx, PySem.W.mg_of X G a10, k10, B10⟩⟩
  have L__law_step_fault : FnC l.prog w K mg base "_law_step_fault" 2 ["lives", "step"] (spD ⟨K, l.prog, w⟩ 2 fn__law_step_fault) := ⟨⟨_, _, ok__law_step_fault (P := l.prog) (w := w) (base := base) F11 T_Tx L__law_column_fault, PySem.W.mg_of X G a11, k11, B11⟩⟩
  have L__law_given : FnC l.prog w K mg base "_law_given" 3 ["draws", "lives"] (spD ⟨K, l.prog, w⟩ 2 fn__law_given) := ⟨⟨_, _, ok__law_given (P := l.prog) (w := w) (base := base) F12 T_Tx L__law_draw L__law_pick L__law_value, PySem.W.mg_of X G a12, k12, B12⟩⟩
  have L__law_given_fault : FnC l.prog w K mg base "_law_given_fault" 1 ["lives", "given"] (spD ⟨K, l.prog, w⟩ 2 fn__law_given_fault) := ⟨⟨_, _, ok__law_given_fault (P := l.prog) (w := w) (base := base) F13 T_Tx, PySem.W.mg_of X G a13, k13, B13⟩⟩
  have L__law_first : FnC l.prog w K mg base "_law_first" 1 ["row"] (spKey K 0) := ⟨⟨_, _, ok__law_first (P := l.prog) (w := w) (base := base) F14 , PySem.W.mg_of X G a14, k14, B14⟩⟩
  have L__law_rows : FnC l.prog w K mg base "_law_rows" 4 ["lives"] (spD ⟨K, l.prog, w⟩ 1 fn__law_rows) := ⟨⟨_, _, ok__law_rows (P := l.prog) (w := w) (base := base) F15 T_Tx L__law_first, PySem.W.mg_of X G a15, k15, B15⟩⟩
  have L__law_put : FnC l.prog w K mg base "_law_put" 5 ["lives", "book", "given", "is_new"] (spD ⟨K, l.prog, w⟩ 4 fn__law_put) := ⟨⟨_, _, ok__law_put (P := l.prog) (w := w) (base := base) F16 T_Tx L__law_rows, PySem.W.mg_of X G a16, k16, B16⟩⟩
  have L__law_born : FnC l.prog w K mg base "_law_born" 1 ["column", "shape"] (spD ⟨K, l.prog, w⟩ 2 fn__law_born) := ⟨⟨_, _, ok__law_born (P := l.prog) (w := w) (base := base) F17 T_Tx, PySem.W.mg_of X G a17, k17, B17⟩⟩
  have L_step_fault : FnC l.prog w K mg base "step_fault" 2 ["columns", "step"] (spD ⟨K, l.prog, w⟩ 2 fn_step_fault) := ⟨⟨_, _, ok_step_fault (P := l.prog) (w := w) (base := base) F18 T_Tx L_column_fault, PySem.W.mg_of X G a18, k18, B18⟩⟩
  have L__law_is : FnC l.prog w K mg base "_law_is" 4 ["told", "due"] (spD ⟨K, l.prog, w⟩ 2 fn__law_is) := ⟨⟨_, _, ok__law_is (P := l.prog) (w := w) (base := base) F19 T_Tx (PySem.W.mg_of X G a19) k19 B19, PySem.W.mg_of X G a19, k19, B19⟩⟩
  have L_given_fault : FnC l.prog w K mg base "given_fault" 1 ["columns", "given"] (spD ⟨K, l.prog, w⟩ 2 fn_given_fault) := ⟨⟨_, _, ok_given_fault (P := l.prog) (w := w) (base := base) F20 T_Tx, PySem.W.mg_of X G a20, k20, B20⟩⟩
  have L_stepped : FnC l.prog w K mg base "stepped" 2 ["columns", "step", "at"] (spD ⟨K, l.prog, w⟩ 3 fn_stepped) := ⟨⟨_, _, ok_stepped (P := l.prog) (w := w) (base := base) F21 T_Tx L_born, PySem.W.mg_of X G a21, k21, B21⟩⟩
  have L_tag_of : FnC l.prog w K mg base "tag_of" 1 ["column"] (spKey K 1) := ⟨⟨_, _, ok_tag_of (P := l.prog) (w := w) (base := base) F22 , PySem.W.mg_of X G a22, k22, B22⟩⟩
  have L_columns_at : FnC l.prog w K mg base "columns_at" 4 ["table", "shape"] (spD ⟨K, l.prog, w⟩ 2 fn_columns_at) := ⟨⟨_, _, ok_columns_at (P := l.prog) (w := w) (base := base) F23 T_Tx L_born L_stepped L_tag_of, PySem.W.mg_of X G a23, k23, B23⟩⟩
  have L_written : FnC l.prog w K mg base "written" 1 ["columns", "given"] (spD ⟨K, l.prog, w⟩ 2 fn_written) := ⟨⟨_, _, ok_written (P := l.prog) (w := w) (base := base) F24 T_Tx, PySem.W.mg_of X G a24, k24, B24⟩⟩
  have L_value_at : FnC l.prog w K mg base "value_at" 1 ["known", "column"] (spD ⟨K, l.prog, w⟩ 2 fn_value_at) := ⟨⟨_, _, ok_value_at (P := l.prog) (w := w) (base := base) F25 T_Tx, PySem.W.mg_of X G a25, k25, B25⟩⟩
  have L_new_record : FnC l.prog w K mg base "new_record" 5 ["table", "shape", "given"] (spD ⟨K, l.prog, w⟩ 3 fn_new_record) := ⟨⟨_, _, ok_new_record (P := l.prog) (w := w) (base := base) F26 T_Tx L_columns_at L_written L_value_at, PySem.W.mg_of X G a26, k26, B26⟩⟩
  have L_set_record : FnC l.prog w K mg base "set_record" 5 ["table", "shape", "record", "given"] (spD ⟨K, l.prog, w⟩ 4 fn_set_record) := ⟨⟨_, _, ok_set_record (P := l.prog) (w := w) (base := base) F27 T_Tx L_written L_columns_at, PySem.W.mg_of X G a27, k27, B27⟩⟩
  have L__law_behind : FnC l.prog w K mg base "_law_behind" 2 ["lives", "step", "shape"] (spD ⟨K, l.prog, w⟩ 3 fn__law_behind) := ⟨⟨_, _, ok__law_behind (P := l.prog) (w := w) (base := base) F28 T_Tx L__law_born, PySem.W.mg_of X G a28, k28, B28⟩⟩
  have L_row_at : FnC l.prog w K mg base "row_at" 5 ["table", "shape", "record"] (spD ⟨K, l.prog, w⟩ 3 fn_row_at) := ⟨⟨_, _, ok_row_at (P := l.prog) (w := w) (base := base) F29 T_Tx L_value_at L_columns_at, PySem.W.mg_of X G a29, k29, B29⟩⟩
  have L__law_read : FnC l.prog w K mg base "_law_read" 5 ["lives", "book"] (spD ⟨K, l.prog, w⟩ 2 fn__law_read) := ⟨⟨_, _, ok__law_read (P := l.prog) (w := w) (base := base) F30 T_Tx L__law_rows, PySem.W.mg_of X G a30, k30, B30⟩⟩
  exact ok_law F31 T_Tx L__law_draws L__law_column L_table_fault L__law_draw L__law_step L__law_step_fault L__law_given L__law_given_fault L__law_put L__law_column_fault L__law_born L_step_fault L__law_is L_given_fault L_new_record L_set_record L_columns_at L__law_behind L__law_rows L_row_at L__law_read
theorem walk {l : PySem.W.OpenLaw} {q : Program} {loose : List Str} {XP : (Str → Option Value) → Heap → Prop} {YP : World → Heap → Prop} {d : DefRec} {K : Params → PySem.W.Frag} (hn : l.most = some 63) (hdf : d.params.defaults = [])
    (hY : ∀ (w : World) (h : Heap), YP w h → (K w.params).In h)
    (F : ∀ (w : World) (mg : Str → Option Value) (fa : Addr) (h : Heap), (K w.params).In h → h.Ns mainGlobals mg → mg d.name = some (.ref fa) →
      ∃ fd : FuncData, (∀ (s : Shared) (u : Value), BindsTo s fd ⟨[u], []⟩ [("script", u)]) ∧ ∀ base : Heap, (K w.params).In base → base.Ns mainGlobals mg → FnG l.prog w (K w.params) mg base CX0 6 fa fd ["script"] (spLaw l.prog w (K w.params))) :
    PySem.W.WalkO q loose XP YP l.row.toRowW d [] (fun f vs => PySem.call f vs) :=
  Y.walkG_of (n := 63) (k := 6) (x := "script") (CX := fun _ => CX0) (sp := fun w => spLaw l.prog w (K w.params)) hn (by decide) hdf ⟨rfl, by decide, by decide⟩ hY F (fun _ _ a ns hl _ hS => law_in hl hS) fun _ _ _ _ _ z => z
end K02
open PySem PySem.W PyProof.Rows
set_option maxRecDepth 100000 in
set_option maxHeartbeats 0 in
theorem PySem.Challenge.cw_stonestairs_k02_shapes_of_tables_holds : PySem.Challenge.rw_stonestairs_k02_shapes_of_tables.Holds := by
  w_on; o_law; k_headL; (case hw => w_witness2)
  k_fill
  refine K02.walk (l := PySem.Challenge.rw_stonestairs_k02_shapes_of_tables) rfl rfl (fun w h Y => PySem.W.kIn_of Y) ?F
  case F =>
    intro w mg fa h KX G hmg
    refine' K02.all_mk KX G hmg ?a1 ?l1 ?c1 ?k1 ?a2 ?l2 ?c2 ?k2 ?a3 ?l3 ?c3 ?k3 ?a4 ?l4 ?c4 ?k4 ?a5 ?l5 ?c5 ?k5 ?a6 ?l6 ?c6 ?k6 ?a7 ?l7 ?c7 ?k7 ?a8 ?l8 ?c8 ?k8 ?a9 ?l9 ?c9 ?k9 ?a10 ?l10 ?c10 ?k10 ?a11 ?l11 ?c11 ?k11 ?a12 ?l12 ?c12 ?k12 ?a13 ?l13 ?c13 ?k13 ?a14 ?l14 ?c14 ?k14 ?a15 ?l15 ?c15 ?k15 ?a16 ?l16 ?c16 ?k16 ?a17 ?l17 ?c17 ?k17 ?a18 ?l18 ?c18 ?k18 ?a19 ?l19 ?c19 ?k19 ?a20 ?l20 ?c20 ?k20 ?a21 ?l21 ?c21 ?k21 ?a22 ?l22 ?c22 ?k22 ?a23 ?l23 ?c23 ?k23 ?a24 ?l24 ?c24 ?k24 ?a25 ?l25 ?c25 ?k25 ?a26 ?l26 ?c26 ?k26 ?a27 ?l27 ?c27 ?k27 ?a28 ?l28 ?c28 ?k28 ?a29 ?l29 ?c29 ?k29 ?a30 ?l30 ?c30 ?k30 ?a31 ?l31 ?c31 ?k31 ?z_MOST_TAG ?b_all ?b_bool ?b_dict ?b_enumerate ?b_int ?b_isinstance ?b_len ?b_list ?b_range ?b_repr ?b_sorted ?b_str ?b_tuple
    (case a1 => k_is)
    (case l1 => k_is)
    (case c1 => k_is)
    (case k1 => k_is)
    (case a2 => k_is)
    (case l2 => k_is)
    (case c2 => k_is)
    (case k2 => k_is)
    (case a3 => k_is)
    (case l3 => k_is)
    (case c3 => k_is)
    (case k3 => k_is)
    (case a4 => k_is)
    (case l4 => k_is)
    (case c4 => k_is)
    (case k4 => k_is)
    (case a5 => k_is)
    (case l5 => k_is)
    (case c5 => k_is)
    (case k5 => k_is)
    (case a6 => k_is)
    (case l6 => k_is)
    (case c6 => k_is)
    (case k6 => k_is)
    (case a7 => k_is)
    (case l7 => k_is)
    (case c7 => k_is)
    (case k7 => k_is)
    (case a8 => k_is)
    (case l8 => k_is)
    (case c8 => k_is)
    (case k8 => k_is)
    (case a9 => k_is)
    (case l9 => k_is)
    (case c9 => k_is)
    (case k9 => k_is)
    (case a10 => k_is)
    (case l10 => k_is)
    (case c10 => k_is)
    (case k10 => k_is)
    (case a11 => k_is)
    (case l11 => k_is)
    (case c11 => k_is)
    (case k11 => k_is)
    (case a12 => k_is)
    (case l12 => k_is)
    (case c12 => k_is)
    (case k12 => k_is)
    (case a13 => k_is)
    (case l13 => k_is)
    (case c13 => k_is)
    (case k13 => k_is)
    (case a14 => k_is)
    (case l14 => k_is)
    (case c14 => k_is)
    (case k14 => k_is)
    (case a15 => k_is)
    (case l15 => k_is)
    (case c15 => k_is)
    (case k15 => k_is)
    (case a16 => k_is)
    (case l16 => k_is)
    (case c16 => k_is)
    (case k16 => k_is)
    (case a17 => k_is)
    (case l17 => k_is)
    (case c17 => k_is)
    (case k17 => k_is)
    (case a18 => k_is)
    (case l18 => k_is)
    (case c18 => k_is)
    (case k18 => k_is)
    (case a19 => k_is)
    (case l19 => k_is)
    (case c19 => k_is)
    (case k19 => k_is)
    (case a20 => k_is)
    (case l20 => k_is)
    (case c20 => k_is)
    (case k20 => k_is)
    (case a21 => k_is)
    (case l21 => k_is)
    (case c21 => k_is)
    (case k21 => k_is)
    (case a22 => k_is)
    (case l22 => k_is)
    (case c22 => k_is)
    (case k22 => k_is)
    (case a23 => k_is)
    (case l23 => k_is)
    (case c23 => k_is)
    (case k23 => k_is)
    (case a24 => k_is)
    (case l24 => k_is)
    (case c24 => k_is)
    (case k24 => k_is)
    (case a25 => k_is)
    (case l25 => k_is)
    (case c25 => k_is)
    (case k25 => k_is)
    (case a26 => k_is)
    (case l26 => k_is)
    (case c26 => k_is)
    (case k26 => k_is)
    (case a27 => k_is)
    (case l27 => k_is)
    (case c27 => k_is)
    (case k27 => k_is)
    (case a28 => k_is)
    (case l28 => k_is)
    (case c28 => k_is)
    (case k28 => k_is)
    (case a29 => k_is)
    (case l29 => k_is)
    (case c29 => k_is)
    (case k29 => k_is)
    (case a30 => k_is)
    (case l30 => k_is)
    (case c30 => k_is)
    (case k30 => k_is)
    (case a31 => k_is)
    (case l31 => k_is)
    (case c31 => k_is)
    (case k31 => k_is)
    (case z_MOST_TAG => k_is)
    (case b_all => k_is)
    (case b_bool => k_is)
    (case b_dict => k_is)
    (case b_enumerate => k_is)
    (case b_int => k_is)
    (case b_isinstance => k_is)
    (case b_len => k_is)
    (case b_list => k_is)
    (case b_range => k_is)
    (case b_repr => k_is)
    (case b_sorted => k_is)
    (case b_str => k_is)
    (case b_tuple => k_is)
#print axioms PySem.Challenge.cw_stonestairs_k02_shapes_of_tables_holds

