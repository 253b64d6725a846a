import PyProof.Rows.All
import Wide.All
import OpenK.AllK
import Wide.FinOn
import Lean
import PySem.Challenge.RW_xm0047_01
set_option Elab.async false
set_option linter.all false
set_option maxRecDepth 100000
set_option maxHeartbeats 8000000
section
open PySem PySem.W PyProof.Rows
namespace Mine
open_top hd for PySem.Challenge.rw_xm0047_01
end Mine
end
section
open PySem PySem.W PyProof.Rows PySem.Calls PySem.Spec
set_option maxRecDepth 100000
set_option maxHeartbeats 8000000
namespace Mine
open PyProof.Rows.LCg PyProof.Rows.LCt

abbrev S (l : List Nat) : Str := ⟨l.toArray⟩

section
variable {prog : Program} {w : World} {A : Around} {E : Value → Shared → Prop} {s : Shared} {h₀ : Heap} {L : Addr} {m : Str → Option Value} {env : Env}

/-- a state that differs by heap and tokens alone, where the frame and the ledger stand -/
def Stay (h₀ : Heap) (L : Addr) (m : Str → Option Value) (s₁ : Shared) (news : List (Addr × Obj)) (s₂ : Shared) : Prop :=
  ∃ h' tk, s₂ = { s₁ with heap := h', toks := tk } ∧ Fr h₀ L h' m ∧ News h₀ L h' news

/-- one turn of a test -/
def FTurn (prog : Program) (w : World) (A : Around) (h₀ : Heap) (L : Addr) (m : Str → Option Value) (env : Env) (ct : Expr) (x : Str) (scope : Scope) (cl : List (Str × Addr)) (s : Shared) (news : List (Addr × Obj)) (xs : List Str) (p : Str → Bool) : Prop :=
  ∀ (y : Str) (ty : Tok) I oI C oC D oD m₂ h tk (E' : Value → Shared → Prop), y ∈ xs → NsObj oC m₂ → m₂ x = some (.str y ty) → Fr h₀ L h m → News h₀ L h ((I, oI) :: (C, oC) :: (D, oD) :: news) → ((@Ne Nat I C) ∧ (@Ne Nat I D) ∧ (@Ne Nat C D)) →
    wpAny (model prog w) A (isTrue ct (compEnvC scope cl C env) (eval ct (compEnvC scope cl C env))) (fun ok s' => ok = p y ∧ Stay h₀ L m { s with heap := h, toks := tk } ((I, oI) :: (C, oC) :: (D, oD) :: news) s') E' { s with heap := h, toks := tk }

theorem rest_filter {ct : Expr} {x : Str} {px : Pos} {scope : Scope} {cl : List (Str × Addr)} {S : List (Addr × Obj) → Prop} {P : Nat → Value → Prop} {Fin : List Value → List (Addr × Obj) → Prop} {news : List (Addr × Obj)} {xs : List Str} {p : Str → Bool}
    (hP : ∀ i v, P i v → ∃ y t, xs[i]? = some y ∧ v = .str y t) (hS : S news)
    (hk : ∀ C, (compEnvC scope cl C env).scope.kind = .function) (hl : ∀ C, (compEnvC scope cl C env).kindOf x = some .local) (hd : (x == ("__debug__" : Str)) = false)
    (turn : FTurn prog w A h₀ L m env ct x scope cl s news xs p)
    (fin : ∀ ys, StrsAre ys (xs.filter p) → Fin ys news) :
    ∀ k i ys, k + i = xs.length → StrsAre ys ((xs.take i).filter p) → CompRestT prog w A h₀ L m env ct (.Name x px) x scope cl s S P Fin k i ys news := by
  intro k
  induction k with
  | zero =>
    intro i ys hki hys
    have : xs.take i = xs := List.take_of_length_le (by omega)
    rw [this] at hys
    exact fin ys hys
  | succ k ih =>
    intro i ys hki hys
    refine CompRestT.succ fun v I oI C oC D m₂ h tk E' hPv hC hx F N off ne => ?_
    obtain ⟨y, t, hy, rfl⟩ := hP i v hPv
    have hmem : y ∈ xs := List.mem_of_getElem? hy
    have htake : xs.take (i + 1) = xs.take i ++ [y] := by rw [List.take_add_one, hy]; rfl
    refine wpAny_mono (turn y t I oI C oC D (lst ys) m₂ h tk E' hmem hC hx F N ne) (fun ok s' hs' => ?_) fun _ _ e => e
    obtain ⟨rfl, h', tk', rfl, F', N'⟩ := hs'
    cases hp : p y with
    | true =>
      simp only [if_true]
      refine PySem.W.LCgL.ld_own (m₂ := m₂) (v := .str y t) (news := ((I, oI) :: (C, oC) :: (D, lst ys) :: news)) N' (by simp) hC hx ?_ (hk C) (hl C) hd
      refine ⟨h', tk', news, rfl, F', N', off, hS, ih (i + 1) _ (by omega) ?_⟩
      rw [htake, List.filter_append]
      have : List.filter p [y] = [y] := by simp [hp]
      rw [this]
      exact StrsAre.append' hys (.cons y t .nil)
    | false =>
      simp only [Bool.false_eq_true, if_false]
      refine ⟨h', tk', news, rfl, F', N', off, hS, ih (i + 1) _ (by omega) ?_⟩
      rw [htake, List.filter_append]
      have : List.filter p [y] = [] := by simp [hp]
      rw [this, List.append_nil]
      exact hys

/-- where a comprehension's items come from: a text, or a list of texts of the ledger -/
def FSrc (prog : Program) (w : World) (A : Around) (h₀ : Heap) (L : Addr) (m : Str → Option Value) (env : Env) (ct : Expr) (x : Str) (scope : Scope) (cl : List (Str × Addr)) (Q : Value → Shared → Prop) (xv : Value) (s₁ : Shared) : Prop :=
  ∃ (xs : List Str) (p : Str → Bool) (news : List (Addr × Obj)), A.handled = none ∧ Fr h₀ L s₁.heap m ∧ News h₀ L s₁.heap news ∧ xs.length ≤ sizeLine ∧
    ((∃ l t, xv = .str (S l) t ∧ xs = l.map (fun c => S [c])) ∨ (∃ ax its k, xv = .ref ax ∧ (ax, ({ cls := .type "list", data := .seq its k } : Obj)) ∈ news ∧ StrsAre its.toList xs)) ∧
    (∀ s₂ : Shared, (∃ h, s₂ = { s₁ with heap := h }) → FTurn prog w A h₀ L m env ct x scope cl s₂ news xs p) ∧
    ∀ D h tk ys, StrsAre ys (xs.filter p) → Fr h₀ L h m → News h₀ L h ((D, lst ys) :: news) → Off1 D news → Q (.ref D) { s₁ with heap := h, toks := tk }

theorem ListComp_F {ct iter : Expr} {x : Str} {px px' : Pos} {scope : Scope} {cl : List (Str × Addr)} {pos : Pos} {Q : Value → Shared → Prop} (F₀ : Fr h₀ L s.heap m)
    (hclos : closureFor scope env = pure cl) (hcell : ∀ y ∈ scope.names, y.2 ≠ .cell) (hkind : scope.kind = .function)
    (hnames : ∀ y ∈ scope.names, y.2 = .local → scope.names.lookup y.1 = some .local) (hx : scope.names.lookup x = some .local)
    (hd : (x == ("__debug__" : Str)) = false)
    (h : wpAny (model prog w) A (eval iter env) (FSrc prog w A h₀ L m env ct x scope cl Q) E s)
    (hs : ∀ x, foldedSetIterable iter env x = pure x := by intro _; rfl) :
    wpAny (model prog w) A (eval (.ListComp (.Name x px') [⟨.Name x px, iter, [ct], 0⟩] scope pos) env) Q E s := by
  rw [eval_ListComp]
  refine wpAny_comprehension_free (use := none) rfl hs hclos hkind hnames (wpAny_mono h (fun xv s₁ h₁ => ?_) fun _ _ e => e)
  have hk2 : ∀ C, (compEnvC scope cl C env).scope.kind = .function := fun C => by simp [compEnvC, relabel, hkind]
  have hl2 : ∀ C, (compEnvC scope cl C env).kindOf x = some .local := fun C => lookup_relabel_local hx
  obtain ⟨xs, p, news, hh, F, N, hsz, hsrc, turn, fin⟩ := h₁
  rcases hsrc with ⟨l, t, rfl, hxs⟩ | ⟨ax, its, k, rfl, hm, hI⟩
  · have hlen : (S l).cps.size = xs.length := by rw [hxs]; simp
    have go : ∀ (o : Obj) (cls : String), Walks prog w A s₁.heap.objs.size [s₁.heap.objs.size] [s₁.heap.objs.size] (S l).cps.size (SignAt (S l)) (fun i h => h.IsStrIter s₁.heap.objs.size cls (S l) t i) →
        (s₁.heap.push o).IsStrIter s₁.heap.objs.size cls (S l) t 0 →
        wpAny (model prog w) A (newList []) (fun acc s₃ => wpAny (model prog w) A (newFunctionEnv scope env.globals cl [] env.qual none .none (some env)) (fun cenv s₄ =>
          codeAny (model prog w) A (.compStart (.ListComp (.Name x px') [⟨.Name x px, iter, [ct], 0⟩] scope pos) 0 (.ref s₁.heap.objs.size) acc { cenv with scope := relabel scope env }) (compPost (model prog w) A E none Q acc cenv.locals) s₄) E s₃) E { s₁ with heap := s₁.heap.push o } := by
      intro o cls W hst
      have up : ∀ b o', s₁.heap.get? b = some o' → (s₁.heap.push o).get? b = some o' := fun b o' e => Heap.get?_push_of_some _ e
      refine block_T (S := fun _ => True) (Fin := fun ys news' => StrsAre ys (xs.filter p) ∧ news' = news) W (by rw [hlen]; exact hsz) (fun i h st => by obtain ⟨o, e, _⟩ := st; exact ⟨o, e⟩) (fun i h h' o' nw st e1 e2 _ _ _ => ?_) hcell hkind hx hst (fun b hb => ?_)
        (F.keeps up) (N.grown up) (Nat.ne_of_lt F.ns.lt) (next_is_new F) (fun p hp => Nat.ne_of_lt (Heap.lt_size (N p hp).1)) trivial ?_ ?_
      · obtain ⟨o2, ho2, r⟩ := st
        rw [e1] at ho2; cases ho2
        exact ⟨_, e2, r⟩
      · show b < (s₁.heap.push _).objs.size
        rw [Heap.size_push, List.mem_singleton.mp hb]
        exact Nat.lt_succ_self _
      · rw [hlen]
        refine rest_filter (p := p) (xs := xs) (fun i v e => ?_) trivial hk2 hl2 hd (turn _ ⟨_, rfl⟩) (fun ys hys => ⟨hys, rfl⟩) _ _ _ (by simp) (by simpa using StrsAre.nil)
        obtain ⟨c, u, hc, rfl⟩ := e
        have hc' : l[i]? = some c := by simpa using hc
        exact ⟨S [c], u, by rw [hxs]; simp [hc'], rfl⟩
      · rintro D C h tk m' ys news' F' N' o1 hn hC₀ hD₀ hCL hDL hCD offC ⟨hys, rfl⟩
        refine ⟨m', hn, fun h'' hs'' => fin D h'' tk ys hys (F'.change hs'' hCL hC₀) (fun p hp => ?_) o1⟩
        refine ⟨hs''.extBut _ _ ?_ (N' p hp).1, (N' p hp).2⟩
        rcases List.mem_cons.mp hp with rfl | hp
        · exact Ne.symm hCD
        · exact offC p hp
    cases ha : (S l).cps.all (· < 128)
    · exact wpAny_pyIter_wide ha (go _ "str_iterator" (Walks.strWide hh _ _ t) ⟨_, Heap.get?_push_size _ rfl, rfl, rfl⟩)
    · exact wpAny_pyIter_ascii ha (go _ "str_ascii_iterator" (Walks.strAscii hh _ _ t) ⟨_, Heap.get?_push_size _ rfl, rfl, rfl⟩)
  · have S' : SrcAt h₀ ax its news := .inr ⟨_, hm, rfl, _, rfl⟩
    have hl := S'.list F.keep N
    have hlt : ax < s₁.heap.objs.size := by obtain ⟨_, e, _⟩ := hl; exact Heap.lt_size e
    have hlen : its.size = xs.length := by have := StrsAre.length hI; simpa using this
    refine wpAny_pyIter_list hl ?_
    have up : ∀ b o, s₁.heap.get? b = some o → (s₁.heap.push { cls := .type "list_iterator", data := .fields #[.ref ax, .int 0 0] }).get? b = some o := fun b o e => Heap.get?_push_of_some _ e
    refine block_T (Fin := fun ys news' => StrsAre ys (xs.filter p) ∧ news' = news) (Walks.list hh s₁.heap.objs.size ax (Nat.ne_of_lt hlt) its) (by rw [hlen]; exact hsz) (fun i h st => by obtain ⟨o, e, _⟩ := st.1; exact ⟨o, e⟩) list_st hcell hkind hx ⟨⟨_, Heap.get?_push_size _ rfl, rfl, rfl⟩, hl.push _⟩ (fun b hb => ?_)
      (F.keeps up) (N.grown up) (Nat.ne_of_lt F.ns.lt) (next_is_new F) (fun p hp => Nat.ne_of_lt (Heap.lt_size (N p hp).1)) S' ?_ ?_
    · show b < (s₁.heap.push _).objs.size
      rw [Heap.size_push]
      rcases List.mem_cons.mp hb with rfl | hb
      · exact Nat.lt_succ_self _
      · rw [List.mem_singleton.mp hb]; exact Nat.lt_succ_of_lt hlt
    · rw [hlen]
      refine rest_filter (p := p) (xs := xs) (fun i v e => ?_) S' hk2 hl2 hd (turn _ ⟨_, rfl⟩) (fun ys hys => ⟨hys, rfl⟩) _ _ _ (by simp) (by simpa using StrsAre.nil)
      have e' : its.toList[i]? = some v := by simpa using e
      obtain ⟨y, t, rfl, hy⟩ := StrsAre.item hI i v e'
      exact ⟨y, t, hy, rfl⟩
    · rintro D C h tk m' ys news' F' N' o1 hn hC₀ hD₀ hCL hDL hCD offC ⟨hys, rfl⟩
      refine ⟨m', hn, fun h'' hs'' => fin D h'' tk ys hys (F'.change hs'' hCL hC₀) (fun p hp => ?_) o1⟩
      refine ⟨hs''.extBut _ _ ?_ (N' p hp).1, (N' p hp).2⟩
      rcases List.mem_cons.mp hp with rfl | hp
      · exact Ne.symm hCD
      · exact offC p hp
end
end Mine
end
section
open PySem PySem.W PyProof.Rows PySem.Calls PySem.Spec
set_option maxRecDepth 100000
set_option maxHeartbeats 8000000
namespace Mine
open PyProof.Rows.LCg PyProof.Rows.LCt
section
variable {prog : Program} {w : World} {A : Around} {E : Value → Shared → Prop} {s : Shared} {h₀ : Heap} {L : Addr} {m : Str → Option Value} {env : Env}

/-- a test's end -/
def FEnd (h₀ : Heap) (L : Addr) (m : Str → Option Value) (s₁ : Shared) (news : List (Addr × Obj)) (b : Bool) (ok : Bool) (s₂ : Shared) : Prop := ok = b ∧ Stay h₀ L m s₁ news s₂
theorem FEnd.intro {h₀ : Heap} {L : Addr} {m : Str → Option Value} {s₁ : Shared} {news all : List (Addr × Obj)} {b ok : Bool} {h' : Heap} {tk : Nat} (F : Fr h₀ L h' m) (N : News h₀ L h' all) (sub : ∀ p ∈ news, p ∈ all) (e : ok = b) :
    FEnd h₀ L m s₁ news b ok { s₁ with heap := h', toks := tk } := ⟨e, h', tk, rfl, F, fun p hp => N p (sub p hp)⟩

theorem FSrc.str {ct : Expr} {x : Str} {scope : Scope} {cl : List (Str × Addr)} {Q : Value → Shared → Prop} {l : List Nat} {t : Tok} {s₁ : Shared} {news : List (Addr × Obj)} (p : Nat → Bool)
    (hh : A.handled = none) (F : Fr h₀ L s₁.heap m) (N : News h₀ L s₁.heap news) (hsz : l.length ≤ 1000)
    (turn : ∀ (c : Nat) (ty : Tok) I oI C oC D oD m₂ h tk (E' : Value → Shared → Prop), c ∈ l → NsObj oC m₂ → m₂ x = some (.str (S [c]) ty) → Fr h₀ L h m → News h₀ L h ((I, oI) :: (C, oC) :: (D, oD) :: news) → ((@Ne Nat I C) ∧ (@Ne Nat I D) ∧ (@Ne Nat C D)) →
      wpAny (model prog w) A (isTrue ct (compEnvC scope cl C env) (eval ct (compEnvC scope cl C env))) (FEnd h₀ L m { s₁ with heap := h, toks := tk } ((I, oI) :: (C, oC) :: (D, oD) :: news) (p c)) E' { s₁ with heap := h, toks := tk })
    (fin : ∀ D h tk ys, StrsAre ys ((l.filter p).map (fun c => S [c])) → Fr h₀ L h m → News h₀ L h ((D, lst ys) :: news) → Off1 D news → Q (.ref D) { s₁ with heap := h, toks := tk }) :
    FSrc prog w A h₀ L m env ct x scope cl Q (.str (S l) t) s₁ := by
  refine ⟨l.map (fun c => S [c]), fun y => p (y.cps.getD 0 0), news, hh, F, N, ?_, .inl ⟨l, t, rfl, rfl⟩, ?_, ?_⟩
  · rw [List.length_map, sizeLine_eq]; omega
  · rintro s₂ ⟨g, rfl⟩ y ty I oI C oC D oD m₂ h tk E' hy hC hx F' N' ne
    obtain ⟨c, hc, rfl⟩ := List.mem_map.mp hy
    exact turn c ty I oI C oC D oD m₂ h tk E' hc hC hx F' N' ne
  · intro D h tk ys hys F' N' o
    refine fin D h tk ys ?_ F' N' o
    rw [List.filter_map] at hys
    exact hys

theorem FSrc.led {ct : Expr} {x : Str} {scope : Scope} {cl : List (Str × Addr)} {Q : Value → Shared → Prop} {xs : List Str} {ax : Addr} {its : Array Value} {k : Nat} {s₁ : Shared} {news : List (Addr × Obj)} (p : Str → Bool)
    (hh : A.handled = none) (F : Fr h₀ L s₁.heap m) (N : News h₀ L s₁.heap news) (hm : (ax, ({ cls := .type "list", data := .seq its k } : Obj)) ∈ news) (hI : StrsAre its.toList xs) (hsz : xs.length ≤ 1000)
    (turn : ∀ (y : Str) (ty : Tok) I oI C oC D oD m₂ h tk (E' : Value → Shared → Prop), y ∈ xs → NsObj oC m₂ → m₂ x = some (.str y ty) → Fr h₀ L h m → News h₀ L h ((I, oI) :: (C, oC) :: (D, oD) :: news) → ((@Ne Nat I C) ∧ (@Ne Nat I D) ∧ (@Ne Nat C D)) →
      wpAny (model prog w) A (isTrue ct (compEnvC scope cl C env) (eval ct (compEnvC scope cl C env))) (FEnd h₀ L m { s₁ with heap := h, toks := tk } ((I, oI) :: (C, oC) :: (D, oD) :: news) (p y)) E' { s₁ with heap := h, toks := tk })
    (fin : ∀ D h tk ys, StrsAre ys (xs.filter p) → Fr h₀ L h m → News h₀ L h ((D, lst ys) :: news) → Off1 D news → Q (.ref D) { s₁ with heap := h, toks := tk }) :
    FSrc prog w A h₀ L m env ct x scope cl Q (.ref ax) s₁ := by
  refine ⟨xs, p, news, hh, F, N, ?_, .inr ⟨ax, its, k, rfl, hm, hI⟩, ?_, fin⟩
  · rw [sizeLine_eq]; omega
  · rintro s₂ ⟨g, rfl⟩ y ty I oI C oC D oD m₂ h tk E' hy hC hx F' N' ne
    exact turn y ty I oI C oC D oD m₂ h tk E' hy hC hx F' N' ne
end
end Mine
end
section
open PySem PySem.W PyProof.Rows PySem.Calls PySem.Spec
set_option maxRecDepth 100000
set_option maxHeartbeats 8000000
namespace Mine

theorem S_inj {a b : List Nat} : (S a = S b) ↔ a = b := ⟨fun h => by have := congrArg (fun x : Str => x.cps.toList) h; simpa using this, fun h => by rw [h]⟩
theorem beq_S (a b : List Nat) : (S a == S b) = decide (a = b) := by
  by_cases h : a = b
  · subst h; simp
  · rw [decide_eq_false h, beq_eq_false_iff_ne]; exact fun e => h (S_inj.mp e)
theorem length_S (a : List Nat) : Str.length (S a) = a.length := by simp [Str.length]
theorem append_S (a b : List Nat) : S a ++ S b = S (a ++ b) := by
  apply Str.ext'
  simp [Str.cps_append]
theorem empty_S : Str.ofString "" = S [] := by decide +kernel
theorem join_S (l : List Nat) : Txt.join (S []) (l.map fun c => S [c]) = S l := by
  show Builtin.Str.glued _ _ = _
  rw [StrLaws.glued_eq_join]
  induction l with
  | nil => rfl
  | cons a r ih =>
    cases r with
    | nil => rfl
    | cons b r =>
      show S [a] ++ S [] ++ Str.join (S []) ((b :: r).map fun c => S [c]) = _
      rw [ih, append_S, append_S]
      simp

open Builtin Builtin.Str in
theorem idx_clip (i j : Nat) (n : Nat) : strSliceIndices (some (i : Int)) (some (j : Int)) 1 n = strSliceIndices (some ((min i n : Nat) : Int)) (some ((min j n : Nat) : Int)) 1 n := by
  have h1 : ¬ ((i : Int) < 0) := by omega
  have h2 : ¬ ((j : Int) < 0) := by omega
  have h3 : ¬ (((min i n : Nat) : Int) < 0) := by omega
  have h4 : ¬ (((min j n : Nat) : Int) < 0) := by omega
  have e1 : max (0 : Int) (min ((min i n : Nat) : Int) (n : Int)) = max 0 (min (i : Int) (n : Int)) := by omega
  have e2 : max (0 : Int) (min ((min j n : Nat) : Int) (n : Int)) = max 0 (min (j : Int) (n : Int)) := by omega
  simp only [strSliceIndices, h1, h2, h3, h4, if_false, show (1 : Int) > 0 by decide, if_true, e1, e2]

theorem slice_S (l : List Nat) (i j : Nat) (hij : i ≤ j) : Txt.slice (S l) (some (i : Int)) (some (j : Int)) = S ((l.drop i).take (j - i)) := by
  have e : Txt.slice (S l) (some (i : Int)) (some (j : Int)) = StrLaws.sliceText (S l) (some ((min i l.length : Nat) : Int)) (some ((min j l.length : Nat) : Int)) := by
    unfold Txt.slice StrLaws.sliceText
    rw [idx_clip i j, length_S]
  rw [e, StrLaws.sliceText_nat (S l) (a := min i l.length) (b := min j l.length) (by omega) (by rw [length_S]; omega)]
  apply Str.ext'
  simp only [List.toList_toArray]
  congr 1
  rcases Nat.lt_or_ge i l.length with h | h
  · rw [Nat.min_eq_left (Nat.le_of_lt h)]
    rcases Nat.lt_or_ge j l.length with h' | h'
    · rw [Nat.min_eq_left (Nat.le_of_lt h')]
    · rw [Nat.min_eq_right h', List.take_of_length_le (by simp), List.take_of_length_le (by simp; omega)]
  · rw [Nat.min_eq_right h, List.drop_of_length_le (Nat.le_refl _), List.drop_of_length_le h]
    simp

theorem slice_to_S (l : List Nat) (j : Nat) : Txt.slice (S l) none (some (j : Int)) = S (l.take j) := by
  have e : Txt.slice (S l) none (some (j : Int)) = Txt.slice (S l) (some ((0 : Nat) : Int)) (some (j : Int)) := by
    unfold Txt.slice
    rw [StrLaws.sliceIdx_none_lo]
    rfl
  rw [e, slice_S l 0 j (Nat.zero_le _)]
  simp

/-- the place of a sign in a text, from one; nought where it is not -/
def place : List Nat → Nat → Nat
  | [], _ => 0
  | a :: l, c => if a = c then 1 else match place l c with | 0 => 0 | k + 1 => k + 2

theorem slice_one (l : List Nat) (k : Nat) (c : Nat) (h : k < l.length) : (Txt.slice (S l) (some (k : Int)) (some ((k : Int) + 1)) == S [c]) = decide (l[k] = c) := by
  have := slice_S l k (k + 1) (by omega)
  rw [show ((k : Int) + 1) = ((k + 1 : Nat) : Int) by omega, this, beq_S]
  have e : (l.drop k).take (k + 1 - k) = [l[k]] := by
    rw [show k + 1 - k = 1 by omega, List.drop_eq_getElem_cons h]
    rfl
  rw [e]
  simp

theorem place_none : ∀ (l : List Nat) (c : Nat), (∀ k, (h : k < l.length) → l[k] ≠ c) → place l c = 0
  | [], _, _ => rfl
  | a :: l, c, h => by
    have h0 := h 0 (by simp)
    simp only [List.getElem_cons_zero] at h0
    have := place_none l c fun k hk => by have := h (k + 1) (by simp; omega); simpa using this
    simp [place, h0, this]
theorem place_some : ∀ (l : List Nat) (c : Nat) (n : Nat) (hn : n < l.length), (∀ k, (h : k < n) → l[k]'(by omega) ≠ c) → l[n] = c → place l c = n + 1
  | [], _, _, hn, _, _ => absurd hn (by simp)
  | a :: l, c, 0, _, _, e => by
    simp only [List.getElem_cons_zero] at e
    simp [place, e]
  | a :: l, c, n + 1, hn, h, e => by
    have h0 := h 0 (by omega)
    simp only [List.getElem_cons_zero] at h0
    have hn' : n < l.length := by simpa using hn
    have := place_some l c n hn' (fun k hk => by have := h (k + 1) (by omega); simpa using this) (by simpa using e)
    simp [place, h0, this]
end Mine
end
section
open PySem PySem.W PyProof.Rows PySem.Calls PySem.Spec
set_option maxRecDepth 100000
set_option maxHeartbeats 8000000
namespace Mine
open PyProof.Rows.LCg PyProof.Rows.LCt
section
variable {prog : Program} {w : World} {A : Around} {E : Value → Shared → Prop} {s : Shared}
theorem sum_ones : ∀ l : List Nat, ((l.map fun c => S [c]).map (·.length)).sum = l.length
  | [] => rfl
  | a :: l => by
    have := sum_ones l
    simp only [List.map_cons, List.sum_cons, List.length_cons] at this ⊢
    rw [this, length_S]; simp; omega
theorem join_mine {D : Addr} {its : List Value} {t : Tok} {Q : Value → Shared → Prop} (l : List Nat) (hl : s.heap.IsList D its.toArray) (hi : StrsAre its (l.map fun c => S [c])) (hsz : l.length ≤ 1000)
    (h : ∀ t' k, Q (.str (S l) t') { s with toks := k }) : wpAny (model prog w) A (call (.builtin "str.join") [.str (Str.ofString "") t, .ref D]) Q E s := by
  refine join_list (ys := l.map fun c => S [c]) hl (by simpa using hi) ?_ fun t' k => ?_
  · rw [sum_ones, List.length_map, empty_S, length_S]; simp; omega
  · rw [empty_S, join_S]; exact h t' k
end
end Mine
end
section
open PySem PySem.W PyProof.Rows PySem.Calls PySem.Spec
set_option maxRecDepth 100000
set_option maxHeartbeats 8000000
namespace Mine
theorem item_mem {prog w A E s} {value slice : PySem.Expr} {l : Addr} {vs : List Value} {k : Int} {u : Tok} {v : Value} {Q : Value → Shared → Prop}
    (hl : s.heap.IsList l vs.toArray) (h0 : 0 ≤ k) (hhi : k < 2 ^ 63) (hx : vs[k.toNat]? = some v) (h : Q v s)
    (hs : subscripted slice false (.ref l) (.int k u) = operate [.ref l, .int k u] (getItem (.ref l) (.int k u)) := by with_unfolding_all rfl) :
    wpAny (model prog w) A (subscriptTail value slice (.ref l) (.int k u)) Q E s :=
  tail_any hl.typeIs slot_list_getitem.lookup (wpAny_getItem_list hl h0 hhi (by simpa using hx) h) hs
end Mine
end
section
open PySem PySem.W PyProof.Rows PySem.Calls PySem.Spec
set_option maxRecDepth 100000
set_option maxHeartbeats 8000000
namespace Mine
open PyProof.Rows.LCg PyProof.Rows.LCt
section
variable {prog : Program} {w : World} {A : Around} {E : Value → Shared → Prop} {s : Shared} {h₀ : Heap} {L : Addr} {m : Str → Option Value} {env : Env}
theorem FSrc.lines {ct : Expr} {x : Str} {scope : Scope} {cl : List (Str × Addr)} {Q : Value → Shared → Prop} {ax : Addr} {its : Array Value} {k : Nat} {s₁ : Shared} {news : List (Addr × Obj)} (Ls : List (List Nat)) (p : List Nat → Bool)
    (hh : A.handled = none) (F : Fr h₀ L s₁.heap m) (N : News h₀ L s₁.heap news) (hm : (ax, ({ cls := .type "list", data := .seq its k } : Obj)) ∈ news) (hI : StrsAre its.toList (Ls.map S)) (hsz : Ls.length ≤ 1000)
    (turn : ∀ (l : List Nat) (ty : Tok) I oI C oC D oD m₂ h tk (E' : Value → Shared → Prop), l ∈ Ls → NsObj oC m₂ → m₂ x = some (.str (S l) ty) → Fr h₀ L h m → News h₀ L h ((I, oI) :: (C, oC) :: (D, oD) :: news) → ((@Ne Nat I C) ∧ (@Ne Nat I D) ∧ (@Ne Nat C D)) →
      wpAny (model prog w) A (isTrue ct (compEnvC scope cl C env) (eval ct (compEnvC scope cl C env))) (FEnd h₀ L m { s₁ with heap := h, toks := tk } ((I, oI) :: (C, oC) :: (D, oD) :: news) (p l)) E' { s₁ with heap := h, toks := tk })
    (fin : ∀ D h tk ys, StrsAre ys ((Ls.filter p).map S) → Fr h₀ L h m → News h₀ L h ((D, lst ys) :: news) → Off1 D news → Q (.ref D) { s₁ with heap := h, toks := tk }) :
    FSrc prog w A h₀ L m env ct x scope cl Q (.ref ax) s₁ := by
  refine FSrc.led (fun y => p y.cps.toList) hh F N hm hI (by simpa using hsz) ?_ ?_
  · intro y ty I oI C oC D oD m₂ h tk E' hy hC hx F' N' ne
    obtain ⟨l, hl, rfl⟩ := List.mem_map.mp hy
    exact turn l ty I oI C oC D oD m₂ h tk E' hl hC hx F' N' ne
  · intro D h tk ys hys F' N' o
    refine fin D h tk ys ?_ F' N' o
    rw [List.filter_map] at hys
    exact hys
end
end Mine
end
section
open PySem PySem.W PyProof.Rows PySem.Calls
set_option maxRecDepth 100000
set_option maxHeartbeats 8000000
namespace Mine

/-- what the caller has of a call's end -/
def Ret (h₀ : Heap) (L : Addr) (m : Str → Option Value) (news : List (Addr × Obj)) (s : Shared) (R : List (Addr × Obj) → Value → Prop) (Q : Value → Shared → Prop) : Prop :=
  ∀ r tl h' tk', Fr h₀ L h' m → News h₀ L h' (tl ++ news) → (∀ q ∈ news, ∀ p ∈ tl, q.1 ≠ p.1) → R tl r → Q r { s with heap := h', toks := tk' }

/-- what a called def hands back, told of every caller -/
def Spec (w : World) (f : Addr) (dd uu : Nat) (need : List (Addr × Obj)) (vs : List Value) (R : List (Addr × Obj) → Value → Prop) : Prop :=
  ∀ (mean : ExcName → Option Value) (mg mb : Str → Option Value) (dp un : Nat) (gd : Option (List Code)) (cn : Str) (cs : Scope) (a : Addr) (ccd : Value) (cl : List (Str × Addr)) (outer : List Env) (A₀ : Around) (base h₀ : Heap) (L : Addr) (m : Str → Option Value)
    (news : List (Addr × Obj)) (s : Shared) (Q E : Value → Shared → Prop),
    Below A₀ base outer h₀ → Fr h₀ L s.heap m → (hd.heap_39 w.params).In h₀ → News h₀ L s.heap news → Top hd.view_39 (looseW hd.view_39 [Str.ofString "BasicError"]) mean mg mb h₀ → cs.kind = .function →
    dp + dd < recursionLimit → un + uu < cLine → (∀ q ∈ need, q ∈ news) → Ret h₀ L m news s R Q →
    wpAny (model PySem.Challenge.rw_xm0047_01.row.prog w) (ktrTop dp un gd cn cs L a ccd cl outer) (call (.ref f) vs) Q E s
theorem off1_of {news tl : List (Addr × Obj)} {D : Addr} {o : Obj} (h : ∀ q ∈ news, ∀ p ∈ tl, q.1 ≠ p.1) (hm : (D, o) ∈ tl) : PyProof.Rows.LCg.Off1 D news := by
  induction news with
  | nil => trivial
  | cons q r ih => exact ⟨h q List.mem_cons_self _ hm, ih fun q' hq => h q' (List.mem_cons_of_mem _ hq)⟩
theorem off1_ne {news : List (Addr × Obj)} {D : Addr} (h : PyProof.Rows.LCg.Off1 D news) : ∀ q ∈ news, q.1 ≠ D := by
  induction news with
  | nil => intro q hq; exact nomatch hq
  | cons q r ih =>
    intro q' hq
    rcases List.mem_cons.mp hq with rfl | hq
    · exact h.1
    · exact ih h.2 q' hq
theorem off1_app {a b : List (Addr × Obj)} {D : Addr} (h : PyProof.Rows.LCg.Off1 D (a ++ b)) : PyProof.Rows.LCg.Off1 D b := by
  induction a with
  | nil => exact h
  | cons q r ih => exact ih h.2
end Mine
end
section
open PySem PySem.W PyProof.Rows PySem.Calls
set_option maxRecDepth 100000
set_option maxHeartbeats 8000000
namespace Mine
theorem Spec.use {w : World} {f : Addr} {dd uu : Nat} {need : List (Addr × Obj)} {vs : List Value} {R : List (Addr × Obj) → Value → Prop} (C : Spec w f dd uu need vs R)
    {mean : ExcName → Option Value} {mg mb : Str → Option Value} {dp un : Nat} {gd : Option (List Code)} {cn : Str} {cs : Scope} {a : Addr} {ccd : Value} {cl : List (Str × Addr)} {outer : List Env} {A₀ : Around} {base h₀ : Heap} {L : Addr} {m : Str → Option Value}
    {news : List (Addr × Obj)} {s : Shared} {Q E : Value → Shared → Prop}
    (B : Below A₀ base outer h₀) (F : Fr h₀ L s.heap m) (X : (hd.heap_39 w.params).In h₀) (N : News h₀ L s.heap news) (T : Top hd.view_39 (looseW hd.view_39 [Str.ofString "BasicError"]) mean mg mb h₀) (hk : cs.kind = .function)
    (hdp : dp + dd < recursionLimit) (hun : un + uu < cLine) (hn : ∀ q ∈ need, q ∈ news)
    (ret : ∀ r tl h' tk', Fr h₀ L h' m → News h₀ L h' (tl ++ news) → (∀ q ∈ news, ∀ p ∈ tl, q.1 ≠ p.1) → R tl r → Q r { s with heap := h', toks := tk' }) :
    wpAny (model PySem.Challenge.rw_xm0047_01.row.prog w) (ktrTop dp un gd cn cs L a ccd cl outer) (call (.ref f) vs) Q E s :=
  C mean mg mb dp un gd cn cs a ccd cl outer A₀ base h₀ L m news s Q E B F X N T hk hdp hun hn ret
end Mine
end
open PySem PySem.W PyProof.Rows PySem.Calls PySem.Spec
open PyProof.Rows.LCg PyProof.Rows.LCt
namespace Mine
/-- a step kept for later by hand -/
structure Parked (p : Prop) : Prop where
  go : p
/-- the signs that the word has not -/
def freeF (ps ws : List Nat) : List Nat := ps.filter fun d => decide (place ws d = 0)
def okL : List Nat → List Nat → Bool
  | _, [] => true
  | ps, c :: ws => match freeF ps (c :: ws) with
    | [] => false
    | e :: _ => okL (ps.filter (· ≠ e)) ws
def linesF : List Nat → List Nat → List (List Nat)
  | ps, [] => [ps]
  | ps, c :: ws => match freeF ps (c :: ws) with
    | [] => []
    | e :: _ => [e, c] :: linesF (ps.filter (· ≠ e)) ws
def alpha : List Nat := [65, 66, 67, 68, 69, 70]
structure LinesI (G : List (List Nat)) (ps ws : List Nat) (ls : List (List Nat)) : Prop where
  ok : okL ps ws = true
  sum : ls ++ linesF ps ws = G
  lp : ps.length ≤ 63
  lw : ls.length + ws.length ≤ 60
theorem LinesI.step {G : List (List Nat)} {ps : List Nat} {c : Nat} {ws : List Nat} {ls : List (List Nat)} (h : LinesI G ps (c :: ws) ls) :
    ∃ e r, freeF ps (c :: ws) = e :: r ∧ LinesI G (ps.filter (· ≠ e)) ws (ls ++ [[e, c]]) := by
  have h1 := h.ok
  have h2 := h.sum
  have h3 := h.lw
  rw [okL] at h1
  rw [linesF] at h2
  cases hf : freeF ps (c :: ws) with
  | nil => rw [hf] at h1; cases h1
  | cons e r =>
    rw [hf] at h1 h2
    refine ⟨e, r, rfl, h1, ?_, Nat.le_trans (List.length_filter_le _ _) h.lp, ?_⟩
    · rw [List.append_assoc]; exact h2
    · simp only [List.length_append, List.length_cons, List.length_nil] at h3 ⊢; omega

section
variable {prog : Program} {w : World} {A : Around} {E : Value → Shared → Prop} {s : Shared} {h₀ : Heap} {L : Addr} {env : Env} {Q : Flow → Shared → Prop}
def LinesEnd (h₀ : Heap) (L : Addr) (s : Shared) (m₀ : Str → Option Value) (G : List (List Nat)) (C D : Addr) (news : List (Addr × Obj)) (Q : Flow → Shared → Prop) (n : Nat) (f : Flow) (s₃ : Shared) : Prop :=
  match f with
  | .next | .cont => ∃ (ps ws : List Nat) (ls : List (List Nat)) (tp tw : Tok) (oc : Obj) (its : List Value) (k : Nat) (u : Option Value) (h' : Heap) (tk : Nat), s₃ = { s with heap := h', toks := tk } ∧
     Fr h₀ L h' (fun z => if z = Str.ofString "points" then some (.str (S ps) tp) else if z = Str.ofString "leaf" then u else m₀ z) ∧ News h₀ L h' ((D, listOf its.toArray k) :: (C, oc) :: news) ∧
     oc.data = .cell (some (.str (S ws) tw)) ∧ StrsAre its (ls.map S) ∧ LinesI G ps ws ls ∧ ws.length < n
  | .brk => Q .next s₃
  | .ret v => Q (.ret v) s₃
theorem while_lines {test : Expr} {body : List Stmt} {pos : Pos} {m₀ : Str → Option Value} {C D : Addr} {oc : Obj} {its : List Value} {k : Nat} {news : List (Addr × Obj)} {ps ws : List Nat} {ls : List (List Nat)} {tw : Tok} (G : List (List Nat))
    (F : Fr h₀ L s.heap m₀) (N : News h₀ L s.heap ((D, listOf its.toArray k) :: (C, oc) :: news)) (hoc : oc.data = .cell (some (.str (S ws) tw))) (hp : ∃ tp, m₀ (Str.ofString "points") = some (.str (S ps) tp)) (hI : StrsAre its (ls.map S)) (hJ : LinesI G ps ws ls)
    (turn : ∀ (ps ws : List Nat) (ls : List (List Nat)) (tp tw : Tok) (oc : Obj) (its : List Value) (k : Nat) (u : Option Value) (h : Heap) (tk : Nat), Fr h₀ L h (fun z => if z = Str.ofString "points" then some (.str (S ps) tp) else if z = Str.ofString "leaf" then u else m₀ z) → News h₀ L h ((D, listOf its.toArray k) :: (C, oc) :: news) →
      oc.data = .cell (some (.str (S ws) tw)) → StrsAre its (ls.map S) → LinesI G ps ws ls →
      wpAny (model prog w) A (isTrue test env (eval test env)) (fun b s₂ => if b = true then wpAny (model prog w) A (execs body env) (LinesEnd h₀ L s m₀ G C D news Q ws.length) E s₂ else Q .next s₂) E { s with heap := h, toks := tk })
    (hE : PassesOwn (model prog w) A env E := by passes_own) :
    wpAny (model prog w) A (exec (.While test body [] pos) env) Q E s := by
  obtain ⟨tp, hp⟩ := hp
  have e : (fun z => if z = Str.ofString "points" then some (.str (S ps) tp) else if z = Str.ofString "leaf" then m₀ (Str.ofString "leaf") else m₀ z) = m₀ := by
    funext z
    by_cases h1 : z = Str.ofString "points"
    · rw [if_pos h1, h1, hp]
    · rw [if_neg h1]
      by_cases h2 : z = Str.ofString "leaf"
      · rw [if_pos h2, h2]
      · rw [if_neg h2]
  refine While_inv2 (fun n m nx => ∃ (ps ws : List Nat) (ls : List (List Nat)) (tp tw : Tok) (oc : Obj) (its : List Value) (k : Nat) (u : Option Value), n = ws.length ∧ m = (fun z => if z = Str.ofString "points" then some (.str (S ps) tp) else if z = Str.ofString "leaf" then u else m₀ z) ∧
    nx = ((D, listOf its.toArray k) :: (C, oc) :: news) ∧ oc.data = .cell (some (.str (S ws) tw)) ∧ StrsAre its (ls.map S) ∧ LinesI G ps ws ls) F N ⟨ps, ws, ls, tp, tw, oc, its, k, m₀ (Str.ofString "leaf"), rfl, e.symm, rfl, hoc, hI, hJ⟩ ?_ hE
  rintro n m₁ nx h tk F₁ N₁ ⟨ps, ws, ls, tp, tw, oc, its, k, u, rfl, rfl, rfl, hoc, hI, hJ⟩
  refine wpAny_mono (turn ps ws ls tp tw oc its k u h tk F₁ N₁ hoc hI hJ) (fun b s₂ p => ?_) fun _ _ x => x
  cases b with
  | false => simpa using p
  | true =>
    simp only [if_true] at p ⊢
    refine wpAny_mono p (fun f s₃ q => ?_) fun _ _ x => x
    cases f with
    | ret v => exact q
    | brk => exact q
    | next =>
      obtain ⟨ps, ws, ls, tp, tw, oc, its, k, u, h', tk, rfl, F', N', a1, a2, a3, a4⟩ := q
      exact ⟨h', tk, _, _, ws.length, rfl, F', N', a4, ps, ws, ls, tp, tw, oc, its, k, u, rfl, rfl, rfl, a1, a2, a3⟩
    | cont =>
      obtain ⟨ps, ws, ls, tp, tw, oc, its, k, u, h', tk, rfl, F', N', a1, a2, a3, a4⟩ := q
      exact ⟨h', tk, _, _, ws.length, rfl, F', N', a4, ps, ws, ls, tp, tw, oc, its, k, u, rfl, rfl, rfl, a1, a2, a3⟩
end

section
variable {M : Model} {A : Around} {E : Value → Shared → Prop} {s : Shared} {name : Str} {scope : Scope} {L a : Addr} {cd : Value} {h₀ : Heap} {m : Str → Option Value} {news : List (Addr × Obj)} {g : Obj → List (Addr × Obj)}
theorem store_cell {x : Str} {c : Addr} {o : Obj} {v₀ : Option Value} {v : Value} {Q : Unit → Shared → Prop} (F : Fr h₀ L s.heap m) (N : News h₀ L s.heap news)
    (hc : (cellsFrom (L + 1) scope.names []).lookup x = some c) (U : UpdF c o news g) (hd : o.data = .cell v₀)
    (h : ∀ h' o', Fr h₀ L h' m → News h₀ L h' (g o') → o'.data = .cell (some v) → Q () { s with heap := h' })
    (hk : scope.kind = .function := by rfl) (hl : (envOfC name scope L a cd).kindOf x = some .cell := by rfl) :
    wpAny M A (storeName (envOfC name scope L a cd) x v) Q E s := by
  obtain ⟨own, rest, rfl, hg, h1, h2⟩ := U.split
  exact stCN F N hc hd h1 h2 (fun h' o' F' N' hd' => h h' o' F' (hg o' ▸ N') hd') hk hl
end

theorem LinesEnd.intro {h₀ : Heap} {L : Addr} {s : Shared} {m₀ m' : Str → Option Value} {G : List (List Nat)} {C D : Addr} {news all : List (Addr × Obj)} {Q : Flow → Shared → Prop} {n : Nat}
    {ps ws : List Nat} {ls : List (List Nat)} {tp tw : Tok} {oc : Obj} {its : List Value} {k : Nat} {h' : Heap} {tk : Nat}
    (F : Fr h₀ L h' m') (N : News h₀ L h' all) (e1 : m' (Str.ofString "points") = some (.str (S ps) tp)) (e2 : ∀ z, z ≠ Str.ofString "points" → z ≠ Str.ofString "leaf" → m' z = m₀ z)
    (hD : (D, listOf its.toArray k) ∈ all) (hC : (C, oc) ∈ all) (hn : ∀ p ∈ news, p ∈ all) (hoc : oc.data = .cell (some (.str (S ws) tw))) (hI : StrsAre its (ls.map S)) (hJ : LinesI G ps ws ls) (hlt : ws.length < n) :
    LinesEnd h₀ L s m₀ G C D news Q n .next { s with heap := h', toks := tk } := by
  have e : m' = (fun z => if z = Str.ofString "points" then some (.str (S ps) tp) else if z = Str.ofString "leaf" then m' (Str.ofString "leaf") else m₀ z) := by
    funext z
    by_cases h1 : z = Str.ofString "points"
    · rw [if_pos h1, h1, e1]
    · rw [if_neg h1]
      by_cases h2 : z = Str.ofString "leaf"
      · rw [if_pos h2, h2]
      · rw [if_neg h2, e2 z h1 h2]
  rw [e] at F
  refine ⟨ps, ws, ls, tp, tw, oc, its, k, _, h', tk, rfl, F, fun p hp => N p ?_, hoc, hI, hJ, hlt⟩
  rcases List.mem_cons.mp hp with rfl | hp
  · exact hD
  · rcases List.mem_cons.mp hp with rfl | hp
    · exact hC
    · exact hn p hp
end Mine
namespace Mine
theorem Ret.one {h₀ : Heap} {L : Addr} {m : Str → Option Value} {news all : List (Addr × Obj)} {s : Shared} {R : List (Addr × Obj) → Value → Prop} {Q : Value → Shared → Prop} (hret : Ret h₀ L m news s R Q)
    {D : Addr} {o : Obj} {r : Value} {h' : Heap} {tk : Nat} (F : Fr h₀ L h' m) (N : News h₀ L h' all) (hD : (D, o) ∈ all) (hn : ∀ p ∈ news, p ∈ all) (lt : ∀ q ∈ news, q.1 ≠ D) (hR : R [(D, o)] r) :
    Q r { s with heap := h', toks := tk } := by
  refine hret _ [(D, o)] _ _ F (fun p hp => N p ?_) (fun q hq p hp => ?_) hR
  · rcases List.mem_append.mp hp with hp | hp
    · exact List.mem_singleton.mp hp ▸ hD
    · exact hn p hp
  · obtain rfl := List.mem_singleton.mp hp
    exact lt q hq
end Mine
namespace Mine
section
variable {prog : Program} {w : World} {A : Around} {E : Value → Shared → Prop} {s : Shared} {env : Env} {h₀ : Heap} {x : Str} {body : List Stmt} {Q : Flow → Shared → Prop}
/-- the end of a loop's turn -/
def IEnd (h₀ : Heap) (L I : Addr) (oI : Obj) (J : (Str → Option Value) → List (Addr × Obj) → Prop) (s₁ : Shared) (Q : Flow → Shared → Prop) (f : Flow) (s₂ : Shared) : Prop :=
  match f with
  | .ret v => Q (.ret v) s₂
  | .brk => Q .next s₂
  | _ => ∃ h' tk m' nx', s₂ = { s₁ with heap := h', toks := tk } ∧ Fr h₀ L h' m' ∧ News h₀ L h' ((I, oI) :: nx') ∧ (∀ p ∈ nx', p.1 ≠ I) ∧ J m' nx'
theorem IEnd.intro {L I : Addr} {oI : Obj} {J : (Str → Option Value) → List (Addr × Obj) → Prop} {s₁ : Shared} {m' : Str → Option Value} {all nx' : List (Addr × Obj)} {h' : Heap} {tk : Nat}
    (F : Fr h₀ L h' m') (N : News h₀ L h' all) (hI : (I, oI) ∈ all) (hn : ∀ p ∈ nx', p ∈ all) (off : ∀ p ∈ nx', p.1 ≠ I) (hj : J m' nx') : IEnd h₀ L I oI J s₁ Q .next { s₁ with heap := h', toks := tk } := by
  refine ⟨h', tk, m', nx', rfl, F, fun p hp => N p ?_, off, hj⟩
  rcases List.mem_cons.mp hp with rfl | hp
  · exact hI
  · exact hn p hp

theorem iter_core {I : Addr} {fp : List Addr} {n : Nat} {P : Nat → Value → Prop} {St : Nat → Heap → Prop} {m₀ : Str → Option Value} {news : List (Addr × Obj)} (J : Nat → (Str → Option Value) → List (Addr × Obj) → Prop)
    (W : Walks prog w A I fp [I] n P St) (hIo : ∀ i h, St i h → ∃ o, h.get? I = some o) (hfp : ∀ b ∈ fp, b = I ∨ ∃ o, ∀ i m nx, J i m nx → (b, o) ∈ nx) (hLf : env.locals ∉ fp) (hI₀ : h₀.get? I = none) (hnw : ∀ p ∈ news, p.1 ≠ I)
    (hst : St 0 s.heap) (F : Fr h₀ env.locals s.heap m₀) (N : News h₀ env.locals s.heap news) (hj : J 0 m₀ news)
    (turn : ∀ i v m₁ nx h tk oI, i < n → P i v → J i m₁ nx → (∀ p ∈ nx, p.1 ≠ I) → Fr h₀ env.locals h (fun y => if y = x then some v else m₁ y) → News h₀ env.locals h ((I, oI) :: nx) →
      wpAny (model prog w) A (execs body env) (IEnd h₀ env.locals I oI (J (i + 1)) { s with heap := h, toks := tk } Q) E { s with heap := h, toks := tk })
    (done : ∀ m₁ nx h tk, J n m₁ nx → Fr h₀ env.locals h m₁ → News h₀ env.locals h nx → Q .next { s with heap := h, toks := tk }) :
    LoopAtV prog w A h₀ env x body Q E (.ref I) s := by
  refine ⟨I, fp, [I], n, P, St, m₀, news, J, rfl, W, hLf, (fun b hb => ?_), (fun p hp hq => hnw p hp (List.mem_singleton.mp hq)), hst, F, N, hj, ?_, ?_⟩
  · rw [List.mem_singleton.mp hb]; exact hI₀
  · rintro i v m₁ nx s₁ own ⟨hh', tk', rfl⟩ hin hP hJ hoff hown hget hall hst₁ F₁ N₁
    have off : ∀ p ∈ nx, p.1 ≠ I := fun p hp e => hoff p hp (List.mem_singleton.mpr e)
    obtain ⟨oI, heI⟩ := hIo _ _ hst₁
    have hmI : (I, oI) ∈ own := hall I (W.sub I (List.mem_singleton.mpr rfl)) hI₀ oI heI
    have N₂ : News h₀ env.locals hh' ((I, oI) :: nx) := fun p hp => N₁ p (by
      rcases List.mem_cons.mp hp with rfl | hp
      · exact List.mem_append_left _ hmI
      · exact List.mem_append_right _ hp)
    refine wpAny_mono (turn i v m₁ nx hh' tk' oI hin hP hJ off F₁ N₂) (fun f s₂ p => ?_) fun _ _ e => e
    have fin : IEnd h₀ env.locals I oI (J (i + 1)) { s with heap := hh', toks := tk' } Q .next s₂ → LoopStepU h₀ env.locals [I] own (J (i + 1)) { s with heap := hh', toks := tk' } .next s₂ := by
      rintro ⟨h', tk, m', nx', e, F', N', off', hm⟩
      refine ⟨rfl, h', tk, m', nx', e, F', fun p hp => ?_, fun p hp hq => off' p hp (List.mem_singleton.mp hq), hm⟩
      rcases List.mem_append.mp hp with h | h
      · have hg := hget p h
        rcases hfp p.1 (hown p h) with e1 | ⟨o, ho⟩
        · have : p = (I, oI) := by
            obtain ⟨a, b⟩ := p
            dsimp only at e1 hg
            subst e1
            rw [heI] at hg
            cases hg; rfl
          rw [this]; exact N' _ (.head _)
        · have h1 := (N₂ _ (List.mem_cons_of_mem _ (ho i m₁ nx hJ))).1
          have : p = (p.1, o) := by
            obtain ⟨a, b⟩ := p
            dsimp only at hg h1 ⊢
            rw [h1] at hg
            cases hg; rfl
          rw [this]; exact N' _ (List.mem_cons_of_mem _ (ho _ _ _ hm))
      · exact N' p (List.mem_cons_of_mem _ h)
    cases f with
    | ret v => exact .ret p
    | brk => exact .brk p
    | next => exact .next (fin p)
    | cont => exact .cont (fin p)
  · rintro h' tk m' nx' F' N' _ hJ
    exact done m' nx' h' tk hJ F' N'

theorem iter_text {l : List Nat} {t : Tok} {m₀ : Str → Option Value} {news : List (Addr × Obj)} (J : Nat → (Str → Option Value) → List (Addr × Obj) → Prop)
    (hh : A.handled = none) (F : Fr h₀ env.locals s.heap m₀) (N : News h₀ env.locals s.heap news) (hj : J 0 m₀ news)
    (turn : ∀ i c u I m₁ nx h tk oI, l[i]? = some c → J i m₁ nx → (∀ p ∈ nx, p.1 ≠ I) → Fr h₀ env.locals h (fun y => if y = x then some (.str (S [c]) u) else m₁ y) → News h₀ env.locals h ((I, oI) :: nx) →
      wpAny (model prog w) A (execs body env) (IEnd h₀ env.locals I oI (J (i + 1)) { s with heap := h, toks := tk } Q) E { s with heap := h, toks := tk })
    (done : ∀ m₁ nx h tk, J l.length m₁ nx → Fr h₀ env.locals h m₁ → News h₀ env.locals h nx → Q .next { s with heap := h, toks := tk }) :
    wpAny (model prog w) A (pyIter (.str (S l) t)) (fun it s₂ => LoopAtV prog w A h₀ env x body Q E it s₂) E s := by
  have hlen : (S l).cps.size = l.length := by simp
  have go : ∀ (o : Obj) (cls : String), Walks prog w A s.heap.objs.size [s.heap.objs.size] [s.heap.objs.size] (S l).cps.size (SignAt (S l)) (fun i h => h.IsStrIter s.heap.objs.size cls (S l) t i) →
      (s.heap.push o).IsStrIter s.heap.objs.size cls (S l) t 0 → LoopAtV prog w A h₀ env x body Q E (.ref s.heap.objs.size) { s with heap := s.heap.push o } := by
    intro o cls W hst
    refine iter_core J W (fun i h st => by obtain ⟨o, e, _⟩ := st; exact ⟨o, e⟩) (fun b hb => .inl (List.mem_singleton.mp hb)) (fun hm => ?_) (next_is_new F) (fun p hp => Nat.ne_of_lt (Heap.lt_size (N p hp).1)) hst (F.push _) (fun p hp => ⟨Heap.get?_push_of_some _ (N p hp).1, (N p hp).2⟩) hj ?_ ?_
    · exact absurd F.ns.lt ((List.mem_singleton.mp hm) ▸ Nat.lt_irrefl _)
    · rintro i v m₁ nx h tk oI hi ⟨c, u, hc, rfl⟩ hJ off F₁ N₁
      exact turn i c u _ m₁ nx h tk oI (by simpa using hc) hJ off F₁ N₁
    · intro m₁ nx h tk hJ F₁ N₁
      rw [hlen] at hJ
      exact done m₁ nx h tk hJ F₁ N₁
  cases ha : (S l).cps.all (· < 128)
  · exact wpAny_pyIter_wide ha (go _ "str_iterator" (Walks.strWide hh _ _ t) ⟨_, Heap.get?_push_size _ rfl, rfl, rfl⟩)
  · exact wpAny_pyIter_ascii ha (go _ "str_ascii_iterator" (Walks.strAscii hh _ _ t) ⟨_, Heap.get?_push_size _ rfl, rfl, rfl⟩)

theorem iter_lines {a : Addr} {its : Array Value} {k : Nat} {Ls : List (List Nat)} {m₀ : Str → Option Value} {news : List (Addr × Obj)} (J : Nat → (Str → Option Value) → List (Addr × Obj) → Prop)
    (hh : A.handled = none) (hl : ∀ i m nx, J i m nx → (a, ({ cls := .type "list", data := .seq its k } : Obj)) ∈ nx) (hI : StrsAre its.toList (Ls.map S)) (F : Fr h₀ env.locals s.heap m₀) (N : News h₀ env.locals s.heap news) (hj : J 0 m₀ news)
    (turn : ∀ i l u I m₁ nx h tk oI, Ls[i]? = some l → J i m₁ nx → (∀ p ∈ nx, p.1 ≠ I) → Fr h₀ env.locals h (fun y => if y = x then some (.str (S l) u) else m₁ y) → News h₀ env.locals h ((I, oI) :: nx) →
      wpAny (model prog w) A (execs body env) (IEnd h₀ env.locals I oI (J (i + 1)) { s with heap := h, toks := tk } Q) E { s with heap := h, toks := tk })
    (done : ∀ m₁ nx h tk, J Ls.length m₁ nx → Fr h₀ env.locals h m₁ → News h₀ env.locals h nx → Q .next { s with heap := h, toks := tk }) :
    wpAny (model prog w) A (pyIter (.ref a)) (fun it s₂ => LoopAtV prog w A h₀ env x body Q E it s₂) E s := by
  have hm := hl 0 m₀ news hj
  have hol : s.heap.get? a = some _ := (N _ hm).1
  have hls : s.heap.IsList a its := ⟨_, hol, rfl, k, rfl⟩
  have hne : a ≠ s.heap.objs.size := Nat.ne_of_lt (Heap.lt_size hol)
  have hlen : its.size = Ls.length := by have := StrsAre.length hI; simpa using this
  refine wpAny_pyIter_list hls ?_
  refine iter_core J (Walks.list hh s.heap.objs.size a hne its) (fun i h st => by obtain ⟨o, e, _⟩ := st.1; exact ⟨o, e⟩) (fun b hb => ?_) (fun hm' => ?_) (next_is_new F) (fun p hp => Nat.ne_of_lt (Heap.lt_size (N p hp).1))
    ⟨⟨_, Heap.get?_push_size _ rfl, rfl, rfl⟩, hls.push _⟩ (F.push _) (fun p hp => ⟨Heap.get?_push_of_some _ (N p hp).1, (N p hp).2⟩) hj ?_ ?_
  · rcases List.mem_cons.mp hb with e | hb
    · exact .inl e
    · exact .inr ⟨_, fun i m nx hJ => List.mem_singleton.mp hb ▸ hl i m nx hJ⟩
  · rcases List.mem_cons.mp hm' with e | hm'
    · exact absurd F.ns.lt (e ▸ Nat.lt_irrefl _)
    · exact (N _ hm).2.1 ((List.mem_singleton.mp hm').symm)
  · rintro i v m₁ nx h tk oI hi hPv hJ off F₁ N₁
    have e' : its.toList[i]? = some v := by simpa using hPv
    obtain ⟨y, t, rfl, hy⟩ := StrsAre.item hI i v e'
    rw [List.getElem?_map] at hy
    cases hL : Ls[i]? with
    | none => rw [hL] at hy; cases hy
    | some l =>
      rw [hL] at hy
      cases hy
      exact turn i l t _ m₁ nx h tk oI hL hJ off F₁ N₁
  · intro m₁ nx h tk hJ F₁ N₁
    rw [hlen] at hJ
    exact done m₁ nx h tk hJ F₁ N₁
end
end Mine
namespace Mine
/-- texts in their order -/
def insL (a : List Nat) : List (List Nat) → List (List Nat)
  | [] => [a]
  | b :: l => if ltCps b a then b :: insL a l else a :: b :: l
def sortL : List (List Nat) → List (List Nat)
  | [] => []
  | a :: l => insL a (sortL l)
theorem insL_perm (a : List Nat) : ∀ l, (insL a l).Perm (a :: l)
  | [] => .refl _
  | b :: l => by
    rw [insL]
    split
    · exact ((insL_perm a l).cons b).trans (.swap a b l)
    · exact .refl _
theorem sortL_perm : ∀ l, (sortL l).Perm l
  | [] => .refl _
  | a :: l => (insL_perm a _).trans ((sortL_perm l).cons a)
theorem insL_rises (a : List Nat) : ∀ l : List (List Nat), l.Pairwise (fun x y => x ≤ y) → (insL a l).Pairwise (fun x y => x ≤ y)
  | [], _ => List.pairwise_singleton ..
  | b :: l, h => by
    rw [insL, ltCps_eq]
    have h' := List.pairwise_cons.mp h
    split
    · rename_i hlt
      have hlt := of_decide_eq_true hlt
      refine List.pairwise_cons.mpr ⟨fun c hc => ?_, insL_rises a l h'.2⟩
      rcases List.mem_cons.mp ((insL_perm a l).mem_iff.mp hc) with rfl | hc
      · exact List.le_of_lt hlt
      · exact h'.1 c hc
    · rename_i hge
      have hge : a ≤ b := List.not_lt.mp fun e => hge (decide_eq_true e)
      refine List.pairwise_cons.mpr ⟨fun c hc => ?_, h⟩
      rcases List.mem_cons.mp hc with rfl | hc
      · exact hge
      · exact List.le_trans hge (h'.1 c hc)
theorem sortL_rises : ∀ l, (sortL l).Pairwise (fun x y => x ≤ y)
  | [] => .nil
  | a :: l => insL_rises a _ (sortL_rises l)
theorem rising_pairwise : ∀ (p : Str) (l : List Str), risingS p l = true → (p :: l).Pairwise fun x y => x.cps.toList ≤ y.cps.toList
  | p, [], _ => List.pairwise_singleton ..
  | p, x :: r, h => by
    rw [risingS, Bool.and_eq_true] at h
    have ih := rising_pairwise x r h.2
    have hle : p.cps.toList ≤ x.cps.toList := by
      have h1 := h.1
      rw [ltCps_eq] at h1
      simp only [Bool.not_eq_true', decide_eq_false_iff_not] at h1
      exact List.not_lt.mp h1
    refine List.pairwise_cons.mpr ⟨fun y hy => ?_, ih⟩
    rcases List.mem_cons.mp hy with rfl | hy
    · exact hle
    · exact List.le_trans hle ((List.pairwise_cons.mp ih).1 y hy)
theorem sorted_pairwise : ∀ l : List Str, sortedS l = true → l.Pairwise fun x y => x.cps.toList ≤ y.cps.toList
  | [], _ => .nil
  | x :: r, h => rising_pairwise x r h
theorem sorted_one {ss : List Str} {Ls : List (List Nat)} (p : ss.Perm (Ls.map S)) (h : sortedS ss = true) : ss = (sortL Ls).map S := by
  have e : ss = (ss.map fun x => x.cps.toList).map S := by
    rw [List.map_map]
    exact (List.map_congr_left (g := fun x => x) fun x _ => by show (⟨x.cps.toList.toArray⟩ : Str) = x; simp).trans (List.map_id' _) |>.symm
  have q : (ss.map fun x => x.cps.toList).Perm Ls := by
    have := p.map fun x : Str => x.cps.toList
    rw [List.map_map] at this
    have e2 : List.map ((fun x : Str => x.cps.toList) ∘ S) Ls = Ls := (List.map_congr_left (g := fun x => x) fun x _ => by simp).trans (List.map_id' _)
    rwa [e2] at this
  have r : (ss.map fun x => x.cps.toList) = sortL Ls :=
    List.Perm.eq_of_pairwise (le := fun x y => x ≤ y) (fun a b _ _ h1 h2 => List.le_antisymm h1 h2) (List.pairwise_map.mpr (sorted_pairwise ss h)) (sortL_rises Ls) (q.trans (sortL_perm Ls).symm)
  rw [e, r]

section
variable {prog : Program} {w : World} {A : Around} {E : Value → Shared → Prop} {s : Shared} {h₀ : Heap} {L : Addr} {m : Str → Option Value} {news : List (Addr × Obj)}
theorem sorted_lines {l : Addr} {its : Array Value} {Ls : List (List Nat)} {Q : Value → Shared → Prop} (F : Fr h₀ L s.heap m) (N : News h₀ L s.heap news) (hl : s.heap.IsList l its) (hI : StrsAre its.toList (Ls.map S)) (h64 : Ls.length < 64)
    (h : ∀ (D : Addr) (h' : Heap) (ys : List Value) (n tk : Nat), Fr h₀ L h' m → News h₀ L h' ((D, W.listOf ys.toArray n) :: news) → (∀ q ∈ news, q.1 < D) → StrsAre ys ((sortL Ls).map S) → Q (.ref D) { s with heap := h', toks := tk }) :
    wpAny (model prog w) A (call (.builtin "sorted") [.ref l]) Q E s := by
  have e : its.toList.length = Ls.length := by have := StrsAre.length hI; simpa using this
  refine sorted_N_str (vs := its.toList) F N (by simpa using hl) hI (by omega) fun h' vs' ss' n F' N' hS hp hs => ?_
  rw [sorted_one hp hs] at hS
  exact h _ h' vs' n s.toks F' N' (fun q hq => Nat.lt_succ_of_lt (Heap.lt_size (N q hq).1)) hS

theorem sorted_text {x : List Nat} {t : Tok} {Q : Value → Shared → Prop} (hh : A.handled = none) (F : Fr h₀ L s.heap m) (N : News h₀ L s.heap news) (h64 : x.length < 64)
    (h : ∀ (D : Addr) (h' : Heap) (ys : List Value) (n tk : Nat), Fr h₀ L h' m → News h₀ L h' ((D, W.listOf ys.toArray n) :: news) → (∀ q ∈ news, q.1 < D) → StrsAre ys ((sortL (x.map fun c => [c])).map S) → Q (.ref D) { s with heap := h', toks := tk }) :
    wpAny (model prog w) A (call (.builtin "sorted") [.str (S x) t]) Q E s := by
  have hx : (S x).cps.size = x.length := by simp
  refine Calls.call_function_entry kind_sorted plain_sorted entry_sorted (args_sorted1 _) ?_
  unfold Builtin.«sorted»
  refine wpAny_bind (m := checkCount "sorted" 1 1 _) (wpAny_pure ?_)
  refine wpAny_bind (wpAny_collect_str (show A.in1.handled = none from hh) (S x) t (fun s' acc keep hg hd ho hit => ?_) (by rw [hx, sizeLine_eq]; omega))
  obtain ⟨hn, hP⟩ := hit
  have hs' : s' = { s with heap := s'.heap, toks := s'.toks } := by
    obtain ⟨a, b, c, d, e⟩ := s'
    dsimp only at hg hd ho
    subst hg hd ho
    rfl
  have hst : StrsAre acc.toList ((x.map fun c => [c]).map S) := by
    have hs : ∀ v ∈ acc.toList, ∃ y t, v = .str y t := fun v hv => by
      obtain ⟨j, hj⟩ := List.mem_iff_getElem?.mp hv
      obtain ⟨c, u, _, rfl⟩ := hP j v (by simpa using hj)
      exact ⟨_, _, rfl⟩
    have h1 := strsAre_map acc.toList hs
    have e : acc.toList.map strOf = (x.map fun c => [c]).map S := by
      refine List.ext_getElem? fun j => ?_
      rw [List.getElem?_map, List.map_map, List.getElem?_map]
      by_cases hj : j < x.length
      · have hj' : j < acc.size := by rw [hn, hx]; exact hj
        obtain ⟨c, u, hc, e⟩ := hP j acc[j] (by simp [hj'])
        have hc' : x[j]? = some c := by simpa using hc
        rw [hc']
        have : acc.toList[j]? = some acc[j] := by simp [hj']
        rw [this, e]
        rfl
      · have h1 : x[j]? = none := by simp; omega
        have h2 : acc.toList[j]? = none := by simp; omega
        rw [h1, h2]; rfl
    rwa [e] at h1
  have hvl : acc.toList.length = x.length := by rw [Array.length_toList, hn, hx]
  refine wpAny_bind (wpAny_newList ?_ (by rw [sizeLine_eq]; omega))
  have hoL : (s'.heap.push (seqObj "list" acc.toList.toArray 0)).get? s'.heap.objs.size = some (seqObj "list" acc.toList.toArray 0) := Heap.get?_push_size _ rfl
  have hlen : ∀ (v₁ v₂ : Value) (rest : List Value), acc.toList = v₁ :: v₂ :: rest → keyKind' (v₁ :: v₂ :: rest).toArray = pure oneType' := fun v₁ v₂ rest e => keyKind_strs (by rw [← e]; exact hst)
  refine wpAny_bind (wpAny_holding (wpAny_call_entry slot_list_sort ⟨_, hoL, rfl⟩ entry_list_sort (list_sort_treeK strKind_oneLt hoL hst.keysOf hlen (by omega) fun st' a1 a2 => ⟨_, rfl, ?_⟩) (args_list_sort _)))
  refine wpAny_pure ⟨_, rfl, ?_⟩
  obtain ⟨ss', h1, h2, h3⟩ := sorted_out_str hst a1 a2
  obtain ⟨e, he⟩ := sortedHeap_at (vs := acc.toList) (out := (arrOf st').map (·.2)) hoL
  rw [sorted_one h2 h3] at h1
  have F1 := F.kept keep
  have N1 : News h₀ L s'.heap news := N.grown keep
  have keep2 : ∀ b o, s'.heap.get? b = some o → (sortedHeap (s'.heap.push (seqObj "list" acc.toList.toArray 0)) s'.heap.objs.size acc.toList ((arrOf st').map (·.2))).get? b = some o := fun b o q' => by
    have hlt := Heap.lt_size q'
    rw [sortedHeap_old (Nat.ne_of_lt hlt) (by rw [size_push']; exact Nat.lt_succ_of_lt hlt), Heap.get?_push_ne _ _ _ (Nat.ne_of_lt hlt)]
    exact q'
  have fin := h s'.heap.objs.size _ ((arrOf st').map (·.2)).toList e s'.toks (F1.kept keep2) (N1.kept_cons F1 keep2 (Nat.le_refl _) (by rw [Array.toArray_toList]; exact he)) (fun q hq => Heap.lt_size (N1 q hq).1) h1
  rw [hs']
  exact fin
end

/-- every sign lies below 128 -/
def Plain (l : List Nat) : Prop := ∀ c ∈ l, c < 128
def data (Ls : List (List Nat)) : PyData := .list (Ls.map fun l => .str (S l))
theorem strOk_S {l : List Nat} (h : Plain l) : PyData.strOk (S l) = true := by
  unfold PyData.strOk
  simp only [List.all_toArray, List.all_eq_true, decide_eq_true_eq]
  exact fun c hc => Nat.lt_trans (h c hc) (by decide)
theorem canLay_data {Ls : List (List Nat)} (h : ∀ l ∈ Ls, Plain l) : (data Ls).canLay0 = true := by
  unfold data
  rw [PyData.canLay0]
  induction Ls with
  | nil => rfl
  | cons l r ih =>
    rw [List.map_cons, PyData.canLayAll0, PyData.canLay0, strOk_S (h l (.head _)), ih fun x hx => h x (.tail _ hx)]
    rfl
theorem depth_data (Ls : List (List Nat)) : (data Ls).depth ≤ 1 := by
  unfold data
  have : PyData.depthAll (Ls.map fun l => PyData.str (S l)) = 0 := by
    induction Ls with
    | nil => rfl
    | cons l r ih => rw [List.map_cons, PyData.depthAll, PyData.depth, ih]; rfl
  rw [PyData.depth, this]
  omega
theorem shaped_data {Ls : List (List Nat)} (h : ∀ l ∈ Ls, Plain l) : SeqAt.shaped (data Ls) = true := by
  have := depth_data Ls
  simp only [SeqAt.shaped, canLay_data h, Bool.true_and, decide_eq_true_eq]
  omega
theorem noMix_texts : ∀ Ls Ms : List (List Nat), SeqAt.noMixAll (Ls.map fun l => PyData.str (S l)) (Ms.map fun l => PyData.str (S l)) = true
  | [], [] => by simp [SeqAt.noMixAll]
  | [], _ :: _ => by simp [SeqAt.noMixAll]
  | _ :: _, [] => by simp [SeqAt.noMixAll]
  | _ :: r, _ :: q => by simp [SeqAt.noMixAll, SeqAt.noMix, noMix_texts r q]
theorem same_texts : ∀ Ls Ms : List (List Nat), PySem.Spec.sameAll (Ls.map fun l => PyData.str (S l)) (Ms.map fun l => PyData.str (S l)) = decide (Ls = Ms)
  | [], [] => by simp [PySem.Spec.sameAll]
  | [], _ :: _ => by simp [PySem.Spec.sameAll]
  | _ :: _, [] => by simp [PySem.Spec.sameAll]
  | n :: r, k :: q => by
    simp only [List.map_cons, PySem.Spec.sameAll, PySem.Spec.same, same_texts r q]
    rw [beq_S]
    by_cases h : n = k <;> simp [h]
theorem noMix_data (Ls Ms : List (List Nat)) : SeqAt.noMix (data Ls) (data Ms) = true := by
  unfold data; simp only [SeqAt.noMix]; exact noMix_texts Ls Ms
theorem same_data (Ls Ms : List (List Nat)) : PySem.Spec.same (data Ls) (data Ms) = decide (Ls = Ms) := by
  unfold data; simp only [PySem.Spec.same]; exact same_texts Ls Ms
theorem reads_data {h : Heap} {a : Addr} {its : Array Value} {Ls : List (List Nat)} (hl : h.IsList a its) (hI : StrsAre its.toList (Ls.map S)) : Reads h (.ref a) (data Ls) [a] := by
  obtain ⟨o, ho, hc, n, hd⟩ := hl
  refine Reads.list ho hc hd ?_
  have := StrsAre.reads h hI
  rwa [List.map_map] at this
section
variable {prog : Program} {w : World} {A : Around} {E : Value → Shared → Prop} {s : Shared}
theorem eq_texts {a b : Addr} {its its' : Array Value} {Ls Ms : List (List Nat)} {Q : Value → Shared → Prop} (ha : s.heap.IsList a its) (hb : s.heap.IsList b its') (hi : StrsAre its.toList (Ls.map S)) (hj : StrsAre its'.toList (Ms.map S)) (p1 : ∀ l ∈ Ls, Plain l) (p2 : ∀ l ∈ Ms, Plain l) (hu : A.units + 64 < cLine)
    (h : Q (.bool (decide (Ls = Ms))) s) : wpAny (model prog w) A (compareOp .Eq (.ref a) (.ref b)) Q E s :=
  eq_dataH_same (reads_data ha hi) (reads_data hb hj) (shaped_data p1) (shaped_data p2) hu (noMix_data _ _) (by rw [same_data]; exact h)
theorem ne_texts {a b : Addr} {its its' : Array Value} {Ls Ms : List (List Nat)} {Q : Value → Shared → Prop} (ha : s.heap.IsList a its) (hb : s.heap.IsList b its') (hi : StrsAre its.toList (Ls.map S)) (hj : StrsAre its'.toList (Ms.map S)) (p1 : ∀ l ∈ Ls, Plain l) (p2 : ∀ l ∈ Ms, Plain l) (hu : A.units + 64 < cLine)
    (h : Q (.bool (!decide (Ls = Ms))) s) : wpAny (model prog w) A (compareOp .NotEq (.ref a) (.ref b)) Q E s :=
  ne_dataH_same (reads_data ha hi) (reads_data hb hj) (shaped_data p1) (shaped_data p2) hu (noMix_data _ _) (by rw [same_data]; exact h)
end

/-- a list's items are lists of texts that the ledger bears -/
inductive ListsAre (news : List (Addr × Obj)) : List Value → List (List (List Nat)) → Prop where
  | nil : ListsAre news [] []
  | cons {a : Addr} {ys : List Value} {n : Nat} {T : List (List Nat)} {vs : List Value} {Ts : List (List (List Nat))} : (a, W.listOf ys.toArray n) ∈ news → StrsAre ys (T.map S) → ListsAre news vs Ts → ListsAre news (.ref a :: vs) (T :: Ts)
theorem ListsAre.mono {news news' : List (Addr × Obj)} {vs : List Value} {Ts : List (List (List Nat))} (h : ListsAre news vs Ts) (hs : ∀ p ∈ news, p ∈ news') : ListsAre news' vs Ts := by
  induction h with
  | nil => exact .nil
  | cons hm hy _ ih => exact .cons (hs _ hm) hy ih
theorem ListsAre.snoc {news : List (Addr × Obj)} {vs : List Value} {Ts : List (List (List Nat))} (h : ListsAre news vs Ts) {a : Addr} {ys : List Value} {n : Nat} {T : List (List Nat)} (hm : (a, W.listOf ys.toArray n) ∈ news) (hy : StrsAre ys (T.map S)) : ListsAre news (vs ++ [.ref a]) (Ts ++ [T]) := by
  induction h with
  | nil => exact .cons hm hy .nil
  | cons hm' hy' _ ih => exact .cons hm' hy' ih
theorem ListsAre.length {news : List (Addr × Obj)} {vs : List Value} {Ts : List (List (List Nat))} (h : ListsAre news vs Ts) : vs.length = Ts.length := by
  induction h with
  | nil => rfl
  | cons _ _ _ ih => rw [List.length_cons, List.length_cons, ih]
theorem ListsAre.reads {h₀ h : Heap} {L : Addr} {news : List (Addr × Obj)} {vs : List Value} {Ts : List (List (List Nat))} (H : ListsAre news vs Ts) (N : News h₀ L h news) : ∃ as, ReadsAll h vs (Ts.map data) as := by
  induction H with
  | nil => exact ⟨_, .nil⟩
  | cons hm hy _ ih =>
    obtain ⟨as, r⟩ := ih
    exact ⟨_, .cons (reads_data ⟨_, (N _ hm).1, rfl, _, rfl⟩ (by simpa using hy)) r⟩
theorem count_lists (T : List (List Nat)) : ∀ Ts : List (List (List Nat)), decide (PySem.Spec.countIn (data T) (Ts.map data) ≠ 0) = decide (T ∈ Ts)
  | [] => by simp [PySem.Spec.countIn]
  | U :: Ts => by
    have ih := count_lists T Ts
    have h0 := countIn_ge0 (data T) (Ts.map data)
    rw [List.map_cons, PySem.Spec.countIn, same_data]
    by_cases h : U = T
    · subst h
      simp only [decide_true, if_true]
      have : (1 : Int) + PySem.Spec.countIn (data U) (Ts.map data) ≠ 0 := by omega
      simp [this]
    · have h' : ¬ T = U := fun e => h e.symm
      simp only [decide_eq_true_eq, h, if_false, Int.zero_add, List.mem_cons, h', false_or]
      exact ih
theorem lay_lists : ∀ {Ts : List (List (List Nat))}, (∀ T ∈ Ts, ∀ l ∈ T, Plain l) → PyData.canLayAll0 (Ts.map data) = true
  | [], _ => rfl
  | T :: Ts, h => by
    rw [List.map_cons, PyData.canLayAll0, canLay_data (h T (.head _)), lay_lists fun U hU => h U (.tail _ hU)]
    rfl
theorem depth_lists : ∀ Ts : List (List (List Nat)), PyData.depthAll (Ts.map data) ≤ 1
  | [] => by simp [PyData.depthAll]
  | T :: Ts => by
    have h1 := depth_data T
    have h2 := depth_lists Ts
    rw [List.map_cons, PyData.depthAll]
    omega
section
variable {prog : Program} {w : World} {A : Around} {E : Value → Shared → Prop} {s : Shared} {h₀ : Heap} {L : Addr} {news : List (Addr × Obj)}
theorem in_lists {a c : Addr} {its : Array Value} {vs : Array Value} {n : Nat} {T : List (List Nat)} {Ts : List (List (List Nat))} {Q : Value → Shared → Prop} (N : News h₀ L s.heap news) (ha : s.heap.IsList a its) (hi : StrsAre its.toList (T.map S))
    (hc : (c, ({ cls := .type "list", data := .seq vs n } : Obj)) ∈ news) (hT : ListsAre news vs.toList Ts) (p1 : ∀ l ∈ T, Plain l) (p2 : ∀ U ∈ Ts, ∀ l ∈ U, Plain l) (hu : A.units + 65 < cLine) (h : Q (.bool (decide (T ∈ Ts))) s) :
    wpAny (model prog w) A (compareOp .In (.ref a) (.ref c)) Q E s := by
  obtain ⟨as, r⟩ := hT.reads N
  have h2 := depth_lists Ts
  refine in_list_dataH (Reads.list (N _ hc).1 rfl rfl r) (reads_data ha hi) ?_ (shaped_data p1) hu (fun y hy => ?_) (by rw [count_lists]; exact h)
  · have h3 : PyData.depth (.list (Ts.map data)) ≤ 64 := by rw [PyData.depth]; omega
    have h4 : PyData.canLay0 (.list (Ts.map data)) = true := by rw [PyData.canLay0]; exact lay_lists p2
    simp only [SeqAt.shaped, h4, Bool.true_and]
    exact decide_eq_true h3
  · obtain ⟨U, _, rfl⟩ := List.mem_map.mp hy
    exact noMix_data U T
end
end Mine
namespace Mine
section
variable {prog : Program} {w : World} {A : Around} {E : Value → Shared → Prop} {s : Shared} {value slice : PySem.Expr} {Q : Value → Shared → Prop}
theorem item_sign {l : List Nat} {t u : Tok} {k : Int} {c : Nat} (h0 : 0 ≤ k) (hk : k < 2 ^ 62) (hc : l[k.toNat]? = some c) (h : Q (.str (S [c]) s.toks) { s with toks := s.toks + 1 })
    (hs : subscripted slice false (.str (S l) t) (.int k u) = operate [.str (S l) t, .int k u] (getItem (.str (S l) t) (.int k u)) := by with_unfolding_all rfl)
    (ht : ∀ r, letTemporaryGo value (.str (S l) t) r = pure () := by intro _; with_unfolding_all rfl) :
    wpAny (model prog w) A (subscriptTail value slice (.str (S l) t) (.int k u)) Q E s := by
  have hlt : k.toNat < l.length := by
    rcases Nat.lt_or_ge k.toNat l.length with h | h
    · exact h
    · rw [List.getElem?_eq_none h] at hc; cases hc
  have hS := length_S l
  have e : Txt.item (S l) k = S [c] := by
    unfold Txt.item Txt.charAt
    have h1 : ¬ k < 0 := by omega
    have h2 : k < ((S l).length : Int) := by rw [hS]; omega
    have e2 : seqIndex? k (S l).length = some k.toNat := by
      unfold seqIndex?
      simp only [h1, if_false]
      rw [decide_eq_true h0, decide_eq_true h2]
      rfl
    rw [e2]
    show (⟨#[((S l).cps[k.toNat]?).getD 0]⟩ : Str) = _
    have : (S l).cps[k.toNat]? = some c := by simpa using hc
    rw [this]
    rfl
  refine item_str ?_ (by omega) (by omega) (fun _ => by rw [e]; exact h) hs ht
  unfold fitsSsize
  have h1 : ¬ k < -(2 ^ 63 : Int) := by omega
  have h2 : ¬ k ≥ (2 ^ 63 : Int) := by omega
  rw [decide_eq_false h1, decide_eq_false h2]
  rfl
theorem in_sign {l : List Nat} {c : Nat} {t u : Tok} (h : Q (.bool (decide (c ∈ l))) s) : wpAny (model prog w) A (compareOp .In (.str (S [c]) u) (.str (S l) t)) Q E s := by
  refine PySem.SB.contains ?_
  have : Txt.contains (S l) (S [c]) = decide (c ∈ l) := StrLaws.found_one (S l) c
  rw [this]
  exact h
end
section
variable {prog : Program} {w : World} {A : Around} {E : Value → Shared → Prop} {s : Shared} {Q : Value → Shared → Prop}
theorem in_sign_of {l : List Nat} {c : Nat} {t u : Tok} {b : Bool} (e : decide (c ∈ l) = b) (h : Q (.bool b) s) : wpAny (model prog w) A (compareOp .In (.str (S [c]) u) (.str (S l) t)) Q E s := in_sign (by rw [e]; exact h)
end
section
variable {prog : Program} {w : World} {A : Around} {E : Value → Shared → Prop} {s : Shared} {Q : Value → Shared → Prop}
theorem add_S {a b : List Nat} {t u : Tok} (hz : a.length + b.length ≤ 1000) (h : ∀ t' k, Q (.str (S (a ++ b)) t') { s with toks := k }) : wpAny (model prog w) A (binaryOp .Add (.str (S a) t) (.str (S b) u)) Q E s := by
  refine PySem.SB.add (fun t' k => ?_) ?_
  · rw [append_S]; exact h t' k
  · rw [length_S, length_S, sizeLine_eq]; omega
end
end Mine
namespace Mine
/-- one line joins its second end to what is seen -/
def joinF (seen l : List Nat) : List Nat :=
  match l with
  | [a, b] => if a ∈ seen then (if b ∈ seen then seen else seen ++ [b]) else (if b ∈ seen then seen ++ [a] else seen)
  | _ => seen
def roundF (Ls : List (List Nat)) (seen : List Nat) : List Nat := Ls.foldl joinF seen
def roundsF (Ls : List (List Nat)) (seen : List Nat) : Nat → List Nat
  | 0 => seen
  | n + 1 => roundF Ls (roundsF Ls seen n)
def treeF (Ls : List (List Nat)) (ps : List Nat) : Bool :=
  match ps with
  | [] => false
  | p :: _ => decide (Ls.length + 1 = ps.length) && decide (sortL ((roundsF Ls [p] ps.length).map fun c => [c]) = sortL (ps.map fun c => [c]))
theorem joinF_length (seen l : List Nat) : (joinF seen l).length ≤ seen.length + 1 := by
  unfold joinF
  split
  · split <;> split <;> simp
  · omega
theorem roundF_length (Ls : List (List Nat)) : ∀ seen : List Nat, (roundF Ls seen).length ≤ seen.length + Ls.length := by
  unfold roundF
  induction Ls with
  | nil => intro seen; simp
  | cons l r ih =>
    intro seen
    have h1 := ih (joinF seen l)
    have h2 := joinF_length seen l
    simp only [List.foldl_cons, List.length_cons]
    omega
theorem roundsF_length (Ls : List (List Nat)) (seen : List Nat) : ∀ n, (roundsF Ls seen n).length ≤ seen.length + n * Ls.length
  | 0 => by simp [roundsF]
  | n + 1 => by
    have h1 := roundsF_length Ls seen n
    have h2 := roundF_length Ls (roundsF Ls seen n)
    rw [roundsF, Nat.add_mul]
    omega
theorem joinF_plain {seen l : List Nat} (h : Plain seen) (h' : Plain l) : Plain (joinF seen l) := by
  unfold joinF
  split
  · rename_i a b
    have ha := h' a (by simp)
    have hb := h' b (by simp)
    intro c hc
    split at hc <;> split at hc
    · exact h c hc
    · rcases List.mem_append.mp hc with hc | hc
      · exact h c hc
      · exact List.mem_singleton.mp hc ▸ hb
    · rcases List.mem_append.mp hc with hc | hc
      · exact h c hc
      · exact List.mem_singleton.mp hc ▸ ha
    · exact h c hc
  · exact h
theorem roundF_plain {Ls : List (List Nat)} (h' : ∀ l ∈ Ls, Plain l) : ∀ seen : List Nat, Plain seen → Plain (roundF Ls seen) := by
  unfold roundF
  induction Ls with
  | nil => intro seen h; exact h
  | cons l r ih => intro seen h; exact ih (fun x hx => h' x (.tail _ hx)) _ (joinF_plain h (h' l (.head _)))
theorem roundsF_plain {Ls : List (List Nat)} (h' : ∀ l ∈ Ls, Plain l) {seen : List Nat} (h : Plain seen) : ∀ n, Plain (roundsF Ls seen n)
  | 0 => h
  | n + 1 => roundF_plain h' _ (roundsF_plain h' h n)

def SeenJ (C : Addr) (rest : List (Addr × Obj)) (m₀ : Str → Option Value) (P : List Nat → Prop) (m : Str → Option Value) (nx : List (Addr × Obj)) : Prop :=
  ∃ (seen : List Nat) (t : Tok) (oc : Obj) (u1 u2 : Option Value), P seen ∧ oc.data = .cell (some (.str (S seen) t)) ∧ nx = (C, oc) :: rest ∧ m = fun z => if z = Str.ofString "turn" then u1 else if z = Str.ofString "line" then u2 else m₀ z
theorem SeenJ.intro {C : Addr} {rest : List (Addr × Obj)} {m₀ : Str → Option Value} {P : List Nat → Prop} {m : Str → Option Value} {seen : List Nat} {t : Tok} {oc : Obj} (hP : P seen) (hoc : oc.data = .cell (some (.str (S seen) t)))
    (h : ∀ z, z ≠ Str.ofString "turn" → z ≠ Str.ofString "line" → m z = m₀ z) : SeenJ C rest m₀ P m ((C, oc) :: rest) := by
  refine ⟨seen, t, oc, m (Str.ofString "turn"), m (Str.ofString "line"), hP, hoc, rfl, ?_⟩
  funext z
  by_cases h1 : z = Str.ofString "turn"
  · rw [if_pos h1, h1]
  · rw [if_neg h1]
    by_cases h2 : z = Str.ofString "line"
    · rw [if_pos h2, h2]
    · rw [if_neg h2, h z h1 h2]
section
variable {prog : Program} {w : World} {A : Around} {E : Value → Shared → Prop} {s : Shared} {h₀ : Heap} {L : Addr} {news : List (Addr × Obj)}
theorem len_made {a : Addr} {its : Array Value} {k n : Nat} {Q : Value → Shared → Prop} (N : News h₀ L s.heap news) (hm : (a, ({ cls := .type "list", data := .seq its k } : Obj)) ∈ news) (e : its.size = n) (hz : n < 1000000)
    (h : Q (.int (n : Int) (s.toks + 1)) { s with toks := s.toks + 1 + 1 }) : wpAny (model prog w) A (call (.builtin "len") [.ref a]) Q E s := by
  have hl : s.heap.IsList a its := ⟨_, (N _ hm).1, rfl, k, rfl⟩
  refine len_list hl (by rw [e]; omega) (by rw [e]; exact h)
end
theorem treeF_eq {Ls : List (List Nat)} {ps : List Nat} {p : Nat} (h : ps[0]? = some p) : treeF Ls ps = (decide (Ls.length + 1 = ps.length) && decide (sortL ((roundsF Ls [p] ps.length).map fun c => [c]) = sortL (ps.map fun c => [c]))) := by
  cases ps with
  | nil => cases h
  | cons a r => cases h; rfl
theorem plain_signs {l : List Nat} (h : Plain l) : ∀ x ∈ sortL (l.map fun c => [c]), Plain x := fun x hx => by
  obtain ⟨c, hc, rfl⟩ := List.mem_map.mp ((sortL_perm _).mem_iff.mp hx)
  intro d hd
  exact List.mem_singleton.mp hd ▸ h c hc
section
variable {prog : Program} {w : World} {A : Around} {E : Value → Shared → Prop} {s : Shared} {env : Env} {h₀ : Heap} {x : Str} {body : List Stmt} {Q : Flow → Shared → Prop}
abbrev seenM (m₀ : Str → Option Value) (u1 u2 : Option Value) : Str → Option Value := fun z => if z = Str.ofString "turn" then u1 else if z = Str.ofString "line" then u2 else m₀ z
theorem News.swap {h₀ h : Heap} {L : Addr} {a b : Addr × Obj} {r : List (Addr × Obj)} (N : News h₀ L h (a :: b :: r)) : News h₀ L h (b :: a :: r) := fun p hp => N p (by
  rcases List.mem_cons.mp hp with rfl | hp
  · exact .tail _ (.head _)
  · rcases List.mem_cons.mp hp with rfl | hp
    · exact .head _
    · exact .tail _ (.tail _ hp))
theorem iter_text_seen {C : Addr} {oc : Obj} {seen : List Nat} {ts : Tok} {rest : List (Addr × Obj)} {l : List Nat} {t : Tok} {m₀ : Str → Option Value} (P : Nat → List Nat → Prop)
    (hh : A.handled = none) (F : Fr h₀ env.locals s.heap m₀) (N : News h₀ env.locals s.heap ((C, oc) :: rest)) (hoc : oc.data = .cell (some (.str (S seen) ts))) (hP : P 0 seen)
    (turn : ∀ i c u I seen ts oc u1 u2 h tk oI, l[i]? = some c → P i seen → oc.data = .cell (some (.str (S seen) ts)) → (∀ p ∈ (C, oc) :: rest, p.1 ≠ I) → Fr h₀ env.locals h (fun y => if y = x then some (.str (S [c]) u) else seenM m₀ u1 u2 y) → News h₀ env.locals h ((I, oI) :: (C, oc) :: rest) →
      wpAny (model prog w) A (execs body env) (IEnd h₀ env.locals I oI (SeenJ C rest m₀ (P (i + 1))) { s with heap := h, toks := tk } Q) E { s with heap := h, toks := tk })
    (done : ∀ seen ts oc u1 u2 h tk, P l.length seen → oc.data = .cell (some (.str (S seen) ts)) → Fr h₀ env.locals h (seenM m₀ u1 u2) → News h₀ env.locals h ((C, oc) :: rest) → Q .next { s with heap := h, toks := tk }) :
    wpAny (model prog w) A (pyIter (.str (S l) t)) (fun it s₂ => LoopAtV prog w A h₀ env x body Q E it s₂) E s := by
  refine iter_text (fun i => SeenJ C rest m₀ (P i)) hh F N (SeenJ.intro hP hoc (fun _ _ _ => rfl)) ?_ ?_
  · rintro i c u I m₁ nx h tk oI hi ⟨seen, t9, oc, u1, u2, hp, hoc, rfl, rfl⟩ off F9 N9
    exact turn i c u I seen t9 oc u1 u2 h tk oI hi hp hoc off F9 N9
  · rintro m₁ nx h tk ⟨seen, t9, oc, u1, u2, hp, hoc, rfl, rfl⟩ F9 N9
    exact done seen t9 oc u1 u2 h tk hp hoc F9 N9
theorem iter_lines_seen {C : Addr} {oc : Obj} {seen : List Nat} {ts : Tok} {rest : List (Addr × Obj)} {a : Addr} {its : Array Value} {k : Nat} {Ls : List (List Nat)} {m₀ : Str → Option Value} (P : Nat → List Nat → Prop)
    (hh : A.handled = none) (hl : (a, ({ cls := .type "list", data := .seq its k } : Obj)) ∈ rest) (hI : StrsAre its.toList (Ls.map S)) (F : Fr h₀ env.locals s.heap m₀) (N : News h₀ env.locals s.heap ((C, oc) :: rest)) (hoc : oc.data = .cell (some (.str (S seen) ts))) (hP : P 0 seen)
    (turn : ∀ i l u I seen ts oc u1 u2 h tk oI, Ls[i]? = some l → P i seen → oc.data = .cell (some (.str (S seen) ts)) → (∀ p ∈ (C, oc) :: rest, p.1 ≠ I) → Fr h₀ env.locals h (fun y => if y = x then some (.str (S l) u) else seenM m₀ u1 u2 y) → News h₀ env.locals h ((I, oI) :: (C, oc) :: rest) →
      wpAny (model prog w) A (execs body env) (IEnd h₀ env.locals I oI (SeenJ C rest m₀ (P (i + 1))) { s with heap := h, toks := tk } Q) E { s with heap := h, toks := tk })
    (done : ∀ seen ts oc u1 u2 h tk, P Ls.length seen → oc.data = .cell (some (.str (S seen) ts)) → Fr h₀ env.locals h (seenM m₀ u1 u2) → News h₀ env.locals h ((C, oc) :: rest) → Q .next { s with heap := h, toks := tk }) :
    wpAny (model prog w) A (pyIter (.ref a)) (fun it s₂ => LoopAtV prog w A h₀ env x body Q E it s₂) E s := by
  refine iter_lines (fun i => SeenJ C rest m₀ (P i)) hh (fun i m nx hJ => by obtain ⟨_, _, _, _, _, _, _, rfl, _⟩ := hJ; exact .tail _ hl) hI F N (SeenJ.intro hP hoc (fun _ _ _ => rfl)) ?_ ?_
  · rintro i l u I m₁ nx h tk oI hi ⟨seen, t9, oc, u1, u2, hp, hoc, rfl, rfl⟩ off F9 N9
    exact turn i l u I seen t9 oc u1 u2 h tk oI hi hp hoc off F9 N9
  · rintro m₁ nx h tk ⟨seen, t9, oc, u1, u2, hp, hoc, rfl, rfl⟩ F9 N9
    exact done seen t9 oc u1 u2 h tk hp hoc F9 N9
end
theorem off_head {C : Addr} {oc oc' : Obj} {rest : List (Addr × Obj)} {I : Addr} (h : ∀ p ∈ (C, oc) :: rest, p.1 ≠ I) : ∀ p ∈ (C, oc') :: rest, p.1 ≠ I := fun p hp => by
  rcases List.mem_cons.mp hp with rfl | hp
  · exact h (C, oc) (.head _)
  · exact h p (.tail _ hp)
theorem take_fold {Ls : List (List Nat)} {j : Nat} {l : List Nat} {seen : List Nat} (h : Ls[j]? = some l) : (Ls.take (j + 1)).foldl joinF seen = joinF ((Ls.take j).foldl joinF seen) l := by
  rw [List.take_add_one, h]
  simp
theorem IEnd.seen {h₀ : Heap} {L I C : Addr} {oI oc oc₀ : Obj} {rest all : List (Addr × Obj)} {m₀ m' : Str → Option Value} {P : List Nat → Prop} {s₁ : Shared} {Q : Flow → Shared → Prop} {h' : Heap} {tk : Nat} {seen : List Nat} {t : Tok}
    (F : Fr h₀ L h' m') (hoc : oc.data = .cell (some (.str (S seen) t))) (N : News h₀ L h' all) (hI : (I, oI) ∈ all) (hC : (C, oc) ∈ all) (hr : ∀ p ∈ rest, p ∈ all) (off : ∀ p ∈ (C, oc₀) :: rest, p.1 ≠ I) (hP : P seen)
    (h : ∀ z, z ≠ Str.ofString "turn" → z ≠ Str.ofString "line" → m' z = m₀ z) : IEnd h₀ L I oI (SeenJ C rest m₀ P) s₁ Q .next { s₁ with heap := h', toks := tk } :=
  IEnd.intro F N hI (fun p hp => (List.mem_cons.mp hp).elim (fun e => e ▸ hC) (hr p)) (off_head off) (SeenJ.intro hP hoc h)
end Mine
namespace Mine
/-- the lines at a point -/
def atF (Ls : List (List Nat)) (c : Nat) : List (List Nat) := Ls.filter fun l => decide (0 < place l c)
def leavesF (Ls : List (List Nat)) (ps : List Nat) : List Nat := ps.filter fun d => decide ((atF Ls d).length = 1)
def wordF : Nat → List (List Nat) → List Nat → List Nat → Option (List Nat)
  | 0, Ls, ps, wd => if Ls.length ≤ 1 then (if treeF Ls ps then some wd else none) else none
  | n + 1, Ls, ps, wd => if Ls.length ≤ 1 then (if treeF Ls ps then some wd else none) else
    if treeF Ls ps then
      match leavesF Ls ps with
      | [] => none
      | leaf :: _ => match atF Ls leaf with
        | [] => none
        | line :: _ => wordF n (Ls.filter (· ≠ line)) (ps.filter (· ≠ leaf)) (wd ++ (line.drop (2 - place line leaf)).take 1)
    else none
structure WordI (out : List Nat) (n : Nat) (Ls : List (List Nat)) (ps wd : List Nat) : Prop where
  run : wordF n Ls ps wd = some out
  ll : Ls.length ≤ 5
  lp : ps.length ≤ 6
  pair : ∀ l ∈ Ls, ∃ a b, l = [a, b]
  p1 : ∀ l ∈ Ls, Plain l
  p2 : Plain ps
  lw : wd.length + n ≤ 40
theorem place_le : ∀ (l : List Nat) (c : Nat), place l c ≤ l.length
  | [], _ => Nat.le_refl _
  | a :: l, c => by
    have := place_le l c
    rw [place, List.length_cons]
    split
    · omega
    · split <;> omega
theorem WordI.tree {out : List Nat} {n : Nat} {Ls : List (List Nat)} {ps wd : List Nat} (h : WordI out n Ls ps wd) : treeF Ls ps = true := by
  have h1 := h.run
  cases ht : treeF Ls ps with
  | true => rfl
  | false =>
    cases n with
    | zero => rw [wordF, ht] at h1; split at h1 <;> cases h1
    | succ n => rw [wordF, ht] at h1; split at h1 <;> cases h1
theorem WordI.first {out : List Nat} {n : Nat} {Ls : List (List Nat)} {ps wd : List Nat} (h : WordI out n Ls ps wd) : ∃ p, ps[0]? = some p := by
  have := h.tree
  cases ps with
  | nil => cases this
  | cons p r => exact ⟨p, rfl⟩
theorem WordI.done {out : List Nat} {n : Nat} {Ls : List (List Nat)} {ps wd : List Nat} (h : WordI out n Ls ps wd) (hl : Ls.length ≤ 1) : wd = out := by
  have h1 := h.run
  cases n with
  | zero => rw [wordF, if_pos hl, h.tree] at h1; exact Option.some.inj h1
  | succ n => rw [wordF, if_pos hl, h.tree] at h1; exact Option.some.inj h1
theorem WordI.step {out : List Nat} {n : Nat} {Ls : List (List Nat)} {ps wd : List Nat} (h : WordI out n Ls ps wd) (hl : 1 < Ls.length) :
    ∃ m leaf r a b r', n = m + 1 ∧ leavesF Ls ps = leaf :: r ∧ atF Ls leaf = [a, b] :: r' ∧ 0 < place [a, b] leaf ∧ WordI out m (Ls.filter (· ≠ [a, b])) (ps.filter (· ≠ leaf)) (wd ++ ([a, b].drop (2 - place [a, b] leaf)).take 1) := by
  have h1 := h.run
  cases n with
  | zero => rw [wordF, if_neg (by omega)] at h1; cases h1
  | succ m =>
    rw [wordF, if_neg (by omega), h.tree] at h1
    simp only [if_true] at h1
    cases hq : leavesF Ls ps with
    | nil => rw [hq] at h1; cases h1
    | cons leaf r =>
      rw [hq] at h1
      dsimp only at h1
      cases hr : atF Ls leaf with
      | nil => rw [hr] at h1; cases h1
      | cons line r' =>
        rw [hr] at h1
        have hm : line ∈ atF Ls leaf := by rw [hr]; exact .head _
        obtain ⟨hm1, hm2⟩ := List.mem_filter.mp hm
        obtain ⟨a, b, rfl⟩ := h.pair line hm1
        refine ⟨m, leaf, r, a, b, r', rfl, rfl, hr, of_decide_eq_true hm2, h1, ?_, ?_, ?_, ?_, ?_, ?_⟩
        · exact Nat.le_trans (List.length_filter_le _ _) h.ll
        · exact Nat.le_trans (List.length_filter_le _ _) h.lp
        · exact fun l hl => h.pair l (List.mem_filter.mp hl).1
        · exact fun l hl => h.p1 l (List.mem_filter.mp hl).1
        · exact fun c hc => h.p2 c (List.mem_filter.mp hc).1
        · have := h.lw
          have h9 : ((List.drop (2 - place [a, b] leaf) [a, b]).take 1).length ≤ 1 := by rw [List.length_take]; exact Nat.min_le_left _ _
          rw [List.length_append]
          omega

section
variable {prog : Program} {w : World} {A : Around} {E : Value → Shared → Prop} {s : Shared} {h₀ : Heap} {L : Addr} {env : Env} {Q : Flow → Shared → Prop}
abbrev wordM (m₀ : Str → Option Value) (wd ps : List Nat) (tw tp : Tok) (u : Option Value) : Str → Option Value :=
  fun z => if z = Str.ofString "word" then some (.str (S wd) tw) else if z = Str.ofString "points" then some (.str (S ps) tp) else if z = Str.ofString "leaf" then u else m₀ z
/-- the while's state: the lines' cell, the line's cell, the list -/
def WordJ (h₀ : Heap) (L : Addr) (m₀ : Str → Option Value) (C1 C2 : Addr) (news : List (Addr × Obj)) (out : List Nat) (n : Nat) (m : Str → Option Value) (nx : List (Addr × Obj)) : Prop :=
  ∃ (Ls : List (List Nat)) (ps wd : List Nat) (tw tp : Tok) (u v : Option Value) (o1 o2 : Obj) (a : Addr) (its : List Value) (k : Nat), WordI out n Ls ps wd ∧ m = wordM m₀ wd ps tw tp u ∧ nx = (C1, o1) :: (C2, o2) :: (a, W.listOf its.toArray k) :: news ∧
    o1.data = .cell (some (.ref a)) ∧ o2.data = .cell v ∧ StrsAre its (Ls.map S) ∧ (@Ne Nat a C1) ∧ (@Ne Nat a C2)
def WordEnd (h₀ : Heap) (L : Addr) (s : Shared) (m₀ : Str → Option Value) (C1 C2 : Addr) (news : List (Addr × Obj)) (out : List Nat) (Q : Flow → Shared → Prop) (n : Nat) (f : Flow) (s₃ : Shared) : Prop :=
  match f with
  | .next | .cont => ∃ h' tk m nx n', s₃ = { s with heap := h', toks := tk } ∧ Fr h₀ L h' m ∧ News h₀ L h' nx ∧ n' < n ∧ WordJ h₀ L m₀ C1 C2 news out n' m nx
  | .brk => Q .next s₃
  | .ret v => Q (.ret v) s₃
theorem WordEnd.intro {m₀ m' : Str → Option Value} {C1 C2 : Addr} {news all : List (Addr × Obj)} {out : List Nat} {n n' : Nat} {Ls : List (List Nat)} {ps wd : List Nat} {tw tp : Tok} {v : Str} {tv : Tok} {o1 o2 : Obj} {a : Addr} {its : List Value} {k : Nat} {h' : Heap} {tk : Nat}
    (F : Fr h₀ L h' m') (N : News h₀ L h' all) (d1 : o1.data = .cell (some (.ref a))) (d2 : o2.data = .cell (some (.str v tv))) (hI : StrsAre its (Ls.map S)) (c1 : (C1, o1) ∈ all) (c2 : (C2, o2) ∈ all) (ca : (a, W.listOf its.toArray k) ∈ all) (hn : ∀ p ∈ news, p ∈ all) (n1 : @Ne Nat a C1) (n2 : @Ne Nat a C2)
    (e1 : m' (Str.ofString "word") = some (.str (S wd) tw)) (e2 : m' (Str.ofString "points") = some (.str (S ps) tp)) (e3 : ∀ z, z ≠ Str.ofString "word" → z ≠ Str.ofString "points" → z ≠ Str.ofString "leaf" → m' z = m₀ z) (hJ : WordI out n' Ls ps wd) (hlt : n' < n) :
    WordEnd h₀ L s m₀ C1 C2 news out Q n .next { s with heap := h', toks := tk } := by
  refine ⟨h', tk, m', (C1, o1) :: (C2, o2) :: (a, W.listOf its.toArray k) :: news, n', rfl, F, fun p hp => N p ?_, hlt, Ls, ps, wd, tw, tp, m' (Str.ofString "leaf"), some (.str v tv), o1, o2, a, its, k, hJ, ?_, rfl, d1, d2, hI, n1, n2⟩
  · rcases List.mem_cons.mp hp with rfl | hp
    · exact c1
    · rcases List.mem_cons.mp hp with rfl | hp
      · exact c2
      · rcases List.mem_cons.mp hp with rfl | hp
        · exact ca
        · exact hn p hp
  · funext z
    by_cases h1 : z = Str.ofString "word"
    · rw [wordM, if_pos h1, h1, e1]
    · rw [wordM, if_neg h1]
      by_cases h2 : z = Str.ofString "points"
      · rw [if_pos h2, h2, e2]
      · rw [if_neg h2]
        by_cases h3 : z = Str.ofString "leaf"
        · rw [if_pos h3, h3]
        · rw [if_neg h3, e3 z h1 h2 h3]
theorem while_word {test : Expr} {body : List Stmt} {pos : Pos} {m₀ : Str → Option Value} {C1 C2 : Addr} {news : List (Addr × Obj)} {out : List Nat} {n : Nat} {Ls : List (List Nat)} {ps : List Nat} {v : Option Value} {o1 o2 : Obj} {a : Addr} {its : List Value} {k : Nat}
    (F : Fr h₀ L s.heap m₀) (N : News h₀ L s.heap ((C1, o1) :: (C2, o2) :: (a, W.listOf its.toArray k) :: news)) (d1 : o1.data = .cell (some (.ref a))) (d2 : o2.data = .cell v) (hI : StrsAre its (Ls.map S)) (n1 : @Ne Nat a C1) (n2 : @Ne Nat a C2)
    (e1 : ∃ t, m₀ (Str.ofString "word") = some (.str (S []) t)) (e2 : ∃ t, m₀ (Str.ofString "points") = some (.str (S ps) t)) (hJ : WordI out n Ls ps [])
    (turn : ∀ (n : Nat) (Ls : List (List Nat)) (ps wd : List Nat) (tw tp : Tok) (u v : Option Value) (o1 o2 : Obj) (a : Addr) (its : List Value) (k : Nat) (h : Heap) (tk : Nat), WordI out n Ls ps wd → Fr h₀ L h (wordM m₀ wd ps tw tp u) → News h₀ L h ((C1, o1) :: (C2, o2) :: (a, W.listOf its.toArray k) :: news) →
      o1.data = .cell (some (.ref a)) → o2.data = .cell v → StrsAre its (Ls.map S) → (@Ne Nat a C1) → (@Ne Nat a C2) →
      wpAny (model prog w) A (isTrue test env (eval test env)) (fun b s₂ => if b = true then wpAny (model prog w) A (execs body env) (WordEnd h₀ L s m₀ C1 C2 news out Q n) E s₂ else Q .next s₂) E { s with heap := h, toks := tk })
    (hE : PassesOwn (model prog w) A env E := by passes_own) :
    wpAny (model prog w) A (exec (.While test body [] pos) env) Q E s := by
  obtain ⟨t1, e1⟩ := e1
  obtain ⟨t2, e2⟩ := e2
  refine While_inv2 (fun n m nx => WordJ h₀ L m₀ C1 C2 news out n m nx) F N ⟨Ls, ps, [], t1, t2, m₀ (Str.ofString "leaf"), v, o1, o2, a, its, k, hJ, ?_, rfl, d1, d2, hI, n1, n2⟩ ?_ hE
  · funext z
    by_cases h1 : z = Str.ofString "word"
    · rw [wordM, if_pos h1, h1, e1]
    · rw [wordM, if_neg h1]
      by_cases h2 : z = Str.ofString "points"
      · rw [if_pos h2, h2, e2]
      · rw [if_neg h2]
        by_cases h3 : z = Str.ofString "leaf"
        · rw [if_pos h3, h3]
        · rw [if_neg h3]
  · rintro n m₁ nx h tk F₁ N₁ ⟨Ls, ps, wd, tw, tp, u, v, o1, o2, a, its, k, hJ, rfl, rfl, d1, d2, hI, n1, n2⟩
    refine wpAny_mono (turn n Ls ps wd tw tp u v o1 o2 a its k h tk hJ F₁ N₁ d1 d2 hI n1 n2) (fun b s₂ p => ?_) fun _ _ x => x
    cases b with
    | false => simpa using p
    | true =>
      simp only [if_true] at p ⊢
      refine wpAny_mono p (fun f s₃ q => ?_) fun _ _ x => x
      cases f with
      | ret v => exact q
      | brk => exact q
      | next =>
        obtain ⟨h', tk, m, nx, n', rfl, F', N', hlt, hW⟩ := q
        exact ⟨h', tk, m, nx, n', rfl, F', N', hlt, hW⟩
      | cont =>
        obtain ⟨h', tk, m, nx, n', rfl, F', N', hlt, hW⟩ := q
        exact ⟨h', tk, m, nx, n', rfl, F', N', hlt, hW⟩
end
theorem News.dup {h₀ h : Heap} {L : Addr} {a b x : Addr × Obj} {r : List (Addr × Obj)} (N : News h₀ L h (a :: b :: r)) (hx : x ∈ r) : News h₀ L h (a :: b :: x :: r) := fun p hp => N p (by
  rcases List.mem_cons.mp hp with rfl | hp
  · exact .head _
  · rcases List.mem_cons.mp hp with rfl | hp
    · exact .tail _ (.head _)
    · rcases List.mem_cons.mp hp with rfl | hp
      · exact .tail _ (.tail _ hx)
      · exact .tail _ (.tail _ hp))
end Mine
namespace Mine
theorem join_flat (Ls : List (List Nat)) : Txt.join (S []) (Ls.map S) = S Ls.flatten := by
  show Builtin.Str.glued _ _ = _
  rw [StrLaws.glued_eq_join]
  induction Ls with
  | nil => rfl
  | cons a r ih =>
    cases r with
    | nil => simp [Str.join]
    | cons b r =>
      show S a ++ S [] ++ Str.join (S []) ((b :: r).map S) = _
      rw [ih, append_S, append_S]
      simp
section
variable {prog : Program} {w : World} {A : Around} {E : Value → Shared → Prop} {s : Shared} {h₀ : Heap} {L : Addr} {m : Str → Option Value} {env : Env}
theorem join_lines {D : Addr} {its : List Value} {t : Tok} {Q : Value → Shared → Prop} (Ls : List (List Nat)) (hl : s.heap.IsList D its.toArray) (hi : StrsAre its (Ls.map S)) (hsz : Ls.flatten.length ≤ 1000)
    (h : ∀ t' k, Q (.str (S Ls.flatten) t') { s with toks := k }) : wpAny (model prog w) A (call (.builtin "str.join") [.str (Str.ofString "") t, .ref D]) Q E s := by
  refine join_list (ys := Ls.map S) hl hi ?_ fun t' k => ?_
  · have e : ((Ls.map S).map (·.length)).sum = Ls.flatten.length := by
      rw [List.map_map, List.length_flatten]
      exact congrArg List.sum (List.map_congr_left fun l _ => length_S l)
    rw [e, List.length_map, empty_S, length_S, List.length_nil]
    omega
  · rw [empty_S, join_flat]; exact h t' k

/-- an element's end -/
def MEnd (h₀ : Heap) (L : Addr) (m : Str → Option Value) (s₁ : Shared) (news : List (Addr × Obj)) (x : List Nat) (v : Value) (s₂ : Shared) : Prop := (∃ t, v = .str (S x) t) ∧ Stay h₀ L m s₁ news s₂
theorem MEnd.intro {s₁ : Shared} {news all : List (Addr × Obj)} {x : List Nat} {t : Tok} {h' : Heap} {tk : Nat} (F : Fr h₀ L h' m) (N : News h₀ L h' all) (sub : ∀ p ∈ news, p ∈ all) :
    MEnd h₀ L m s₁ news x (.str (S x) t) { s₁ with heap := h', toks := tk } := ⟨⟨t, rfl⟩, h', tk, rfl, F, fun p hp => N p (sub p hp)⟩
theorem map_rest {elt : Expr} {x : Str} {scope : Scope} {cl : List (Str × Addr)} {S9 : List (Addr × Obj) → Prop} {P : Nat → Value → Prop} {Fin : List Value → List (Addr × Obj) → Prop} {news : List (Addr × Obj)} {Ls : List (List Nat)} {g : List Nat → List Nat}
    (hP : ∀ i v, P i v → ∃ l t, Ls[i]? = some l ∧ v = .str (S l) t) (hS : S9 news)
    (turn : ∀ (l : List Nat) (ty : Tok) I oI C oC D oD m₂ h tk (E' : Value → Shared → Prop), l ∈ Ls → NsObj oC m₂ → m₂ x = some (.str (S l) ty) → Fr h₀ L h m → News h₀ L h ((I, oI) :: (C, oC) :: (D, oD) :: news) → ((@Ne Nat I C) ∧ (@Ne Nat I D) ∧ (@Ne Nat C D)) →
      wpAny (model prog w) A (eval elt (compEnvC scope cl C env)) (MEnd h₀ L m { s with heap := h, toks := tk } ((I, oI) :: (C, oC) :: (D, oD) :: news) (g l)) E' { s with heap := h, toks := tk })
    (fin : ∀ ys, StrsAre ys ((Ls.map g).map S) → Fin ys news) :
    ∀ k i ys, k + i = Ls.length → StrsAre ys (((Ls.take i).map g).map S) → LCg.CompRest prog w A h₀ L m env elt x scope cl s S9 P Fin k i ys news := by
  intro k
  induction k with
  | zero =>
    intro i ys hki hys
    have : Ls.take i = Ls := List.take_of_length_le (by omega)
    rw [this] at hys
    exact fin ys hys
  | succ k ih =>
    intro i ys hki hys
    refine LCg.CompRest.succ fun v I oI C oC D m₂ h tk E' hPv hC hx F N off ne => ?_
    obtain ⟨l, t, hy, rfl⟩ := hP i v hPv
    have htake : Ls.take (i + 1) = Ls.take i ++ [l] := by rw [List.take_add_one, hy]; rfl
    refine wpAny_mono (turn l t I oI C oC D (lst ys) m₂ h tk E' (List.mem_of_getElem? hy) hC hx F N ne) (fun v s' hs' => ?_) fun _ _ e => e
    obtain ⟨⟨t', rfl⟩, h', tk', rfl, F', N'⟩ := hs'
    refine ⟨h', tk', news, rfl, F', N', off, hS, ih (i + 1) _ (by omega) ?_⟩
    rw [htake, List.map_append, List.map_append]
    exact StrsAre.append' hys (.cons _ t' .nil)
theorem map_lines {elt : Expr} {x : Str} {scope : Scope} {cl : List (Str × Addr)} {Q : Value → Shared → Prop} {ax : Addr} {its : Array Value} {k : Nat} {s₁ : Shared} {news : List (Addr × Obj)} (Ls : List (List Nat)) (g : List Nat → List Nat)
    (hh : A.handled = none) (F : Fr h₀ L s₁.heap m) (N : News h₀ L s₁.heap news) (hm : (ax, ({ cls := .type "list", data := .seq its k } : Obj)) ∈ news) (hI : StrsAre its.toList (Ls.map S)) (hsz : Ls.length ≤ 1000)
    (turn : ∀ (l : List Nat) (ty : Tok) I oI C oC D oD m₂ g9 h tk (E' : Value → Shared → Prop), l ∈ Ls → NsObj oC m₂ → m₂ x = some (.str (S l) ty) → Fr h₀ L h m → News h₀ L h ((I, oI) :: (C, oC) :: (D, oD) :: news) → ((@Ne Nat I C) ∧ (@Ne Nat I D) ∧ (@Ne Nat C D)) →
      wpAny (model prog w) A (eval elt (compEnvC scope cl C env)) (MEnd h₀ L m { { s₁ with heap := g9 } with heap := h, toks := tk } ((I, oI) :: (C, oC) :: (D, oD) :: news) (g l)) E' { { s₁ with heap := g9 } with heap := h, toks := tk })
    (fin : ∀ D h tk ys, StrsAre ys ((Ls.map g).map S) → Fr h₀ L h m → News h₀ L h ((D, lst ys) :: news) → Off1 D news → Q (.ref D) { s₁ with heap := h, toks := tk }) :
    LCg.CompSrc prog w A h₀ L m env elt x scope cl (fun s₂ => LCg.FinE h₀ L m s₂ Q) (.ref ax) s₁ := by
  have hlen : its.size = Ls.length := by have := StrsAre.length hI; simpa using this
  refine LCg.CompSrc.ledger hh F N hm (by rw [hlen, sizeLine_eq]; omega) fun g9 => ?_
  rw [hlen]
  refine map_rest (s := { s₁ with heap := g9 }) (Ls := Ls) (g := g) (fun i v e => ?_) (.inr ⟨_, hm, rfl, _, rfl⟩) (fun l ty I oI C oC D oD m₂ h tk E' => turn l ty I oI C oC D oD m₂ g9 h tk E') (fun ys hys D h tk F' N' o => fin D h tk ys hys F' N' o) _ _ _ (by omega) (by simpa using StrsAre.nil)
  have e' : its.toList[i]? = some v := by simpa using e
  obtain ⟨y, t, rfl, hy⟩ := StrsAre.item hI i v e'
  rw [List.getElem?_map] at hy
  cases hL : Ls[i]? with
  | none => rw [hL] at hy; cases hy
  | some l => rw [hL] at hy; cases hy; exact ⟨l, t, rfl, rfl⟩
end
end Mine
namespace Mine
theorem joinF_prefix (seen l : List Nat) : ∃ t, joinF seen l = seen ++ t := by
  unfold joinF
  split
  · split <;> split
    · exact ⟨[], (List.append_nil _).symm⟩
    · exact ⟨_, rfl⟩
    · exact ⟨_, rfl⟩
    · exact ⟨[], (List.append_nil _).symm⟩
  · exact ⟨[], (List.append_nil _).symm⟩
theorem roundF_prefix (Ls : List (List Nat)) : ∀ seen : List Nat, ∃ t, roundF Ls seen = seen ++ t := by
  unfold roundF
  induction Ls with
  | nil => intro seen; exact ⟨[], (List.append_nil _).symm⟩
  | cons l r ih =>
    intro seen
    obtain ⟨t, ht⟩ := joinF_prefix seen l
    obtain ⟨u, hu⟩ := ih (joinF seen l)
    exact ⟨t ++ u, by rw [List.foldl_cons, hu, ht, List.append_assoc]⟩
theorem roundF_stays {Ls : List (List Nat)} {seen : List Nat} (h : (roundF Ls seen).length = seen.length) : roundF Ls seen = seen := by
  obtain ⟨t, ht⟩ := roundF_prefix Ls seen
  rw [ht, List.length_append] at h
  have : t = [] := List.length_eq_zero_iff.mp (by omega)
  rw [ht, this, List.append_nil]
theorem roundsF_stays {Ls : List (List Nat)} {seen : List Nat} (h : roundF Ls seen = seen) : ∀ n, roundsF Ls seen n = seen
  | 0 => rfl
  | n + 1 => by rw [roundsF, roundsF_stays h n, h]
theorem roundsF_first (Ls : List (List Nat)) (seen : List Nat) : ∀ n, roundsF Ls seen (n + 1) = roundsF Ls (roundF Ls seen) n
  | 0 => rfl
  | n + 1 => by rw [roundsF, roundsF_first Ls seen n]; rfl
def closeF (Ls : List (List Nat)) : Nat → List Nat → List Nat
  | 0, s => s
  | n + 1, s => let s' := roundF Ls s; if s'.length = s.length then s else closeF Ls n s'
theorem closeF_eq (Ls : List (List Nat)) : ∀ n s, closeF Ls n s = roundsF Ls s n
  | 0, _ => rfl
  | n + 1, s => by
    rw [closeF]
    split
    · rename_i h
      rw [roundsF_stays (roundF_stays h)]
    · rw [closeF_eq Ls n, roundsF_first]
def treeQ (Ls : List (List Nat)) (ps : List Nat) : Bool :=
  match ps with
  | [] => false
  | p :: _ => decide (Ls.length + 1 = ps.length) && (closeF Ls ps.length [p]).isPerm ps
theorem sortL_perm_eq {a b : List (List Nat)} (h : a.Perm b) : sortL a = sortL b :=
  List.Perm.eq_of_pairwise (le := fun x y => x ≤ y) (fun a b _ _ h1 h2 => List.le_antisymm h1 h2) (sortL_rises a) (sortL_rises b) (((sortL_perm a).trans h).trans (sortL_perm b).symm)
theorem treeF_of {Ls : List (List Nat)} {ps : List Nat} (h : treeQ Ls ps = true) : treeF Ls ps = true := by
  cases ps with
  | nil => cases h
  | cons p r =>
    rw [treeQ, Bool.and_eq_true] at h
    rw [treeF, h.1, Bool.true_and]
    have := List.isPerm_iff.mp h.2
    rw [closeF_eq] at this
    exact decide_eq_true (sortL_perm_eq (this.map _))
def wordQ : Nat → List (List Nat) → List Nat → List Nat → Option (List Nat)
  | 0, Ls, ps, wd => if Ls.length ≤ 1 then (if treeQ Ls ps then some wd else none) else none
  | n + 1, Ls, ps, wd => if Ls.length ≤ 1 then (if treeQ Ls ps then some wd else none) else
    if treeQ Ls ps then
      match leavesF Ls ps with
      | [] => none
      | leaf :: _ => match atF Ls leaf with
        | [] => none
        | line :: _ => wordQ n (Ls.filter (· ≠ line)) (ps.filter (· ≠ leaf)) (wd ++ (line.drop (2 - place line leaf)).take 1)
    else none
theorem wordF_of {out : List Nat} : ∀ n Ls ps wd, wordQ n Ls ps wd = some out → wordF n Ls ps wd = some out
  | 0, Ls, ps, wd, h => by
    rw [wordQ] at h
    rw [wordF]
    split at h
    · rename_i h1
      rw [if_pos h1]
      split at h
      · rename_i h2
        rw [treeF_of h2]; exact h
      · cases h
    · cases h
  | n + 1, Ls, ps, wd, h => by
    rw [wordQ] at h
    rw [wordF]
    split at h
    · rename_i h1
      rw [if_pos h1]
      split at h
      · rename_i h2
        rw [treeF_of h2]; exact h
      · cases h
    · rename_i h1
      rw [if_neg h1]
      split at h
      · rename_i h2
        rw [treeF_of h2]
        simp only [if_true]
        cases hq : leavesF Ls ps with
        | nil => rw [hq] at h; cases h
        | cons leaf r =>
          rw [hq] at h
          dsimp only at h ⊢
          cases hr : atF Ls leaf with
          | nil => rw [hr] at h; cases h
          | cons line r' =>
            rw [hr] at h
            exact wordF_of n _ _ _ h
      · cases h
/-- what is asked of a word: its lines are pairs, and tell the word again -/
def chk (ps ws : List Nat) : Bool :=
  okL ps ws && (let Ls := linesF ps ws
    decide (Ls.length ≤ 5) && Ls.all (fun l => l.length == 2 && l.all fun c => decide (c < 128)) && decide (wordQ Ls.length Ls ps [] = some ws))
def deg (ps ws : List Nat) : Bool := let Ls := linesF ps ws
  ps.all fun c => (atF Ls c).length == 1 + ws.count c
end Mine
namespace Mine
/-- a call that turns one object of the caller's ledger -/
def SpecB (w : World) (f : Addr) (dd uu : Nat) (need : List (Addr × Obj)) (vs : List Value) (b : Addr) (o : Obj) (R : Obj → Value → Prop) : Prop :=
  ∀ (mean : ExcName → Option Value) (mg mb : Str → Option Value) (dp un : Nat) (gd : Option (List Code)) (cn : Str) (cs : Scope) (a : Addr) (ccd : Value) (cl : List (Str × Addr)) (outer : List Env) (A₀ : Around) (base h₀ : Heap) (L : Addr) (m : Str → Option Value)
    (rest : List (Addr × Obj)) (s : Shared) (Q E : Value → Shared → Prop),
    Below A₀ base outer h₀ → Fr h₀ L s.heap m → (hd.heap_39 w.params).In h₀ → News h₀ L s.heap ((b, o) :: rest) → (∀ q ∈ rest, q.1 ≠ b) → Top hd.view_39 (looseW hd.view_39 [Str.ofString "BasicError"]) mean mg mb h₀ → cs.kind = .function →
    dp + dd < recursionLimit → un + uu < cLine → (∀ q ∈ need, q ∈ rest) →
    (∀ r o' h' tk', Fr h₀ L h' m → News h₀ L h' ((b, o') :: rest) → R o' r → Q r { s with heap := h', toks := tk' }) →
    wpAny (model PySem.Challenge.rw_xm0047_01.row.prog w) (ktrTop dp un gd cn cs L a ccd cl outer) (call (.ref f) vs) Q E s
section
variable {prog : Program} {w : World} {A : Around} {E : Value → Shared → Prop} {s : Shared} {h₀ : Heap} {L D : Addr} {m : Str → Option Value} {news news' : List (Addr × Obj)} {n : Nat} {x y v : Value} {t : Tok}
theorem set_one {Q : Unit → Shared → Prop} (F : Fr h₀ L s.heap m) (Nw : News h₀ L s.heap news) (U : Upd D (W.listOf #[x, y] n) (W.listOf #[x, v] n) news news')
    (h : ∀ h', Fr h₀ L h' m → News h₀ L h' news' → Q () { s with heap := h' }) : wpAny (model prog w) A (setItem (.ref D) (.int 1 t) v) Q E s := by
  obtain ⟨pre, post, rfl, rfl, a, b⟩ := U.split
  have z := Nw (D, W.listOf #[x, y] n) (List.mem_append.mpr (.inr (.head _)))
  refine ki_setAt z.1 (by omega) (by omega) (by simp) (h _ (F.change (Heap.SameBut.update ..) z.2.1 z.2.2) (ki_turn _ Nw a b ?_ ?_))
  · rfl
  · simp
end
end Mine
local macro_rules | `(tactic| cell_enter) => `(tactic| (refine' code_defC ?k1 ?k2 ?k3 ?k4 ?k5 ?kA ?kF ?kK ?k6 ?k7 ?k8 ?k9 ?kB ?kD ?_ ?c2 ?c3 ?c4; (case kA => exact rfl); (case kF => exact rfl); (case kK => assumption); (case k1 => k_asm); (case k2 => k_asm); (case k3 => k_asm); (case k4 => k_asm); (case k5 => k_asm); (case k6 => k_is); (case k7 => k_is); (case k8 => ktr_room); (case k9 => exact BindsTo.of_eq rfl); (case kB => exact rfl); (case kD => decide +kernel); (case c2 => exact rfl); (case c3 => exact rfl); (case c4 => exact rfl); k_whole; intro g' L' h' tk' cells' FG' F' N' Y' B' X' T' l1; (have lS1 := allLt_of (fun p hp => Nat.lt_succ_of_lt (l1 p hp))); (have lS2 := allLt_of (fun p hp => Nat.lt_succ_of_lt (Nat.lt_succ_of_lt (l1 p hp)))); (have lS3 := allLt_of (fun p hp => Nat.lt_succ_of_lt (Nat.lt_succ_of_lt (Nat.lt_succ_of_lt (l1 p hp))))); (try k_lt l1); k_cells Y'; (try simp only [List.cons_append, List.nil_append] at N'); (try dsimp only); (try k_lift B'); (try k_fold)))
local macro_rules | `(tactic| walk_at "eval ListComp") => `(tactic| (k_here; lct_look; k_dflt (refine Mine.ListComp_F (F₀ := by k_asm) (by with_unfolding_all rfl) (by decide) (by rfl) (by decide) (by rfl) (by decide) ?_)))
local macro_rules | `(tactic| tb_rel) => `(tactic| (refine Mine.FEnd.intro (by k_asm) (by assumption) (by kstt_sub) ?_))
local macro_rules | `(tactic| k_same2) => `(tactic| ((rename Mine.Ret _ _ _ _ _ _ _ => hr9); (refine hr9 _ [] _ _ (by k_asm) (by first | k_asm | (refine cb_drop (by assumption) ?_; kstt_sub)) (by (intro _ _ _ h9; exact absurd h9 (by simp))) ⟨rfl, ?_⟩)))
local macro_rules | `(tactic| ktr_call $x:term $_:term) => `(tactic| (
  first | (refine' Mine.Spec.use $x ?k1 ?k2 ?k3 ?k4 ?k5 ?kK ?kd ?ku ?kn ?_) | (k_dflt (refine' Mine.Spec.use $x ?k1 ?k2 ?k3 ?k4 ?k5 ?kK ?kd ?ku ?kn ?_))
  (case k2 => first | k_asm | k_dflt assumption)
  (case k4 => first | k_asm | k_dflt assumption)
  (case k3 => first | k_asm | k_dflt assumption)
  (case k5 => first | k_asm | k_dflt assumption)
  (case k1 => first | k_asm | k_dflt assumption)
  (case kK => first | exact rfl | assumption)
  (case kd => first | ktr_room | k_dflt ktr_room)
  (case ku => first | ktr_units | k_dflt ktr_units)
  (case kn => first | exact List.forall_mem_nil _ | (refine List.forall_mem_cons.mpr ⟨by k_mem, ?_⟩; exact List.forall_mem_nil _))
  intro r9 tl9 h9 tk9 F9 N9 hl9 hR9
  (first
    | (obtain ⟨e9, t9, e9'⟩ := hR9; subst e9; subst e9'; clear hl9; (try simp only [List.nil_append] at N9))
    | (obtain ⟨D9, ys9, e9, e9', hy9⟩ := hR9; subst e9; subst e9'; (try simp only [List.cons_append, List.nil_append] at N9); (have l9 := Mine.off1_of hl9 (List.mem_singleton.mpr rfl)); clear hl9; (try simp only [PyProof.Rows.LCg.Off1, and_true] at l9))
    | (obtain ⟨D9, ys9, n9, e9, e9', hy9⟩ := hR9; subst e9; subst e9'; (try simp only [List.cons_append, List.nil_append] at N9); (have l9 := Mine.off1_of hl9 (List.mem_singleton.mpr rfl)); clear hl9; (try simp only [PyProof.Rows.LCg.Off1, and_true] at l9))
    | (obtain ⟨D9, t9, ys9, n9, e9, e9', hy9⟩ := hR9; subst e9; subst e9'; (try simp only [List.cons_append, List.nil_append] at N9); (have l9 := Mine.off1_of hl9 (List.mem_singleton.mpr rfl)); clear hl9; (try simp only [PyProof.Rows.LCg.Off1, and_true] at l9)))
  (try dsimp only)
  (try k_fold)))
local macro_rules | `(tactic| walk_at "subscriptTail") => `(tactic| (k_here; (with_reducible show wpAny _ _ (subscriptTail _ _ (Value.ref _) (Value.int _ _)) _ _ _); (with_unfolding_all refine' Mine.item_mem ?k1 ?k2 ?k3 ?k4 ?_ ?k6; (case k1 => is_list); (case k2 => decide); (case k3 => decide); (case k4 => rfl); (case k6 => with_unfolding_all rfl); k_whole)))
local macro_rules | `(tactic| news_mem) => `(tactic| k_mem)
local macro_rules | `(tactic| k_mem) => `(tactic| first | ktr_member | exact List.mem_cons_self | (refine List.mem_cons_of_mem _ ?_; k_mem) | (refine List.mem_append_left _ ?_; k_mem) | (refine List.mem_append_right _ ?_; k_mem))
local macro_rules | `(tactic| walk_at "last exec While") => `(tactic| (k_here; (refine Mine.Parked.go ?_)))
local macro_rules | `(tactic| walk_at "exec While") => `(tactic| (k_here; (refine Mine.Parked.go ?_)))
local macro_rules | `(tactic| walk_at "exec While Compare") => `(tactic| (k_here; (refine Mine.Parked.go ?_)))
local macro_rules | `(tactic| walk_at "exec While Compare cons nil") => `(tactic| (k_here; (refine Mine.Parked.go ?_)))
local macro_rules | `(tactic| walk_at "binaryOp Add ref ref") => `(tactic| (k_here; (with_reducible show wpAny _ _ (binaryOp _ (Value.ref _) (Value.ref _)) _ _ _); k_dflt (refine' kmk_add_lit ?F ?N ?a ?b ?e ?_ ?z; (case F => k_asm); (case N => k_asm); (case a => is_list); (case b => is_list); (case e => exact rfl); (case z => k_extra "addsize")); intro D' h' F' N' l1; (try k_lt l1)))
local macro_rules | `(tactic| walk_at "call builtin:list.append") => `(tactic| (k_here; (with_reducible show wpAny _ _ (call (Value.builtin _) [Value.ref _, _]) _ _ _); k_dflt (refine' append_K ?k1 ?k2 ?k3 ?_ ?z; (case k1 => k_asm); (case k2 => k_asm); (case k3 => k_upd); (case z => k_extra "addsize"); k_whole); intro h' F' N'; (try k_sweep)))
local macro_rules | `(tactic| walk_at "storeName") => `(tactic| (k_here; k_dflt (refine' Mine.store_cell ?F ?N ?c ?U ?d ?_ ?a ?b; (case a => rfl); (case b => rfl); (case F => k_asm); (case N => k_asm); (case c => rfl); (case U => k_updF); (case d => k_asm); k_whole); intro h' o' F' N' d'; (try dsimp only at N'); (try k_sweep)))
local macro_rules | `(tactic| walk_at "exec For Name Name cons nil") => `(tactic| (k_here; k_extra "park for"))
local macro_rules | `(tactic| walk_at "exec For Name Constant cons nil") => `(tactic| (k_here; k_extra "park for"))
local macro_rules | `(tactic| walk_at "pyIter str") => `(tactic| (k_here; k_extra "park text"))
local macro_rules | `(tactic| walk_at "pyIter ref") => `(tactic| (k_here; k_extra "park ref"))
local macro_rules | `(tactic| walk_at "subscriptTail") => `(tactic| (k_here; (with_reducible show wpAny _ _ (subscriptTail _ _ (Value.str _ _) (Value.int _ _)) _ _ _); (refine' Mine.item_sign ?k1 ?k2 ?k3 ?_ ?k4 ?k5; (case k1 => decide); (case k2 => decide); (case k3 => first | assumption | with_unfolding_all rfl); (case k4 => with_unfolding_all rfl); (case k5 => (intro _; with_unfolding_all rfl)); k_whole)))
local macro_rules | `(tactic| walk_at "subscriptTail Name Constant str int") => `(tactic| (k_here; (with_reducible show wpAny _ _ (subscriptTail _ _ (Value.str _ _) (Value.int _ _)) _ _ _); (refine' Mine.item_sign ?k1 ?k2 ?k3 ?_ ?k4 ?k5; (case k1 => decide); (case k2 => decide); (case k3 => first | assumption | with_unfolding_all rfl); (case k4 => with_unfolding_all rfl); (case k5 => (intro _; with_unfolding_all rfl)); k_whole)))
local macro_rules | `(tactic| walk_at "compareOp In str str") => `(tactic| (k_here; (with_reducible show wpAny _ _ (compareOp CmpOp.In (Value.str _ _) (Value.str _ _)) _ _ _); (refine Mine.in_sign ?_)))
local macro_rules | `(tactic| walk_at "call builtin:len") => `(tactic| (k_here; (with_reducible show wpAny _ _ (call (Value.builtin "len") [Value.ref _]) _ _ _); (refine' Mine.len_made ?k1 ?k2 ?k3 ?k4 ?_; (case k1 => k_asm); (case k2 => k_mem); (case k3 => k_extra "len list"); (case k4 => k_extra "len size"); k_whole)))
local macro_rules | `(tactic| walk_at "call builtin:sorted") => `(tactic| (k_here; (with_reducible show wpAny _ _ (call (Value.builtin "sorted") [Value.str _ _]) _ _ _); (refine' Mine.sorted_text ?k1 ?k2 ?k3 ?k4 ?_; (case k1 => rfl); (case k2 => k_asm); (case k3 => k_asm); (case k4 => k_extra "sort size"); k_whole); intro D' h' ys' n' tk' F' N' l1 hy'; (try k_lt l1)))
local macro_rules | `(tactic| walk_at "call builtin:sorted") => `(tactic| (k_here; (with_reducible show wpAny _ _ (call (Value.builtin "sorted") [Value.ref _]) _ _ _); (refine' Mine.sorted_lines ?k1 ?k2 ?k3 ?k4 ?k5 ?_; (case k1 => k_asm); (case k2 => k_asm); (case k3 => is_list); (case k4 => k_extra "sort list"); (case k5 => k_extra "sort size"); k_whole); intro D' h' ys' n' tk' F' N' l1 hy'; (try k_lt l1)))
local macro_rules | `(tactic| walk_at "compareOp Eq ref ref") => `(tactic| (k_here; (with_reducible show wpAny _ _ (compareOp CmpOp.Eq (Value.ref _) (Value.ref _)) _ _ _); k_extra "eq refs"))

local macro_rules | `(tactic| walk_at "compareOp In str str") => `(tactic| (k_here; (with_reducible show wpAny _ _ (compareOp CmpOp.In (Value.str _ _) (Value.str _ _)) _ _ _); (refine Mine.in_sign_of (by k_extra "in") ?_)))

local macro_rules | `(tactic| walk_at "binaryOp Add str str") => `(tactic| (k_here; (with_reducible show wpAny _ _ (binaryOp Operator.Add (Value.str _ _) (Value.str _ _)) _ _ _); (refine' Mine.add_S ?k1 ?_; (case k1 => k_extra "add size"); k_whole); intro t' k'))
local macro_rules | `(tactic| walk_at "setItem ref int") => `(tactic| (k_here; (with_reducible show wpAny _ _ (setItem (Value.ref _) (Value.int 1 _) _) _ _ _); k_extra "set one"; k_dflt (refine' Mine.set_one ?k1 ?k2 ?k3 ?_; (case k1 => k_asm); (case k2 => k_asm); (case k3 => k_upd); k_whole); intro h' F' N'))
local macro_rules | `(tactic| k_all) => `(tactic| with_reducible assumption)
local macro_rules | `(tactic| walk_at "CompSrc") => `(tactic| (k_here; k_extra "CompSrc"))
local macro_rules | `(tactic| walk_at "eval ListComp") => `(tactic| (k_here; k_extra "map comp"; k_dflt (refine LCg.ListComp_U (F₀ := by k_asm) (by with_unfolding_all rfl) (by decide) (by rfl) (by decide) (by rfl) ?_)))
local macro_rules | `(tactic| walk_at "compareOp In ref ref") => `(tactic| (k_here; k_extra "in lists"))
local macro_rules | `(tactic| walk_at "subscriptTail") => `(tactic| (k_here; (with_reducible show wpAny _ _ (subscriptTail _ _ (Value.str _ _) (Value.int _ _)) _ _ _); k_extra "letter"))
namespace Mine
theorem text_of_spec (w : World) (x : Str) (t : Tok) : Spec w 65 1 8 [] [.str x t] (fun tl r => tl = [] ∧ ∃ t, r = .str x t) := by
  unfold Spec
  k_fill
  intro mean mg mb dp un gd cn cs a ccd cl outer A₀ base h₀ L m news s Q E B F X N T hk hdp hun hneed hret
  refine wpAny_call ?_
  k_dflt cell_enter
  k_with_none
  k_steps
  all_goals (k_same2; exact ⟨_, rfl⟩)

theorem without_spec (w : World) (l : List Nat) (c : Nat) (t u : Tok) (hl : l.length ≤ 63) : Spec w 133 1 8 [] [.str (S l) t, .str (S [c]) u] (fun tl r => tl = [] ∧ ∃ t, r = .str (S (l.filter (· ≠ c))) t) := by
  unfold Spec
  k_fill
  intro mean mg mb dp un gd cn cs a ccd cl outer A₀ base h₀ L m news s Q E B F X N T hk hdp hun hneed hret
  refine wpAny_call ?_
  k_dflt cell_enter
  k_with_none
  k_with "FSrc" => (refine FSrc.str (fun d => d ≠ c) (by rfl) (by k_asm) (by k_asm) (by omega) ?_ ?_; (intro d ty I oI C oC D oD m₂ h tk E' hmem hC hx F' N' ne'); rotate_left; intro D h tk ys hys F' N' off')
  k_with "call builtin:str.join" => (refine join_mine _ (by is_list) hys (by have := List.length_filter_le (fun d => decide (d ≠ c)) l; omega) ?_; intro t' k')
  k_steps
  · k_same2
    exact ⟨_, rfl⟩
  · tb_rel
    simp [bne, beq_S]

/-- the sign stands at none of the first n places -/
def Miss (l : List Nat) (c : Nat) (n : Nat) : Prop := ∀ k, k < n → ∀ h : k < l.length, l[k] ≠ c
theorem Miss.zero (l : List Nat) (c : Nat) : Miss l c 0 := fun _ h => absurd h (Nat.not_lt_zero _)
theorem Miss.nil (l : List Nat) (c : Nat) : Miss l c ([] : List Int).length := Miss.zero l c
theorem miss_lt {l : List Nat} {c : Nat} {n : Nat} (hlt : n < (((S l).length : Int) - ((S [c]).length : Int) + 1 - 0).toNat) : n < l.length := by
  rw [length_S, length_S] at hlt
  simp only [List.length_cons, List.length_nil] at hlt
  omega
theorem miss_at {l : List Nat} {c : Nat} {n : Nat} {kN : Int} {b : Bool} (e : kN = 0 + (n : Int)) (hlt : n < (((S l).length : Int) - ((S [c]).length : Int) + 1 - 0).toNat)
    (t : (Txt.slice (S l) (some kN) (some (kN + ((S [c]).length : Int))) == S [c]) = b) : decide (l[n]'(miss_lt hlt) = c) = b := by
  rw [← slice_one l n c (miss_lt hlt), ← t, e]
  have : ((S [c]).length : Int) = 1 := rfl
  rw [this, Int.zero_add]
theorem Miss.snoc {l : List Nat} {c : Nat} {pre : List Int} {kN : Int} (M : Miss l c pre.length) (e : kN = 0 + (pre.length : Int)) (hlt : pre.length < (((S l).length : Int) - ((S [c]).length : Int) + 1 - 0).toNat)
    (t : (Txt.slice (S l) (some kN) (some (kN + ((S [c]).length : Int))) == S [c]) = false) : Miss l c (pre ++ [kN]).length := by
  have z := of_decide_eq_false (miss_at e hlt t)
  rw [List.length_append, List.length_singleton]
  intro k hk h
  rcases Nat.lt_or_ge k pre.length with q | q
  · exact M k q h
  · obtain rfl : k = pre.length := by omega
    exact z
theorem Miss.found {l : List Nat} {c : Nat} {pre : List Int} {kN : Int} (M : Miss l c pre.length) (e : kN = 0 + (pre.length : Int)) (hlt : pre.length < (((S l).length : Int) - ((S [c]).length : Int) + 1 - 0).toNat)
    (t : (Txt.slice (S l) (some kN) (some (kN + ((S [c]).length : Int))) == S [c]) = true) : kN + 1 = (place l c : Int) := by
  have z := of_decide_eq_true (miss_at e hlt t)
  rw [place_some l c pre.length (miss_lt hlt) (fun k hk => M k hk _) z]
  omega
theorem Miss.none {l : List Nat} {c : Nat} (M : Miss l c (rangeKs 0 (((S l).length : Int) - ((S [c]).length : Int) + 1 - 0).toNat).length) : (0 : Int) = (place l c : Int) := by
  rw [rangeKs_length, length_S, length_S] at M
  rw [place_none l c fun k h => M k (by simp only [List.length_cons, List.length_nil]; omega) h]
  rfl
theorem found_short {l : List Nat} {c : Nat} (h : ((S l).length : Int) < 1) : (0 : Int) = (place l c : Int) := by
  rw [length_S] at h
  obtain rfl : l = [] := List.length_eq_zero_iff.mp (by omega)
  rfl
theorem int_eq {a b : Int} {t : Tok} (e : a = b) : ∃ t', Value.int a t = Value.int b t' := ⟨t, by rw [e]⟩

theorem found_at_spec (w : World) (l : List Nat) (c : Nat) (t u v : Tok) (hl : l.length ≤ 63)  : Spec w 93 1 8 [] [.str (S l) t, .str (S [c]) u, .int 1 v] (fun tl r => tl = [] ∧ ∃ t, r = .int (place l c) t) := by
  have hS : Str.length (S l) = l.length := length_S l
  have hc : Str.length (S [c]) = 1 := rfl
  unfold Spec
  k_fill
  intro mean mg mb dp un gd cn cs a ccd cl outer A₀ base h₀ L m news s Q E B F X N T hk hdp hun hneed hret
  refine wpAny_call ?_
  k_dflt cell_enter
  k_with_none
  k_with "pyIter ref" => k_search (fun pre => Miss l c pre.length)
  k_with "state" => first | exact Miss.nil l c | exact Miss.snoc (by assumption) (by assumption) (by assumption) (by assumption)
  k_steps
  · k_same2
    exact int_eq (found_short (by assumption))
  · k_same2
    exact int_eq (Miss.found (by assumption) (by assumption) (by assumption) (by assumption))
  · k_same2
    exact int_eq (Miss.none (by assumption))
end Mine
namespace Mine
theorem text_instr_spec (w : World) (l : List Nat) (c : Nat) (t u : Tok) (al : Addr) (k : Nat) (hl : l.length ≤ 63) :
    Spec w 100 3 24 [(al, { cls := .type "list", data := .seq #[.str (S l) t, .str (S [c]) u] k })] [.none, .ref al] (fun tl r => tl = [] ∧ ∃ t, r = .int (place l c) t) := by
  unfold Spec
  k_fill
  intro mean mg mb dp un gd cn cs a ccd cl outer A₀ base h₀ L m news s Q E B F X N T hk hdp hun hneed hret
  have hmem := hneed _ (List.mem_singleton.mpr rfl)
  clear hneed
  refine wpAny_call ?_
  k_dflt cell_enter
  k_with_none
  k_with "call ref" => first | ktr_call (found_at_spec w _ _ _ _ _ (by omega)) () | ktr_call (text_of_spec w _ _) ()
  k_steps
  all_goals (k_same2; exact ⟨_, rfl⟩)
end Mine
namespace Mine
theorem size_told_spec (w : World) (i : Int) (t : Tok) (h0 : 0 ≤ i) (h1 : i ≤ 255) : Spec w 79 1 8 [] [.int i t] (fun tl r => tl = [] ∧ ∃ t, r = .int i t) := by
  unfold Spec
  k_fill
  intro mean mg mb dp un gd cn cs a ccd cl outer A₀ base h₀ L m news s Q E B F X N T hk hdp hun hneed hret
  refine wpAny_call ?_
  k_dflt cell_enter
  k_with_none
  k_steps
  all_goals first | (exfalso; omega) | (k_same2; exact ⟨_, rfl⟩)

theorem checked_text_spec (w : World) (x : Str) (t : Tok) (h1 : x.length ≤ 255) : Spec w 72 1 8 [] [.str x t] (fun tl r => tl = [] ∧ ∃ t, r = .str x t) := by
  unfold Spec
  k_fill
  intro mean mg mb dp un gd cn cs a ccd cl outer A₀ base h₀ L m news s Q E B F X N T hk hdp hun hneed hret
  refine wpAny_call ?_
  k_dflt cell_enter
  k_with_none
  k_steps
  all_goals first | (exfalso; omega) | (k_same2; exact ⟨_, rfl⟩)

theorem place_told_spec (w : World) (i : Int) (t : Tok) (h0 : 1 ≤ i) (h1 : i ≤ 255) : Spec w 86 2 16 [] [.int i t] (fun tl r => tl = [] ∧ ∃ t, r = .int i t) := by
  unfold Spec
  k_fill
  intro mean mg mb dp un gd cn cs a ccd cl outer A₀ base h₀ L m news s Q E B F X N T hk hdp hun hneed hret
  refine wpAny_call ?_
  k_dflt cell_enter
  k_with_none
  k_with "call ref" => ktr_call (size_told_spec w _ _ (by omega) (by omega)) ()
  k_steps
  all_goals first | (exfalso; omega) | (k_same2; exact ⟨_, rfl⟩)
theorem text_left_spec (w : World) (l : List Nat) (t u : Tok) (al : Addr) (k : Nat) (hl : l.length ≤ 63) :
    Spec w 107 3 24 [(al, { cls := .type "list", data := .seq #[.str (S l) t, .int 1 u] k })] [.none, .ref al] (fun tl r => tl = [] ∧ ∃ t, r = .str (S (l.take 1)) t) := by
  have hS : Str.length (S l) = l.length := length_S l
  unfold Spec
  k_fill
  intro mean mg mb dp un gd cn cs a ccd cl outer A₀ base h₀ L m news s Q E B F X N T hk hdp hun hneed hret
  have hmem := hneed _ (List.mem_singleton.mpr rfl)
  clear hneed
  refine wpAny_call ?_
  k_dflt cell_enter
  k_with_none
  k_with "call ref" => first | ktr_call (text_of_spec w _ _) () | ktr_call (size_told_spec w _ _ (by omega) (by omega)) ()
  k_steps
  all_goals (k_same2; exact ⟨_, by rw [← slice_to_S]; rfl⟩)

theorem text_joined_spec (w : World) (l l' : List Nat) (t t' : Tok) (hl : l.length ≤ 63) (hl' : l'.length ≤ 63) :
    Spec w 121 3 24 [] [.str (S l) t, .str (S l') t'] (fun tl r => tl = [] ∧ ∃ t, r = .str (S (l ++ l')) t) := by
  have hS : Str.length (S l) = l.length := length_S l
  have hS' : Str.length (S l') = l'.length := length_S l'
  unfold Spec
  k_fill
  intro mean mg mb dp un gd cn cs a ccd cl outer A₀ base h₀ L m news s Q E B F X N T hk hdp hun hneed hret
  refine wpAny_call ?_
  k_dflt cell_enter
  k_with_none
  k_with "call ref" => first | ktr_call (text_of_spec w _ _) () | ktr_call (checked_text_spec w _ _ (by omega)) ()
  k_steps
  all_goals first | (exfalso; omega) | (k_same2; exact ⟨_, by rw [append_S]⟩)
end Mine
namespace Mine
theorem mid_eq (l : List Nat) (hl : l.length ≤ 63) : Txt.slice (S l) (some (2 - 1)) (some (2 - 1 + 255)) = S (l.drop 1) := by
  have := slice_S l 1 256 (by omega)
  rw [List.take_of_length_le (by simp; omega)] at this
  exact this
theorem mid3_eq (l : List Nat) (i : Int) (hi : 1 ≤ i) : Txt.slice (S l) (some (i - 1)) (some (i - 1 + 1)) = S ((l.drop (i.toNat - 1)).take 1) := by
  have := slice_S l (i.toNat - 1) (i.toNat - 1 + 1) (by omega)
  rw [show i.toNat - 1 + 1 - (i.toNat - 1) = 1 by omega] at this
  rw [← this]
  congr 2 <;> omega
theorem text_mid_spec (w : World) (l : List Nat) (t u : Tok) (al : Addr) (k : Nat) (hl : l.length ≤ 63) :
    Spec w 114 3 24 [(al, { cls := .type "list", data := .seq #[.str (S l) t, .int 2 u] k })] [.none, .ref al] (fun tl r => tl = [] ∧ ∃ t, r = .str (S (l.drop 1)) t) := by
  have hS : Str.length (S l) = l.length := length_S l
  unfold Spec
  k_fill
  intro mean mg mb dp un gd cn cs a ccd cl outer A₀ base h₀ L m news s Q E B F X N T hk hdp hun hneed hret
  have hmem := hneed _ (List.mem_singleton.mpr rfl)
  clear hneed
  refine wpAny_call ?_
  k_dflt cell_enter
  k_with_none
  k_with "call ref" => first | ktr_call (text_of_spec w _ _) () | ktr_call (place_told_spec w _ _ (by omega) (by omega)) () | ktr_call (size_told_spec w _ _ (by omega) (by omega)) ()
  k_steps
  all_goals (k_same2; exact ⟨_, by rw [mid_eq l hl]⟩)
theorem text_mid3_spec (w : World) (l : List Nat) (i : Int) (t u v : Tok) (al : Addr) (k : Nat) (hl : l.length ≤ 63) (hi : 1 ≤ i) (hi2 : i ≤ 3):
    Spec w 114 3 24 [(al, { cls := .type "list", data := .seq #[.str (S l) t, .int i u, .int 1 v] k })] [.none, .ref al] (fun tl r => tl = [] ∧ ∃ t, r = .str (S ((l.drop (i.toNat - 1)).take 1)) t) := by
  have hS : Str.length (S l) = l.length := length_S l
  unfold Spec
  k_fill
  intro mean mg mb dp un gd cn cs a ccd cl outer A₀ base h₀ L m news s Q E B F X N T hk hdp hun hneed hret
  have hmem := hneed _ (List.mem_singleton.mpr rfl)
  clear hneed
  refine wpAny_call ?_
  k_dflt cell_enter
  k_with_none
  k_with "call ref" => first | ktr_call (text_of_spec w _ _) () | ktr_call (place_told_spec w _ _ (by omega) (by omega)) () | ktr_call (size_told_spec w _ _ (by omega) (by omega)) ()
  k_steps
  all_goals (k_same2; exact ⟨_, by rw [mid3_eq l i hi]⟩)
end Mine
namespace Mine
theorem law_at_spec (w : World) (Ls : List (List Nat)) (c : Nat) (u : Tok) (ax : Addr) (its : Array Value) (k : Nat) (hI : StrsAre its.toList (Ls.map S)) (hL : Ls.length ≤ 1000) (hl : ∀ l ∈ Ls, l.length ≤ 63) :
    Spec w 143 4 40 [(ax, { cls := .type "list", data := .seq its k })] [.ref ax, .str (S [c]) u] (fun tl r => ∃ D ys, tl = [(D, lst ys)] ∧ r = .ref D ∧ StrsAre ys ((Ls.filter (fun l => decide (0 < place l c))).map S)) := by
  unfold Spec
  k_fill
  intro mean mg mb dp un gd cn cs a ccd cl outer A₀ base h₀ L m news s Q E B F X N T hk hdp hun hneed hret
  have hmem := hneed _ (List.mem_singleton.mpr rfl)
  clear hneed
  refine wpAny_call ?_
  k_dflt cell_enter
  k_with_none
  k_with "FSrc" => (refine FSrc.lines Ls (fun l => decide (0 < place l c)) (by rfl) (by k_asm) (by k_asm) (by k_mem) hI hL ?_ ?_; (intro l ty I oI C oC D oD m₂ h tk E' hlm hC hx F' N' ne'); rotate_left; intro D h tk ys hys F' N' off')
  k_with "call ref" => ktr_call (text_instr_spec w _ _ _ _ _ _ (hl _ (by assumption))) ()
  k_steps
  · refine hret _ [(D, lst ys)] _ _ (by k_asm) (cb_drop (by assumption) (by kstt_sub)) (fun q hq p hp => ?_) ⟨D, ys, rfl, rfl, hys⟩
    obtain rfl := List.mem_singleton.mp hp
    exact off1_ne off'.2 q hq
  · tb_rel
    simp
end Mine
namespace Mine
theorem alpha_S : Str.ofString "ABCDEF" = S alpha := by decide +kernel
theorem cut_alpha (n : Nat) : Txt.slice (Str.ofString "ABCDEF") none (some ((n : Int) + 2)) = S (alpha.take (n + 2)) := by
  rw [alpha_S]
  exact slice_to_S alpha (n + 2)
theorem law_lines_spec (w : World) (l : List Nat) (t : Tok) (hl : l.length ≤ 4) (hok : okL (alpha.take (l.length + 2)) l = true) :
    Spec w 138 4 40 [] [.str (S l) t] (fun tl r => ∃ D ys n, tl = [(D, W.listOf ys.toArray n)] ∧ r = .ref D ∧ StrsAre ys ((linesF (alpha.take (l.length + 2)) l).map S)) := by
  have hS : Str.length (S l) = l.length := length_S l
  unfold Spec
  k_fill
  intro mean mg mb dp un gd cn cs a ccd cl outer A₀ base h₀ L m news s Q E B F X N T hk hdp hun hneed hret
  refine wpAny_call ?_
  k_dflt cell_enter
  k_with_none
  k_steps
  rename ∀ p, p ∈ news → p.1 < _ => l0'
  have lS' := allLt_of (fun p hp => Nat.lt_succ_of_lt (l0' p hp))
  rename Fr _ _ _ _ => lF'
  rename News _ _ _ _ => lN'
  constructor
  refine while_lines (ps := alpha.take (l.length + 2)) (ws := l) (ls := []) (its := []) (news := news) (linesF (alpha.take (l.length + 2)) l) lF' (fun p hp => lN' p (.tail _ hp)) (by assumption) ?_ .nil ⟨hok, rfl, ?_, ?_⟩ ?_
  · exact ⟨_, by show some _ = some _; rw [hS, cut_alpha]⟩
  · rw [List.length_take]; simp [alpha]; omega
  · simp; omega
  clear lF' lN' hok
  intro ps ws ls tp tw oc its k u h9 tk9 F9 N9 hoc hI hJ
  have b1 := hJ.lp
  have b2 := hJ.lw
  have b3 := StrsAre.length hI
  rw [List.length_map] at b3
  k_with "addsize" => ((try simp only [sizeLine_eq]); (try simp); omega)
  rcases ws with _ | ⟨c, ws⟩
  · k_steps
    rename News h₀ L _ _ => nE
    refine hret.one (by k_asm) nE (.head _) (by kstt_sub) (tbn_neAll (by tbn_find)) ⟨_, its ++ [.str (S ps) tp], _, rfl, rfl, ?_⟩
    · rw [← hJ.sum, List.map_append]
      exact StrsAre.append' hI (.cons _ _ .nil)
  · obtain ⟨e, r, he, hJ'⟩ := hJ.step
    simp only [List.length_cons] at b2
    have hne : (S (c :: ws) != Str.ofString "") = true := by rw [empty_S, bne, beq_S]; simp
    k_with "FSrc" => (refine FSrc.str (fun d => decide (place (c :: ws) d = 0)) (by rfl) (by k_asm) (by k_asm) (by omega) ?_ ?_; (intro d ty I oI C oC D oD m₂ h tk E' hmem hC hx F' N' ne'); rotate_left; intro D h tk ys hys F' N' off'; simp only [Off1] at off'; obtain ⟨t9, ys, rfl, hys⟩ := StrsAre.cons_inv (show StrsAre ys (S [e] :: r.map fun c => S [c]) from by (rw [show (ps.filter fun d => decide (place (c :: ws) d = 0)) = e :: r from he] at hys; exact hys)))
    have q1 : (c :: ws).length ≤ 63 := by simp only [List.length_cons]; omega
    have q2 : ((c :: ws).take 1).length ≤ 63 := by simp
    have q3 : [e].length ≤ 63 := by simp
    k_with "call ref" => first | ktr_call (text_instr_spec w (c :: ws) _ _ _ _ _ q1) () | ktr_call (text_left_spec w (c :: ws) _ _ _ _ q1) () | ktr_call (text_mid_spec w (c :: ws) _ _ _ _ q1) () | ktr_call (without_spec w ps _ _ _ b1) () | ktr_call (text_joined_spec w [e] ((c :: ws).take 1) _ _ q3 q2) ()
    k_steps
    · rename News _ _ _ _ => nE
      simp only [List.push_toArray] at nE
      refine LinesEnd.intro (ps := ps.filter (· ≠ e)) (ws := ws) (ls := ls ++ [[e, c]]) (by k_asm) nE (by rfl) (fun z h1 h2 => by simp only [if_neg h1, if_neg h2]) (by k_mem) (by k_mem) (by kstt_sub) (by k_asm) ?_ hJ' (by simp)
      rw [List.map_append]
      exact StrsAre.append' hI (.cons _ _ .nil)
    · tb_rel
      rw [Bool.eq_iff_iff]
      simp only [beq_iff_eq, decide_eq_true_eq]
      omega
end Mine
namespace Mine
theorem law_is_tree_spec (w : World) (Ls : List (List Nat)) (ps : List Nat) (u : Tok) (ax : Addr) (its : Array Value) (k : Nat) (hI : StrsAre its.toList (Ls.map S)) (hL : Ls.length ≤ 5) (hps : ps.length ≤ 6) (p0 : Nat) (hp0 : ps[0]? = some p0) (hl : ∀ l ∈ Ls, ∃ a b, l = [a, b]) (p1 : ∀ l ∈ Ls, Plain l) (p2 : Plain ps) :
    Spec w 148 4 120 [(ax, { cls := .type "list", data := .seq its k })] [.ref ax, .str (S ps) u] (fun tl r => tl = [] ∧ ∃ t : Tok, r = .bool (treeF Ls ps)) := by
  have hS : Str.length (S ps) = ps.length := length_S ps
  unfold Spec
  k_fill
  intro mean mg mb dp un gd cn cs a ccd cl outer A₀ base h₀ L m news s Q E B F X N T hk hdp hun hneed hret
  have hmem := hneed _ (List.mem_singleton.mpr rfl)
  clear hneed
  refine wpAny_call ?_
  k_dflt cell_enter
  k_with_none
  k_with "park for" => ((rename Fr _ _ _ _ => lF'); (with_unfolding_all refine' For_invVF lF' ?k1 ?k2 ?_; (case k1 => exact rfl); (case k2 => exact rfl); k_whole))
  k_with "park text" => (refine Mine.Parked.go ?_)
  k_with "park ref" => (refine Mine.Parked.go ?_)
  have hlen : its.size = Ls.length := by have := StrsAre.length hI; simpa using this
  have hb : ∀ n, n ≤ 6 → (roundsF Ls [p0] n).length ≤ 31 := fun n hn => by
    have h1 := roundsF_length Ls [p0] n
    have h2 : n * Ls.length ≤ 6 * 5 := Nat.mul_le_mul hn hL
    simp only [List.length_cons, List.length_nil] at h1
    omega
  k_with "len list" => exact hlen
  k_with "len size" => omega
  have hb9 := hb ps.length hps
  have hpl : ∀ n, Plain (roundsF Ls [p0] n) := roundsF_plain p1 (fun c hc => List.mem_singleton.mp hc ▸ p2 _ (List.mem_of_getElem? hp0))
  k_with "sort size" => omega
  k_with "plain" => first | exact plain_signs (hpl _) | exact plain_signs p2
  k_steps
  constructor
  rename Fr _ _ _ _ => lF'
  rename News _ _ _ _ => lN'
  refine iter_text_seen (fun i seen => seen = roundsF Ls [p0] i) (by rfl) lF' lN' (by assumption) rfl ?_ ?_
  · rintro i c u9 I seen t9 oc u1 u2 h tk oI hi rfl hoc off F9 N9
    k_steps
    constructor
    rename Fr _ _ _ _ => lF'
    have hi6 : i < ps.length := by
      rcases Nat.lt_or_ge i ps.length with h | h
      · exact h
      · rw [List.getElem?_eq_none h] at hi; cases hi
    refine iter_lines_seen (fun j seen => seen = (Ls.take j).foldl joinF (roundsF Ls [p0] i)) (by rfl) (.tail _ hmem) hI lF' (News.swap N9) hoc rfl ?_ ?_
    · rintro j l u8 I2 seen t8 oc8 u3 u4 h2 tk2 oI2 hj hseen hoc8 off2 F8 N8
      obtain ⟨p, q, rfl⟩ := hl l (List.mem_of_getElem? hj)
      have hlen9 : seen.length ≤ 100 := by
        have h1 := roundF_length (Ls.take j) (roundsF Ls [p0] i)
        have h2 := hb i (by omega)
        have h3 : (Ls.take j).length ≤ Ls.length := by simp; omega
        rw [hseen]
        exact Nat.le_trans h1 (by omega)
      have off9 : @Ne Nat _ I2 := off2 _ (List.mem_cons_self)
      have off8 : @Ne Nat _ I2 := off2 _ (List.mem_cons_of_mem _ List.mem_cons_self)
      have off7 : @Ne Nat _ I := off _ (List.mem_cons_self)
      dsimp only at off9 off8 off7
      have hnext : ∀ x, joinF seen [p, q] = x → x = (Ls.take (j + 1)).foldl joinF (roundsF Ls [p0] i) := fun x e => by rw [take_fold hj, ← hseen, e]
      by_cases hp : p ∈ seen <;> by_cases hq : q ∈ seen
      all_goals
        first
        | have e1 : decide (p ∈ seen) = true := decide_eq_true hp
        | have e1 : decide (p ∈ seen) = false := decide_eq_false hp
        first
        | have e2 : decide (q ∈ seen) = true := decide_eq_true hq
        | have e2 : decide (q ∈ seen) = false := decide_eq_false hq
        k_with "in" => first | exact e1 | exact e2 | exact rfl
      · k_steps
        refine IEnd.intro (by k_asm) N8 (.head _) (fun p hp => .tail _ hp) (off_head off2) (SeenJ.intro (hnext _ ?_) hoc8 (fun z h1 h2 => by simp only [if_neg h1, if_neg h2]))
        simp [joinF, hp, hq]
      · have hf : [p, q].filter (fun d => decide (d ∈ seen)) = [p] := by simp [hp, hq]
        have hpq : q ≠ p := fun e => hq (e ▸ hp)
        have hw : [p, q].filter (fun d => decide (d ≠ p)) = [q] := by simp [hpq]
        k_with "FSrc" => (refine FSrc.str (fun d => decide (d ∈ seen)) (by rfl) (by k_asm) (by k_asm) (by simp) ?_ ?_; (intro d ty I oI C oC D oD m₂ h tk E' hmem hC hx F' N' ne'); rotate_left; intro D h tk ys hys F' N' off'; simp only [Off1] at off'; obtain ⟨t9, ys, rfl, hys⟩ := StrsAre.cons_inv (show StrsAre ys (S [p] :: []) from by (rw [hf] at hys; exact hys)))
        k_with "call ref" => ktr_call (without_spec w [p, q] p _ _ (by simp)) ()
        k_with "add size" => (rw [hw]; simp; omega)
        k_steps
        · rename News _ _ _ _ => nE
          refine IEnd.seen (by k_asm) (by assumption) nE (by k_mem) (by k_mem) (by kstt_sub) off2 (hnext _ ?_) (fun z h1 h2 => by simp only [if_neg h1, if_neg h2])
          rw [hw]
          simp [joinF, hp, hq]
        · tb_rel
          rfl
      · have hf : [p, q].filter (fun d => decide (d ∈ seen)) = [q] := by simp [hp, hq]
        have hpq : p ≠ q := fun e => hp (e ▸ hq)
        have hw : [p, q].filter (fun d => decide (d ≠ q)) = [p] := by simp [hpq]
        k_with "FSrc" => (refine FSrc.str (fun d => decide (d ∈ seen)) (by rfl) (by k_asm) (by k_asm) (by simp) ?_ ?_; (intro d ty I oI C oC D oD m₂ h tk E' hmem hC hx F' N' ne'); rotate_left; intro D h tk ys hys F' N' off'; simp only [Off1] at off'; obtain ⟨t9, ys, rfl, hys⟩ := StrsAre.cons_inv (show StrsAre ys (S [q] :: []) from by (rw [hf] at hys; exact hys)))
        k_with "call ref" => ktr_call (without_spec w [p, q] q _ _ (by simp)) ()
        k_with "add size" => (rw [hw]; simp; omega)
        k_steps
        · rename News _ _ _ _ => nE
          refine IEnd.seen (by k_asm) (by assumption) nE (by k_mem) (by k_mem) (by kstt_sub) off2 (hnext _ ?_) (fun z h1 h2 => by simp only [if_neg h1, if_neg h2])
          rw [hw]
          simp [joinF, hp, hq]
        · tb_rel
          rfl
      · k_steps
        refine IEnd.intro (by k_asm) N8 (.head _) (fun p hp => .tail _ hp) (off_head off2) (SeenJ.intro (hnext _ ?_) hoc8 (fun z h1 h2 => by simp only [if_neg h1, if_neg h2]))
        simp [joinF, hp, hq]
    · rintro seen t8 oc8 u3 u4 h2 tk2 hseen hoc8 F8 N8
      k_steps
      refine IEnd.intro (by k_asm) N8 (.tail _ (.head _)) (fun p hp => (List.mem_cons.mp hp).elim (fun e => e ▸ .head _) (fun h => .tail _ (.tail _ h))) (off_head off) (SeenJ.intro ?_ hoc8 (fun z h1 h2 => by simp only [if_neg h1, if_neg h2]))
      rw [hseen, List.take_length]
      rfl
  · rintro seen t9 oc u1 u2 h tk rfl hoc F9 N9
    k_with "eq refs" => (refine Mine.Parked.go ?_)
    k_steps
    · constructor
      rename News _ _ _ _ => N8
      have m1 := (N8 _ (List.mem_cons_of_mem _ List.mem_cons_self)).1
      have m2 := (N8 _ List.mem_cons_self).1
      refine eq_texts ⟨_, m1, rfl, _, rfl⟩ ⟨_, m2, rfl, _, rfl⟩ (by assumption) (by assumption) (plain_signs (hpl _)) (plain_signs p2) (by ktr_units) ?_
      clear m1 m2
      k_steps
      rename ((Ls.length : Int) = _) => hne
      k_same2
      refine ⟨0, ?_⟩
      rw [treeF_eq hp0]
      rw [hS] at hne
      rw [show decide (Ls.length + 1 = ps.length) = true from decide_eq_true (by omega)]
      rfl
    · rename ((Ls.length : Int) ≠ _) => hne
      k_same2
      refine ⟨0, ?_⟩
      rw [beq_eq_false_iff_ne.mpr hne, treeF_eq hp0]
      rw [hS] at hne
      rw [show decide (Ls.length + 1 = ps.length) = false from decide_eq_false (by omega)]
      rfl
end Mine
namespace Mine
theorem Spec.mono {w : World} {f : Addr} {dd uu : Nat} {need : List (Addr × Obj)} {vs : List Value} {R R' : List (Addr × Obj) → Value → Prop} (C : Spec w f dd uu need vs R) (h : ∀ tl r, R tl r → R' tl r) : Spec w f dd uu need vs R' := by
  unfold Spec at C ⊢
  intro mean mg mb dp un gd cn cs a ccd cl outer A₀ base h₀ L m news s Q E B F X N T hk hdp hun hneed hret
  exact C mean mg mb dp un gd cn cs a ccd cl outer A₀ base h₀ L m news s Q E B F X N T hk hdp hun hneed fun r tl h' tk' F' N' o hR => hret r tl h' tk' F' N' o (h tl r hR)
theorem law_is_tree_true (w : World) (Ls : List (List Nat)) (ps : List Nat) (u : Tok) (ax : Addr) (its : Array Value) (k : Nat) (hI : StrsAre its.toList (Ls.map S)) {out : List Nat} {n : Nat} {wd : List Nat} (hJ : WordI out n Ls ps wd) :
    Spec w 148 4 120 [(ax, { cls := .type "list", data := .seq its k })] [.ref ax, .str (S ps) u] (fun tl r => tl = [] ∧ ∃ t : Tok, r = .bool true) := by
  obtain ⟨p0, hp0⟩ := hJ.first
  have := law_is_tree_spec w Ls ps u ax its k hI hJ.ll hJ.lp p0 hp0 hJ.pair hJ.p1 hJ.p2
  rw [hJ.tree] at this
  exact this
theorem law_at_one (w : World) (Ls : List (List Nat)) (c : Nat) (u : Tok) (ax : Addr) (its : Array Value) (k : Nat) (hI : StrsAre its.toList (Ls.map S)) (hL : Ls.length ≤ 1000) (hl : ∀ l ∈ Ls, l.length ≤ 63) {line : List Nat} {r' : List (List Nat)} (h : atF Ls c = line :: r') :
    Spec w 143 4 40 [(ax, { cls := .type "list", data := .seq its k })] [.ref ax, .str (S [c]) u] (fun tl r => ∃ D t ys n, tl = [(D, W.listOf (List.toArray (.str (S line) t :: ys)) n)] ∧ r = .ref D ∧ StrsAre ys (r'.map S)) := by
  refine (law_at_spec w Ls c u ax its k hI hL hl).mono ?_
  rintro tl r ⟨D, ys, rfl, rfl, hy⟩
  rw [show (Ls.filter fun l => decide (0 < place l c)) = line :: r' from h] at hy
  obtain ⟨t, ys, rfl, hy2⟩ := StrsAre.cons_inv hy
  exact ⟨D, t, ys, _, rfl, rfl, hy2⟩
theorem mid_at {l : List Nat} {c : Nat} (h0 : 0 < place l c) (h2 : l.length ≤ 2) : (l.drop (((3 : Int) - (place l c : Int)).toNat - 1)).take 1 = (l.drop (2 - place l c)).take 1 := by
  have := place_le l c
  congr 2
  omega
theorem int_one (n : Nat) : ((n : Int) == 1) = decide (n = 1) := by
  rw [Bool.eq_iff_iff]
  simp only [beq_iff_eq, decide_eq_true_eq]
  omega
end Mine
namespace Mine
theorem law_word_spec (w : World) (Ls : List (List Nat)) (ps out : List Nat) (u : Tok) (ax : Addr) (its : Array Value) (k : Nat) (hI : StrsAre its.toList (Ls.map S)) (hJ : WordI out Ls.length Ls ps []) :
    Spec w 153 6 160 [(ax, { cls := .type "list", data := .seq its k })] [.ref ax, .str (S ps) u] (fun tl r => tl = [] ∧ ∃ t : Tok, r = .str (S out) t) := by
  unfold Spec
  k_fill
  intro mean mg mb dp un gd cn cs a ccd cl outer A₀ base h₀ L m news s Q E B F X N T hk hdp hun hneed hret
  have hmem := hneed _ (List.mem_singleton.mpr rfl)
  clear hneed
  refine wpAny_call ?_
  k_dflt cell_enter
  k_with_none
  k_steps
  constructor
  rename Fr _ _ _ _ => lF'
  rename News _ _ _ _ => lN'
  rename ∀ p, p ∈ news → p.1 < _ => l0'
  have l1' := l0' _ hmem
  refine while_word (n := Ls.length) (Ls := Ls) (ps := ps) (out := out) (news := news) (its := its.toList) (k := k) (a := ax) lF' (News.dup (News.swap lN') hmem) (by assumption) (by assumption) hI (Nat.ne_of_lt (Nat.lt_succ_of_lt l1')) (Nat.ne_of_lt (Nat.lt_succ_of_lt (Nat.lt_succ_of_lt l1'))) ⟨_, by rfl⟩ ⟨_, by rfl⟩ hJ ?_
  clear lF' lN' hJ hI
  intro n Ls ps wd tw tp u3 v o1 o2 a its k h tk hJ F9 N9 hd1 hd2 hI n1 n2
  have hlen : its.toArray.size = Ls.length := by have := StrsAre.length hI; simpa using this
  have hb1 := hJ.ll
  have hb2 := hJ.lp
  have hb3 := hJ.lw
  k_with "len list" => exact hlen
  k_with "len size" => omega
  have hl63 : ∀ l ∈ Ls, l.length ≤ 63 := fun l hl => by obtain ⟨p, q, rfl⟩ := hJ.pair l hl; simp
  rcases Nat.lt_or_ge 1 Ls.length with h1 | h1
  · obtain ⟨n', leaf, r, p, q, r', rfl, hleaf, hline, hpl, hJ'⟩ := hJ.step h1
    k_with "len list" => exact (List.size_toArray ..).trans ((StrsAre.length (by assumption)).trans (List.length_map ..))
    k_with "len size" => exact Nat.lt_of_le_of_lt (List.length_filter_le _ _) (by omega)
    have q1 : (1 : Int) ≤ 3 - (place [p, q] leaf : Int) := by have := place_le [p, q] leaf; simp only [List.length_cons, List.length_nil] at this; omega
    have q2 : (3 : Int) - (place [p, q] leaf : Int) ≤ 3 := by omega
    have q3 : [p, q].length ≤ 63 := by simp
    have q4 : ((List.drop (((3 : Int) - (place [p, q] leaf : Int)).toNat - 1) [p, q]).take 1).length ≤ 63 := by rw [List.length_take]; omega
    have q5 : wd.length ≤ 63 := by omega
    have q6 : ps.length ≤ 63 := by omega
    k_with "FSrc" => first
      | (refine FSrc.str (fun d => decide ((atF Ls d).length = 1)) (by rfl) (by k_asm) (by k_asm) (by omega) ?_ ?_; (intro d ty I oI C oC D oD m₂ h tk E' hmem hC hx F' N' ne'); rotate_left; intro D h tk ys hys F' N' off'; simp only [Off1] at off'; obtain ⟨t9, ys, rfl, hys⟩ := StrsAre.cons_inv (show StrsAre ys (S [leaf] :: r.map fun c => S [c]) from by (rw [show (ps.filter fun d => decide ((atF Ls d).length = 1)) = leaf :: r from hleaf] at hys; exact hys)))
      | (refine FSrc.lines Ls (fun l => decide (l ≠ [p, q])) (by rfl) (by k_asm) (by k_asm) (by k_mem) hI (by omega) ?_ ?_; (intro l ty I oI C oC D oD m₂ h tk E' hlm hC hx F' N' ne'); rotate_left; intro D h tk ys hys F' N' off'; simp only [Off1] at off')
    k_with "call ref" => first | ktr_call (law_is_tree_true w Ls ps _ _ its.toArray _ hI hJ) () | ktr_call (law_at_one w Ls leaf _ _ its.toArray _ hI (by omega) hl63 hline) () | ktr_call (law_at_spec w Ls _ _ _ its.toArray _ hI (by omega) hl63) () | ktr_call (text_instr_spec w [p, q] leaf _ _ _ _ q3) () | ktr_call (text_mid3_spec w [p, q] _ _ _ _ _ _ q3 q1 q2) () | ktr_call (text_joined_spec w wd _ _ _ q5 q4) () | ktr_call (without_spec w ps leaf _ _ q6) ()
    k_steps
    · rename News _ _ _ _ => nE
      refine WordEnd.intro (n' := n') (Ls := Ls.filter fun l => decide (l ≠ [p, q])) (ps := ps.filter fun x => decide (x ≠ leaf)) (by k_asm) nE (by assumption) (by assumption) hys (by k_mem) (by k_mem) (by k_mem) (by kstt_sub) (by omega) (by omega) (by rfl) (by rfl) (fun z h1 h2 h3 => by simp only [if_neg h1, if_neg h2, if_neg h3]) ?_ (Nat.lt_succ_self _)
      rw [mid_at hpl (by simp)]
      exact hJ'
    · tb_rel
      simp [bne, beq_S]
    · tb_rel
      exact int_one _
  · k_with "call ref" => first | ktr_call (law_is_tree_true w Ls ps _ _ its.toArray _ hI hJ) ()
    k_steps
    k_same2
    exact ⟨_, by rw [hJ.done h1]⟩
end Mine
namespace Mine
theorem law_draw_spec (w : World) (b sc : Addr) (spot : Int) (t u : Tok) (k n : Nat) (ws : List Value) (ns : List Int) (hI : IntsAre ws ns) (hn : ns.length ≤ 63) (h0 : 0 ≤ spot) (h3 : spot ≤ 3) :
    SpecB w 128 1 20 [(sc, W.listOf ws.toArray n)] [.ref b, .int 6 t] b (W.listOf #[.ref sc, .int spot u] k) (fun o' r => ∃ k' u' v t', o' = W.listOf #[.ref sc, .int (spot + 1) u'] k' ∧ r = .int v t' ∧ 0 ≤ v ∧ v < 6) := by
  unfold SpecB
  k_fill
  intro mean mg mb dp un gd cn cs a ccd cl outer A₀ base h₀ L m rest s Q E B F X N off T hk hdp hun hneed hret
  have hmem := hneed _ (List.mem_singleton.mpr rfl)
  clear hneed
  have off9 : @Ne Nat sc b := off _ hmem
  refine wpAny_call ?_
  k_dflt cell_enter
  k_with_none
  k_with "set one" => skip
  k_steps
  all_goals
    refine hret _ _ _ _ (by k_asm) (by assumption) ⟨_, _, _, _, rfl, rfl, ?_, ?_⟩
    · rw [Int.fmod_eq_emod_of_nonneg _ (by decide)]; exact Int.emod_nonneg _ (by decide)
    · rw [Int.fmod_eq_emod_of_nonneg _ (by decide)]; exact Int.emod_lt_of_pos _ (by decide)
end Mine
namespace Mine
theorem SpecB.use {w : World} {f : Addr} {dd uu : Nat} {need : List (Addr × Obj)} {vs : List Value} {b : Addr} {o : Obj} {R : Obj → Value → Prop} (C : SpecB w f dd uu need vs b o R)
    {mean : ExcName → Option Value} {mg mb : Str → Option Value} {dp un : Nat} {gd : Option (List Code)} {cn : Str} {cs : Scope} {a : Addr} {ccd : Value} {cl : List (Str × Addr)} {outer : List Env} {A₀ : Around} {base h₀ : Heap} {L : Addr} {m : Str → Option Value}
    {rest : List (Addr × Obj)} {s : Shared} {Q E : Value → Shared → Prop}
    (B : Below A₀ base outer h₀) (F : Fr h₀ L s.heap m) (X : (hd.heap_39 w.params).In h₀) (N : News h₀ L s.heap ((b, o) :: rest)) (off : ∀ q ∈ rest, q.1 ≠ b) (T : Top hd.view_39 (looseW hd.view_39 [Str.ofString "BasicError"]) mean mg mb h₀) (hk : cs.kind = .function)
    (hdp : dp + dd < recursionLimit) (hun : un + uu < cLine) (hn : ∀ q ∈ need, q ∈ rest)
    (ret : ∀ r o' h' tk', Fr h₀ L h' m → News h₀ L h' ((b, o') :: rest) → R o' r → Q r { s with heap := h', toks := tk' }) :
    wpAny (model PySem.Challenge.rw_xm0047_01.row.prog w) (ktrTop dp un gd cn cs L a ccd cl outer) (call (.ref f) vs) Q E s :=
  C mean mg mb dp un gd cn cs a ccd cl outer A₀ base h₀ L m rest s Q E B F X N off T hk hdp hun hn ret
theorem off3_swap {I C D b : Addr} {o o' : Obj} {r : List (Addr × Obj)} (h : Off3 I C D ((b, o) :: r)) : Off3 I C D ((b, o') :: r) := h
abbrev bagO (sc : Addr) (i : Int) (u : Tok) (k : Nat) : Obj := W.listOf #[.ref sc, .int i u] k
section
variable {prog : Program} {w : World} {A : Around} {E : Value → Shared → Prop} {s : Shared} {h₀ : Heap} {L : Addr} {m : Str → Option Value} {env : Env}
/-- a draw's end -/
def DEnd (h₀ : Heap) (L : Addr) (m : Str → Option Value) (s₁ : Shared) (b sc : Addr) (i : Int) (rest : List (Addr × Obj)) (v : Value) (s₂ : Shared) : Prop :=
  ∃ c t h' tk u k, c ∈ alpha ∧ v = .str (S [c]) t ∧ s₂ = { s₁ with heap := h', toks := tk } ∧ Fr h₀ L h' m ∧ News h₀ L h' ((b, bagO sc i u k) :: rest)
theorem DEnd.intro {s₁ : Shared} {b sc : Addr} {i : Int} {rest : List (Addr × Obj)} {c : Nat} {t : Tok} {h' : Heap} {tk : Nat} {u : Tok} {k : Nat} (F : Fr h₀ L h' m) (N : News h₀ L h' ((b, bagO sc i u k) :: rest)) (hc : c ∈ alpha) :
    DEnd h₀ L m s₁ b sc i rest (.str (S [c]) t) { s₁ with heap := h', toks := tk } := ⟨c, t, h', tk, u, k, hc, rfl, rfl, F, N⟩
theorem draw_rest {elt : Expr} {x : Str} {scope : Scope} {cl : List (Str × Addr)} {P : Nat → Value → Prop} {Fin : List Value → List (Addr × Obj) → Prop} {b sc : Addr} {rest : List (Addr × Obj)} {n : Nat}
    (turn : ∀ (i : Nat) (v : Value) I oI C oC D oD m₂ h tk (E' : Value → Shared → Prop) u k, i < n → P i v → NsObj oC m₂ → m₂ x = some v → Fr h₀ L h m → News h₀ L h ((b, bagO sc i u k) :: (I, oI) :: (C, oC) :: (D, oD) :: rest) → Off3 I C D ((b, bagO sc i u k) :: rest) → ((@Ne Nat I C) ∧ (@Ne Nat I D) ∧ (@Ne Nat C D)) →
      wpAny (model prog w) A (eval elt (compEnvC scope cl C env)) (DEnd h₀ L m { s with heap := h, toks := tk } b sc (i + 1) ((I, oI) :: (C, oC) :: (D, oD) :: rest)) E' { s with heap := h, toks := tk })
    (fin : ∀ (ys : List Value) (cs : List Nat) (u : Tok) (k : Nat), cs.length = n → (∀ c ∈ cs, c ∈ alpha) → StrsAre ys (cs.map fun c => S [c]) → Fin ys ((b, bagO sc n u k) :: rest)) :
    ∀ (j i : Nat) (ys : List Value) (cs : List Nat) (u : Tok) (k : Nat), j + i = n → cs.length = i → (∀ c ∈ cs, c ∈ alpha) → StrsAre ys (cs.map fun c => S [c]) → LCg.CompRest prog w A h₀ L m env elt x scope cl s (fun _ => True) P Fin j i ys ((b, bagO sc i u k) :: rest) := by
  intro j
  induction j with
  | zero =>
    intro i ys cs u k hji hl hc hys
    obtain rfl : i = n := by omega
    exact fin ys cs u k hl hc hys
  | succ j ih =>
    intro i ys cs u k hji hl hc hys
    refine LCg.CompRest.succ fun v I oI C oC D m₂ h tk E' hPv hC hx F N off ne => ?_
    refine wpAny_mono (turn i v I oI C oC D (lst ys) m₂ h tk E' u k (by omega) hPv hC hx F (fun p hp => N p ?_) off ne) (fun v s' hs' => ?_) fun _ _ e => e
    · simp only [List.mem_cons] at hp ⊢
      rcases hp with h | h | h | h | h
      · exact .inr (.inr (.inr (.inl h)))
      · exact .inl h
      · exact .inr (.inl h)
      · exact .inr (.inr (.inl h))
      · exact .inr (.inr (.inr (.inr h)))
    · obtain ⟨c, t, h', tk', u', k', hca, rfl, rfl, F', N'⟩ := hs'
      refine ⟨h', tk', (b, bagO sc ((i + 1 : Nat) : Int) u' k') :: rest, rfl, F', fun p hp => N' p ?_, off, trivial, ih (i + 1) _ (cs ++ [c]) u' k' (by omega) (by simp [hl]) ?_ ?_⟩
      · simp only [List.mem_cons] at hp ⊢
        rcases hp with h | h | h | h | h
        · exact .inr (.inl h)
        · exact .inr (.inr (.inl h))
        · exact .inr (.inr (.inr (.inl h)))
        · exact .inl h
        · exact .inr (.inr (.inr (.inr h)))
      · intro d hd
        rcases List.mem_append.mp hd with hd | hd
        · exact hc d hd
        · exact List.mem_singleton.mp hd ▸ hca
      · rw [List.map_append]
        exact StrsAre.append' hys (.cons _ t .nil)
theorem map_draws {elt : Expr} {x : Str} {scope : Scope} {cl : List (Str × Addr)} {Q : Value → Shared → Prop} {b sc r : Addr} {u0 : Tok} {k0 : Nat} {rest : List (Addr × Obj)} {s₁ : Shared} {t1 t2 t3 : Tok}
    (hh : A.handled = none) (F : Fr h₀ L s₁.heap m) (N : News h₀ L s₁.heap ((b, bagO sc 0 u0 k0) :: rest)) (hr : IsRange s₁.heap r 0 4 1 t1 t2 t3)
    (turn : ∀ (i : Nat) (v : Value) I oI C oC D oD m₂ g9 h tk (E' : Value → Shared → Prop) u k, i < 4 → NsObj oC m₂ → m₂ x = some v → Fr h₀ L h m → News h₀ L h ((b, bagO sc i u k) :: (I, oI) :: (C, oC) :: (D, oD) :: rest) → Off3 I C D ((b, bagO sc i u k) :: rest) → ((@Ne Nat I C) ∧ (@Ne Nat I D) ∧ (@Ne Nat C D)) →
      wpAny (model prog w) A (eval elt (compEnvC scope cl C env)) (DEnd h₀ L m { { s₁ with heap := g9 } with heap := h, toks := tk } b sc (i + 1) ((I, oI) :: (C, oC) :: (D, oD) :: rest)) E' { { s₁ with heap := g9 } with heap := h, toks := tk })
    (fin : ∀ (D : Addr) (h : Heap) (tk : Nat) (ys : List Value) (cs : List Nat), cs.length = 4 → (∀ c ∈ cs, c ∈ alpha) → StrsAre ys (cs.map fun c => S [c]) → Fr h₀ L h m → News h₀ L h ((D, lst ys) :: rest) → Off1 D rest → Q (.ref D) { s₁ with heap := h, toks := tk }) :
    LCg.CompSrc prog w A h₀ L m env elt x scope cl (fun s₂ => LCg.FinE h₀ L m s₂ Q) (.ref r) s₁ := by
  refine LCg.CompSrc.range (n := 4) hh F N hr (by decide) (by decide) (by rw [sizeLine_eq]; omega) fun g9 => ?_
  refine draw_rest (s := { s₁ with heap := g9 }) (n := 4) (fun i v I oI C oC D oD m₂ h tk E' u k hi _ hC hx F N off ne => turn i v I oI C oC D oD m₂ g9 h tk E' u k hi hC hx F N off ne)
    (fun ys cs u k hl hc hys D h tk F' N' o => fin D h tk ys cs hl hc hys F' (fun p hp => N' p ?_) o.2) 4 0 [] [] u0 k0 rfl rfl (fun c hc => nomatch hc) .nil
  rcases List.mem_cons.mp hp with rfl | hp
  · exact .head _
  · exact .tail _ (.tail _ hp)
theorem item_letter {value slice : PySem.Expr} {t u : Tok} {v : Int} {Q : Value → Shared → Prop} (h0 : 0 ≤ v) (h6 : v < 6) (h : ∀ c, c ∈ alpha → Q (.str (S [c]) s.toks) { s with toks := s.toks + 1 })
    (hs : subscripted slice false (.str (S alpha) t) (.int v u) = operate [.str (S alpha) t, .int v u] (getItem (.str (S alpha) t) (.int v u)) := by with_unfolding_all rfl)
    (ht : ∀ r, letTemporaryGo value (.str (S alpha) t) r = pure () := by intro _; with_unfolding_all rfl) :
    wpAny (model prog w) A (subscriptTail value slice (.str (S alpha) t) (.int v u)) Q E s := by
  have hlt : v.toNat < alpha.length := by show v.toNat < 6; omega
  have hc : alpha[v.toNat]? = some alpha[v.toNat] := List.getElem?_eq_getElem hlt
  exact item_sign h0 (by omega) hc (h _ (List.getElem_mem hlt)) hs ht
end
end Mine
namespace Mine
section
variable {prog : Program} {w : World} {A : Around} {E : Value → Shared → Prop} {s : Shared} {env : Env} {h₀ : Heap} {x : Str} {body : List Stmt} {Q : Flow → Shared → Prop}
abbrev offM (stored : List Str) (u m₀ : Str → Option Value) : Str → Option Value := fun z => if stored.contains z then u z else m₀ z
def LawJ (stored : List Str) (m₀ : Str → Option Value) (Cl T : Addr) (pre rest : List (Addr × Obj)) (bad : List Addr) (P : List (List (List Nat)) → Prop) (m : Str → Option Value) (nx : List (Addr × Obj)) : Prop :=
  ∃ (Ts : List (List (List Nat))) (its : List Value) (k : Nat) (ol : Obj) (v : Option Value) (all : List (Addr × Obj)) (u : Str → Option Value), P Ts ∧ ol.data = .cell v ∧ ListsAre all its Ts ∧ (∀ p ∈ rest, p ∈ all) ∧ (∀ p ∈ all, ∀ b ∈ bad, p.1 ≠ b) ∧
    m = offM stored u m₀ ∧ nx = (Cl, ol) :: (T, W.listOf its.toArray k) :: (pre ++ all)
theorem LawJ.intro {stored : List Str} {m₀ m : Str → Option Value} {Cl T : Addr} {pre rest : List (Addr × Obj)} {bad : List Addr} {P : List (List (List Nat)) → Prop} {Ts : List (List (List Nat))} {its : List Value} {k : Nat} {ol : Obj} {v : Option Value} {all : List (Addr × Obj)}
    (hP : P Ts) (hol : ol.data = .cell v) (hL : ListsAre all its Ts) (hr : ∀ p ∈ rest, p ∈ all) (hb : ∀ p ∈ all, ∀ b ∈ bad, p.1 ≠ b) (hm : ∀ z, stored.contains z = false → m z = m₀ z) :
    LawJ stored m₀ Cl T pre rest bad P m ((Cl, ol) :: (T, W.listOf its.toArray k) :: (pre ++ all)) := by
  refine ⟨Ts, its, k, ol, v, all, m, hP, hol, hL, hr, hb, ?_, rfl⟩
  funext z
  show m z = if stored.contains z = true then m z else m₀ z
  cases h : stored.contains z with
  | true => simp
  | false => simp only [Bool.false_eq_true, if_false]; exact hm z h
theorem IEnd.law {stored : List Str} {m₀ m' : Str → Option Value} {L Cl T I : Addr} {oI : Obj} {pre rest ALL : List (Addr × Obj)} {bad : List Addr} {P : List (List (List Nat)) → Prop} {Ts : List (List (List Nat))} {its : List Value} {k : Nat} {ol : Obj} {v : Option Value} {all : List (Addr × Obj)} {s₁ : Shared} {h' : Heap} {tk : Nat}
    (F : Fr h₀ L h' m') (hol : ol.data = .cell v) (N : News h₀ L h' ALL) (hI : (I, oI) ∈ ALL) (hC : (Cl, ol) ∈ ALL) (hT : (T, W.listOf its.toArray k) ∈ ALL) (hp : ∀ p ∈ pre, p ∈ ALL) (hq : ∀ p ∈ all, p ∈ ALL) (hL : ListsAre all its Ts) (hr : ∀ p ∈ rest, p ∈ all) (hb : ∀ p ∈ all, ∀ b ∈ bad, p.1 ≠ b)
    (o1 : Cl ≠ I) (o2 : T ≠ I) (o3 : ∀ p ∈ pre, p.1 ≠ I) (o4 : ∀ p ∈ all, p.1 ≠ I) (hP : P Ts) (hm : ∀ z, stored.contains z = false → m' z = m₀ z) :
    IEnd h₀ L I oI (LawJ stored m₀ Cl T pre rest bad P) s₁ Q .next { s₁ with heap := h', toks := tk } := by
  refine IEnd.intro F N hI (fun p hpp => ?_) (fun p hpp => ?_) (LawJ.intro (k := k) hP hol hL hr hb hm)
  · rcases List.mem_cons.mp hpp with rfl | hpp
    · exact hC
    · rcases List.mem_cons.mp hpp with rfl | hpp
      · exact hT
      · exact (List.mem_append.mp hpp).elim (hp p) (hq p)
  · rcases List.mem_cons.mp hpp with rfl | hpp
    · exact o1
    · rcases List.mem_cons.mp hpp with rfl | hpp
      · exact o2
      · exact (List.mem_append.mp hpp).elim (o3 p) (o4 p)
theorem iter_text_law {stored : List Str} {m₀ : Str → Option Value} {Cl T : Addr} {pre rest : List (Addr × Obj)} {bad : List Addr} {Ts : List (List (List Nat))} {its : List Value} {k : Nat} {ol : Obj} {v : Option Value} {all : List (Addr × Obj)} {l : List Nat} {t : Tok} (P : Nat → List (List (List Nat)) → Prop)
    (hh : A.handled = none) (F : Fr h₀ env.locals s.heap m₀) (N : News h₀ env.locals s.heap ((Cl, ol) :: (T, W.listOf its.toArray k) :: (pre ++ all))) (hol : ol.data = .cell v) (hL : ListsAre all its Ts) (hr : ∀ p ∈ rest, p ∈ all) (hb : ∀ p ∈ all, ∀ b ∈ bad, p.1 ≠ b) (hP : P 0 Ts)
    (turn : ∀ i c u I Ts its k ol v all (u9 : Str → Option Value) h tk oI, l[i]? = some c → P i Ts → ol.data = .cell v → ListsAre all its Ts → (∀ p ∈ rest, p ∈ all) → (∀ p ∈ all, ∀ b ∈ bad, p.1 ≠ b) → (∀ p ∈ (Cl, ol) :: (T, W.listOf its.toArray k) :: (pre ++ all), p.1 ≠ I) →
      Fr h₀ env.locals h (fun y => if y = x then some (.str (S [c]) u) else offM stored u9 m₀ y) → News h₀ env.locals h ((I, oI) :: (Cl, ol) :: (T, W.listOf its.toArray k) :: (pre ++ all)) →
      wpAny (model prog w) A (execs body env) (IEnd h₀ env.locals I oI (LawJ stored m₀ Cl T pre rest bad (P (i + 1))) { s with heap := h, toks := tk } Q) E { s with heap := h, toks := tk })
    (done : ∀ Ts its k ol v all (u9 : Str → Option Value) h tk, P l.length Ts → ol.data = .cell v → ListsAre all its Ts → (∀ p ∈ rest, p ∈ all) → (∀ p ∈ all, ∀ b ∈ bad, p.1 ≠ b) →
      Fr h₀ env.locals h (offM stored u9 m₀) → News h₀ env.locals h ((Cl, ol) :: (T, W.listOf its.toArray k) :: (pre ++ all)) → Q .next { s with heap := h, toks := tk }) :
    wpAny (model prog w) A (pyIter (.str (S l) t)) (fun it s₂ => LoopAtV prog w A h₀ env x body Q E it s₂) E s := by
  refine iter_text (fun i => LawJ stored m₀ Cl T pre rest bad (P i)) hh F N (LawJ.intro hP hol hL hr hb (fun _ _ => rfl)) ?_ ?_
  · rintro i c u I m₁ nx h tk oI hi ⟨Ts, its, k, ol, v, all, u9, hP, hol, hL, hr, hb, rfl, rfl⟩ off F9 N9
    exact turn i c u I Ts its k ol v all u9 h tk oI hi hP hol hL hr hb off F9 N9
  · rintro m₁ nx h tk ⟨Ts, its, k, ol, v, all, u9, hP, hol, hL, hr, hb, rfl, rfl⟩ F9 N9
    exact done Ts its k ol v all u9 h tk hP hol hL hr hb F9 N9
end

def abcd : List Nat := [65, 66, 67, 68]
def normF (l : List Nat) : List Nat := (sortL (l.map fun c => [c])).flatten
def told2 (c d : Nat) : List (List Nat) := sortL ((linesF abcd [c, d]).map normF)
def innerT (i j : Nat) : List (List (List Nat)) := (abcd.take i).flatMap (fun c => abcd.map (told2 c)) ++ (abcd.take j).map (told2 (abcd.getD i 0))
theorem innerT_next {i j c d : Nat} (hi : abcd[i]? = some c) (hj : abcd[j]? = some d) : innerT i (j + 1) = innerT i j ++ [told2 c d] := by
  have : abcd.getD i 0 = c := by rw [List.getD_eq_getElem?_getD, hi]; rfl
  unfold innerT
  rw [this, List.take_add_one, hj, List.map_append, List.append_assoc]
  rfl
theorem innerT_last {i c : Nat} (hi : abcd[i]? = some c) : innerT (i + 1) 0 = innerT i 4 := by
  have : abcd.getD i 0 = c := by rw [List.getD_eq_getElem?_getD, hi]; rfl
  unfold innerT
  rw [this, List.take_add_one, hi, List.flatMap_append, List.take_of_length_le (show abcd.length ≤ 4 by decide)]
  simp
theorem pair_of {l : List Nat} (h : l.length = 2) : ∃ a b, l = [a, b] := by
  match l, h with
  | [a, b], _ => exact ⟨a, b, rfl⟩
theorem chk_use {ps ws : List Nat} (h : chk ps ws = true) (hp : ps.length ≤ 6) (h2 : Plain ps) : okL ps ws = true ∧ WordI ws (linesF ps ws).length (linesF ps ws) ps [] := by
  unfold chk at h
  simp only [Bool.and_eq_true, decide_eq_true_eq, List.all_eq_true, beq_iff_eq] at h
  obtain ⟨h1, ⟨h3, h4⟩, h5⟩ := h
  refine ⟨h1, wordF_of _ _ _ _ h5, h3, hp, fun l hl => pair_of (h4 l hl).1, fun l hl c hc => (h4 l hl).2 c hc, h2, ?_⟩
  simp; omega
theorem norm_plain {l : List Nat} (h : Plain l) : Plain (normF l) := fun c hc => by
  obtain ⟨x, hx, hcx⟩ := List.mem_flatten.mp hc
  obtain ⟨d, hd, rfl⟩ := List.mem_map.mp ((sortL_perm _).mem_iff.mp hx)
  exact List.mem_singleton.mp hcx ▸ h d hd
theorem told_plain {Ls : List (List Nat)} (h : ∀ l ∈ Ls, Plain l) : ∀ x ∈ sortL (Ls.map normF), Plain x := fun x hx => by
  obtain ⟨l, hl, rfl⟩ := List.mem_map.mp ((sortL_perm _).mem_iff.mp hx)
  exact norm_plain (h l hl)
end Mine
namespace Mine
theorem good16 : ((List.range 4).all fun i => (List.range 4).all fun j => chk abcd [abcd.getD i 0, abcd.getD j 0] && !decide (told2 (abcd.getD i 0) (abcd.getD j 0) ∈ innerT i j)) = true := by decide +kernel
theorem good_at {i j c d : Nat} (hi : abcd[i]? = some c) (hj : abcd[j]? = some d) : chk abcd [c, d] = true ∧ told2 c d ∉ innerT i j := by
  have lt : ∀ {k e : Nat}, abcd[k]? = some e → k < 4 := fun {k e} h => by
    rcases Nat.lt_or_ge k 4 with q | q
    · exact q
    · rw [List.getElem?_eq_none (show abcd.length ≤ k from q)] at h; cases h
  have h := good16
  simp only [List.all_eq_true, List.mem_range, Bool.and_eq_true, Bool.not_eq_true', decide_eq_false_iff_not] at h
  have h9 := h i (lt hi) j (lt hj)
  have ec : abcd.getD i 0 = c := by rw [List.getD_eq_getElem?_getD, hi]; rfl
  have ed : abcd.getD j 0 = d := by rw [List.getD_eq_getElem?_getD, hj]; rfl
  rw [ec, ed] at h9
  exact h9
def both (ws : List Nat) : Bool := chk alpha ws && deg alpha ws
theorem both65x65 : (alpha.all fun b => alpha.all fun c => both [65, 65, b, c]) = true := by decide +kernel
theorem both65x66 : (alpha.all fun b => alpha.all fun c => both [65, 66, b, c]) = true := by decide +kernel
theorem both65x67 : (alpha.all fun b => alpha.all fun c => both [65, 67, b, c]) = true := by decide +kernel
theorem both65x68 : (alpha.all fun b => alpha.all fun c => both [65, 68, b, c]) = true := by decide +kernel
theorem both65x69 : (alpha.all fun b => alpha.all fun c => both [65, 69, b, c]) = true := by decide +kernel
theorem both65x70 : (alpha.all fun b => alpha.all fun c => both [65, 70, b, c]) = true := by decide +kernel
theorem both65 : ∀ a ∈ alpha, ∀ b ∈ alpha, ∀ c ∈ alpha, both [65, a, b, c] = true := by
  intro a ha b hb c hc
  simp only [alpha, List.mem_cons, List.not_mem_nil, or_false] at ha
  rcases ha with rfl | rfl | rfl | rfl | rfl | rfl
  · exact List.all_eq_true.mp (List.all_eq_true.mp both65x65 b hb) c hc
  · exact List.all_eq_true.mp (List.all_eq_true.mp both65x66 b hb) c hc
  · exact List.all_eq_true.mp (List.all_eq_true.mp both65x67 b hb) c hc
  · exact List.all_eq_true.mp (List.all_eq_true.mp both65x68 b hb) c hc
  · exact List.all_eq_true.mp (List.all_eq_true.mp both65x69 b hb) c hc
  · exact List.all_eq_true.mp (List.all_eq_true.mp both65x70 b hb) c hc
theorem both66x65 : (alpha.all fun b => alpha.all fun c => both [66, 65, b, c]) = true := by decide +kernel
theorem both66x66 : (alpha.all fun b => alpha.all fun c => both [66, 66, b, c]) = true := by decide +kernel
theorem both66x67 : (alpha.all fun b => alpha.all fun c => both [66, 67, b, c]) = true := by decide +kernel
theorem both66x68 : (alpha.all fun b => alpha.all fun c => both [66, 68, b, c]) = true := by decide +kernel
theorem both66x69 : (alpha.all fun b => alpha.all fun c => both [66, 69, b, c]) = true := by decide +kernel
theorem both66x70 : (alpha.all fun b => alpha.all fun c => both [66, 70, b, c]) = true := by decide +kernel
theorem both66 : ∀ a ∈ alpha, ∀ b ∈ alpha, ∀ c ∈ alpha, both [66, a, b, c] = true := by
  intro a ha b hb c hc
  simp only [alpha, List.mem_cons, List.not_mem_nil, or_false] at ha
  rcases ha with rfl | rfl | rfl | rfl | rfl | rfl
  · exact List.all_eq_true.mp (List.all_eq_true.mp both66x65 b hb) c hc
  · exact List.all_eq_true.mp (List.all_eq_true.mp both66x66 b hb) c hc
  · exact List.all_eq_true.mp (List.all_eq_true.mp both66x67 b hb) c hc
  · exact List.all_eq_true.mp (List.all_eq_true.mp both66x68 b hb) c hc
  · exact List.all_eq_true.mp (List.all_eq_true.mp both66x69 b hb) c hc
  · exact List.all_eq_true.mp (List.all_eq_true.mp both66x70 b hb) c hc
theorem both67x65 : (alpha.all fun b => alpha.all fun c => both [67, 65, b, c]) = true := by decide +kernel
theorem both67x66 : (alpha.all fun b => alpha.all fun c => both [67, 66, b, c]) = true := by decide +kernel
theorem both67x67 : (alpha.all fun b => alpha.all fun c => both [67, 67, b, c]) = true := by decide +kernel
theorem both67x68 : (alpha.all fun b => alpha.all fun c => both [67, 68, b, c]) = true := by decide +kernel
theorem both67x69 : (alpha.all fun b => alpha.all fun c => both [67, 69, b, c]) = true := by decide +kernel
theorem both67x70 : (alpha.all fun b => alpha.all fun c => both [67, 70, b, c]) = true := by decide +kernel
theorem both67 : ∀ a ∈ alpha, ∀ b ∈ alpha, ∀ c ∈ alpha, both [67, a, b, c] = true := by
  intro a ha b hb c hc
  simp only [alpha, List.mem_cons, List.not_mem_nil, or_false] at ha
  rcases ha with rfl | rfl | rfl | rfl | rfl | rfl
  · exact List.all_eq_true.mp (List.all_eq_true.mp both67x65 b hb) c hc
  · exact List.all_eq_true.mp (List.all_eq_true.mp both67x66 b hb) c hc
  · exact List.all_eq_true.mp (List.all_eq_true.mp both67x67 b hb) c hc
  · exact List.all_eq_true.mp (List.all_eq_true.mp both67x68 b hb) c hc
  · exact List.all_eq_true.mp (List.all_eq_true.mp both67x69 b hb) c hc
  · exact List.all_eq_true.mp (List.all_eq_true.mp both67x70 b hb) c hc
theorem both68x65 : (alpha.all fun b => alpha.all fun c => both [68, 65, b, c]) = true := by decide +kernel
theorem both68x66 : (alpha.all fun b => alpha.all fun c => both [68, 66, b, c]) = true := by decide +kernel
theorem both68x67 : (alpha.all fun b => alpha.all fun c => both [68, 67, b, c]) = true := by decide +kernel
theorem both68x68 : (alpha.all fun b => alpha.all fun c => both [68, 68, b, c]) = true := by decide +kernel
theorem both68x69 : (alpha.all fun b => alpha.all fun c => both [68, 69, b, c]) = true := by decide +kernel
theorem both68x70 : (alpha.all fun b => alpha.all fun c => both [68, 70, b, c]) = true := by decide +kernel
theorem both68 : ∀ a ∈ alpha, ∀ b ∈ alpha, ∀ c ∈ alpha, both [68, a, b, c] = true := by
  intro a ha b hb c hc
  simp only [alpha, List.mem_cons, List.not_mem_nil, or_false] at ha
  rcases ha with rfl | rfl | rfl | rfl | rfl | rfl
  · exact List.all_eq_true.mp (List.all_eq_true.mp both68x65 b hb) c hc
  · exact List.all_eq_true.mp (List.all_eq_true.mp both68x66 b hb) c hc
  · exact List.all_eq_true.mp (List.all_eq_true.mp both68x67 b hb) c hc
  · exact List.all_eq_true.mp (List.all_eq_true.mp both68x68 b hb) c hc
  · exact List.all_eq_true.mp (List.all_eq_true.mp both68x69 b hb) c hc
  · exact List.all_eq_true.mp (List.all_eq_true.mp both68x70 b hb) c hc
theorem both69x65 : (alpha.all fun b => alpha.all fun c => both [69, 65, b, c]) = true := by decide +kernel
theorem both69x66 : (alpha.all fun b => alpha.all fun c => both [69, 66, b, c]) = true := by decide +kernel
theorem both69x67 : (alpha.all fun b => alpha.all fun c => both [69, 67, b, c]) = true := by decide +kernel
theorem both69x68 : (alpha.all fun b => alpha.all fun c => both [69, 68, b, c]) = true := by decide +kernel
theorem both69x69 : (alpha.all fun b => alpha.all fun c => both [69, 69, b, c]) = true := by decide +kernel
theorem both69x70 : (alpha.all fun b => alpha.all fun c => both [69, 70, b, c]) = true := by decide +kernel
theorem both69 : ∀ a ∈ alpha, ∀ b ∈ alpha, ∀ c ∈ alpha, both [69, a, b, c] = true := by
  intro a ha b hb c hc
  simp only [alpha, List.mem_cons, List.not_mem_nil, or_false] at ha
  rcases ha with rfl | rfl | rfl | rfl | rfl | rfl
  · exact List.all_eq_true.mp (List.all_eq_true.mp both69x65 b hb) c hc
  · exact List.all_eq_true.mp (List.all_eq_true.mp both69x66 b hb) c hc
  · exact List.all_eq_true.mp (List.all_eq_true.mp both69x67 b hb) c hc
  · exact List.all_eq_true.mp (List.all_eq_true.mp both69x68 b hb) c hc
  · exact List.all_eq_true.mp (List.all_eq_true.mp both69x69 b hb) c hc
  · exact List.all_eq_true.mp (List.all_eq_true.mp both69x70 b hb) c hc
theorem both70x65 : (alpha.all fun b => alpha.all fun c => both [70, 65, b, c]) = true := by decide +kernel
theorem both70x66 : (alpha.all fun b => alpha.all fun c => both [70, 66, b, c]) = true := by decide +kernel
theorem both70x67 : (alpha.all fun b => alpha.all fun c => both [70, 67, b, c]) = true := by decide +kernel
theorem both70x68 : (alpha.all fun b => alpha.all fun c => both [70, 68, b, c]) = true := by decide +kernel
theorem both70x69 : (alpha.all fun b => alpha.all fun c => both [70, 69, b, c]) = true := by decide +kernel
theorem both70x70 : (alpha.all fun b => alpha.all fun c => both [70, 70, b, c]) = true := by decide +kernel
theorem both70 : ∀ a ∈ alpha, ∀ b ∈ alpha, ∀ c ∈ alpha, both [70, a, b, c] = true := by
  intro a ha b hb c hc
  simp only [alpha, List.mem_cons, List.not_mem_nil, or_false] at ha
  rcases ha with rfl | rfl | rfl | rfl | rfl | rfl
  · exact List.all_eq_true.mp (List.all_eq_true.mp both70x65 b hb) c hc
  · exact List.all_eq_true.mp (List.all_eq_true.mp both70x66 b hb) c hc
  · exact List.all_eq_true.mp (List.all_eq_true.mp both70x67 b hb) c hc
  · exact List.all_eq_true.mp (List.all_eq_true.mp both70x68 b hb) c hc
  · exact List.all_eq_true.mp (List.all_eq_true.mp both70x69 b hb) c hc
  · exact List.all_eq_true.mp (List.all_eq_true.mp both70x70 b hb) c hc
theorem both_at {cs : List Nat} (hl : cs.length = 4) (hc : ∀ c ∈ cs, c ∈ alpha) : chk alpha cs = true ∧ deg alpha cs = true := by
  match cs, hl with
  | [p, a, b, c], _ =>
    have hp := hc p (by simp)
    have ha := hc a (by simp)
    have hb := hc b (by simp)
    have hd := hc c (by simp)
    have key : both [p, a, b, c] = true := by
      simp only [alpha, List.mem_cons, List.not_mem_nil, or_false] at hp
      rcases hp with rfl | rfl | rfl | rfl | rfl | rfl
      · exact both65 a ha b hb c hd
      · exact both66 a ha b hb c hd
      · exact both67 a ha b hb c hd
      · exact both68 a ha b hb c hd
      · exact both69 a ha b hb c hd
      · exact both70 a ha b hb c hd
    exact Bool.and_eq_true_iff.mp key
end Mine
namespace Mine
theorem abcd_S : Str.ofString "ABCD" = S abcd := by decide +kernel
theorem alpha_S' : Str.ofString "ABCDEF" = S alpha := by decide +kernel
theorem law_word_spec' (w : World) (Ls : List (List Nat)) (ps out : List Nat) (xt : Str) (hx : xt = S ps) (u : Tok) (ax : Addr) (its : Array Value) (k : Nat) (hI : StrsAre its.toList (Ls.map S)) (hJ : WordI out Ls.length Ls ps []) :
    Spec w 153 6 160 [(ax, { cls := .type "list", data := .seq its k })] [.ref ax, .str xt u] (fun tl r => tl = [] ∧ ∃ t : Tok, r = .str (S out) t) := by
  subst hx
  exact law_word_spec w Ls ps out u ax its k hI hJ
section
variable {prog : Program} {w : World} {A : Around} {E : Value → Shared → Prop} {s : Shared} {env : Env} {h₀ : Heap} {x : Str} {body : List Stmt} {Q : Flow → Shared → Prop}
theorem iter_law {stored : List Str} {m₀ : Str → Option Value} {Cl T : Addr} {pre rest : List (Addr × Obj)} {bad' : List Addr} {Ts : List (List (List Nat))} {its : List Value} {k : Nat} {ol : Obj} {v : Option Value} {all : List (Addr × Obj)} {xt : Str} {l : List Nat} {t : Tok} (P : Nat → List (List (List Nat)) → Prop) (hx : xt = S l)
    (hh : A.handled = none) (F : Fr h₀ env.locals s.heap m₀) (N : News h₀ env.locals s.heap ((Cl, ol) :: (T, W.listOf its.toArray k) :: (pre ++ all))) (hol : ol.data = .cell v) (hL : ListsAre all its Ts) (hr : ∀ p ∈ rest, p ∈ all) (hb : ∀ p ∈ all, ∀ b ∈ Cl :: T :: bad', p.1 ≠ b) (hP : P 0 Ts)
    (turn : ∀ i c u I Ts its k ol v all (u9 : Str → Option Value) h tk oI, l[i]? = some c → P i Ts → ol.data = .cell v → ListsAre all its Ts → (∀ p ∈ rest, p ∈ all) → (∀ p ∈ all, ∀ b ∈ Cl :: T :: bad', p.1 ≠ b) → (∀ p ∈ (Cl, ol) :: (T, W.listOf its.toArray k) :: (pre ++ all), p.1 ≠ I) →
      Fr h₀ env.locals h (fun y => if y = x then some (.str (S [c]) u) else offM stored u9 m₀ y) → News h₀ env.locals h ((I, oI) :: (Cl, ol) :: (T, W.listOf its.toArray k) :: (pre ++ all)) →
      wpAny (model prog w) A (execs body env) (IEnd h₀ env.locals I oI (LawJ stored m₀ Cl T pre rest (Cl :: T :: bad') (P (i + 1))) { s with heap := h, toks := tk } Q) E { s with heap := h, toks := tk })
    (done : ∀ Ts its k ol v all (u9 : Str → Option Value) h tk, P l.length Ts → ol.data = .cell v → ListsAre all its Ts → (∀ p ∈ rest, p ∈ all) → (∀ p ∈ all, ∀ b ∈ Cl :: T :: bad', p.1 ≠ b) →
      Fr h₀ env.locals h (offM stored u9 m₀) → News h₀ env.locals h ((Cl, ol) :: (T, W.listOf its.toArray k) :: (pre ++ all)) → Q .next { s with heap := h, toks := tk }) :
    wpAny (model prog w) A (pyIter (.str xt t)) (fun it s₂ => LoopAtV prog w A h₀ env x body Q E it s₂) E s := by
  subst hx
  exact iter_text_law P hh F N hol hL hr hb hP turn done
end
section
variable {prog : Program} {w : World} {A : Around} {E : Value → Shared → Prop} {s : Shared} {h₀ : Heap} {L : Addr} {m : Str → Option Value} {env : Env}
theorem FSrc.of {ct : Expr} {x : Str} {scope : Scope} {cl : List (Str × Addr)} {Q : Value → Shared → Prop} {xt : Str} {l : List Nat} {t : Tok} {s₁ : Shared} (hx : xt = S l) (h : FSrc prog w A h₀ L m env ct x scope cl Q (.str (S l) t) s₁) : FSrc prog w A h₀ L m env ct x scope cl Q (.str xt t) s₁ := by
  subst hx
  exact h
theorem item_letter' {value slice : PySem.Expr} {xt : Str} (hx : xt = S alpha) {t u : Tok} {v : Int} {Q : Value → Shared → Prop} (h0 : 0 ≤ v) (h6 : v < 6) (h : ∀ c, c ∈ alpha → Q (.str (S [c]) s.toks) { s with toks := s.toks + 1 })
    (hs : subscripted slice false (.str xt t) (.int v u) = operate [.str xt t, .int v u] (getItem (.str xt t) (.int v u)) := by with_unfolding_all rfl)
    (ht : ∀ r, letTemporaryGo value (.str xt t) r = pure () := by intro _; with_unfolding_all rfl) :
    wpAny (model prog w) A (subscriptTail value slice (.str xt t) (.int v u)) Q E s := by
  subst hx
  exact item_letter h0 h6 h hs ht
end

theorem News.pick7 {h₀ h : Heap} {L : Addr} {t T b c w3 w2 w1 : Addr × Obj} (N : News h₀ L h [t, T, b, c, w3, w2, w1]) : News h₀ L h (w2 :: T :: ([] ++ [b, c, w3, w1])) := fun p hp => N p (by
  simp only [List.mem_cons, List.not_mem_nil, or_false, List.nil_append] at hp ⊢
  rcases hp with h | h | h | h | h | h
  · exact .inr (.inr (.inr (.inr (.inr (.inl h)))))
  · exact .inr (.inl h)
  · exact .inr (.inr (.inl h))
  · exact .inr (.inr (.inr (.inl h)))
  · exact .inr (.inr (.inr (.inr (.inl h))))
  · exact .inr (.inr (.inr (.inr (.inr (.inr h))))))
theorem News.under {h₀ h : Heap} {L : Addr} {I a b : Addr × Obj} {all : List (Addr × Obj)} (N : News h₀ L h (I :: a :: b :: ([] ++ all))) : News h₀ L h (a :: b :: ([I] ++ all)) := fun p hp => N p (by
  simp only [List.mem_cons, List.nil_append, List.cons_append] at hp ⊢
  rcases hp with h | h | h | h
  · exact .inr (.inl h)
  · exact .inr (.inr (.inl h))
  · exact .inl h
  · exact .inr (.inr (.inr h)))
end Mine
namespace Mine
theorem lines4_spec (w : World) (c d : Nat) (t : Tok) (h : okL abcd [c, d] = true) : Spec w 138 4 40 [] [.str (S [c, d]) t] (fun tl r => ∃ D ys n, tl = [(D, W.listOf ys.toArray n)] ∧ r = .ref D ∧ StrsAre ys ((linesF abcd [c, d]).map S)) :=
  law_lines_spec w [c, d] t (by simp) h
theorem lines6_spec (w : World) (cs : List Nat) (t : Tok) (hl : cs.length = 4) (h : okL alpha cs = true) : Spec w 138 4 40 [] [.str (S cs) t] (fun tl r => ∃ D ys n, tl = [(D, W.listOf ys.toArray n)] ∧ r = .ref D ∧ StrsAre ys ((linesF alpha cs).map S)) := by
  have e : alpha.take (cs.length + 2) = alpha := by rw [hl]; rfl
  have := law_lines_spec w cs t (by omega) (by rw [e]; exact h)
  rwa [e] at this
theorem word_spec (w : World) (Ls : List (List Nat)) (ps out : List Nat) (xt : Str) (hx : xt = S ps) (u : Tok) (ax : Addr) {ys : List Value} (k : Nat) (hI : StrsAre ys (Ls.map S)) (hJ : WordI out Ls.length Ls ps []) :
    Spec w 153 6 160 [(ax, W.listOf ys.toArray k)] [.ref ax, .str xt u] (fun tl r => tl = [] ∧ ∃ t : Tok, r = .str (S out) t) :=
  law_word_spec' w Ls ps out xt hx u ax ys.toArray k hI hJ
theorem at_spec (w : World) (Ls : List (List Nat)) (c : Nat) (u : Tok) (ax : Addr) {ys : List Value} (k : Nat) (hI : StrsAre ys (Ls.map S)) (hL : Ls.length ≤ 1000) (hl : ∀ l ∈ Ls, l.length ≤ 63) :
    Spec w 143 4 40 [(ax, W.listOf ys.toArray k)] [.ref ax, .str (S [c]) u] (fun tl r => ∃ D ys, tl = [(D, lst ys)] ∧ r = .ref D ∧ StrsAre ys ((Ls.filter (fun l => decide (0 < place l c))).map S)) :=
  law_at_spec w Ls c u ax ys.toArray k hI hL hl
theorem innerT_length (i j : Nat) : (innerT i j).length ≤ 20 := by
  unfold innerT
  rw [List.length_append, List.length_flatMap, List.length_map]
  have h1 : (abcd.take j).length ≤ 4 := by rw [List.length_take]; exact Nat.min_le_right _ _
  have h2 : ((abcd.take i).map fun a => (abcd.map (told2 a)).length).sum ≤ 16 := by
    have e : ((abcd.take i).map fun a => (abcd.map (told2 a)).length) = (abcd.take i).map fun _ => 4 := List.map_congr_left fun a _ => by rw [List.length_map]; rfl
    rw [e, List.map_const', List.sum_replicate_nat]
    have : (abcd.take i).length ≤ 4 := by rw [List.length_take]; exact Nat.min_le_right _ _
    omega
  omega
theorem flat_ones : ∀ (Ls : List (List Nat)), (∀ l ∈ Ls, l.length = 1) → Ls.flatten.length = Ls.length
  | [], _ => rfl
  | a :: r, h => by
    rw [List.flatten_cons, List.length_append, h a (.head _), flat_ones r fun l hl => h l (.tail _ hl), List.length_cons]
    omega
theorem norm_length (l : List Nat) : (sortL (l.map fun c => [c])).flatten.length = l.length := by
  rw [flat_ones _ fun x hx => ?_, (sortL_perm _).length_eq, List.length_map]
  obtain ⟨c, _, rfl⟩ := List.mem_map.mp ((sortL_perm _).mem_iff.mp hx)
  rfl
theorem abcd_plain : Plain abcd := by intro c hc; revert c; decide
theorem alpha_plain : Plain alpha := by intro c hc; revert c; decide
theorem lines_good {c d : Nat} (hc : c ∈ abcd) (hd : d ∈ abcd) : okL abcd [c, d] = true ∧ WordI [c, d] (linesF abcd [c, d]).length (linesF abcd [c, d]) abcd [] := by
  obtain ⟨i, hi⟩ := List.getElem?_of_mem hc
  obtain ⟨j, hj⟩ := List.getElem?_of_mem hd
  exact chk_use (good_at hi hj).1 (by decide) abcd_plain
theorem innerT_plain {i : Nat} (j : Nat) (q : i < 4) : ∀ U ∈ innerT i j, ∀ l ∈ U, Plain l := fun U hU => by
  unfold innerT at hU
  have key : ∀ c ∈ abcd, ∀ d ∈ abcd, ∀ l ∈ told2 c d, Plain l := fun c hc d hd => told_plain (lines_good hc hd).2.p1
  rcases List.mem_append.mp hU with hU | hU
  · obtain ⟨c, hc, hU⟩ := List.mem_flatMap.mp hU
    obtain ⟨d, hd, rfl⟩ := List.mem_map.mp hU
    exact key c (List.mem_of_mem_take hc) d hd
  · obtain ⟨d, hd, rfl⟩ := List.mem_map.mp hU
    have : abcd.getD i 0 ∈ abcd := by
      rw [List.getD_eq_getElem?_getD, List.getElem?_eq_getElem (show i < abcd.length from q)]
      exact List.getElem_mem _
    exact key _ this d (List.mem_of_mem_take hd)
theorem at_lt {k e : Nat} (h : abcd[k]? = some e) : k < 4 := by
  rcases Nat.lt_or_ge k 4 with q | q
  · exact q
  · rw [List.getElem?_eq_none (show abcd.length ≤ k from q)] at h; cases h
theorem list_head {h₀ h : Heap} {L D : Addr} {its : Array Value} {k : Nat} {news : List (Addr × Obj)} (N : News h₀ L h ((D, W.listOf its k) :: news)) : h.IsList D its := ⟨_, (N _ (.head _)).1, rfl, _, rfl⟩
section
variable {h₀ : Heap} {Q : Flow → Shared → Prop}
theorem inner_end {stored : List Str} {m₀ m' : Str → Option Value} {L Cl T I I2 Dt : Addr} {oI oI2 ol ol8 o8 : Obj} {d d9 : Addr × Obj} {rest all : List (Addr × Obj)} {P : List (List (List Nat)) → Prop} {Ts : List (List (List Nat))} {U : List (List Nat)} {its ys : List Value} {n k : Nat} {v : Value} {s₁ : Shared} {h' : Heap} {tk : Nat}
    (F : Fr h₀ L h' m') (hol : ol.data = .cell (some v)) (N : News h₀ L h' ((Dt, W.listOf ys.toArray n) :: d :: d9 :: (I2, oI2) :: (Cl, ol) :: (T, W.listOf (its.toArray.push (.ref Dt)) k) :: (I, oI) :: all)) (hy : StrsAre ys (U.map S)) (hL : ListsAre all its Ts)
    (hr : ∀ p ∈ rest, p ∈ all) (hb : ∀ p ∈ all, ∀ b ∈ [Cl, T, I], p.1 ≠ b) (off : ∀ p ∈ (Cl, ol8) :: (T, o8) :: (I, oI) :: all, p.1 ≠ I2) (n1 : @Ne Nat Dt Cl) (n2 : @Ne Nat Dt T) (n3 : @Ne Nat Dt I) (n4 : @Ne Nat Dt I2) (hP : P (Ts ++ [U])) (hm : ∀ z, stored.contains z = false → m' z = m₀ z) :
    IEnd h₀ L I2 oI2 (LawJ stored m₀ Cl T [(I, oI)] rest [Cl, T, I] P) s₁ Q .next { s₁ with heap := h', toks := tk } := by
  simp only [List.push_toArray] at N
  refine IEnd.law (all := (Dt, W.listOf ys.toArray n) :: all) F hol N (.tail _ (.tail _ (.tail _ (.head _)))) (.tail _ (.tail _ (.tail _ (.tail _ (.head _))))) (.tail _ (.tail _ (.tail _ (.tail _ (.tail _ (.head _)))))) (fun p hp => ?_) (fun p hp => ?_)
    ((hL.mono fun p hp => .tail _ hp).snoc (.head _) hy) (fun p hp => .tail _ (hr p hp)) (fun p hp b hbb => ?_) ?_ ?_ (fun p hp => ?_) (fun p hp => ?_) hP hm
  · rw [List.mem_singleton.mp hp]
    exact .tail _ (.tail _ (.tail _ (.tail _ (.tail _ (.tail _ (.head _))))))
  · rcases List.mem_cons.mp hp with rfl | hp
    · exact .head _
    · exact .tail _ (.tail _ (.tail _ (.tail _ (.tail _ (.tail _ (.tail _ hp))))))
  · rcases List.mem_cons.mp hp with rfl | hp
    · simp only [List.mem_cons, List.not_mem_nil, or_false] at hbb
      rcases hbb with rfl | rfl | rfl
      · exact n1
      · exact n2
      · exact n3
    · exact hb p hp b hbb
  · exact off (Cl, ol8) (.head _)
  · exact off (T, o8) (.tail _ (.head _))
  · rw [List.mem_singleton.mp hp]
    exact off (I, oI) (.tail _ (.tail _ (.head _)))
  · rcases List.mem_cons.mp hp with rfl | hp
    · exact n4
    · exact off p (.tail _ (.tail _ (.tail _ hp)))
end
theorem notin2 {a b z : Str} (h : [a, b].contains z = false) : z ≠ a ∧ z ≠ b := by
  simpa only [List.contains_cons, List.contains_nil, Bool.or_false, Bool.or_eq_false_iff, beq_eq_false_iff_ne, ne_eq] using h
theorem notin3 {a b c z : Str} (h : [a, b, c].contains z = false) : z ≠ a ∧ z ≠ b ∧ z ≠ c := by
  simpa only [List.contains_cons, List.contains_nil, Bool.or_false, Bool.or_eq_false_iff, beq_eq_false_iff_ne, ne_eq] using h
theorem off_two {a b z : Str} {u m : Str → Option Value} (h : [a, b].contains z = false) : offM [a, b] u m z = m z := by
  show (if [a, b].contains z = true then u z else m z) = m z
  rw [h]; rfl
theorem off_three {a b c z : Str} {u m : Str → Option Value} (h : [a, b, c].contains z = false) : offM [a, b, c] u m z = m z := by
  show (if [a, b, c].contains z = true then u z else m z) = m z
  rw [h]; rfl
theorem off_tail {a b c z : Str} (h : [a, b, c].contains z = false) : [b, c].contains z = false := by
  have := notin3 h
  simp only [List.contains_cons, List.contains_nil, Bool.or_false, Bool.or_eq_false_iff, beq_eq_false_iff_ne, ne_eq]
  exact this.2
theorem News.front {h₀ h : Heap} {L : Addr} {a b : Addr × Obj} {all rest : List (Addr × Obj)} (N : News h₀ L h (a :: b :: ([] ++ all))) (hr : ∀ p ∈ rest, p ∈ all) : News h₀ L h (a :: rest) := fun p hp => N p (by
  rcases List.mem_cons.mp hp with rfl | hp
  · exact .head _
  · exact .tail _ (.tail _ (hr p hp)))
theorem cnt_count (c : Nat) : ∀ l : List Nat, PyProof.Rows.cnt c l = (l.count c : Int)
  | [] => rfl
  | a :: l => by
    rw [cnt_cons, cnt_count c l, List.count_cons]
    by_cases h : a = c
    · simp [h]; omega
    · simp [h]
theorem count_S (l : List Nat) (c : Nat) : Txt.count (S l) (S [c]) = (l.count c : Int) := by
  have := count_is (S l) c
  rw [← cnt_count]
  exact this
theorem deg_none {cs : List Nat} (h : deg alpha cs = true) : (alpha.filter fun d => decide ((atF (linesF alpha cs) d).length ≠ 1 + cs.count d)) = [] := by
  rw [List.filter_eq_nil_iff]
  intro d hd
  have := List.all_eq_true.mp h d hd
  simp only [beq_iff_eq] at this
  simp [this]
theorem deg_test (n k : Nat) : ((n : Int) != 1 + (k : Int)) = decide (n ≠ 1 + k) := by
  rw [Bool.eq_iff_iff]
  simp only [bne_iff_ne, ne_eq, decide_eq_true_eq]
  omega
end Mine
namespace Mine
theorem law_holds : PySem.Challenge.rw_xm0047_01.Holds := hd (by
  k_go0
  (all_goals try k_fold)
  rename World => w
  k_with_none
  k_with "park for" => ((rename Fr _ _ _ _ => lF'); (with_unfolding_all refine' For_invVF lF' ?k1 ?k2 ?_; (case k1 => exact rfl); (case k2 => exact rfl); k_whole))
  k_with "park text" => (refine Mine.Parked.go ?_)
  k_steps
  constructor
  rename Fr _ _ _ _ => lF'
  rename News _ _ _ _ => lN'
  refine iter_law (stored := [Str.ofString "first", Str.ofString "last", Str.ofString "told"]) (its := []) (bad' := []) (fun i Ts => Ts = innerT i 0) abcd_S (by rfl) lF' (News.pick7 lN') (by assumption) .nil (fun p hp => hp) ?_ rfl ?_ ?_
  · intro p hp b hb
    simp only [List.mem_cons, List.not_mem_nil, or_false] at hp hb
    rcases hp with rfl | rfl | rfl | rfl <;> rcases hb with rfl | rfl <;> (show @Ne Nat _ _; omega)
  · rintro i c u I Ts its k ol v all u9 h tk oI hi rfl hol hL hr hb off F9 N9
    k_steps
    constructor
    rename Fr _ _ _ _ => lF'
    refine iter_law (stored := [Str.ofString "last", Str.ofString "told"]) (pre := [(I, oI)]) (bad' := [I]) (fun j Ts => Ts = innerT i j) abcd_S (by rfl) lF' (News.under N9) (by assumption) hL hr ?_ rfl ?_ ?_
    · intro p hp b hbb
      rcases List.mem_cons.mp hbb with rfl | hbb
      · exact hb p hp _ (.head _)
      · rcases List.mem_cons.mp hbb with rfl | hbb
        · exact hb p hp _ (.tail _ (.head _))
        · rw [List.mem_singleton.mp hbb]
          exact off p (.tail _ (.tail _ hp))
    · rintro j d u8 I2 Ts its k ol8 v8 all8 u7 h2 tk2 oI2 hj rfl hol8 hL8 hr8 hb8 off2 F8 N8
      simp only [List.cons_append, List.nil_append] at N8 off2 off
      have hc := List.mem_of_getElem? hi
      have hd := List.mem_of_getElem? hj
      have hlt := at_lt hi
      obtain ⟨hok, hW⟩ := lines_good hc hd
      have hnot : decide (told2 c d ∈ innerT i j) = false := decide_eq_false (good_at hi hj).2
      have hne : (S [c, d] != S [c, d]) = false := by simp
      have hne2 : (S [c, d] != S ([c] ++ [d])) = false := by simp
      have hCl : ∀ p ∈ all8, p.1 ≠ _ := fun p hp => hb8 p hp _ (.head _)
      have hT : ∀ p ∈ all8, p.1 ≠ _ := fun p hp => hb8 p hp _ (.tail _ (.head _))
      have hI1 : ∀ p ∈ all8, p.1 ≠ I := fun p hp => hb8 p hp _ (.tail _ (.tail _ (.head _)))
      have f1 : @Ne Nat _ I := off _ (.head _)
      have f2 : @Ne Nat _ I := off _ (.tail _ (.head _))
      have f3 : @Ne Nat _ I2 := off2 _ (.head _)
      have f4 : @Ne Nat _ I2 := off2 _ (.tail _ (.head _))
      have f5 : @Ne Nat I I2 := off2 _ (.tail _ (.tail _ (.head _)))
      dsimp only at f1 f2 f3 f4
      have b1 := hW.ll
      have b2 : its.length ≤ 20 := by rw [hL8.length]; exact innerT_length i j
      k_with "add size" => simp
      k_with "call ref" => first | ktr_call (lines4_spec w c d _ hok) () | ktr_call (word_spec w (linesF abcd [c, d]) abcd [c, d] _ abcd_S _ _ _ (by assumption) hW) ()
      k_with "map comp" => skip
      k_with "CompSrc" => (refine map_lines (linesF abcd [c, d]) normF (by rfl) (by k_asm) (by k_asm) (by k_mem) (by assumption) (by omega) ?_ ?_; (intro l ty I oI C oC D oD m₂ g9 h tk E' hlm hC hx F' N' ne'; obtain ⟨x1, x2, rfl⟩ := hW.pair l hlm); rotate_left; intro D h tk ys hys F' N' off'; simp only [Off1] at off')
      k_with "sort size" => first | (simp; done) | (rw [List.length_map]; omega)
      k_with "call builtin:str.join" => (k_here; (rename StrsAre _ _ => hy8); (rename News _ _ _ _ => N8); (refine' join_lines _ ?zza hy8 ?zzb ?_); (case zza => exact list_head N8); (case zzb => (rw [norm_length]; simp)); intro t' k')
      k_with "sort list" => exact hys
      k_with "in lists" => (refine in_lists (T := told2 c d) (Ts := innerT i j) (by k_asm) (by is_list) (by assumption) (by k_mem) (hL8.mono (by kstt_sub)) (told_plain hW.p1) (innerT_plain j hlt) (by ktr_units) ?_)
      k_with "addsize" => ((try simp only [sizeLine_eq]); (try simp); omega)
      k_steps
      · rename News _ _ _ _ => nE
        rename StrsAre _ _ => hy8
        refine inner_end (U := told2 c d) (by k_asm) (by assumption) nE hy8 hL8 hr8 hb8 off2 (by omega) (by omega) (by omega) (by omega) (innerT_next hi hj).symm (fun z hz => ?_)
        rw [if_neg (notin2 hz).2, if_neg (notin2 hz).1]
        exact off_two hz
      · exact MEnd.intro (by k_asm) (by assumption) (by kstt_sub)
    · rintro Ts its8 k8 ol8 v8 all8 u7 h2 tk2 rfl hol8 hL8 hr8 hb8 F8 N8
      simp only [List.cons_append, List.nil_append] at N8
      k_steps
      refine IEnd.law (by k_asm) hol8 N8 (.tail _ (.tail _ (.head _))) (.head _) (.tail _ (.head _)) (fun p hp => nomatch hp) (fun p hp => .tail _ (.tail _ (.tail _ hp))) hL8 hr8 (fun p hp b hbb => hb8 p hp b ?_) (off _ (.head _)) (off _ (.tail _ (.head _))) (fun p hp => nomatch hp) (fun p hp => hb8 p hp _ (.tail _ (.tail _ (.head _)))) (innerT_last hi).symm (fun z hz => ?_)
      · simp only [List.mem_cons, List.not_mem_nil, or_false] at hbb ⊢
        exact hbb.elim .inl (fun h => .inr (.inl h))
      · rw [off_two (off_tail hz), if_neg (notin3 hz).1]
        exact off_three hz
  · rintro Ts its k ol v all u9 h tk rfl hol hL hr hb F9 N9
    replace N9 := News.front N9 hr
    clear hL hr hb

    k_with_none
    k_with "map comp" => skip
    k_with "CompSrc" => (refine Mine.Parked.go ?_)
    k_steps
    constructor
    rename News _ _ _ _ => N7
    rename IsRange _ _ _ _ _ _ _ _ => R7
    rename IntsAre _ (List.take 4 _) => hI5
    refine map_draws (by rfl) (by k_asm) (News.swap N7) (by exact R7) ?_ ?_
    · intro i v I oI C oC D oD m₂ g9 h tk E' u5 k5 hi4 hC hx F' N' off' ne'
      simp only [Off3, and_true] at off'
      clear N7 R7
      k_with "call ref" => (k_dflt (refine' SpecB.use (law_draw_spec w _ _ (i : Int) _ _ _ _ _ _ hI5 (by omega) (by omega) (by omega)) ?zk1 ?zk2 ?zk3 ?zk4 ?zk5 ?zk6 ?zkK ?zkd ?zku ?zkn ?_); (case zk2 => first | k_asm | k_dflt assumption); (case zk4 => first | k_asm | k_dflt assumption); (case zk3 => first | k_asm | k_dflt assumption); (case zk6 => first | k_asm | k_dflt assumption); (case zk1 => first | k_asm | k_dflt assumption); (case zkK => first | exact rfl | assumption); (case zkd => first | ktr_room | k_dflt ktr_room); (case zku => first | ktr_units | k_dflt ktr_units); (case zkn => (refine List.forall_mem_cons.mpr ⟨by k_mem, ?_⟩; exact List.forall_mem_nil _)); (case zk5 => k_all); intro r9 o9 h9 tk9 F9 N9 hR9; obtain ⟨k9, u9', v9, t9, rfl, rfl, hv0, hv6⟩ := hR9)
      k_with "letter" => (k_dflt (refine item_letter' alpha_S' hv0 hv6 ?_); intro c9 hc9)
      k_steps
      exact DEnd.intro (by k_asm) N9 hc9
    · intro D h tk ys cs hcl hca hys F' N' off'
      simp only [Off1, and_true] at off'
      clear N7 R7
      obtain ⟨hchk, hdeg⟩ := both_at hcl hca
      obtain ⟨hok, hW⟩ := chk_use hchk (by decide) alpha_plain
      have b1 := hW.ll
      have hl63 : ∀ l ∈ linesF alpha cs, l.length ≤ 63 := fun l hl => by obtain ⟨p, q, rfl⟩ := hW.pair l hl; simp
      have hnone := deg_none hdeg
      k_with_none
      k_with "call builtin:str.join" => (k_here; (rename News _ _ _ _ => N8); (refine' join_mine cs ?zza hys ?zzb ?_); (case zza => exact list_head N8); (case zzb => omega); intro t' k')
      k_with "call ref" => first | ktr_call (lines6_spec w cs _ hcl hok) () | ktr_call (at_spec w (linesF alpha cs) _ _ _ _ (by assumption) (by omega) hl63) () | ktr_call (word_spec w (linesF alpha cs) alpha cs _ alpha_S' _ _ _ (by assumption) hW) ()
      k_with "len list" => exact (List.size_toArray ..).trans ((StrsAre.length (by assumption)).trans (List.length_map ..))
      k_with "len size" => exact Nat.lt_of_le_of_lt (List.length_filter_le _ _) (by omega)
      k_with "FSrc" => (k_dflt (refine FSrc.of alpha_S' (FSrc.str (fun d => decide ((atF (linesF alpha cs) d).length ≠ 1 + cs.count d)) (by rfl) (by k_asm) (by k_asm) (by decide) ?_ ?_)); (intro d ty I oI C oC D oD m₂ h tk E' hmem hC hx F' N' ne'); rotate_left; intro D h tk ys hys F' N' off'; simp only [Off1, and_true] at off'; rw [hnone] at hys; obtain rfl := StrsAre.nil_inv hys)
      k_steps
      tb_rel
      rw [count_S]
      exact deg_test _ _)
end Mine
theorem PySem.Challenge.cw_xm0047_01_holds : PySem.Challenge.rw_xm0047_01.Holds := by
  exact Mine.law_holds
