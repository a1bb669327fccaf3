import PyProof.Rows.All
import Wide.All
import OpenK.AllK
import Wide.FinOn
import Lean
import PySem.Challenge.RW_pf0021_01
set_option Elab.async false
set_option linter.unusedVariables false
set_option linter.deprecated false
section
open PySem PySem.W PySem.W.X PyProof.Rows
namespace Mine

/-! a run of many steps at once, computed by the kernel over own objects at open addresses -/
structure SV where
  prog : Program
  w : PySem.World
  A₀ : Around
  R₀ : Result → Shared → Prop
  h₀ : Heap
  g : Array GenState
  d : Drawn
  os : OsState
inductive Kn where
  | base
  | ret (c : Code) (hd : Option Value) (k : Result → Sem Fin) (κ : Kn)
noncomputable def Kn.tl : Kn → Kn
  | .base => .base
  | .ret _ _ _ κ => κ
noncomputable def Kn.kk : Kn → Result → Sem Fin
  | .base => fun _ => .raise .none
  | .ret _ _ k _ => k
noncomputable def aro (V : SV) : Kn → Around
  | .base => V.A₀
  | .ret c hd _ κ => ((aro V κ).under c).mark hd
noncomputable def endR (V : SV) : Kn → Result → Shared → Prop
  | .base => V.R₀
  | .ret c _ k κ => postR V.prog V.w (aro V κ) c (postC V.prog V.w (aro V κ) (endR V κ)) (postE (endR V κ)) k
abbrev Means (V : SV) (c : Code) (κ : Kn) (T : Sem Fin) (s : Shared) : Prop := wpOwn (model V.prog V.w) (aro V κ) c T (postC V.prog V.w (aro V κ) (endR V κ)) (postE (endR V κ)) s
inductive Ins (h₀ : Heap) where
  | own (i : Nat)
  | old (a : Addr) (o : Obj) (e : h₀.get? a = some o)
  | same (row : String)
  | go
/-- what a run reads, written small: the letters of `c`, and the objects of the old heap -/
noncomputable def unpack (h₀ : Heap) : Nat → Nat → List (Ins h₀) → List (Ins h₀)
  | 0, _, _ => []
  | n + 1, c, os => match c % 64 with
    | 0 => .go :: unpack h₀ n (c / 64) os
    | 1 => match os with
      | o :: os => o :: unpack h₀ n (c / 64) os
      | [] => []
    | k + 2 => .own k :: unpack h₀ n (c / 64) os
/-- what must be alike: addresses, and trees that a row of the world's own habits does not part -/
inductive Ob where
  | a (x : Addr)
  | t (T : Sem Fin)
inductive Tr where
  | fin (T : Sem Fin)
  | env (T : Sem Env) (b : List Stmt)
noncomputable def Tr.f : Tr → Sem Fin
  | .fin T => T
  | .env _ _ => .raise .none
structure MS where
  c : Code
  κ : Kn
  T : Tr
  news : List (Addr × Obj)
  t : Nat
  l1 : List Ob
  l2 : List Ob
noncomputable def nth : List (Addr × Obj) → Nat → Option (Addr × Obj)
  | [], _ => none
  | x :: _, 0 => some x
  | _ :: l, n + 1 => nth l n
theorem nth_eq : ∀ (l : List (Addr × Obj)) (i : Nat), nth l i = l[i]?
  | [], _ => rfl
  | _ :: _, 0 => rfl
  | _ :: l, n + 1 => nth_eq l n
noncomputable def setN : List (Addr × Obj) → Nat → (Addr × Obj) → List (Addr × Obj)
  | [], _, _ => []
  | _ :: l, 0, y => y :: l
  | x :: l, n + 1, y => x :: setN l n y
theorem setN_eq : ∀ (l : List (Addr × Obj)) (i : Nat) (y : Addr × Obj), setN l i y = l.set i y
  | [], _, _ => rfl
  | _ :: _, 0, _ => rfl
  | x :: l, n + 1, y => congrArg (x :: ·) (setN_eq l n y)

/-- the frame of a def: its arguments bound, its names laid -/
noncomputable def mkEnv (a : Addr) (fd : FuncData) (q : Str) (args : Args) : Sem Env := bindArgs fd args >>= fun binds => newFunctionEnv fd.scope fd.globals fd.closure binds (q ++ ".<locals>.") (some a) fd.code none fd.builtins

structure Twins where
  dn : Code → Sem Fin
  me : Addr → FuncData → Str → Args → Sem Env
structure Twins.Ok (Z : Twins) : Prop where
  dn : ∀ c, denote table c = Z.dn c
  me : ∀ a fd q args, mkEnv a fd q args = Z.me a fd q args

abbrev RunTy (V : SV) := Code → Kn → Tr → List (Addr × Obj) → Nat → List (Ins V.h₀) → List Addr → List Ob → List Ob → MS
noncomputable def badMS (c : Code) (κ : Kn) (T : Tr) (news : List (Addr × Obj)) (t : Nat) : MS := ⟨c, κ, T, news, t, [.a 0], []⟩
noncomputable def enter (V : SV) (Z : Twins) (ih : RunTy V) (c : Code) (κ : Kn) (T₀ : Tr) (news : List (Addr × Obj)) (t : Nat) (is : List (Ins V.h₀)) (ads : List Addr) (l1 l2 : List Ob) : MS := match c with
  | .call (.ref a) args => match is with
    | .old b o _ :: is₁ => match o.data with
      | .func fd => match fd.code with
        | .ref c2 => match is₁ with
          | .old b2 oc _ :: is₂ => match oc.data with
            | .fields vs => match vs[1]? with
              | some (Value.str q _) => match fd.body with
                | .stmts body => match fd.scope.isCoroutine with
                  | false => match fd.scope.isGenerator with
                    | false => match Nat.blt (aro V κ).depth recursionLimit with
                      | true => ih c κ (.env (Z.me a fd q args) body) news t is₂ ads (.a a :: .a c2 :: l1) (.a b :: .a b2 :: l2)
                      | false => badMS c κ T₀ news t
                    | true => badMS c κ T₀ news t
                  | true => badMS c κ T₀ news t
                | _ => badMS c κ T₀ news t
              | _ => badMS c κ T₀ news t
            | _ => badMS c κ T₀ news t
          | _ => badMS c κ T₀ news t
        | _ => badMS c κ T₀ news t
      | _ => ih c κ (.fin (Z.dn c)) news t is ads l1 l2
    | _ => ih c κ (.fin (Z.dn c)) news t is ads l1 l2
  | _ => ih c κ (.fin (Z.dn c)) news t is ads l1 l2
noncomputable def segRet (V : SV) (ih : RunTy V) (r : Result) (c : Code) (κ : Kn) (T₀ : Tr) (news : List (Addr × Obj)) (t : Nat) (is : List (Ins V.h₀)) (ads : List Addr) (l1 l2 : List Ob) : MS := match κ with
  | .base => badMS c κ T₀ news t
  | .ret c _ k κ => ih c κ (.fin (k r)) news t is ads l1 l2
noncomputable def segStep1 (V : SV) (Z : Twins) (ih : RunTy V) : RunTy V := fun c κ T₀ news t is ads l1 l2 => match T₀ with
  | .fin T => match skim ⟨V.prog, V.w.params⟩ 400 T with
    | .pure fin => match fin with
      | .done f => segRet V ih (.ok f) c κ T₀ news t is ads l1 l2
      | .again c' => match c'.quiet with
        | true => enter V Z ih c' κ T₀ news t is ads l1 l2
        | false => badMS c κ T₀ news t
    | .raise e => segRet V ih (.error e) c κ T₀ news t is ads l1 l2
    | .load a _ k => match is with
      | .own i :: is => match nth news i with
        | some p => ih c κ (.fin (k p.2)) news t is ads (.a a :: l1) (.a p.1 :: l2)
        | none => badMS c κ T₀ news t
      | .old b o _ :: is => ih c κ (.fin (k o)) news t is ads (.a a :: l1) (.a b :: l2)
      | _ => badMS c κ T₀ news t
    | .alloc o k => match o.isFreed with
      | true => badMS c κ T₀ news t
      | false => match ads with
        | [] => badMS c κ T₀ news t
        | a :: ads => ih c κ (.fin (k a)) ((a, o) :: news) t is ads l1 l2
    | .update a _ f k => match is with
      | .own i :: is => match nth news i with
        | some p => match (f p.2).isFreed with
          | true => badMS c κ T₀ news t
          | false => ih c κ (.fin (k ())) (setN news i (p.1, f p.2)) t is ads (.a a :: l1) (.a p.1 :: l2)
        | none => badMS c κ T₀ news t
      | _ => badMS c κ T₀ news t
    | .fresh k => ih c κ (.fin (k t)) news (t + 1) is ads l1 l2
    | .handled own k => match own with
      | true => badMS c κ T₀ news t
      | false => ih c κ (.fin (k (aro V κ).handled)) news t is ads l1 l2
    | .call c' hd _ _ k => match okMark hd with
      | true => enter V Z ih c' (.ret c hd k κ) T₀ news t is ads l1 l2
      | false => badMS c κ T₀ news t
    | _ => badMS c κ T₀ news t
  | .env T b => match skim ⟨V.prog, V.w.params⟩ 400 T with
    | .pure env => ih (.func b env) κ (.fin (Z.dn (.func b env))) news t is ads l1 l2
    | .load a _ k => match is with
      | .own i :: is => match nth news i with
        | some p => ih c κ (.env (k p.2) b) news t is ads (.a a :: l1) (.a p.1 :: l2)
        | none => badMS c κ T₀ news t
      | .old a' o _ :: is => ih c κ (.env (k o) b) news t is ads (.a a :: l1) (.a a' :: l2)
      | _ => badMS c κ T₀ news t
    | .alloc o k => match o.isFreed with
      | true => badMS c κ T₀ news t
      | false => match ads with
        | [] => badMS c κ T₀ news t
        | a :: ads => ih c κ (.env (k a) b) ((a, o) :: news) t is ads l1 l2
    | .update a _ f k => match is with
      | .own i :: is => match nth news i with
        | some p => match (f p.2).isFreed with
          | true => badMS c κ T₀ news t
          | false => ih c κ (.env (k ()) b) (setN news i (p.1, f p.2)) t is ads (.a a :: l1) (.a p.1 :: l2)
        | none => badMS c κ T₀ news t
      | _ => badMS c κ T₀ news t
    | .fresh k => ih c κ (.env (k t) b) news (t + 1) is ads l1 l2
    | _ => badMS c κ T₀ news t
noncomputable def segStep (V : SV) (Z : Twins) (ih : RunTy V) : RunTy V := fun c κ T₀ news t is ads l1 l2 => match is with
  | .same row :: is' => match T₀ with
    | .fin T => ih c κ (.fin (skim ⟨V.prog, (V.w.withFollow row false).params⟩ 400 T)) news t is' ads (.t (skim ⟨V.prog, (V.w.withFollow row true).params⟩ 400 T) :: l1) (.t (skim ⟨V.prog, (V.w.withFollow row false).params⟩ 400 T) :: l2)
    | .env _ _ => badMS c κ T₀ news t
  | .go :: is' => segStep1 V Z ih c κ T₀ news t is' ads l1 l2
  | _ => segStep1 V Z ih c κ T₀ news t is ads l1 l2
noncomputable def mrun (V : SV) (Z : Twins) : Nat → RunTy V
  | 0 => fun c κ T news t _ _ l1 l2 => ⟨c, κ, T, news, t, l1, l2⟩
  | n + 1 => segStep V Z (mrun V Z n)
noncomputable def runE (V : SV) (Z : Twins) (n : Nat) (c : Code) (κ : Kn) (news : List (Addr × Obj)) (t : Nat) (is : List (Ins V.h₀)) (ads : List Addr) : MS := enter V Z (mrun V Z n) c κ (.fin (.raise .none)) news t is ads [] []

noncomputable def MeansS (V : SV) (c : Code) (κ : Kn) (T : Tr) (s : Shared) : Prop := match T with
  | .fin T => Means V c κ T s
  | .env T b => wpOwn (model V.prog V.w) (aro V κ) c T (fun env s₂ => s₂.heap.NoLimit ∧ codeAny (model V.prog V.w) (aro V κ) (.func b env) (endR V κ) s₂) (fun e s' => endR V κ (.error e) s') s
structure Fine (V : SV) (s : MS) : Prop where
  e : s.l1 = s.l2
  p : ∀ h, Mem V.h₀ h [] s.news → MeansS V s.c s.κ s.T ⟨h, V.g, V.d, s.t, V.os⟩
/-- what is true for all lists of so many addresses -/
noncomputable def All : Nat → (List Addr → Prop) → Prop
  | 0, P => P []
  | n + 1, P => ∀ a, All n fun l => P (a :: l)
theorem All.some : ∀ {n : Nat} {P : List Addr → Prop}, All n P → ∃ l, P l
  | 0, _, H => ⟨[], H⟩
  | n + 1, P, H => let ⟨l, h⟩ := All.some (H 0); ⟨0 :: l, h⟩

noncomputable def NoLim (h₀ : Heap) : Prop := ∀ h news, Mem h₀ h [] news → h.NoLimit
section
variable {V : SV} {Z : Twins}
abbrev Sound (V : SV) (ih : RunTy V) : Prop := ∀ m c κ T news t is l1 l2, (All m fun ads => Fine V (ih c κ T news t is ads l1 l2)) → l1 = l2 ∧ ∀ h, Mem V.h₀ h [] news → MeansS V c κ T ⟨h, V.g, V.d, t, V.os⟩
theorem bad_no {m : Nat} {c κ T news t} (H : All m fun _ => Fine V (badMS c κ T news t)) : False := by
  obtain ⟨_, h⟩ := H.some
  have := h.e
  exact nomatch this
theorem segRet_sound {ih : RunTy V} (S : Sound V ih) {m : Nat} {r : Result} {c : Code} {κ : Kn} {T₀ : Tr} {news : List (Addr × Obj)} {t : Nat} {is : List (Ins V.h₀)} {l1 l2 : List Ob}
    (H : All m fun ads => Fine V (segRet V ih r c κ T₀ news t is ads l1 l2)) : l1 = l2 ∧ ∀ h, Mem V.h₀ h [] news → endR V κ r ⟨h, V.g, V.d, t, V.os⟩ := by
  cases κ with
  | base => exact (bad_no H).elim
  | ret c hd k κ => exact S _ _ _ _ _ _ _ _ _ H
theorem tail2 {a b : Addr} {l1 l2 : List Ob} (h : Ob.a a :: l1 = Ob.a b :: l2) : a = b ∧ l1 = l2 := by injection h with h1 h2; injection h1 with h1; exact ⟨h1, h2⟩
theorem call_fn {R : Result → Shared → Prop} {A : Around} {s : Shared} {prog : Program} {w : PySem.World} {a c2 : Addr} {args : Args} {o oc : Obj} {fd : FuncData} {body : List Stmt} {vs : Array Value} {q : Str} {tq : Tok}
    (hroom : A.depth < recursionLimit) (ho : s.heap.get? a = some o) (hd' : o.data = .func fd) (hco : fd.scope.isCoroutine = false) (hgen : fd.scope.isGenerator = false) (hbody : fd.body = .stmts body)
    (hc : fd.code = .ref c2) (hoc : s.heap.get? c2 = some oc) (hdc : oc.data = .fields vs) (hq : vs[1]? = some (.str q tq))
    (h : wpOwn (model prog w) A (.call (.ref a) args) (mkEnv a fd q args) (fun env s₂ => s₂.heap.NoLimit ∧ codeAny (model prog w) A (.func body env) R s₂) (fun e s' => R (.error e) s') s) :
    codeAny (model prog w) A (.call (.ref a) args) R s := by
  refine codeAny_of_own ?_
  show wpOwn _ A _ (callAny (.ref a) args) _ _ s
  simp only [callAny]
  refine wpOwn_bind (wpOwn_of_wpAny (wpAny_load ho ?_))
  simp only [hd', callFunction, hco, hgen, hbody, hc]
  refine wpOwn_bind (m := field (.ref c2) 1) (wpOwn_of_wpAny (wpAny_field hoc hdc hq ?_))
  refine wpOwn_bind (m := pure q) (y_pure _ _ _ _ _ _ _ _ _ ?_)
  unfold mkEnv at h
  rw [hc] at h
  rw [← bind_assoc]
  exact wpOwn_bind (wpOwn_mono h (fun env s₂ h₂ => wpOwn_bind (wpOwn_of_wpAny (wpAny_enterFrame h₂.1 hroom (y_pure _ _ _ _ _ _ _ _ _ ⟨rfl, h₂.2⟩)))) fun _ _ h' => h')

abbrev SoundC (V : SV) (F : Code → Kn → List (Addr × Obj) → Nat → List (Ins V.h₀) → List Addr → List Ob → List Ob → MS) : Prop := ∀ m c κ news t is l1 l2, (All m fun ads => Fine V (F c κ news t is ads l1 l2)) → l1 = l2 ∧ ∀ h, Mem V.h₀ h [] news → codeAny (model V.prog V.w) (aro V κ) c (endR V κ) ⟨h, V.g, V.d, t, V.os⟩
theorem plain_sound (OK : Z.Ok) {ih : RunTy V} (S : Sound V ih) : SoundC V (fun c κ news t is ads l1 l2 => ih c κ (.fin (Z.dn c)) news t is ads l1 l2) := by
  intro m c κ news t is l1 l2 H
  obtain ⟨e, p⟩ := S _ _ _ _ _ _ _ _ _ H
  refine ⟨e, fun h D => y_code _ _ _ _ _ _ ?_⟩
  rw [OK.dn]
  exact p h D
theorem enter_sound (OK : Z.Ok) {ih : RunTy V} (S : Sound V ih) (T₀ : Tr) : SoundC V (fun c κ news t is ads l1 l2 => enter V Z ih c κ T₀ news t is ads l1 l2) := by
  intro m c κ news t is l1 l2 H
  dsimp only at H
  unfold enter at H
  split at H
  · rename_i a args
    split at H
    · rename_i b o eo is₁
      split at H
      · rename_i fd hd'
        split at H
        · rename_i c2 hc
          split at H
          · rename_i b2 oc eoc is₂
            split at H
            · rename_i vs hdc
              split at H
              · rename_i q tq hq
                split at H
                · rename_i body hbody
                  split at H
                  · rename_i hco
                    split at H
                    · rename_i hgen
                      split at H
                      · rename_i hdep
                        obtain ⟨e, p⟩ := S _ _ _ _ _ _ _ _ _ H
                        obtain ⟨e1, e'⟩ := tail2 e
                        obtain ⟨e2, e''⟩ := tail2 e'
                        clear e e'
                        subst e1 e2
                        refine ⟨e'', fun h D => ?_⟩
                        have k := fun (b : Addr) (o : Obj) (e : V.h₀.get? b = some o) => D.keep b o e (by simp [away])
                        have z := p h D
                        refine call_fn (Nat.le_of_ble_eq_true hdep) (k _ _ eo) hd' hco hgen hbody hc (k _ _ eoc) hdc hq ?_
                        rw [OK.me]
                        exact z
                      · exact (bad_no H).elim
                    · exact (bad_no H).elim
                  · exact (bad_no H).elim
                · exact (bad_no H).elim
              · exact (bad_no H).elim
            · exact (bad_no H).elim
          · exact (bad_no H).elim
        · exact (bad_no H).elim
      · exact plain_sound OK S _ _ _ _ _ _ _ _ H
    · exact plain_sound OK S _ _ _ _ _ _ _ _ H
  · exact plain_sound OK S _ _ _ _ _ _ _ _ H
theorem alloc_all {m : Nat} {F : Addr → List Addr → MS} {B : MS} (hB : B.l1 = [.a 0] ∧ B.l2 = []) (H : All m fun ads => Fine V (match ads with | [] => B | a :: ads => F a ads)) : ∃ m', ∀ a, All m' fun ads => Fine V (F a ads) := by
  cases m with
  | zero =>
    have h : Fine V B := H
    have := h.e
    rw [hB.1, hB.2] at this
    exact nomatch this
  | succ m => exact ⟨m, fun a => H a⟩
theorem segStep1_sound (OK : Z.Ok) (HL : NoLim V.h₀) {ih : RunTy V} (S : Sound V ih) : Sound V (segStep1 V Z ih) := by
  intro m c κ T₀ news t is l1 l2 H
  unfold segStep1 at H
  cases T₀ with
  | fin T =>
    dsimp only at H
    suffices hs : l1 = l2 ∧ ∀ h, Mem V.h₀ h [] news → Means V c κ (skim ⟨V.prog, V.w.params⟩ 400 T) ⟨h, V.g, V.d, t, V.os⟩ from
      ⟨hs.1, fun h D => y_skim Fin V.prog V.w (aro V κ) c _ _ _ T 400 (hs.2 h D)⟩
    generalize skim ⟨V.prog, V.w.params⟩ 400 T = T' at H ⊢
    split at H
    · split at H
      · obtain ⟨e, p⟩ := segRet_sound S H
        exact ⟨e, fun h D => y_pure _ _ _ _ _ _ _ _ _ (y_done _ _ _ _ _ _ (p h D))⟩
      · split at H
        · rename_i hq
          obtain ⟨e, p⟩ := enter_sound OK S _ _ _ _ _ _ _ _ _ H
          exact ⟨e, fun h D => y_pure _ _ _ _ _ _ _ _ _ (y_again _ _ _ _ _ _ hq (p h D))⟩
        · exact (bad_no H).elim
    · obtain ⟨e, p⟩ := segRet_sound S H
      exact ⟨e, fun h D => y_raise _ _ _ _ _ _ _ _ _ (y_err _ _ _ (p h D))⟩
    · split at H
      · split at H
        · rename_i i is' _ p hp
          obtain ⟨e, z⟩ := S _ _ _ _ _ _ _ _ _ H
          obtain ⟨e1, e⟩ := tail2 e
          rw [nth_eq] at hp
          exact ⟨e, fun h D => y_load _ _ _ _ _ _ _ _ _ _ _ _ _ _ _ _ (e1 ▸ D.at i p.1 p.2 hp) (z h D)⟩
        · exact (bad_no H).elim
      · rename_i b o eo is'
        obtain ⟨e, z⟩ := S _ _ _ _ _ _ _ _ _ H
        obtain ⟨e1, e⟩ := tail2 e
        exact ⟨e, fun h D => y_load _ _ _ _ _ _ _ _ _ _ _ _ _ _ _ _ (e1 ▸ D.keep b o eo (by simp [away])) (z h D)⟩
      · exact (bad_no H).elim
    · split at H
      · exact (bad_no H).elim
      · rename_i hf
        obtain ⟨m', H⟩ := alloc_all ⟨rfl, rfl⟩ H
        refine ⟨(S _ _ _ _ _ _ _ _ _ (H 0)).1, fun h D => y_alloc _ _ _ _ _ _ _ _ _ _ _ _ _ _ _ _ _ D hf (fun a h' D' => (S _ _ _ _ _ _ _ _ _ (H a)).2 h' D')⟩
    · split at H
      · split at H
        · split at H
          · exact (bad_no H).elim
          · rename_i _ _ i is' _ p hp _ hf
            obtain ⟨e, z⟩ := S _ _ _ _ _ _ _ _ _ H
            obtain ⟨e1, e'⟩ := tail2 e
            clear e
            rw [nth_eq] at hp
            subst e1
            exact ⟨e', fun h D => y_update _ _ _ _ _ _ _ _ _ _ _ _ _ _ _ _ _ _ _ _ D i hp hf (fun h' D' => z h' (by rw [setN_eq]; exact D'))⟩
        · exact (bad_no H).elim
      · exact (bad_no H).elim
    · obtain ⟨e, z⟩ := S _ _ _ _ _ _ _ _ _ H
      exact ⟨e, fun h D => y_fresh _ _ _ _ _ _ _ _ _ _ _ _ _ (z h D)⟩
    · split at H
      · exact (bad_no H).elim
      · obtain ⟨e, z⟩ := S _ _ _ _ _ _ _ _ _ H
        exact ⟨e, fun h D => y_handled _ _ _ _ _ _ _ _ _ (z h D)⟩
    · split at H
      · rename_i c' hd gd l k _ hm
        have hnb : hd ≠ some byPass := by
          intro e
          subst e
          simp [okMark] at hm
        obtain ⟨e, z⟩ := enter_sound OK S _ _ _ _ _ _ _ _ _ H
        exact ⟨e, fun h D => y_call _ _ _ _ _ _ _ _ _ _ _ _ _ hnb (z h D)⟩
      · exact (bad_no H).elim
    · exact (bad_no H).elim
  | env T b =>
    dsimp only at H
    suffices hs : l1 = l2 ∧ ∀ h, Mem V.h₀ h [] news → MeansS V c κ (.env (skim ⟨V.prog, V.w.params⟩ 400 T) b) ⟨h, V.g, V.d, t, V.os⟩ from
      ⟨hs.1, fun h D => y_skim Env V.prog V.w (aro V κ) c _ _ _ T 400 (hs.2 h D)⟩
    generalize skim ⟨V.prog, V.w.params⟩ 400 T = T' at H ⊢
    split at H
    · rename_i env
      obtain ⟨e, p⟩ := plain_sound OK S _ _ _ _ _ _ _ _ H
      exact ⟨e, fun h D => y_pure _ _ _ _ _ _ _ _ _ ⟨HL h _ D, p h D⟩⟩
    · split at H
      · split at H
        · rename_i i is' _ p hp
          obtain ⟨e, z⟩ := S _ _ _ _ _ _ _ _ _ H
          obtain ⟨e1, e⟩ := tail2 e
          rw [nth_eq] at hp
          exact ⟨e, fun h D => y_load _ _ _ _ _ _ _ _ _ _ _ _ _ _ _ _ (e1 ▸ D.at i p.1 p.2 hp) (z h D)⟩
        · exact (bad_no H).elim
      · rename_i b o eo is'
        obtain ⟨e, z⟩ := S _ _ _ _ _ _ _ _ _ H
        obtain ⟨e1, e⟩ := tail2 e
        exact ⟨e, fun h D => y_load _ _ _ _ _ _ _ _ _ _ _ _ _ _ _ _ (e1 ▸ D.keep b o eo (by simp [away])) (z h D)⟩
      · exact (bad_no H).elim
    · split at H
      · exact (bad_no H).elim
      · rename_i hf
        obtain ⟨m', H⟩ := alloc_all ⟨rfl, rfl⟩ H
        refine ⟨(S _ _ _ _ _ _ _ _ _ (H 0)).1, fun h D => y_alloc _ _ _ _ _ _ _ _ _ _ _ _ _ _ _ _ _ D hf (fun a h' D' => (S _ _ _ _ _ _ _ _ _ (H a)).2 h' D')⟩
    · split at H
      · split at H
        · split at H
          · exact (bad_no H).elim
          · rename_i _ _ i is' _ p hp _ hf
            obtain ⟨e, z⟩ := S _ _ _ _ _ _ _ _ _ H
            obtain ⟨e1, e'⟩ := tail2 e
            clear e
            rw [nth_eq] at hp
            subst e1
            exact ⟨e', fun h D => y_update _ _ _ _ _ _ _ _ _ _ _ _ _ _ _ _ _ _ _ _ D i hp hf (fun h' D' => z h' (by rw [setN_eq]; exact D'))⟩
        · exact (bad_no H).elim
      · exact (bad_no H).elim
    · obtain ⟨e, z⟩ := S _ _ _ _ _ _ _ _ _ H
      exact ⟨e, fun h D => y_fresh _ _ _ _ _ _ _ _ _ _ _ _ _ (z h D)⟩
    · exact (bad_no H).elim
theorem segStep_sound (OK : Z.Ok) (HL : NoLim V.h₀) {ih : RunTy V} (S : Sound V ih) : Sound V (segStep V Z ih) := by
  intro m c κ T₀ news t is l1 l2 H
  unfold segStep at H
  split at H
  · rename_i row is'
    cases T₀ with
    | env T b => exact (bad_no H).elim
    | fin T =>
      obtain ⟨e, z⟩ := S _ _ _ _ _ _ _ _ _ H
      injection e with e1 e2
      injection e1 with e1
      have key : ∀ b, skim ⟨V.prog, (V.w.withFollow row b).params⟩ 400 T = skim ⟨V.prog, (V.w.withFollow row false).params⟩ 400 T := fun b => by
        cases b with
        | false => rfl
        | true => exact e1
      have k := key (V.w.params.followText row)
      rw [World.withFollow_self] at k
      exact ⟨e2, fun h D => y_skim Fin V.prog V.w (aro V κ) c _ _ _ T 400 (by rw [k]; exact z h D)⟩
  · exact segStep1_sound OK HL S _ _ _ _ _ _ _ _ _ H
  · exact segStep1_sound OK HL S _ _ _ _ _ _ _ _ _ H
theorem run_sound (OK : Z.Ok) (HL : NoLim V.h₀) : ∀ n, Sound V (mrun V Z n)
  | 0 => fun m c κ T news t is l1 l2 H => let ⟨_, h⟩ := H.some; ⟨h.e, h.p⟩
  | n + 1 => segStep_sound OK HL (run_sound OK HL n)
end

open Lean Meta Elab Tactic PySem PySem.W PySem.W.X PySem.W.XRun
def quickOf (e : Lean.Expr) (pf : Bool) : MetaM Lean.Expr := do
  match ← ZFast.quick e with
  | some (t, h) => return if pf then h else t
  | none => throwError "quickOf"
def dnOf (pf : Bool) : TacticM Unit := do
  let r ← withLocalDeclD `c (mkConst ``Code) fun c => do mkLambdaFVars #[c] (← quickOf (mkApp2 (mkConst ``denote) (mkConst ``table) c) pf)
  closeMainGoal `dnOf r
def meOf (pf : Bool) : TacticM Unit := do
  let r ← withLocalDeclD `a (mkConst ``Nat) fun a => withLocalDeclD `fd (mkConst ``FuncData) fun fd => withLocalDeclD `q (mkConst ``PySem.Str) fun q => withLocalDeclD `args (mkConst ``PySem.Args) fun args => do
    let some e ← unfoldDefinition? (mkAppN (mkConst ``mkEnv) #[a, fd, q, args]) | throwError "meOf"
    mkLambdaFVars #[a, fd, q, args] (← quickOf e pf)
  closeMainGoal `meOf r
noncomputable def dnz : Code → Sem PySem.Fin := by run_tac dnOf false
theorem dnz_eq : ∀ c, denote table c = dnz c := by run_tac dnOf true
noncomputable def mez : Addr → FuncData → PySem.Str → PySem.Args → Sem Env := by run_tac meOf false
theorem mez_eq : ∀ a fd q args, mkEnv a fd q args = mez a fd q args := by run_tac meOf true
noncomputable def tz : Twins := ⟨dnz, mez⟩
theorem tz_ok : tz.Ok := ⟨dnz_eq, mez_eq⟩

/-- what a run of `n` steps leaves -/
noncomputable abbrev after (V : SV) (n : Nat) (c : Code) (κ : Kn) (T : Sem PySem.Fin) (news : List (Addr × Obj)) (t : Nat) (is : List (Ins V.h₀)) (ads : List Addr) : MS := mrun V tz n c κ (.fin T) news t is ads [] []
theorem runGo (V : SV) (HL : NoLim V.h₀) (n m : Nat) (c : Code) (κ : Kn) (T : Sem PySem.Fin) (news : List (Addr × Obj)) (t : Nat) (is : List (Ins V.h₀)) (h : Heap) (D : Mem V.h₀ h [] news)
    (x : All m fun ads => Fine V (after V n c κ T news t is ads)) : Means V c κ T ⟨h, V.g, V.d, t, V.os⟩ := (run_sound tz_ok HL n m c κ (.fin T) news t is [] [] x).2 h D
theorem startGo (V : SV) (HL : NoLim V.h₀) (n m : Nat) (c : Code) (κ : Kn) (news : List (Addr × Obj)) (t : Nat) (is : List (Ins V.h₀)) (h : Heap) (D : Mem V.h₀ h [] news)
    (x : All m fun ads => Fine V (runE V tz n c κ news t is ads)) : codeAny (model V.prog V.w) (aro V κ) c (endR V κ) ⟨h, V.g, V.d, t, V.os⟩ := (enter_sound tz_ok (run_sound tz_ok HL n) _ m c κ news t is [] [] x).2 h D
noncomputable def skm (V : SV) (T : Sem PySem.Fin) : Sem PySem.Fin := skim ⟨V.prog, V.w.params⟩ 400 T
noncomputable def callK : Sem PySem.Fin → Result → Sem PySem.Fin
  | .call _ _ _ _ k => k
  | _ => fun _ => .raise .none
noncomputable def callOf : Sem PySem.Fin → Option (Code × Option Value)
  | .call c hd _ _ _ => some (c, hd)
  | _ => none
noncomputable def stackK : Sem PySem.Fin → List (Code × Pos) → Sem PySem.Fin
  | .stack k => k
  | _ => fun _ => .raise .none
noncomputable def isStack : Sem PySem.Fin → Bool
  | .stack _ => true
  | _ => false
noncomputable def endOf : Sem PySem.Fin → Option Result
  | .pure (.done f) => some (.ok f)
  | .raise e => some (.error e)
  | _ => none
noncomputable def againOf : Sem PySem.Fin → Option Code
  | .pure (.again c) => some c
  | _ => none
theorem callGo (V : SV) (c : Code) (κ : Kn) (T : Sem PySem.Fin) (s : Shared) (c' : Code) (hd : Option Value) (e : callOf (skm V T) = some (c', hd)) (hm : okMark hd = true)
    (x : codeAny (model V.prog V.w) (aro V (.ret c hd (callK (skm V T)) κ)) c' (endR V (.ret c hd (callK (skm V T)) κ)) s) : Means V c κ T s := by
  refine y_skim _ V.prog V.w (aro V κ) c _ _ _ T 400 ?_
  unfold skm at e x
  generalize skim ⟨V.prog, V.w.params⟩ 400 T = T' at e x ⊢
  unfold callOf at e
  split at e
  · cases e
    have hnb : hd ≠ some byPass := by
      intro e
      subst e
      simp [okMark] at hm
    exact y_call _ _ _ _ _ _ _ _ _ _ _ _ _ hnb x
  · cases e
theorem againGo (V : SV) (c : Code) (κ : Kn) (T : Sem PySem.Fin) (s : Shared) (c' : Code) (e : againOf (skm V T) = some c') (hq : c'.quiet = true)
    (x : codeAny (model V.prog V.w) (aro V κ) c' (endR V κ) s) : Means V c κ T s := by
  refine y_skim _ V.prog V.w (aro V κ) c _ _ _ T 400 ?_
  unfold skm at e
  generalize skim ⟨V.prog, V.w.params⟩ 400 T = T' at e ⊢
  unfold againOf at e
  split at e
  · cases e
    exact y_pure _ _ _ _ _ _ _ _ _ (y_again _ _ _ _ _ _ hq x)
  · cases e
theorem stackGo (V : SV) (c : Code) (κ : Kn) (T : Sem PySem.Fin) (s : Shared) (e : isStack (skm V T) = true)
    (x : ∀ (p : Pos) (below : List (Code × Pos)), Lies ((aro V κ).under c) ((c, p) :: below) → Means V c κ (stackK (skm V T) ((c, p) :: below)) s) : Means V c κ T s := by
  refine y_skim _ V.prog V.w (aro V κ) c _ _ _ T 400 ?_
  unfold skm at e x
  generalize skim ⟨V.prog, V.w.params⟩ 400 T = T' at e x ⊢
  unfold isStack at e
  split at e
  · exact y_stack _ _ _ _ _ _ _ _ _ x
  · cases e
theorem endGo (V : SV) (c : Code) (κ : Kn) (T : Sem PySem.Fin) (s : Shared) (r : Result) (e : endOf (skm V T) = some r) (x : endR V κ r s) : Means V c κ T s := by
  refine y_skim _ V.prog V.w (aro V κ) c _ _ _ T 400 ?_
  unfold skm at e
  generalize skim ⟨V.prog, V.w.params⟩ 400 T = T' at e ⊢
  unfold endOf at e
  split at e
  · cases e
    exact y_pure _ _ _ _ _ _ _ _ _ (y_done _ _ _ _ _ _ x)
  · cases e
    exact y_raise _ _ _ _ _ _ _ _ _ (y_err _ _ _ x)
  · cases e
/-- two ways that meet: an object's places are as they were, or written anew -/
theorem joinGo (V : SV) (c : Code) (κ : Kn) (T T1 : Sem PySem.Fin) (b : Bool) (F : Bool → Sem PySem.Fin) (m : Array (Option Value) → List (Addr × Obj)) (sl : Array (Option Value)) (h : Heap) (t : Nat)
    (D : Mem V.h₀ h [] (m sl)) (e : skm V T = F b) (e1 : skm V (F true) = T1)
    (hf : (∀ sl h, Mem V.h₀ h [] (m sl) → Means V c κ T1 ⟨h, V.g, V.d, t, V.os⟩) → Means V c κ (F false) ⟨h, V.g, V.d, t, V.os⟩)
    (x : ∀ sl h, Mem V.h₀ h [] (m sl) → Means V c κ T1 ⟨h, V.g, V.d, t, V.os⟩) : Means V c κ T ⟨h, V.g, V.d, t, V.os⟩ := by
  refine y_skim _ V.prog V.w (aro V κ) c _ _ _ T 400 ?_
  show Means V c κ (skm V T) _
  rw [e]
  cases b with
  | true => exact y_skim _ V.prog V.w (aro V κ) c _ _ _ (F true) 400 (by show Means V c κ (skm V (F true)) _; rw [e1]; exact x sl h D)
  | false => exact hf x
end Mine
end
section
open PySem PySem.W PySem.W.X PyProof.Rows
namespace Mine
open Lean Meta Elab Tactic PySem PySem.W PySem.W.X PySem.W.XRun

/-- the addresses of the top's heap that the walks ask for -/
def asked : List Nat := [0, 1, 2, 3, 25, 30, 37, 38, 40, 41, 50, 51, 57, 58, 64, 65, 78, 79, 81, 82, 92, 93, 99, 100, 106, 107, 113, 114, 120, 121, 127, 128, 141, 142, 144, 145, 155, 156, 169, 170, 176, 177, 197, 198, 204, 205, 211, 212, 218, 219, 227, 233, 234, 236, 237, 247, 248, 261, 262, 362, 363, 373, 374, 380, 381, 387, 388, 394, 395, 401, 402, 408, 409, 415, 416, 422, 423]
def mkHeap : TacticM Unit := do
  let env ← getEnv
  let (K, _) ← xMkFrag (← progOf (mkConst ``PySem.Challenge.pw_pf0021_01)) (some "law")
  let some (.defnInfo d) := (← getEnv).find? K.constName! | throwError "mkHeap"
  setEnv env
  let v ← lambdaTelescope d.value fun xs b => do
    let mut l := b
    let mut out := #[]
    for _ in [0:5000] do
      if l.isAppOfArity ``List.cons 3 then
        let p := l.getAppArgs[1]!
        match p.getAppArgs[2]!.rawNatLit? with
        | some n => if asked.contains n then out := out.push p
        | none => match p.getAppArgs[2]! with
          | .lit (.natVal n) => if asked.contains n then out := out.push p
          | _ => pure ()
        l := l.getAppArgs[2]!
    logInfo m!"kept {out.size}"
    mkLambdaFVars xs (listE (mkApp2 (mkConst ``Prod [0, 0]) (mkConst ``Nat) (mkConst ``Obj)) out.toList)
  closeMainGoal `mkHeap v
set_option maxRecDepth 100000 in
noncomputable def KH : Params → Frag := by run_tac mkHeap
abbrev PR : Program := PySem.Challenge.pw_pf0021_01

theorem noLim_KH (w : PySem.World) (h₀ : Heap) (X : (KH w.params).In h₀) : NoLim h₀ := fun h news D => by
  have e := X cStatics _ rfl
  exact ⟨_, ⟨_, _, _, D.keep _ _ e (by simp [away]), rfl, by unfold StrKeys; simp, fun _ => rfl⟩, rfl⟩
/-- the pairs of a written list -/
def pairsOf (e : Lean.Expr) : List (Lean.Expr × Lean.Expr) := Id.run do
  let mut out := #[]
  let mut l := e
  for _ in [0:100000] do
    if l.isAppOfArity ``List.cons 3 then
      let p := l.getAppArgs[1]!
      if p.isAppOfArity ``Prod.mk 4 then out := out.push (p.getAppArgs[2]!, p.getAppArgs[3]!)
      l := l.getAppArgs[2]!
    else break
  return out.toList

def baseOf (g : MVarId) (prog w : Lean.Expr) : MetaM Base := g.withContext do
  let mut hz := none
  for d in ← getLCtx do
    if d.isImplementationDetail then continue
    let t := (← instantiateMVars d.type).consumeMData
    if t.isAppOfArity ``Mem 4 then hz := some t.getAppArgs[0]!
  let some h0 := hz | throwError "no Mem"
  let mut k := none
  for d in ← getLCtx do
    if d.isImplementationDetail then continue
    let t := (← instantiateMVars d.type).consumeMData
    if t.isAppOfArity ``Frag.In 2 then
      if t.appArg! == h0 then k := some (t.appFn!.appArg!, d.toExpr)
  return { prog, w, h0, olds := ← oldsOf h0, k, setting := mkApp2 (mkConst ``Setting.mk) prog (mkApp (mkConst ``World.params) w) }

/-- `f` taken `n` times, with its count -/
def fixP {γ : Type} (n : Nat) (z : γ) (f : Nat → γ → γ) : γ := (Nat.repeat (fun (p : Nat × γ) => (p.1 + 1, f p.1 p.2)) n (0, z)).2
def setAt (l : Lean.Expr) (i : Nat) (y : Lean.Expr) : Lean.Expr := fixP (i + 1) (fun (e : Lean.Expr) => e) (fun k ih e =>
  if e.isAppOfArity ``List.cons 3 then
    let a := e.getAppArgs
    mkApp3 e.getAppFn a[0]! (if k == 0 then y else a[1]!) (if k == 0 then a[2]! else ih a[2]!)
  else e) l
/-- a list written out through its names -/
def listZ (n : Nat) : Lean.Expr → MetaM Lean.Expr := fixP n (fun e => return e) fun n ih e => do
    if e.isFVar then
      match ← e.fvarId!.getValue? with
      | some v => ih v
      | none => return e
    else if e.isAppOfArity ``List.cons 3 then return mkApp e.appFn! (← ih e.appArg!)
    else if e.isAppOfArity ``setN 3 then
      let a := e.getAppArgs
      let .lit (.natVal i) := a[1]! | return e
      return setAt (← ih a[0]!) i a[2]!
    else return e
/-- how many names deep a list of objects lies -/
def nwDepth (n : Nat) : Lean.Expr → MetaM Nat := fixP n (fun _ => return 0) fun n ih e => do
    if e.isFVar then
      match ← e.fvarId!.getValue? with
      | some v => return (← ih v) + 1
      | none => return 0
    else if e.isAppOfArity ``List.cons 3 then ih e.appArg!
    else if e.isAppOfArity ``setN 3 then ih e.getAppArgs[0]!
    else return 0
def goOf (g : MVarId) : MetaM (Option (Go × Lean.Expr)) := g.withContext do
  let T := (← instantiateMVars (← g.getType)).consumeMData
  let isC := T.isAppOfArity ``PySem.codeAny 5
  unless isC || T.isAppOfArity ``PySem.wpOwn 8 do return none
  let a := T.getAppArgs
  let S := a.back!
  unless S.isAppOfArity ``Shared.mk 5 do return none
  let s := S.getAppArgs
  let mut mem := none
  let mut lies := []
  for d in ← getLCtx do
    if d.isImplementationDetail then continue
    let t := d.type.consumeMData
    if t.isAppOfArity ``Mem 4 then
      if t.getAppArgs[1]! == s[0]! then mem := some (d.toExpr, t.getAppArgs)
    if t.isAppOfArity ``Lies 2 then
      lies := (t.getAppArgs[1]!, d.toExpr, t.getAppArgs[0]!) :: lies
  let some (m, ma) := mem | return none
  let nw ← listZ 1000 ma[3]!
  let st : XRun.St := { h := s[0]!, g := s[1]!, d := s[2]!, t := s[3]!, os := s[4]!, mem := m, chg := pairsOf ma[2]!, news := pairsOf nw, lies }
  let fin := mkConst ``PySem.Fin
  if isC then return some ({ al := fin, A := a[1]!, c := a[2]!, Q := a[3]!, E := a[3]!, tree := a[2]!, st, fresh := true }, a[0]!)
  return some ({ al := a[0]!, A := a[2]!, c := a[3]!, Q := a[5]!, E := a[6]!, tree := a[4]!, st, fresh := false }, a[1]!)

/-- the letters of a written text -/
def cpsOf (e : Lean.Expr) : MetaM (Option (List Nat)) := do
  let e ← kw e
  unless e.isAppOfArity ``Str.mk 1 do return none
  let a ← kw e.appArg!
  unless a.isAppOfArity ``Array.mk 2 do return none
  let l ← nList a.appArg! kw
  let mut out := #[]
  let mut l := l
  for _ in [0:1000] do
    if l.isAppOfArity ``List.cons 3 then
      let some n := litOf l.getAppArgs[1]! | return none
      out := out.push n
      l := l.getAppArgs[2]!
    else break
  return some out.toList
def strOfN (n : Nat) : Lean.Expr → MetaM (Option String) := fixP n (fun _ => return none) fun n ih e => do
    match e with
    | .lit (.strVal s) => return some s
    | _ =>
      if e.isAppOfArity ``PySem.W.S.litE 4 then
        let mut l := e.getAppArgs[1]!
        let mut out := #[]
        for _ in [0:200] do
          if l.isAppOfArity ``List.cons 3 then
            let some n := litOf l.getAppArgs[1]! | return none
            out := out.push (Char.ofNat n)
            l := l.getAppArgs[2]!
        return some (String.ofList out.toList)
      if e.isAppOf ``HAppend.hAppend || e.isAppOf ``String.append || e.isAppOf ``Append.append || e.isAppOf ``PySem.W.S.appendS then
        let a := e.getAppArgs
        let some x ← ih a[a.size - 2]! | return none
        let some y ← ih a[a.size - 1]! | return none
        return some (x ++ y)
      if e.isAppOf ``ToString.toString then return ← ih e.appArg!
      if e.isAppOfArity ``Str.toString 1 then
        let some cs ← cpsOf e.appArg! | return none
        return some (String.ofList (cs.map Char.ofNat))
      match ← unfoldDefinition? e with
      | some e' => ih e'.headBeta
      | none => return none
def strOf (e : Lean.Expr) : MetaM (Option String) := do
  if let some s ← strOfN 50 e then return some s
  let v ← kw e
  unless v.getAppFn.isConstOf ``String.ofByteArray do return none
  let ba ← kw v.getAppArgs[0]!
  unless ba.isAppOfArity ``ByteArray.mk 1 do return none
  let ar ← kw ba.appArg!
  unless ar.isAppOfArity ``Array.mk 2 do return none
  let mut l ← kw ar.appArg!
  let mut out := #[]
  for _ in [0:200] do
    if l.isAppOfArity ``List.cons 3 then
      let some n := litOf (← kw (mkApp (mkConst ``UInt8.toNat) l.getAppArgs[1]!)) | return none
      out := out.push (Char.ofNat n)
      l ← kw l.getAppArgs[2]!
    else break
  return some (String.ofList out.toList)

def normVal (e : Lean.Expr) : MetaM Lean.Expr := do
  let e ← kw e
  if e.isAppOfArity ``Value.ref 1 then return mkApp e.appFn! (← addrOf e.appArg!)
  return e

def normArgs (e : Lean.Expr) : MetaM Lean.Expr := do
  let e ← kw e
  unless e.isAppOfArity ``Args.mk 2 do return e
  return mkApp2 e.getAppFn (← nList e.getAppArgs[0]! normVal) (← nList e.getAppArgs[1]! kw)

/-- the form of `e` in which what it waits for stands as it is: as little unfolded as may be -/
def foldAt (e e' M : Lean.Expr) : MetaM Lean.Expr := do
  let mut cur := e.headBeta
  for _ in [0:40] do
    if (cur.find? (· == M)).isSome then
      let c := cur
      let good ← withLocalDeclD `x (← inferType M) fun x => do
        let r ← kw (c.replace fun y => if y == M then some x else none)
        return (← majorOf r) == some x
      if good then return cur
    match cur.getAppFn with
    | .const n us =>
      match (← getEnv).find? n with
      | some (.defnInfo ci) => cur := ((ci.value.instantiateLevelParams ci.levelParams us).betaRev cur.getAppRevArgs).headBeta
      | _ => return e'
    | _ => return e'
  return e'
/-- the outermost decision that a tree waits for -/
def digO (n : Nat) : Lean.Expr → MetaM (Option ((Lean.Expr → Lean.Expr) × Lean.Expr × Lean.Expr)) := fixP n (fun _ => return none) fun n ih e => do
    let e' ← kw e
    match ← majorOf e' with
    | none => return none
    | some M =>
      if e'.getAppFn.isConstOf ``Decidable.rec then
        let f ← foldAt e e' M
        return some (fun x => f.replace fun y => if y == M then some x else none, e'.getAppArgs[0]!, M)
      match ← ih M with
      | some (c, P, s) =>
        let f ← foldAt e e' M
        return some (fun x => let m := c x; f.replace fun y => if y == M then some m else none, P, s)
      | none => return none
def tryProve (P : Lean.Expr) : TacticM (Option Lean.Expr) := do
  let m ← mkFreshExprSyntheticOpaqueMVar P
  let saved ← saveState
  try
    let gs ← Tactic.run m.mvarId! (Tactic.withoutRecover (do evalTactic (← `(tactic| first | omega | (split <;> omega) | (split <;> first | (exfalso; omega) | decide | (simp only [List.size_toArray, List.length_cons, List.length_nil]; omega)) | decide))))
    if gs.isEmpty then return some (← instantiateMVars m)
    saved.restore; return none
  catch _ => saved.restore; return none
/-- written texts laid out as their letters -/
def layOut (e : Lean.Expr) : Lean.Expr := e.replace fun x => match XFast.isAtom x with
  | some s =>
    let nat := mkConst ``Nat
    some (mkApp (mkConst ``Str.mk) (mkApp2 (mkConst ``Array.mk [0]) nat (listE nat (s.toList.map fun c => mkRawNatLit c.toNat))))
  | none => none
/-- an object of the written heap: its name and its fact, made once -/
def ensureObj (b : Base) (a : Lean.Expr) : MetaM Unit := do
  let (some n, some (K, _)) := (litOf a, b.k) | return ()
  let some kn := K.getAppFn.constName? | return ()
  if let some r := (← kObjs.get).get? (kn, n) then if (← getEnv).contains r.2 then return ()
  let P := mkConst ``Params
  let aE := mkRawNatLit n
  let look (p : Lean.Expr) : MetaM Lean.Expr := do mkAppOptM ``List.lookup #[none, none, none, some aE, some (← mkExpectedTypeHint (mkApp (mkConst kn) p) (mkApp (mkConst ``List [0]) tyPair))]
  let some (oL, oqL) ← withLocalDeclD `P P (fun p => do
    let e ← kw (← look p)
    unless e.isAppOfArity ``Option.some 2 do return none
    let o ← nObj e.appArg!
    return some (← mkLambdaFVars #[p] o, ← mkLambdaFVars #[p] (layOut o))) | return ()
  let od ← defAt `xo (← mkArrow P (mkConst ``Obj)) oqL
  let (ty, pf) ← withLocalDeclD `w (mkConst ``PySem.World) fun w => withLocalDeclD `h (mkConst ``Heap) fun h => do
    let pw := mkApp (mkConst ``PySem.World.params) w
    withLocalDeclD `X (mkApp2 (mkConst ``Frag.In) (mkApp (mkConst kn) pw) h) fun X => do
      let o := (mkApp od pw)
      let get := mkApp2 (mkConst ``Heap.get?) h aE
      pure (← mkForallFVars #[w, h, X] (← mkEq get (someE o)), ← mkLambdaFVars #[w, h, X] (mkApp3 X aE o (← mkEqRefl (someE o))))
  let th ← withOptions (Elab.async.set · false) (mkAuxLemma [] ty pf (cache := false))
  kObjs.modify (·.insert (kn, n) (od.constName!, th))
def findO (b : Base) (a : Lean.Expr) : MetaM (Option (Lean.Expr × Lean.Expr)) := do
  ensureObj b a
  findOld b a
def kEq (a b : Lean.Expr) : MetaM Bool := do
  match Kernel.isDefEq (← getEnv) (← getLCtx) (← instantiateMVars a) (← instantiateMVars b) with
  | .ok r => return r
  | .error _ => return false
def byCases (P : Lean.Expr) : TacticM (Option Lean.Expr) := do
  let m ← mkFreshExprSyntheticOpaqueMVar P
  let saved ← saveState
  try
    let gs ← Tactic.run m.mvarId! (Tactic.withoutRecover (do evalTactic (← `(tactic| (intro hq; cases hq)))))
    if gs.isEmpty then return some (← instantiateMVars m)
    saved.restore; return none
  catch _ => saved.restore; return none
/-- is it so, or not, with its proof; and a value laid open, with its equation -/
def bothP (b : Base) (st : XRun.St) (n : Nat) : (Lean.Expr → TacticM (Option (Bool × Lean.Expr))) × (Lean.Expr → TacticM (Option (Lean.Expr × Lean.Expr))) := fixP n (fun _ => return none, fun _ => return none) fun n ih => (fun P => do
    let P' ← Core.betaReduce P
    let hint (v : Bool) (h : Lean.Expr) : MetaM (Option (Bool × Lean.Expr)) := do
      return some (v, ← mkExpectedTypeHint h (if v then P else mkApp (mkConst ``Not) P))
    if let some (T, l, r) := P'.eq? then
      if ← kEq l r then return ← hint true (← mkEqRefl l)
      let T ← whnfD T
      if T.isConstOf ``Nat then
        let (u, v) := (← addrOf l, ← addrOf r)
        ensureObj b u
        ensureObj b v
        if let some ne ← neProof b st u v then return ← hint false ne
      else unless T.isConstOf ``Int do
        if let (some (l', h1), some (r', h2)) := (← ih.2 l, ← ih.2 r) then
          let e1 ← mkExpectedTypeHint h1 (← mkEq l l')
          let e2 ← mkExpectedTypeHint h2 (← mkEq r r')
          if ← kEq l' r' then
            return ← hint true (← mkEqTrans e1 (← mkEqSymm (← mkExpectedTypeHint e2 (← mkEq r l'))))
          let Q ← mkEq l' r'
          let no ← (do
            if l'.isAppOfArity ``Value.ref 1 && r'.isAppOfArity ``Value.ref 1 then
              match ← neProof b st (← addrOf l'.appArg!) (← addrOf r'.appArg!) with
              | some ne => return some (← withLocalDeclD `q Q fun q => do mkLambdaFVars #[q] (mkApp ne (← mkAppM ``Value.ref.inj #[q])))
              | none => return none
            if l'.getAppFn.isConst && r'.getAppFn.isConst && l'.getAppFn.constName! != r'.getAppFn.constName! then
              return ← byCases (mkApp (mkConst ``Not) Q)
            return none : TacticM (Option Lean.Expr))
          if let some no := no then
            let hn ← withLocalDeclD `e P' fun ev => do mkLambdaFVars #[ev] (mkApp no (← mkEqTrans (← mkEqSymm e1) (← mkEqTrans ev e2)))
            return ← hint false hn
    if P'.isAppOfArity ``Not 1 then
      match ← ih.1 P'.appArg! with
      | some (true, h) => return ← hint false (← withLocalDeclD `e P' fun ev => mkLambdaFVars #[ev] (mkApp ev h))
      | some (false, h) => return ← hint true h
      | none => pure ()
    if let some h ← tryProve P then return some (true, h)
    if let some h ← tryProve (mkApp (mkConst ``Not) P) then return some (false, h)
    return none, fun e => do
    let v ← kw e
    if ← isCtor v then return some (v, ← mkExpectedTypeHint (← mkEqRefl v) (← mkEq e v))
    let some (c, P, M) ← digO 40 e | return none
    let some (yes, h) ← ih.1 P | return none
    let sT := mkApp (mkConst ``Decidable) P
    let F ← withLocalDeclD `d sT fun d => mkLambdaFVars #[d] (c d)
    let val := mkApp2 (mkConst (if yes then ``Decidable.isTrue else ``Decidable.isFalse)) P h
    let pf := mkApp3 (mkConst (if yes then ``dec_is else ``dec_not)) P M h
    let next := c val
    let q ← mkExpectedTypeHint (← mkCongrArg F pf) (← mkEq e next)
    let some (v', h') ← ih.2 next | return none
    return some (v', ← mkEqTrans q h'))
def decideP (b : Base) (st : XRun.St) (n : Nat) : Lean.Expr → TacticM (Option (Bool × Lean.Expr)) := (bothP b st n).1
def settleZ (b : Base) (st : XRun.St) (n : Nat) : Lean.Expr → TacticM (Option (Lean.Expr × Lean.Expr)) := (bothP b st n).2
/-- a name for the code, and the code with its parts laid open -/
def keyOf (c : Lean.Expr) : MetaM (String × Lean.Expr) := do
  if c.isAppOfArity ``Code.call 2 then
    let f ← kw c.appFn!.appArg!
    if f.isAppOfArity ``Value.ref 1 then
      if let some n := litOf (← addrOf f.appArg!) then
        return (toString n, mkApp2 c.getAppFn (mkApp f.appFn! (mkRawNatLit n)) (← normArgs c.appArg!))
    if f.isAppOfArity ``Value.builtin 1 then
      if let some id ← strOf f.appArg! then
        return (id, mkApp2 c.getAppFn (mkApp f.appFn! (mkStrLit id)) (← normArgs c.appArg!))
  if c.isAppOfArity ``Code.forLoop 5 then
    let t ← kw c.getAppArgs[0]!
    if t.isAppOf ``PySem.Expr.Name then
      if let some cs ← cpsOf t.getAppArgs[0]! then
        return ("for " ++ String.ofList (cs.map Char.ofNat), mkAppN c.getAppFn (c.getAppArgs.set! 1 (← normVal c.getAppArgs[1]!)))
    return ("for ?", c)
  return ("", c)

def say (m : String) : IO Unit := pure ()
abbrev Hook := Base → XRun.St → MVarId → TacticM (Option (List MVarId))
/-- a frame that waits: its surrounding, its code, its mark, how it goes on, and what lies under it -/
structure KI where
  A : Lean.Expr
  c : Lean.Expr
  hd : Lean.Expr
  k : Lean.Expr
  κ : Option Lean.Expr
/-- what the closed words of a goal stand for -/
structure Info where
  fs : List KI
  tree : Option Lean.Expr := none
  meet : Option (Lean.Expr × FVarId × Nat) := none
structure SS where
  c : Lean.Expr
  A : Lean.Expr
  κ : Option Lean.Expr
  fs : List KI
  tree : Lean.Expr
  body : Option Lean.Expr := none
  st : XRun.St
  is : Array Lean.Expr := #[]
  fv : Array Lean.Expr := #[]
  n : Nat := 0
  meet : Option Lean.Expr := none
inductive Why | go | stuck | met | call (c hd k : Lean.Expr) | again (c : Lean.Expr) | stack (k : Lean.Expr) | done (r : Lean.Expr) | new (o k : Lean.Expr)

def finE : Lean.Expr := mkConst ``PySem.Fin
def tlE (κ : Lean.Expr) : Lean.Expr := if κ.isAppOfArity ``Kn.ret 4 then κ.appArg! else mkApp (mkConst ``Kn.tl) κ
def kkE (κ : Lean.Expr) : Lean.Expr := if κ.isAppOfArity ``Kn.ret 4 then κ.getAppArgs[2]! else mkApp (mkConst ``Kn.kk) κ
def endE (V κ : Lean.Expr) : Lean.Expr := mkApp2 (mkConst ``endR) V κ
def qE (b : Base) (V κ A : Lean.Expr) : Lean.Expr := mkApp4 (mkConst ``postC) b.prog b.w A (endE V κ)
def wpE (b : Base) (V κ A c tree S : Lean.Expr) : Lean.Expr := mkAppN (mkConst ``PySem.wpOwn) #[finE, b.model, A, c, tree, qE b V κ A, mkApp (mkConst ``postE) (endE V κ), S]
def codeE (b : Base) (A c R S : Lean.Expr) : Lean.Expr := mkAppN (mkConst ``PySem.codeAny) #[b.model, A, c, R, S]
def rflB : Lean.Expr := rflAt (mkConst ``Bool) (mkConst ``Bool.true)
def okR (f : Lean.Expr) : Lean.Expr := mkApp3 (mkConst ``Except.ok [0, 0]) (mkConst ``Value) (mkConst ``Flow) f
def errR (e : Lean.Expr) : Lean.Expr := mkApp3 (mkConst ``Except.error [0, 0]) (mkConst ``Value) (mkConst ``Flow) e
def underE (A c hd : Lean.Expr) : Lean.Expr := mkApp2 (mkConst ``PySem.Around.mark) (mkApp2 (mkConst ``PySem.Around.under) A c) hd

def elems (e : Lean.Expr) : List Lean.Expr := Id.run do
  let mut out := #[]
  let mut l := if e.isAppOfArity ``Array.mk 2 then e.appArg! else e
  for _ in [0:1000] do
    if l.isAppOfArity ``List.cons 3 then
      out := out.push l.getAppArgs[1]!
      l := l.getAppArgs[2]!
  return out.toList
/-- a code is entered -/
def enterD (b : Base) (c : Lean.Expr) (s : SS) : MetaM SS := do
  let plain := { s with c, tree := mkApp (mkConst ``dnz) c }
  unless c.isAppOfArity ``Code.call 2 do return plain
  let f ← kw c.appFn!.appArg!
  unless f.isAppOfArity ``Value.ref 1 do return plain
  let a ← addrOf f.appArg!
  if (litOf a).isNone then return plain
  let some (o, e) ← findO b a | return plain
  let dt ← kw (mkApp (mkConst ``Obj.data) o)
  unless dt.isAppOfArity ``Data.func 1 do return plain
  let fd := dt.appArg!
  let cd ← kw (mkApp (mkConst ``FuncData.code) fd)
  unless cd.isAppOfArity ``Value.ref 1 do return plain
  let c2 ← addrOf cd.appArg!
  let some (oc, ec) ← findO b c2 | return plain
  let dc ← kw (mkApp (mkConst ``Obj.data) oc)
  unless dc.isAppOfArity ``Data.fields 1 do return plain
  let some v1 := (elems (← nArr dc.appArg! kw))[1]? | return plain
  unless v1.isAppOfArity ``Value.str 2 do return plain
  let bd ← kw (mkApp (mkConst ``FuncData.body) fd)
  unless bd.isAppOfArity ``FuncBody.stmts 1 do return plain
  let ins (a o e : Lean.Expr) := mkApp4 (mkConst ``Ins.old) b.h0 a o e
  return { s with c, body := some bd.appArg!, tree := mkAppN (mkConst ``mez) #[a, fd, v1.appFn!.appArg!, c.appArg!], is := (s.is.push (ins a o e)).push (ins c2 oc ec) }
def skmE (b : Base) (al tree : Lean.Expr) : Lean.Expr := mkApp4 (mkConst ``skim) al b.setting (mkRawNatLit 400) tree
/-- one step of a run, or why it stops -/
def segOne (b : Base) (hooks : String → Option Hook) (s : SS) : TacticM (SS × Why) := do
  let al := if s.body.isSome then mkConst ``Env else finE
  let t2 ← kw (skmE b al s.tree)
  let a := t2.getAppArgs
  let s1 := { s with n := s.n + 1 }
  let back (r : Lean.Expr) : SS × Why := match s.fs with
    | f :: fs => ({ s1 with c := f.c, A := f.A, κ := f.κ, fs, tree := (mkApp f.k r).headBeta }, .go)
    | [] => (s, .done r)
  let own (i : Nat) (s : SS) : SS := { s with is := s.is.push (mkApp2 (mkConst ``Ins.own) b.h0 (mkRawNatLit i)) }
  match t2.getAppFn.constName? with
  | some ``Sem.pure =>
    match s.body with
    | some bd =>
      let c := mkApp2 (mkConst ``Code.func) bd a[1]!
      return ({ s1 with c, body := none, tree := mkApp (mkConst ``dnz) c }, .go)
    | none =>
    let fin ← kw a[1]!
    match fin.getAppFn.constName? with
    | some ``Fin.done => return back (okR (← kw fin.appArg!))
    | some ``Fin.again =>
      let c ← kw fin.appArg!
      let (key, _) ← keyOf c
      unless (← kw (mkApp (mkConst ``PySem.Code.quiet) c)).isConstOf ``Bool.true do return (s, .stuck)
      if key != "" && (hooks key).isSome then return (s, .again c)
      return (← enterD b c s1, .go)
    | _ => return (s, .stuck)
  | some ``Sem.raise => if s.body.isSome then return (s, .stuck) else return back (errR a[1]!)
  | some ``Sem.load =>
    let ad ← addrOf a[1]!
    match idxOf s.st ad with
    | some (i, o) => return (own i { s1 with tree := (mkApp a[3]! o).headBeta }, .go)
    | none =>
      let some (o, e) ← findO b ad | return (s, .stuck)
      return ({ s1 with tree := (mkApp a[3]! o).headBeta, is := s.is.push (mkApp4 (mkConst ``Ins.old) b.h0 ad o e) }, .go)
  | some ``Sem.fresh =>
    return ({ s1 with tree := (mkApp a[1]! s.st.t).headBeta, st := { s.st with t := mkNatAdd s.st.t (mkNatLit 1) } }, .go)
  | some ``Sem.handled =>
    unless a[1]!.isConstOf ``Bool.false && s.body.isNone do return (s, .stuck)
    let hd ← kw (mkApp (mkConst ``PySem.Around.handled) s.A)
    return ({ s1 with tree := (mkApp a[2]! hd).headBeta }, .go)
  | some ``Sem.alloc =>
    let o ← nObj a[1]!
    unless (← kw (mkApp (mkConst ``PySem.Obj.isFreed) o)).isConstOf ``Bool.false do return (s, .stuck)
    return (s, .new o a[2]!)
  | some ``Sem.update =>
    let ad ← addrOf a[1]!
    let some (i, o) := idxOf s.st ad | return (s, .stuck)
    let o' ← nObj (mkApp a[3]! o)
    return (own i { s1 with tree := (mkApp a[4]! (mkConst ``Unit.unit)).headBeta, st := { s.st with news := s.st.news.set i (ad, o') } }, .go)
  | some ``Sem.call =>
    if s.body.isSome then return (s, .stuck)
    let c ← kw a[1]!
    let hd ← kw a[2]!
    unless (← kw (mkApp (mkConst ``okMark) hd)).isConstOf ``Bool.true do return (s, .stuck)
    let (key, _) ← keyOf c
    if key != "" && (hooks key).isSome then return (s, .call c hd a[5]!)
    return (← enterD b c { s1 with A := underE s.A s.c hd, κ := none, fs := ⟨s.A, s.c, hd, a[5]!, s.κ⟩ :: s.fs }, .go)
  | some ``Sem.stack => if s.body.isSome then return (s, .stuck) else return (s, .stack a[1]!)
  | _ =>
    if s.body.isSome then return (s, .stuck)
    let some ft := t2.find? (fun e => e.isAppOfArity ``Params.followText 2) | return (s, .stuck)
    let row := ft.appArg!
    let side (v : Name) : MetaM Lean.Expr := do
      let st := mkApp2 (mkConst ``Setting.mk) b.prog (mkApp (mkConst ``PySem.World.params) (mkApp3 (mkConst ``PySem.World.withFollow) b.w row (mkConst v)))
      kw (mkApp4 (mkConst ``skim) finE st (mkRawNatLit 400) s.tree)
    let (tf, tt) := (← side ``Bool.false, ← side ``Bool.true)
    unless ← kEq tt tf do return (s, .stuck)
    return ({ s1 with tree := tf, is := s.is.push (mkApp2 (mkConst ``Ins.same) b.h0 row) }, .go)
/-- the frames with what lies under each -/
def framesOf (κ : Lean.Expr) (fs : List KI) : List KI := Id.run do
  let mut cur := κ
  let mut out := #[]
  for f in fs do
    let k := f.κ.getD (tlE cur)
    out := out.push { f with κ := some k }
    cur := k
  return out.toList
structure Run0 where
  b : Base
  V : Lean.Expr
  hl : Lean.Expr
  R : Lean.Expr
def nStr (n : Nat) : Lean.Expr := mkRawNatLit n
def nameIt (n : Name) (T v : Lean.Expr) (g : MVarId) : MetaM (Lean.Expr × MVarId) := do
  let g ← g.define n T v
  let (f, g) ← g.intro1P
  return (mkFVar f, g)
/-- names for the objects that have none, and for their list -/
def nameNews (news : List (Lean.Expr × Lean.Expr)) (g : MVarId) : MetaM (Lean.Expr × List (Lean.Expr × Lean.Expr) × MVarId) := do
  let mut g := g
  let mut out := #[]
  for (a, o) in news do
    if o.isFVar then out := out.push (a, o)
    else
      let (f, g') ← g.withContext do nameIt `o (mkConst ``Obj) o g
      g := g'
      out := out.push (a, f)
  let (nw, g') ← g.withContext do nameIt `nw (mkApp (mkConst ``List [0]) tyPair) (newsE out.toList) g
  return (nw, out.toList, g')
/-- the same after a run: what has changed is set in the list before -/
def nameNext (old : List (Lean.Expr × Lean.Expr)) (nw0 : Lean.Expr) (news : List (Lean.Expr × Lean.Expr)) (k : Nat) (g : MVarId) : MetaM (Lean.Expr × List (Lean.Expr × Lean.Expr) × MVarId) := do
  let deep ← g.withContext do nwDepth 1000 nw0
  unless nw0.isFVar && news.length == old.length + k && deep < 8 do return ← nameNews news g
  let mut g := g
  let mut out := #[]
  let mut chg := #[]
  let olds := old.toArray
  let mut j := 0
  for (a, o) in news do
    let same := j ≥ k && o == (olds[j - k]!).2 && a == (olds[j - k]!).1
    if o.isFVar then out := out.push (a, o)
    else
      let (f, g') ← g.withContext do nameIt `o (mkConst ``Obj) o g
      g := g'
      out := out.push (a, f)
    if j ≥ k && !same then chg := chg.push (j - k)
    j := j + 1
  if chg.size > 6 then return ← nameNews out.toList g
  if chg.isEmpty && k == 0 then return (nw0, out.toList, g)
  let pT := mkConst ``Addr
  let pair (p : Lean.Expr × Lean.Expr) : Lean.Expr := mkApp4 (mkConst ``Prod.mk [0, 0]) pT (mkConst ``Obj) p.1 p.2
  let mut e := nw0
  for i in chg do
    e := mkApp3 (mkConst ``setN) e (mkRawNatLit i) (pair (out[k + i]!))
  for i in [0:k] do
    e := mkApp3 (mkConst ``List.cons [0]) tyPair (pair (out[k - 1 - i]!)) e
  let (nw, g') ← g.withContext do nameIt `nw (mkApp (mkConst ``List [0]) tyPair) e g
  return (nw, out.toList, g')
/-- the known objects get names -/
def nameMem (b : Base) (g : MVarId) (x : Go) : TacticM (MVarId × Go) := g.withContext do
  let ty := (← inferType x.st.mem).consumeMData
  if ty.getAppArgs[3]!.isFVar then return (g, x)
  let (nw, news, g) ← nameNews x.st.news g
  g.withContext do
    let g ← g.assert `D (mkApp4 (mkConst ``Mem) b.h0 x.st.h (newsE []) nw) x.st.mem
    let (f, g) ← g.intro1P
    return (g, { x with st := { x.st with mem := mkFVar f, news } })
/-- what a run reads, written small -/
def packIs (h₀ insT : Lean.Expr) (is : List Lean.Expr) : Lean.Expr := Id.run do
  let mut code : Nat := 0
  let mut p : Nat := 1
  let mut os := #[]
  for i in is do
    if i.isAppOfArity ``Ins.go 1 then p := p * 64
    else
      let lit := if i.isAppOfArity ``Ins.own 2 then match i.appArg! with
        | .lit (.natVal k) => if k < 62 then some k else none
        | _ => none
        else none
      match lit with
      | some k => code := code + (k + 2) * p; p := p * 64
      | none => os := os.push i; code := code + p; p := p * 64
  return mkApp4 (mkConst ``unpack) h₀ (mkRawNatLit is.length) (mkRawNatLit code) (listE insT os.toList)
/-- the run so far as one: a goal at its end -/
def emitSeg (z : Run0) (g : MVarId) (x : Go) (κ0 : Lean.Expr) (s : SS) : TacticM (MVarId × SS) := do
  let b := z.b
  let insT := mkApp (mkConst ``Ins) b.h0
  let isE := packIs b.h0 insT s.is.toList
  let ads := listE (mkConst ``Nat) s.fv.toList
  let news0 ← g.withContext do return (← inferType x.st.mem).consumeMData.getAppArgs[3]!
  let st1 := if x.fresh then mkAppN (mkConst ``runE) #[z.V, mkConst ``tz, nStr s.n, x.c, κ0, news0, x.st.t, isE, ads]
    else mkAppN (mkConst ``after) #[z.V, nStr s.n, x.c, κ0, x.tree, news0, x.st.t, isE, ads]
  let msT := mkConst ``MS
  let mT ← mkForallFVars s.fv (.letE `s msT st1 (mkApp2 (mkConst ``Fine) z.V (.bvar 0)) false)
  let m ← g.withContext do mkFreshExprSyntheticOpaqueMVar mT
  g.withContext do
    if x.fresh then
      g.assign (mkAppN (mkConst ``startGo) #[z.V, z.hl, nStr s.n, nStr s.fv.size, x.c, κ0, news0, x.st.t, isE, x.st.h, x.st.mem, m])
    else
      g.assign (mkAppN (mkConst ``runGo) #[z.V, z.hl, nStr s.n, nStr s.fv.size, x.c, κ0, x.tree, news0, x.st.t, isE, x.st.h, x.st.mem, m])
  let (fs, g1) ← m.mvarId!.introN (s.fv.size + 1)
  let sE := mkFVar fs[s.fv.size]!
  let vs := fs.toList.take s.fv.size |>.map Lean.Expr.fvar |>.toArray
  let re (e : Lean.Expr) : Lean.Expr := e.replaceFVars s.fv vs
  let κ := re (s.κ.getD (mkApp (mkConst ``MS.κ) sE))
  let T := mkApp (mkConst ``Tr.f) (mkApp (mkConst ``MS.T) sE)
  let (nw, news, g1) ← nameNext x.st.news news0 (s.st.news.map fun (a, o) => (re a, re o)) s.fv.size g1
  let (A, c) := (re s.A, re s.c)
  let t0 := re s.st.t
  let (t, g1) ← if t0.isFVar then pure (t0, g1) else g1.withContext do nameIt `t (mkConst ``Nat) t0 g1
  g1.withContext do
    let hp := mkConst ``Heap
    let P ← withLocalDeclD `h hp fun h => do
      withLocalDeclD `D (mkApp4 (mkConst ``Mem) b.h0 h (newsE []) nw) fun d => do
        mkForallFVars #[h, d] (wpE b z.V κ A c T { s.st with h, t }.shared)
    let m2 ← mkFreshExprSyntheticOpaqueMVar P
    let eqE := mkApp2 (mkConst ``Eq.refl [1]) (mkApp (mkConst ``List [0]) (mkConst ``Ob)) (mkApp (mkConst ``MS.l1) sE)
    g1.assign (mkAppN (mkConst ``Fine.mk) #[z.V, sE, eqE, m2])
    let (fs, g2) ← m2.mvarId!.introN 2
    let st := { s.st with h := mkFVar fs[0]!, mem := mkFVar fs[1]!, news, t }
    let frs := (framesOf κ s.fs).map fun f => { f with A := re f.A, c := re f.c, hd := re f.hd, k := re f.k, κ := f.κ.map re }
    return (g2, { s with c, A, κ := some κ, fs := frs, tree := re s.tree, st, fv := #[] })
def segLoop (z : Run0) (hooks : String → Option Hook) (g : MVarId) (x : Go) (κ0 : Lean.Expr) (n : Nat) : SS → TacticM (MVarId × SS × Why) := fixP n (fun s => do
    let (g2, s) ← emitSeg z g x κ0 s
    return (g2, s, .go)) fun n ih s => do
    if n < 40 && s.body.isNone then
      let (g2, s) ← emitSeg z g x κ0 s
      return (g2, s, .go)
    if let some tT := s.meet then
      if s.body.isNone then
        let t2 ← kw (skmE z.b finE s.tree)
        if t2.getAppFn == tT.getAppFn && (← kEq t2 tT) then
          if s.n == 0 && !x.fresh then return (g, { s with κ := some κ0, fs := framesOf κ0 s.fs }, .met)
          let (g2, s2) ← emitSeg z g x κ0 s
          return (g2, s2, .met)
    let k0 := s.is.size
    let filled (s : SS) : SS := if s.is.size == k0 then { s with is := s.is.push (mkApp (mkConst ``Ins.go) z.b.h0) } else s
    match ← segOne z.b hooks s with
    | (s, .go) => ih (filled s)
    | (s, .new o k) =>
      withLocalDeclD `a (mkConst ``Nat) fun ad => do
        ih <| filled { s with tree := (mkApp k ad).headBeta, st := { s.st with news := (ad, o) :: s.st.news }, fv := s.fv.push ad, n := s.n + 1 }
    | (s, w) =>
      let ks := match w with
        | .call c hd k => #[c, hd, k]
        | .again c => #[c]
        | .stack k => #[k]
        | .done r => #[r]
        | _ => #[]
      if s.n == 0 && !x.fresh then return (g, { s with κ := some κ0, fs := framesOf κ0 s.fs }, w)
      if s.body.isSome then throwError "a run stops while a frame is made"
      let fv := s.fv
      let (g2, s2) ← emitSeg z g x κ0 s
      -- the same words over the new names
      let re (e : Lean.Expr) : Lean.Expr := Id.run do
        let mut e := e
        let olds := fv.toList
        let pos := olds.map fun f => s.st.news.findIdx? (·.1 == f)
        for (f, p) in olds.zip pos do
          if let some i := p then e := e.replaceFVar f (s2.st.news[i]!).1
        return e
      let ks := ks.map re
      let w := match w with
        | .call .. => .call ks[0]! ks[1]! ks[2]!
        | .again .. => .again ks[0]!
        | .stack .. => .stack ks[0]!
        | .done .. => .done ks[0]!
        | w => w
      return (g2, s2, w)
/-- the end of a code reaches what waits for it -/
def popGoal (z : Run0) (κ r S : Lean.Expr) (fs : List KI) (g : MVarId) : TacticM (MVarId × Option Info) := g.withContext do
  match fs with
  | f :: fs =>
    let κ' := tlE κ
    let m ← mkFreshExprSyntheticOpaqueMVar (wpE z.b z.V κ' f.A f.c (mkApp (kkE κ) r) S)
    g.assign m
    return (m.mvarId!, some { fs := framesOf κ' (fs.map fun f => { f with κ := none }), tree := some (mkApp f.k r).headBeta })
  | [] =>
    let m ← mkFreshExprSyntheticOpaqueMVar (mkApp2 z.R r S)
    g.assign m
    return (m.mvarId!, none)
def normCode (c : Lean.Expr) : MetaM Lean.Expr := do return (← keyOf c).2
/-- what decision a tree waits for -/
def decisionOf (tree : Lean.Expr) : MetaM (Option ((Lean.Expr → Lean.Expr) × Lean.Expr × Lean.Expr)) := do
  let t ← kw tree
  if t.isAppOfArity ``Sem.pure 2 then
    match ← digO 60 t.appArg! with
    | some (c, P, M) => return some (fun y => mkApp t.appFn! (c y), P, M)
    | none => return none
  digO 60 tree
/-- a stuck tree: the outermost decision first, else the machine's own way -/
def decide1 (b : Base) (x : Go) (dg : Option ((Lean.Expr → Lean.Expr) × Lean.Expr × Lean.Expr)) (g : MVarId) : TacticM (List Left) := g.withContext do
  let pre := #[x.al, b.prog, b.w, x.A, x.c, x.Q, x.E]
  let S := x.st.shared
  let M := b.model
  match dg with
  | some (ctx, P, Mo) =>
    let sT := mkApp (mkConst ``Decidable) P
    let lam ← withLocalDeclD `d sT fun dv => mkLambdaFVars #[dv] (ctx dv)
    let wp (tree : Lean.Expr) := mkAppN (mkConst ``PySem.wpOwn) #[x.al, M, x.A, x.c, tree, x.Q, x.E, S]
    let go (yes : Bool) (hp : Lean.Expr) : TacticM (List Left) := do
      let m ← mkFreshExprSyntheticOpaqueMVar (wp (ctx (mkApp2 (mkConst (if yes then ``Decidable.isTrue else ``Decidable.isFalse)) P hp)))
      g.assign (mkAppN (mkConst (if yes then ``y_true else ``y_false)) (pre ++ #[S, P, Mo, hp, lam, m]))
      return [⟨m.mvarId!, "fuel"⟩]
    if let some (v, hp) ← decideP b x.st 12 P then return ← go v hp
    let kk ← keyOf x.c
    say s!"SPLIT {((toString (← ppExpr P)).take 400).toString} IN {x.c.getAppFn} {kk.1} {((toString (← ppExpr (x.c.getAppArgs[0]!))).take 600).toString}"
    let ty1 ← withLocalDeclD `hp P fun hp => mkForallFVars #[hp] (wp (ctx (mkApp2 (mkConst ``Decidable.isTrue) P hp)))
    let ty2 ← withLocalDeclD `hn (mkApp (mkConst ``Not) P) fun hn => mkForallFVars #[hn] (wp (ctx (mkApp2 (mkConst ``Decidable.isFalse) P hn)))
    let (m1, m2) := (← mkFreshExprSyntheticOpaqueMVar ty1, ← mkFreshExprSyntheticOpaqueMVar ty2)
    g.assign (mkAppN (mkConst ``y_split) (pre ++ #[S, P, Mo, lam, m1, m2]))
    let (_, g1) ← m1.mvarId!.intro1P
    let (_, g2) ← m2.mvarId!.intro1P
    return [⟨g1, "fuel"⟩, ⟨g2, "fuel"⟩]
  | none => XRun.run b g x 1
/-- all that a tree waits for, the outermost first, each with its surroundings folded -/
def digL (n : Nat) : Lean.Expr → MetaM (List ((Lean.Expr → Lean.Expr) × Lean.Expr)) := fixP n (fun _ => return []) fun n ih e => do
    let e' ← kw e
    match ← majorOf e' with
    | none => return []
    | some M =>
      let f ← foldAt e e' M
      let put (x : Lean.Expr) : Lean.Expr := f.replace fun y => if y == M then some x else none
      return (put, M) :: (← ih M).map fun (c, s) => (fun x => put (c x), s)
/-- a stuck tree without a decision: the frames that wait, or a truth value; else nothing -/
def decide2 (b : Base) (x : Go) (g : MVarId) : TacticM (Option (List Left)) := g.withContext do
  let t ← kw x.tree
  let l ← (if t.isAppOfArity ``Sem.pure 2 then do
      return (← digL 60 t.appArg!).map fun (c, s) => (fun y => mkApp t.appFn! (c y), s)
    else digL 60 x.tree : MetaM (List ((Lean.Expr → Lean.Expr) × Lean.Expr)))
  let some (ctx0, M0) := l.getLast? | return none
  let S := x.st.shared
  let pre := #[x.al, b.prog, b.w, x.A, x.c, x.Q, x.E, S]
  let wp (tree : Lean.Expr) := mkAppN (mkConst ``PySem.wpOwn) #[x.al, b.model, x.A, x.c, tree, x.Q, x.E, S]
  let lamOf (T : Lean.Expr) (ctx : Lean.Expr → Lean.Expr) := withLocalDeclD `d T fun d => mkLambdaFVars #[d] (ctx d)
  let one (g : MVarId) (lem : Name) (args : Array Lean.Expr) (lam tree : Lean.Expr) : TacticM (List Left) := g.withContext do
    let m ← mkFreshExprSyntheticOpaqueMVar (wp tree)
    g.assign (mkAppN (mkConst lem) (pre ++ args ++ #[lam, m]))
    return [⟨m.mvarId!, "fuel"⟩]
  let s0 ← kw M0
  if let .proj _ _ (.const on _) := s0.getAppFn then
    unless on == ``oEnvs do return none
    let some (_, li, A') := x.st.lies.find? (·.1 == s0.getAppArgs[0]!) | return none
    let fr ← kw (mkApp (mkConst ``PySem.Around.frames) A')
    unless fr.isAppOfArity ``Option.some 2 do return none
    let es ← nList fr.appArg! pure
    let T ← inferType es
    let h := mkAppN (mkConst ``Lies.envs) #[A', s0.getAppArgs[0]!, li, es, rflAt (mkApp (mkConst ``Option [0]) T) (mkApp2 (mkConst ``Option.some [0]) T es)]
    return some (← one g ``y_num #[T, M0, es, h] (← lamOf T ctx0) (ctx0 es))
  let bools ← l.filterM fun (_, M) => return (← whnfCore (← inferType M)).isConstOf ``Bool
  let some (ctx, M) := bools.getLast? | return none
  let s ← kw M
  let B := mkConst ``Bool
  let lam ← lamOf B ctx
  for d in ← getLCtx do
    if d.isImplementationDetail then continue
    if let some (_, l, r) := (← instantiateMVars d.type).eq? then
      if l == s && (r.isConstOf ``Bool.true || r.isConstOf ``Bool.false) then return some (← one g ``y_bool #[s, r, d.toExpr] lam (ctx r))
  let (tT, tF) := (← kw (skmE b x.al (ctx (mkConst ``Bool.true))), ← kw (skmE b x.al (ctx (mkConst ``Bool.false))))
  if tT == tF then
    let r := rflAt (mkApp (mkConst ``Sem) x.al) tT
    let m ← mkFreshExprSyntheticOpaqueMVar (wp tT)
    g.assign (mkAppN (mkConst ``y_same) (pre ++ #[M, lam, mkRawNatLit 400, tT, r, r, m]))
    return some [⟨m.mvarId!, "fuel"⟩]
  let eqP (v : Name) := mkApp3 (mkConst ``Eq [1]) B s (mkConst v)
  let ty (v : Name) : MetaM Lean.Expr := withLocalDeclD `hb (eqP v) fun h => mkForallFVars #[h] (wp x.tree)
  let (m1, m2) := (← mkFreshExprSyntheticOpaqueMVar (← ty ``Bool.true), ← mkFreshExprSyntheticOpaqueMVar (← ty ``Bool.false))
  g.assign (mkAppN (mkConst ``y_row) (pre ++ #[x.tree, s, m1, m2]))
  let (h1, g1) ← m1.mvarId!.intro1P
  let l1 ← one g1 ``y_bool #[s, mkConst ``Bool.true, mkFVar h1] lam (ctx (mkConst ``Bool.true))
  let (h2, g2) ← m2.mvarId!.intro1P
  let l2 ← one g2 ``y_bool #[s, mkConst ``Bool.false, mkFVar h2] lam (ctx (mkConst ``Bool.false))
  return some (l1 ++ l2)
/-- the names in a term, and in what its names stand for -/
def allIn (e : Lean.Expr) (s : CollectFVars.State) : MetaM CollectFVars.State := do
  let mut s := (← (e.collectFVars).run s).2
  let mut i := 0
  for _ in [0:100000] do
    if h : i < s.fvarIds.size then
      let f := s.fvarIds[i]
      i := i + 1
      if let some v ← f.getValue? then s := (← (v.collectFVars).run s).2
    else break
  return s
/-- the outermost truth value that a tree waits for -/
def digB (n : Nat) : Lean.Expr → MetaM (Option ((Lean.Expr → Lean.Expr) × Lean.Expr)) := fixP n (fun _ => return none) fun n ih e => do
    match ← majorOf e with
    | none => return none
    | some M =>
      if (← whnfR (← inferType M)).isConstOf ``Bool then
        return some (fun x => e.replace fun y => if y == M then some x else none, M)
      match ← ih (← kw M) with
      | some (c, s) => return some (fun x => let m := c x; e.replace fun y => if y == M then some m else none, s)
      | none => return none
/-- two ways that part at an object's open places and meet again: walked as one -/
def joinTry (z : Run0) (s : SS) (Tc : Lean.Expr) (g : MVarId) : TacticM (Option (List (MVarId × Info))) := g.withContext do
  let b := z.b
  let t1 ← kw (skmE b finE s.tree)
  let some (ctx, M) ← digB 60 t1 | return none
  let slT := mkApp (mkConst ``Array [0]) (mkApp (mkConst ``Option [0]) (mkConst ``Value))
  let names := (← allIn M {}).fvarIds
  -- the object whose slots are asked, and where it stands
  let mut at_ := none
  let mut j := 0
  for (_, o) in s.st.news do
    let o ← kw o
    if o.isAppOfArity ``Obj.mk 4 then
      let sl ← kw o.appArg!
      if sl.isFVar && names.contains sl.fvarId! && at_.isNone then at_ := some (j, o, sl)
    j := j + 1
  let some (i, o, sl0) := at_ | return none
  let κ := s.κ.get!
  let F ← withLocalDeclD `b (mkConst ``Bool) fun bv => do mkLambdaFVars #[bv] (ctx bv)
  let tT ← kw (skmE b finE (ctx (mkConst ``Bool.true)))
  unless ← isCtor tT do return none
  let hp := mkConst ``Heap
  let listOf (sl : Lean.Expr) := newsE (s.st.news.set i ((s.st.news[i]!).1, mkApp o.appFn! sl))
  let mE ← withLocalDeclD `sl slT fun sl => do mkLambdaFVars #[sl] (listOf sl)
  let means (T S : Lean.Expr) := wpE b z.V κ s.A s.c T S
  let xT ← withLocalDeclD `sl slT fun sl => withLocalDeclD `h hp fun h => do
    withLocalDeclD `D (mkApp4 (mkConst ``Mem) b.h0 h (newsE []) (listOf sl)) fun d => mkForallFVars #[sl, h, d] (means tT { s.st with h }.shared)
  let m ← mkFreshExprSyntheticOpaqueMVar xT
  let hfT ← mkArrow xT (means (ctx (mkConst ``Bool.false)) s.st.shared)
  let hf ← mkFreshExprSyntheticOpaqueMVar hfT
  let semT := mkApp (mkConst ``Sem) finE
  let skm (T : Lean.Expr) := mkApp2 (mkConst ``skm) z.V T
  g.assign (mkAppN (mkConst ``joinGo) #[z.V, s.c, κ, Tc, tT, M, F, mE, sl0, s.st.h, s.st.t, s.st.mem, rflAt semT (skm Tc), rflAt semT tT, hf, m])
  let (xf, gf) ← hf.mvarId!.intro1P
  let (_, g3) ← m.mvarId!.introN 3
  return some ([(g3, { fs := s.fs, tree := some tT }), (gf, { fs := s.fs, tree := some (ctx (mkConst ``Bool.false)), meet := some (tT, xf, i) })])
def withSide (hook : Hook) (key : String) (b : Base) (st : XRun.St) (m : MVarId) : TacticM (Option (List MVarId)) := do
  let saved ← saveState
  match ← (try hook b st m catch e => do
    say s!"hook {key}: {((← e.toMessageData.toString).take 600)}"
    pure none) with
  | some gs => return some gs
  | none => saved.restore; return none
def showStuck (g : MVarId) : TacticM Unit := g.withContext do
  let some (x, _) ← goOf g | return ()
  let t1 ← ev x.tree
  match ← dig t1 with
  | some (_, s) => Lean.logInfo m!"STUCK AT {((toString (← ppExpr s)).take 1500).toString} OF TYPE {((toString (← ppExpr (← inferType s))).take 300).toString}"
  | none => Lean.logInfo m!"STUCK, no dig: {t1.getAppFn}"

def sealGoals (checks : Array (MVarId × MVarId)) : TacticM Unit := do
  for (g, m) in checks.reverse do
    g.withContext do
      let ty ← instantiateMVars (← g.getType)
      let v ← instantiateMVars (mkMVar m)
      if v.hasExprMVar then g.assign v else
        let s ← (do
          let (_, s) ← (ty.collectFVars).run {}
          let (_, s) ← (v.collectFVars).run s
          s.addDependencies)
        let ids ← sortFVarIds s.fvarIds
        let xs := ids.map Lean.Expr.fvar
        let c ← withOptions (Elab.async.set · false) (do mkAuxLemma [] (← mkForallFVars xs ty) (← mkLambdaFVars xs v) (cache := false))
        let ys ← xs.filterM fun x => return !(← x.fvarId!.getDecl).isLet
        g.assign (mkAppN (mkConst c) ys)

/-- the objects that nothing in the goal names any more are dropped -/
def tidy (g : MVarId) : TacticM MVarId := g.withContext do
  let some (x, _) ← goOf g | return g
  let T ← instantiateMVars (← g.getType)
  let live ← allIn T {}
  let mut old : Array FVarId := #[]
  let mut rest : Array FVarId := #[]
  for d in ← getLCtx do
    if d.isImplementationDetail then continue
    let t := d.type.consumeMData
    if t.isAppOfArity ``Mem 4 && d.toExpr != x.st.mem then old := old.push d.fvarId
    else if t.isAppOfArity ``Lies 2 then
      let st := t.appArg!
      let tl := if st.isAppOfArity ``List.cons 3 then st.getAppArgs[2]! else st
      unless tl.isFVar && live.fvarSet.contains tl.fvarId! do old := old.push d.fvarId
    else if t.isConstOf ``Heap || t.isConstOf ``Pos || t.isAppOf ``List then rest := rest.push d.fvarId
  let g ← g.tryClearMany old
  g.tryClearMany rest
def prune (own : List Lean.Expr) (most : Nat) (g : MVarId) : TacticM MVarId := do
  let g ← tidy g
  g.withContext do
  let some (x, _) ← goOf g | return g
  let T ← instantiateMVars (← g.getType)
  let mut live ← allIn T {}
  let n := x.st.news.length
  let mut kept : Array Bool := Array.replicate n false
  for _ in [0:n + 1] do
    let mut more := false
    let mut i := 0
    for (a, o) in x.st.news do
      if !kept[i]! && a.isFVar && (live.fvarSet.contains a.fvarId! || own.contains a) then
        kept := kept.set! i true
        live ← allIn o live
        more := true
      i := i + 1
    unless more do break
  let gone := (kept.toList.filter (!·)).length
  if gone < most then return g
  let mask := listE (mkConst ``Bool) (kept.toList.map fun b => mkConst (if b then ``Bool.true else ``Bool.false))
  let news' := (x.st.news.zip kept.toList).filterMap fun (p, b) => if b then some p else none
  let b0 := (← inferType x.st.mem).consumeMData.getAppArgs[0]!
  let pf := mkAppN (mkConst `Mine.dropMem) #[b0, x.st.h, newsE x.st.news, x.st.mem, mask]
  let ty := mkApp4 (mkConst ``Mem) b0 x.st.h (newsE []) (newsE news')
  let g ← g.assert `D ty pf
  let (_, g) ← g.intro1P
  let mut g := g
  try g ← g.clear x.st.mem.fvarId! catch _ => pure ()
  return g


/-- the run: `ends` closes the ends; what is left comes back with its reason -/
def drive (limit : Nat) (hooks : String → Option Hook) (ends : TacticM Unit) (g0 : MVarId) : TacticM (List Left) := do
  let (_, g0) ← g0.intros
  let some (x0, M) ← g0.withContext do goOf g0 | throwError "drive: another goal"
  unless x0.fresh do throwError "drive: no code"
  let own := x0.st.news.map (·.1)
  let M ← whnfCore M
  let b ← baseOf g0 M.appFn!.appArg! M.appArg!
  let (V, g0) ← g0.withContext do nameIt `V (mkConst ``SV) (mkAppN (mkConst ``SV.mk) #[b.prog, b.w, x0.A, x0.Q, b.h0, x0.st.g, x0.st.d, x0.st.os]) g0
  let some (_, KX) := b.k | throwError "drive: no K"
  let base := mkConst ``Kn.base
  let z : Run0 := { b, V, hl := mkApp3 (mkConst ``noLim_KH) b.w b.h0 KX, R := x0.Q }
  let g1 ← g0.withContext do
    let m ← mkFreshExprSyntheticOpaqueMVar (codeE b x0.A x0.c (endE V base) x0.st.shared)
    g0.assign m
    pure m.mvarId!
  let mut todo : Array (MVarId × Nat × Info) := #[(g1, 1, { fs := [] })]
  let mut out : Array Left := #[]
  let mut checks : Array (MVarId × MVarId) := #[]
  let mut cnt : Nat := 0
  let mut segs : Nat := 0
  for _ in [0:limit] do
    match todo.back? with
    | none => break
    | some (g, k, info) =>
      todo := todo.pop
      segs := segs + 1
      let T := (← g.withContext do instantiateMVars (← g.getType)).consumeMData
      -- an end
      let isEnd := T.getAppFn == x0.Q.getAppFn && T.getAppNumArgs == x0.Q.getAppNumArgs + 2
      if T.isAppOfArity ``endR 4 || isEnd then
        let a := T.getAppArgs
        let (g2, e) ← if isEnd then pure (g, none) else popGoal z a[1]! a[2]! a[3]! info.fs g
        match e with
        | none =>
          let gs ← (do
            let saved ← saveState
            try Tactic.run g2 ends
            catch e => do
              saved.restore
              Lean.logInfo m!"end not closed: {e.toMessageData}"
              return [g2] : TacticM (List MVarId))
          for ge in gs do out := out.push ⟨ge, "end"⟩
        | some i => todo := todo.push (g2, k, i)
        continue
      let mut cur := g
      let some (x, _) ← goOf cur | out := out.push ⟨cur, "no goal of ours"⟩; continue
      let (cur', x) ← nameMem b cur x
      cur := cur'
      let κ0 := (if x.fresh then x.Q else x.Q.appArg!).appArg!
      let mut x := x
      let mut κ := κ0
      let mut fs := info.fs
      let tree := info.tree.getD x.tree
      -- a cut: everything written out
      if k % 400 == 0 && !x.fresh && info.meet.isNone then
        let κE := fs.foldr (fun f κ => mkAppN (mkConst ``Kn.ret) #[f.c, f.hd, f.k, κ]) base
        let m0 ← cur.withContext do
          let m ← mkFreshExprSyntheticOpaqueMVar (wpE b V κE x.A x.c tree x.st.shared)
          cur.assign m
          pure m.mvarId!
        let g3 ← prune own 3 m0
        let m ← g3.withContext do mkFreshExprSyntheticOpaqueMVar (← instantiateMVars (← g3.getType))
        checks := checks.push (g3, m.mvarId!)
        cur := m.mvarId!
        fs := framesOf κE (fs.map fun f => { f with κ := none })
        let some (x', _) ← goOf cur | throwError "drive: a cut"
        let (cur', x') ← nameMem b cur x'
        cur := cur'
        x := x'
        κ := κE
      let s0 : SS := { c := x.c, A := x.A, κ := some κ, fs, tree, st := x.st, meet := info.meet.map (·.1) }
      let r ← cur.withContext do
        let s0 ← (if x.fresh then enterD b x.c { s0 with is := #[] } else pure s0)
        segLoop z hooks cur x κ 100 s0
      let (g2, s, w) := r
      cnt := cnt + s.n + 1
      let news : List Left × Info × List (MVarId × Info) ← g2.withContext do
        let T := (← instantiateMVars (← g2.getType)).consumeMData
        let κ := s.κ.getD κ
        let S := s.st.shared
        let pre (Tc : Lean.Expr) := #[V, s.c, κ, Tc, S]
        let Tc := if T.isAppOfArity ``PySem.wpOwn 8 then T.getAppArgs[4]! else T
        let skm := mkApp2 (mkConst ``skm) V Tc
        match w with
        | .go | .new .. => pure ([⟨g2, "fuel"⟩], { fs := s.fs, tree := some s.tree }, [])
        | .met =>
          let some (_, xf, i) := info.meet | throwError "drive: met"
          let o2 ← kw (s.st.news[i]!).2
          g2.assign (mkAppN (mkFVar xf) #[o2.appArg!, s.st.h, s.st.mem])
          pure ([], { fs := s.fs }, [])
        | .done r =>
          let m ← mkFreshExprSyntheticOpaqueMVar (mkAppN (mkConst ``endR) #[V, κ, r, S])
          let rT := mkApp2 (mkConst ``Except [0, 0]) (mkConst ``Value) (mkConst ``Flow)
          let e := rflAt (mkApp (mkConst ``Option [0]) rT) (mkApp2 (mkConst ``Option.some [0]) rT r)
          g2.assign (mkAppN (mkConst ``endGo) (pre Tc ++ #[r, e, m]))
          pure ([⟨m.mvarId!, "fuel"⟩], { fs := s.fs }, [])
        | .stack kE =>
          let cp := mkApp2 (mkConst ``Prod [0, 0]) (mkConst ``Code) (mkConst ``Pos)
          let stOf (p below : Lean.Expr) := mkApp3 (mkConst ``List.cons [0]) cp (mkApp4 (mkConst ``Prod.mk [0, 0]) (mkConst ``Code) (mkConst ``Pos) s.c p) below
          let ty ← withLocalDeclD `p (mkConst ``Pos) fun p => withLocalDeclD `below (mkApp (mkConst ``List [0]) cp) fun below => do
            withLocalDeclD `l (mkApp2 (mkConst ``Lies) (mkApp2 (mkConst ``PySem.Around.under) s.A s.c) (stOf p below)) fun l =>
              mkForallFVars #[p, below, l] (wpE b V κ s.A s.c (mkApp2 (mkConst ``stackK) skm (stOf p below)) S)
          let m ← mkFreshExprSyntheticOpaqueMVar ty
          g2.assign (mkAppN (mkConst ``stackGo) (pre Tc ++ #[rflB, m]))
          let (fs, g3) ← m.mvarId!.introNP 3
          let st := stOf (mkFVar fs[0]!) (mkFVar fs[1]!)
          pure ([⟨g3, "fuel"⟩], { fs := s.fs, tree := some (mkApp kE st).headBeta }, [])
        | .call c hd kE =>
          let (key, c') ← keyOf c
          let κ' := mkAppN (mkConst ``Kn.ret) #[s.c, hd, mkApp (mkConst ``callK) skm, κ]
          let A' := underE s.A s.c hd
          let m ← mkFreshExprSyntheticOpaqueMVar (codeE b A' c' (endE V κ') S)
          let pT := mkApp2 (mkConst ``Prod [0, 0]) (mkConst ``Code) (mkApp (mkConst ``Option [0]) (mkConst ``Value))
          let pr := mkApp4 (mkConst ``Prod.mk [0, 0]) (mkConst ``Code) (mkApp (mkConst ``Option [0]) (mkConst ``Value)) c' hd
          let e := rflAt (mkApp (mkConst ``Option [0]) pT) (mkApp2 (mkConst ``Option.some [0]) pT pr)
          g2.assign (mkAppN (mkConst ``callGo) (pre Tc ++ #[c', hd, e, rflB, m]))
          let i : Info := { fs := ⟨s.A, s.c, hd, kE, some κ⟩ :: s.fs }
          match hooks key with
          | some hook => match ← withSide hook key b s.st m.mvarId! with
            | some gs => pure (gs.map fun g => ⟨g, "fuel"⟩, i, [])
            | none => pure ([⟨m.mvarId!, "code"⟩], i, [])
          | none => pure ([⟨m.mvarId!, "code"⟩], i, [])
        | .again c =>
          let (key, c') ← keyOf c
          let m ← mkFreshExprSyntheticOpaqueMVar (codeE b s.A c' (if s.fs.isEmpty then x0.Q else endE V κ) S)
          let e := rflAt (mkApp (mkConst ``Option [0]) (mkConst ``Code)) (mkApp2 (mkConst ``Option.some [0]) (mkConst ``Code) c')
          g2.assign (mkAppN (mkConst ``againGo) (pre Tc ++ #[c', e, rflB, m]))
          match hooks key with
          | some hook => match ← withSide hook key b s.st m.mvarId! with
            | some gs => pure (gs.map fun g => ⟨g, "fuel"⟩, { fs := s.fs }, [])
            | none => pure ([⟨m.mvarId!, "code"⟩], { fs := s.fs }, [])
          | none => pure ([⟨m.mvarId!, "code"⟩], { fs := s.fs }, [])
        | .stuck =>
          let js ← (if info.meet.isNone then joinTry z { s with κ := some κ } Tc g2 else pure none)
          if let some l := js then pure ([], { fs := s.fs }, l)
          else
          let raw := skmE b finE s.tree
          let dg ← decisionOf raw
          let goBy (t1 : Lean.Expr) : TacticM (Go × MVarId) := do
            let m ← mkFreshExprSyntheticOpaqueMVar (wpE b V κ s.A s.c t1 S)
            return ({ al := finE, A := s.A, c := s.c, Q := qE b V κ s.A, E := mkApp (mkConst ``postE) (endE V κ), tree := t1, st := s.st, fresh := false }, m.mvarId!)
          let by_ (m : MVarId) : TacticM Unit := do
            g2.assign (mkAppN (mkConst ``y_skim) #[finE, b.prog, b.w, s.A, s.c, qE b V κ s.A, mkApp (mkConst ``postE) (endE V κ), S, Tc, mkRawNatLit 400, mkMVar m])
          let (x2, m) ← goBy raw
          if dg.isSome then
            by_ m
            pure (← decide1 b x2 dg m, { fs := s.fs }, [])
          else if let some ls ← decide2 b x2 m then
            by_ m
            pure (ls, { fs := s.fs }, [])
          else
            evMap.set {}
            let t1 ← ev raw
            let (x2, m) ← goBy t1
            by_ m
            pure (← decide1 b x2 none m, { fs := s.fs }, [])
      let (news, i2, joins) := news
      let i2 : Info := { i2 with meet := info.meet }
      for (gj, ij) in joins.reverse do todo := todo.push (gj, k + 1, ij)
      for l in news.reverse do
        if l.why == "fuel" || l.why == "code" then
          let (_, gn) ← l.goal.intros
          todo := todo.push (gn, k + 1, i2)
        else
          let gn := l.goal
          let done ← gn.withContext do
            match ← byOmega (mkConst ``False) with
            | some h => do
              gn.assign (← mkAppOptM ``False.elim #[some (← gn.getType), some h])
              return true
            | none => return false
          unless done do
            showStuck gn
            out := out.push ⟨gn, l.why⟩
  for (gl, _, _) in todo do out := out.push ⟨gl, "limit"⟩
  sealGoals checks
  Lean.logInfo m!"steps {cnt} in {segs}, cuts {checks.size}, left {out.toList.map (·.why)}"
  return out.toList
def driveMain (limit : Nat) (hooks : String → Option Hook) (ends : TacticM Unit) : TacticM Unit := do
  let left ← drive limit hooks ends (← getMainGoal)
  replaceMainGoal (left.map (·.goal))
end Mine
end
section
open PySem PySem.W PySem.W.X PyProof.Rows
namespace Mine

/-! the frame rule -/
def gone : Obj := ⟨.none, none, .freed, #[]⟩
def hide (h : Heap) (as : List Addr) : Heap := ⟨h.objs.mapIdx fun i o => if as.contains i then gone else o, h.life⟩
theorem get?_hide_of {h : Heap} {as : List Addr} {b : Addr} (hb : b ∉ as) : (hide h as).get? b = h.get? b := by
  unfold Heap.get? hide
  rw [Array.getElem?_mapIdx]
  have : as.contains b = false := by simpa using hb
  cases q : h.objs[b]? with
  | none => simp
  | some o => simp only [Option.map_some, this]; rfl
theorem get?_hide_in {h : Heap} {as : List Addr} {b : Addr} (hb : b ∈ as) : (hide h as).get? b = none := by
  unfold Heap.get? hide
  rw [Array.getElem?_mapIdx]
  have : as.contains b = true := by simpa using hb
  cases q : h.objs[b]? with
  | none => simp
  | some o => simp only [Option.map_some, this]; rfl

noncomputable def sel : List Bool → List (Addr × Obj) → List (Addr × Obj)
  | true :: m, p :: n => p :: sel m n
  | false :: m, _ :: n => sel m n
  | _, _ => []
noncomputable def put : List Bool → List (Addr × Obj) → List (Addr × Obj) → List (Addr × Obj)
  | true :: m, _ :: n, q :: o => q :: put m n o
  | false :: m, p :: n, o => p :: put m n o
  | _, n, _ => n
theorem sel_mem : ∀ {m : List Bool} {n : List (Addr × Obj)} {p}, p ∈ sel m n → p ∈ n
  | true :: m, q :: n, p, h => by
    rcases List.mem_cons.mp h with rfl | h
    · exact .head _
    · exact .tail _ (sel_mem h)
  | false :: m, q :: n, p, h => .tail _ (sel_mem (m := m) h)
  | [], _, _, h => nomatch h
  | true :: _, [], _, h => nomatch h
  | false :: _, [], _, h => nomatch h
theorem sel_sub : ∀ (m : List Bool) (n : List (Addr × Obj)), (sel m n).Sublist n
  | true :: m, q :: n => (sel_sub m n).cons₂ _
  | false :: m, q :: n => (sel_sub m n).cons _
  | [], n => List.nil_sublist n
  | true :: _, [] => List.Sublist.slnil
  | false :: _, [] => List.Sublist.slnil
theorem put_keys : ∀ (m : List Bool) (n o : List (Addr × Obj)), o.map (·.1) = (sel m n).map (·.1) → (put m n o).map (·.1) = n.map (·.1)
  | true :: m, p :: n, q :: o, h => by
    have h' : q.1 :: o.map (·.1) = p.1 :: (sel m n).map (·.1) := h
    injection h' with h1 h2
    show q.1 :: (put m n o).map (·.1) = p.1 :: n.map (·.1)
    rw [h1, put_keys m n o h2]
  | true :: m, p :: n, [], h => nomatch h
  | false :: m, p :: n, o, h => by
    show p.1 :: (put m n o).map (·.1) = p.1 :: n.map (·.1)
    rw [put_keys m n o h]
  | [], n, o, h => by cases n <;> rfl
  | true :: _, [], o, h => by cases o <;> rfl
  | false :: _, [], o, h => rfl
theorem put_mem : ∀ {m : List Bool} {n o : List (Addr × Obj)} {p}, o.map (·.1) = (sel m n).map (·.1) → (n.map (·.1)).Pairwise (· > ·) → p ∈ put m n o → p ∈ o ∨ (p ∈ n ∧ p.1 ∉ (sel m n).map (·.1))
  | true :: m, q :: n, r :: o, p, h, hp, hm => by
    have h' : r.1 :: o.map (·.1) = q.1 :: (sel m n).map (·.1) := h
    injection h' with h1 h2
    have hp' := List.pairwise_cons.mp hp
    rcases List.mem_cons.mp (show p ∈ r :: put m n o from hm) with rfl | hm
    · exact .inl (.head _)
    · rcases put_mem h2 hp'.2 hm with x | ⟨x, y⟩
      · exact .inl (.tail _ x)
      · refine .inr ⟨.tail _ x, fun z => ?_⟩
        rcases List.mem_cons.mp (show p.1 ∈ q.1 :: (sel m n).map (·.1) from z) with z | z
        · have := hp'.1 p.1 (List.mem_map_of_mem x)
          rw [z] at this
          exact Nat.lt_irrefl _ this
        · exact y z
  | true :: m, q :: n, [], p, h, hp, hm => nomatch h
  | false :: m, q :: n, o, p, h, hp, hm => by
    have hp' := List.pairwise_cons.mp hp
    rcases List.mem_cons.mp (show p ∈ q :: put m n o from hm) with rfl | hm
    · refine .inr ⟨.head _, fun z => ?_⟩
      obtain ⟨p', hp1, hp2⟩ := List.mem_map.mp z
      have := hp'.1 p'.1 (List.mem_map_of_mem (sel_mem hp1))
      rw [hp2] at this
      exact Nat.lt_irrefl _ this
    · rcases put_mem (m := m) h hp'.2 hm with x | ⟨x, y⟩
      · exact .inl x
      · exact .inr ⟨.tail _ x, y⟩
  | [], n, o, p, h, hp, hm => .inr ⟨by cases n <;> exact hm, fun z => nomatch z⟩
  | true :: m, [], o, p, h, hp, hm => by
    cases o with
    | nil => exact nomatch hm
    | cons a b => exact nomatch h
  | false :: m, [], o, p, h, hp, hm => nomatch hm

section
variable {h₀ h : Heap} {news : List (Addr × Obj)}
theorem there {D : Mem h₀ h [] news} {b : Addr} {o : Obj} (e : h₀.get? b = some o) : h.get? b = some o := D.keep b o e (by simp [away])
theorem hideMem (D : Mem h₀ h [] news) (m : List Bool) : Mem (hide h ((sel m news).map (·.1))) h [] (sel m news) where
  keep b o e _ := by
    by_cases hb : b ∈ (sel m news).map (·.1)
    · rw [get?_hide_in hb] at e; cases e
    · rwa [get?_hide_of hb] at e
  ch := fun _ hp => nomatch hp
  cd := List.nodup_nil
  nw p hp := ⟨(D.nw p (sel_mem hp)).1, get?_hide_in (List.mem_map_of_mem hp)⟩
  ord := D.ord.sublist ((sel_sub m news).map _)
theorem hideK {K : Frag} (D : Mem h₀ h [] news) (m : List Bool) (X : K.In h₀) : K.In (hide h ((sel m news).map (·.1))) := fun a o e => by
  have q := X a o e
  rw [get?_hide_of]
  · exact there (D := D) q
  · intro hm
    obtain ⟨p, hp, rfl⟩ := List.mem_map.mp hm
    have := (D.nw p (sel_mem hp)).2
    rw [q] at this; cases this
theorem backMem (D : Mem h₀ h [] news) {m : List Bool} {p₀ : Addr × Obj} {rest : List (Addr × Obj)} {m' : List Bool} (hn : news = p₀ :: rest) (hm : m = true :: m') {h' : Heap} {nw own' : List (Addr × Obj)}
    (D' : Mem (hide h ((sel m news).map (·.1))) h' [] (nw ++ own')) (hk : own'.map (·.1) = (sel m news).map (·.1)) : Mem h₀ h' [] (nw ++ put m news own') := by
  have get : ∀ b o, h.get? b = some o → b ∉ (sel m news).map (·.1) → h'.get? b = some o := fun b o e hb => D'.keep b o ((get?_hide_of hb).trans e) (by simp [away])
  have notOld : ∀ b o, h₀.get? b = some o → b ∉ (sel m news).map (·.1) := fun b o e hb => by
    obtain ⟨p, hp, rfl⟩ := List.mem_map.mp hb
    have := (D.nw p (sel_mem hp)).2
    rw [e] at this; cases this
  have ord' := D'.ord
  rw [List.map_append, List.pairwise_append] at ord'
  have hd : p₀.1 ∈ own'.map (·.1) := by rw [hk, hn, hm]; exact .head _
  refine ⟨fun b o e _ => get b o (there (D := D) e) (notOld b o e), fun _ hp => (nomatch hp), List.nodup_nil, fun p hp => ?_, ?_⟩
  · rcases List.mem_append.mp hp with hp | hp
    · refine ⟨(D'.nw p (List.mem_append_left _ hp)).1, ?_⟩
      cases q : h₀.get? p.1 with
      | none => rfl
      | some o =>
        have := (D'.nw p (List.mem_append_left _ hp)).2
        rw [get?_hide_of (notOld _ _ q), there (D := D) q] at this; cases this
    · rcases put_mem hk D.ord hp with x | ⟨x, y⟩
      · refine ⟨(D'.nw p (List.mem_append_right _ x)).1, ?_⟩
        have : p.1 ∈ (sel m news).map (·.1) := hk ▸ List.mem_map_of_mem x
        obtain ⟨p', hp', e⟩ := List.mem_map.mp this
        rw [← e]; exact (D.nw p' (sel_mem hp')).2
      · exact ⟨get _ _ (D.nw p x).1 y, (D.nw p x).2⟩
  · rw [List.map_append, put_keys m news own' hk, List.pairwise_append]
    refine ⟨ord'.1, D.ord, fun a ha b hb => ?_⟩
    have h1 : a > p₀.1 := ord'.2.2 a ha _ hd
    have h2 : b ≤ p₀.1 := by
      have o := D.ord
      rw [hn] at o hb
      rcases List.mem_cons.mp hb with rfl | hb
      · exact Nat.le_refl _
      · exact Nat.le_of_lt ((List.pairwise_cons.mp o).1 b hb)
    exact Nat.lt_of_le_of_lt h2 h1
theorem dropMem (D : Mem h₀ h [] news) (m : List Bool) : Mem h₀ h [] (sel m news) :=
  ⟨fun b o e q => D.keep b o e q, fun _ hp => (nomatch hp), List.nodup_nil, fun p hp => D.nw p (sel_mem hp), D.ord.sublist ((sel_sub m news).map _)⟩
end

/-! a weaker surrounding -/
theorem codeAny_le {M : Model} {A A₀ : Around} {c : Code} {R : Result → Shared → Prop} {s : Shared} (h : codeAny M A₀ c R s)
    (hh : A.handled = A₀.handled) (hd : Nat.ble A.depth A₀.depth = true) (hf : A₀.frames = none ∨ A.frames = A₀.frames) (hg : A₀.guards = none) (hu : Nat.ble A.units A₀.units = true) : codeAny M A c R s :=
  fun Γ p hc hΓ => h Γ p hc (by
    refine ⟨hΓ.1.trans hh, Nat.le_trans hΓ.2.1 (Nat.le_of_ble_eq_true hd), fun l hl => ?_, fun g hg' => ?_, Nat.le_trans hΓ.2.2.2.2 (Nat.le_of_ble_eq_true hu)⟩
    · rcases hf with hf | hf
      · rw [hf] at hl; cases hl
      · exact hΓ.2.2.1 l (hf.trans hl)
    · rw [hg] at hg'; cases hg')

/-! built-ins -/
set_option maxRecDepth 100000 in
theorem code_getitem {prog : Program} {w : World} {A : Around} {R : Result → Shared → Prop} {s : Shared} {l : Addr} {items : Array Value} {n : Nat} {k : Int} {t : Tok}
    (ho : s.heap.get? l = some ⟨.type "list", none, .seq items n, #[]⟩) (hall : ∀ i, i < items.size → ∃ z tk, items[i]? = some (.int z tk)) (h0 : 0 ≤ k) (hn : k < items.size) (hz : items.size ≤ 1000)
    (hR : ∀ z tk, R (.ok (.ret (.int z tk))) s) : codeAny (model prog w) A (.call (.builtin "list.__getitem__") ⟨[.ref l, .int k t], []⟩) R s := by
  have hl : s.heap.IsList l items := ⟨_, ho, rfl, n, rfl⟩
  have hfit : k < 2 ^ 63 := by omega
  have hf := fitsIndex_of h0 hfit
  clear hfit
  obtain ⟨z, tk, hx⟩ := hall k.toNat (by omega)
  clear hall hn hz
  refine codeAny_call_builtin slot_list_getitem.plain entry_list_getitem (slot_list_getitem.check _ _ _ _ _ _ _ _ hl.typeIs (args_list_getitem _ _)
    (wpAny_mono (Q := fun fin s' => ∃ v, fin = .done (.ret v) ∧ R (.ok (.ret v)) s') (E := fun e s' => R (.error e) s') ?_ (fun fin s' h' => by obtain ⟨v, rfl, hv⟩ := h'; exact hv) fun _ _ h' => h'))
  show wpAny _ _ (Builtin.List.listSubscript? (.int k t) >>= _) _ _ s
  refine wpAny_bind (wpAny_listSubscript_int hf ?_)
  clear hf
  obtain ⟨j, rfl⟩ := Int.eq_ofNat_of_zero_le h0
  have hx : items[j]? = some (.int z tk) := hx
  show wpAny _ _ ((seqItemAt l j >>= fun r => pure (r.map (j, ·))) >>= _) _ _ s
  refine wpAny_bind (wpAny_bind (wpAny_seqItemAt ho rfl (wpAny_pure ?_)))
  rw [hx]
  first
    | exact wpAny_bind (wpAny_pure (wpAny_pure ⟨_, rfl, hR z tk⟩))
    | exact wpAny_pure ⟨_, rfl, hR z tk⟩
    | exact wpAny_pure ⟨_, rfl, wpAny_pure (hR z tk)⟩
theorem slicePick_ints {items : Array Value} (hall : ∀ i, i < items.size → ∃ z tk, items[i]? = some (.int z tk)) (lo hi st : Option Int) :
    ∀ i, i < (slicePick items lo hi st).size → ∃ z tk, (slicePick items lo hi st)[i]? = some (.int z tk) := fun i hi' => by
  have hm : (slicePick items lo hi st)[i] ∈ (slicePick items lo hi st) := Array.getElem_mem hi'
  have he : (slicePick items lo hi st)[i]? = some (slicePick items lo hi st)[i] := Array.getElem?_eq_getElem hi'
  generalize (slicePick items lo hi st)[i] = v at hm he
  have hm' : v ∈ (sliceRange (sliceBounds lo hi st items.size).1 (sliceBounds lo hi st items.size).2.1 (sliceBounds lo hi st items.size).2.2).filterMap (items[·]?) := List.mem_toArray.mp hm
  obtain ⟨k, _, hk⟩ := List.mem_filterMap.mp hm'
  have hlt : k < items.size := by
    by_cases q : k < items.size
    · exact q
    · rw [Array.getElem?_eq_none (by omega)] at hk; cases hk
  obtain ⟨z, tk, hz⟩ := hall k hlt
  rw [hz] at hk
  exact ⟨z, tk, by rw [he]; exact hk.symm ▸ rfl⟩
set_option maxRecDepth 100000 in
theorem code_slice {prog : Program} {w : World} {A : Around} {R : Result → Shared → Prop} {h₀ h : Heap} {news : List (Addr × Obj)} {g : Array GenState} {d : Drawn} {tk : Nat} {os : OsState} {l sl : Addr} {items : Array Value} {n : Nat} {k : Int} {t : Tok} {osl : Obj} {ld : Option Addr} {lsl : Array (Option Value)}
    (D : Mem h₀ h [] news) (ho : h.get? l = some ⟨.type "list", ld, .seq items n, lsl⟩) (hos : h.get? sl = some osl) (hcs : osl.cls = .type "slice") (hds : osl.data = .fields #[.none, .int k t, .none])
    (hall : ∀ i, i < items.size → ∃ z tk, items[i]? = some (.int z tk)) (hz : items.size ≤ 63)
    (hR : ∀ a its h', its.size ≤ 63 → (∀ i, i < its.size → ∃ z tk, its[i]? = some (.int z tk)) → Mem h₀ h' [] ((a, ⟨.type "list", none, .seq its 0, #[]⟩) :: news) → R (.ok (.ret (.ref a))) ⟨h', g, d, tk, os⟩) :
    codeAny (model prog w) A (.call (.builtin "list.__getitem__") ⟨[.ref l, .ref sl], []⟩) R ⟨h, g, d, tk, os⟩ := by
  have hl : h.IsList l items := ⟨_, ho, rfl, n, rfl⟩
  have hTs : Shared.TypeIs ⟨h, g, d, tk, os⟩ (.ref sl) "slice" := ⟨osl, hos, hcs⟩
  have hsz : items.size ≤ sizeLine := by rw [sizeLine_eq]; exact Nat.le_trans hz (by decide)
  have fin := hR h.objs.size (slicePick items none (some k) none) (h.push ⟨.type "list", none, .seq (slicePick items none (some k) none) 0, #[]⟩) (Nat.le_trans (slicePick_size_le items none (some k) none) hz) (slicePick_ints hall none (some k) none) (D.alloc rfl)
  clear hR hall hz
  refine codeAny_call_builtin slot_list_getitem.plain entry_list_getitem (slot_list_getitem.check _ _ _ _ _ _ _ _ hl.typeIs (args_list_getitem _ _)
    (wpAny_mono (Q := fun fin s' => ∃ v, fin = .done (.ret v) ∧ R (.ok (.ret v)) s') (E := fun e s' => R (.error e) s') ?_ (fun fin s' h' => by obtain ⟨v, rfl, hv⟩ := h'; exact hv) fun _ _ h' => h'))
  show wpAny _ _ (Builtin.List.listSubscript? (.ref sl) >>= _) _ _ _
  refine wpAny_bind ?_
  · unfold Builtin.List.listSubscript?
    refine wpAny_bind (wpAny_specialOf hTs slice_no_index ?_)
    simp only [Option.isNone_none, if_true]
    refine wpAny_pure ?_
    show wpAny _ _ (typeOf (.ref sl) >>= _) _ _ _
    refine wpAny_bind (wpAny_typeOf hTs ?_)
    rw [if_neg (by decide)]
    rw [listSliceParts_eq]
    refine wpAny_bind (wpAny_bind (wpAny_field hos hds (x := .none) rfl (wpAny_bind (wpAny_listPart .none ?_))))
    rw [if_neg (by decide)]
    refine wpAny_bind (wpAny_field hos hds (x := .none) rfl (wpAny_bind (wpAny_listPart .none ?_)))
    refine wpAny_bind (wpAny_field hos hds (x := .int k t) rfl (wpAny_bind (wpAny_listPart (.int k t) (wpAny_pure ?_))))
    refine wpAny_bind (m := Builtin.List.listItems (.ref l)) ?_
    · unfold Builtin.List.listItems
      refine wpAny_bind (wpAny_seqItems ho rfl (wpAny_pure ?_))
      refine wpAny_bind (wpAny_of_eq (sliceIndices_raw none (some k) none items.size (by simp)) ?_)
      refine wpAny_bind (wpAny_newObj_type (wpAny_pure ⟨_, rfl, fin⟩) (Nat.le_trans (slicePick_size_le items none (some k) none) hsz))
theorem noPylong {a b : Int} (h0 : 0 < b) (h1 : b < 1000) : Builtin.divisionGoesByPylong a b = false := by
  unfold Builtin.divisionGoesByPylong
  have : b.natAbs.log2 < 10 := (Nat.log2_lt (by omega)).mpr (by omega)
  have h : (if (b == 0) = true then 0 else b.natAbs.log2 / 30 + 1) ≤ 1 := by split <;> omega
  simp only [Bool.and_eq_false_iff, decide_eq_false_iff_not]
  left
  omega
theorem code_floordiv {prog : Program} {w : World} {A : Around} {R : Result → Shared → Prop} {h : Heap} {g : Array GenState} {d : Drawn} {tk : Nat} {os : OsState} {a b : Int} {t u : Tok} (h0 : 0 < b) (h1 : b < 1000)
    (hR : R (.ok (.ret (.int (a / b) tk))) ⟨h, g, d, tk + 1, os⟩) : codeAny (model prog w) A (.call (.builtin "int.__floordiv__") ⟨[.int a t, .int b u], []⟩) R ⟨h, g, d, tk, os⟩ :=
  codeAny_call_builtin PySem.F.slot_int_floordiv.plain PySem.F.entry_int_floordiv (PySem.F.slot_int_floordiv.check _ _ _ _ _ _ _ _ (typeIs_int _ a t) (PySem.F.args_int_floordiv_2 _ _)
    (AutoIntG4.int___floordiv___int_int_1 a t b u (by simp; omega) (by rw [noPylong h0 h1]; decide) prog w A R _ (by rw [Int.fdiv_eq_ediv_of_nonneg a (Int.le_of_lt h0)]; exact hR)))
theorem code_mod {prog : Program} {w : World} {A : Around} {R : Result → Shared → Prop} {h : Heap} {g : Array GenState} {d : Drawn} {tk : Nat} {os : OsState} {a b : Int} {t u : Tok} (h0 : 0 < b)
    (hR : R (.ok (.ret (.int (a % b) tk))) ⟨h, g, d, tk + 1, os⟩) : codeAny (model prog w) A (.call (.builtin "int.__mod__") ⟨[.int a t, .int b u], []⟩) R ⟨h, g, d, tk, os⟩ :=
  codeAny_call_builtin PySem.F.slot_int_mod.plain PySem.F.entry_int_mod (PySem.F.slot_int_mod.check _ _ _ _ _ _ _ _ (typeIs_int _ a t) (PySem.F.args_int_mod_2 _ _)
    (AutoIntG6.int___mod___int_int_1 a t b u (by simp; omega) prog w A R _ (by rw [Int.fmod_eq_emod_of_nonneg a (Int.le_of_lt h0)]; exact hR)))
end Mine
end
section
open PySem PySem.W PySem.W.X PyProof.Rows
namespace Mine
open Lean Meta Elab Tactic PySem PySem.W PySem.W.X PySem.W.XRun

def runT (g : MVarId) (tac : TacticM Unit) : TacticM (List MVarId) := Tactic.run g (Tactic.withoutRecover tac)
def normStr (e : Lean.Expr) : MetaM Lean.Expr := do
  let v ← kw e
  unless v.isAppOfArity ``Str.mk 1 do return e
  return mkApp v.appFn! (← nArr v.appArg! kw)
def normVal2 (e : Lean.Expr) : MetaM Lean.Expr := do
  let v ← normVal e
  if v.isAppOfArity ``Value.str 2 then return mkApp2 v.getAppFn (← normStr v.appFn!.appArg!) v.appArg!
  return v
def normEntry (e : Lean.Expr) : MetaM Lean.Expr := do
  let e ← kw e
  if e.isAppOfArity ``DictEntry.mk 3 then
    let a := e.getAppArgs
    return mkApp3 e.getAppFn a[0]! (← normVal a[1]!) (← normVal a[2]!)
  return e
/-- an object with its places laid open -/
def normObj (e : Lean.Expr) : MetaM Lean.Expr := do
  let e ← kw e
  unless e.isAppOfArity ``Obj.mk 4 do return e
  let a := e.getAppArgs
  let dt ← kw a[2]!
  let dt ← match dt.getAppFn.constName? with
    | some ``PySem.Data.dict => let x := dt.getAppArgs; pure (mkApp2 dt.getAppFn (← nArr x[0]! normEntry) x[1]!)
    | some ``PySem.Data.seq => let x := dt.getAppArgs; pure (mkApp2 dt.getAppFn (← nArr x[0]! normVal) x[1]!)
    | some ``PySem.Data.fields => let x := dt.getAppArgs; pure (mkApp dt.getAppFn (← nArr x[0]! normVal))
    | _ => pure dt
  return mkApp4 (mkConst ``Obj.mk) (← kw a[0]!) (← kw a[1]!) dt (← nArr a[3]! kw)

def memsIn : MetaM (Array (Lean.Expr × Array Lean.Expr)) := do
  let mut out := #[]
  for d in ← getLCtx do
    if d.isImplementationDetail then continue
    let t := (← instantiateMVars d.type).consumeMData
    if t.isAppOfArity ``Mem 4 then
      let a := t.getAppArgs
      let l ← listZ 1000 a[3]!
      out := out.push (d.toExpr, a.set! 3 l)
  return out

/-- the places of the pattern's objects among the known ones; a pattern whose place is open takes the first -/
def placeThem (pat news : List (Lean.Expr × Lean.Expr)) : MetaM (Except String (List Nat)) := do
  let mut got : Array (Option Nat) := (pat.map fun _ => none).toArray
  for _ in [0:pat.length + 1] do
    let mut i := 0
    for (x, o) in pat do
      if got[i]!.isNone then
        let x ← instantiateMVars x
        let x ← if x.isMVar then pure x else addrOf x
        unless x.isMVar do
          let some k := news.findIdx? (fun q => q.1 == x) | return .error s!"no object at place {i}"
          let o ← instantiateMVars o
          let real ← if o.isMVar then pure (news[k]!).2 else normObj (news[k]!).2
          unless ← isDefEq o real do
            Lean.logInfo m!"OBJECT {o} IS {real}"
            return .error s!"the object at place {i} is another"
          got := got.set! i (some k)
      i := i + 1
  let mut i := 0
  for (x, o) in pat do
    if got[i]!.isNone then
      let x ← instantiateMVars x
      unless x.isMVar do return .error "a place is not found"
      unless ← isDefEq x (news[0]!).1 do return .error "marker"
      unless ← isDefEq o (news[0]!).2 do return .error "marker's object"
      got := got.set! i (some 0)
    i := i + 1
  return .ok (got.toList.map (·.getD 0))

def boolE (b : Bool) : Lean.Expr := mkConst (if b then ``Bool.true else ``Bool.false)
def maskOf (n : Nat) (is : List Nat) : Lean.Expr := listE (mkConst ``Bool) ((List.range n).map fun i => boolE (is.contains i))

/-- a side condition -/
def sideTac : TacticM Unit := do
  let t := (← instantiateMVars (← (← getMainGoal).getType)).consumeMData
  if t.isAppOfArity ``Or 2 then
    evalTactic (← `(tactic| first | assumption | omega | exact Or.inl rfl | exact Or.inr rfl | exact Or.inl (by omega) | exact Or.inr (by assumption) | exact Or.inr ⟨_, _, _, _, _, _, _, rfl⟩))
    return ()
  if t.isAppOf `Mine.Rdy then
    evalTactic (← `(tactic| first | assumption | exact ⟨_, _, _, _, _, _, _, rfl⟩))
    return ()
  if t.isAppOf `Mine.IsCode then
    let two := mkIdent `Mine.IsCode.two
    let three := mkIdent `Mine.IsCode.three
    let cast := mkIdent `Mine.IsCode.cast
    let two' := mkIdent `Mine.IsCode.two'
    let three' := mkIdent `Mine.IsCode.three'
    let lits := [`Mine.IsCode.zero, `Mine.IsCode.ue, `Mine.IsCode.fc, `Mine.IsCode.rw', `Mine.IsCode.st]
    for l in lits do
      try
        evalTactic (← `(tactic| first | exact $(mkIdent l) | exact $cast $(mkIdent l) (by omega)))
        return ()
      catch _ => pure ()
    if t.appArg!.isMVar then
      evalTactic (← `(tactic| first | assumption | exact $two' (by omega) (by omega) (by omega) (by omega) (by omega) (by omega) | exact $three' (by omega) (by omega) (by omega) (by omega) (by omega) (by omega) (by omega) (by omega)))
      return ()
    evalTactic (← `(tactic| first | assumption | exact $cast (by assumption) (by omega) | exact $two (by omega) (by omega) (by omega) (by omega) (by omega) (by omega) (by omega) | exact $three (by omega) (by omega) (by omega) (by omega) (by omega) (by omega) (by omega) (by omega) (by omega)))
    return ()
  if (← whnfR t).isEq && ((← whnfR t).getAppArgs[0]!).isConstOf ``Int then
    let a := (← whnfR t).getAppArgs
    if !t.hasFVar && !t.hasExprMVar then
      if ← kEq a[1]! a[2]! then
        (← getMainGoal).assign (← mkExpectedTypeHint (← mkEqRefl a[1]!) t)
        replaceMainGoal []
        return ()
    evalTactic (← `(tactic| omega))
    return ()
  evalTactic (← `(tactic| first | assumption | omega | rfl | decide | (exact Int.emod_nonneg _ (by omega)) | (exact Int.emod_lt_of_pos _ (by omega)) | (exact Int.fmod_nonneg_of_pos _ (by omega)) | (exact Int.fmod_lt_of_pos _ (by omega)) | (simp; done) | (simp only [beq_iff_eq, bne_iff_ne, ne_eq]; omega) | (simp_all; done) | trivial))

def trySide (m : MVarId) : TacticM Bool := do
  if ← m.isAssigned then return true
  let saved ← saveState
  try
    let gs ← runT m sideTac
    if gs.isEmpty then return true
    saved.restore; return false
  catch _ => saved.restore; return false

def headOf (t : Lean.Expr) : MetaM Lean.Expr := forallTelescope t fun _ b => pure b.getAppFn

/-- a goal `codeAny ..` by a proved summary -/
def useCtr (name : Name) : Hook := fun b st g => g.withContext do
  let T := (← instantiateMVars (← g.getType)).consumeMData
  let y := T.getAppArgs
  let (M, A, c, R, S) := (y[0]!, y[1]!, y[2]!, y[3]!, y[4]!)
  let ctr := mkConst name
  let (ms, _, concl) ← forallMetaTelescope (← inferType ctr)
  let z := concl.getAppArgs
  unless concl.isAppOfArity ``PySem.codeAny 5 do throwError "useCtr: {name}"
  unless ← isDefEq z[0]! M do throwError "useCtr {name}: model"
  let hdv ← kw (mkApp (mkConst ``PySem.Around.handled) A)
  let hd0 ← whnfD (mkApp (mkConst ``PySem.Around.handled) z[1]!)
  unless ← isDefEq hd0 hdv do
    Lean.logInfo m!"useCtr {name}: handled {hd0} against {hdv}"
    return none
  unless ← isDefEq z[2]! c do
    Lean.logInfo m!"useCtr {name}: code {z[2]!} against {c}"
    return none
  unless ← isDefEq z[4]! S do throwError "useCtr {name}: state"
  unless ← isDefEq z[3]! R do throwError "useCtr {name}: R"
  let fr0 ← whnfD (mkApp (mkConst ``PySem.Around.frames) z[1]!)
  let hf ← if fr0.isAppOf ``Option.none then
      let p1 ← mkEq fr0 fr0
      let frT ← inferType fr0
      pure (mkApp3 (mkConst ``Or.inl) p1 (← mkEq (mkApp (mkConst ``PySem.Around.frames) A) fr0) (← mkEqRefl fr0))
    else
      let fr ← kw (mkApp (mkConst ``PySem.Around.frames) A)
      let fr ← if fr.isAppOfArity ``Option.some 2 then pure (mkApp fr.appFn! (← nList fr.appArg! kw)) else pure fr
      unless ← isDefEq fr0 fr do
        Lean.logInfo m!"useCtr {name}: frames {fr0} against {fr}"
        return none
      let fr0 ← instantiateMVars fr0
      let noneE := mkApp (mkConst ``Option.none [0]) (mkApp (mkConst ``List [0]) (mkConst ``Env))
      pure (mkApp3 (mkConst ``Or.inr) (← mkEq fr0 noneE) (← mkEq (mkApp (mkConst ``PySem.Around.frames) A) fr0) (← mkEqRefl fr0))
  -- the objects
  let mut mask := default
  let mut placed : List Nat := []
  let newsL := st.news
  let nE := newsE newsL
  let D := st.mem
  for m in ms do
    let t := (← instantiateMVars (← inferType m)).consumeMData
    if t.isAppOfArity ``Mem 4 then
      let pat := pairsOf t.getAppArgs[3]!
      match ← placeThem pat newsL with
      | .error s =>
        Lean.logInfo m!"useCtr {name}: {s}"
        return none
      | .ok is =>
        if is.eraseDups.length != is.length then return none
        placed := is
        mask := maskOf newsL.length is
        let keys ← mkAppM ``List.map #[← withLocalDeclD `p tyPair (fun p => do mkLambdaFVars #[p] (← mkAppM ``Prod.fst #[p])), mkApp2 (mkConst ``sel) mask nE]
        let hid := mkApp2 (mkConst ``hide) st.h keys
        unless ← isDefEq t.getAppArgs[0]! hid do throwError "useCtr: base"
        let t ← instantiateMVars t
        let pf := mkAppN (mkConst ``hideMem) #[b.h0, st.h, nE, D, mask]
        m.mvarId!.assign (← mkExpectedTypeHint pf t)
  let some (K, X) := b.k | throwError "no K"
  let mut conts : Array MVarId := #[]
  let mut sides : Array MVarId := #[]
  for m in ms do
    if ← m.mvarId!.isAssigned then continue
    let t := (← instantiateMVars (← inferType m)).consumeMData
    if t.isAppOfArity ``Frag.In 2 then
      m.mvarId!.assign (← mkExpectedTypeHint (mkAppN (mkConst ``hideK) #[b.h0, st.h, nE, K, D, mask, X]) t)
    else if ← isProp t then
      if (← headOf t) == R.getAppFn then conts := conts.push m.mvarId! else sides := sides.push m.mvarId!
  let mut out := #[]
  for m in sides do
    m.withContext do m.setType (← instantiateMVars (← m.getType))
    unless ← trySide m do
      Lean.logInfo m!"useCtr {name}: a condition is left {← m.getType}"
      out := out.push m
  for m in ms do
    if ← m.mvarId!.isAssigned then continue
    let t := (← instantiateMVars (← inferType m)).consumeMData
    unless ← isProp t do m.mvarId!.assign (← mkDefault t)
  let pf ← instantiateMVars (mkAppN ctr ms)
  let A0 ← instantiateMVars z[1]!
  let bt := rflAt (mkConst ``Bool) (mkConst ``Bool.true)
  let hhT ← mkEq (mkApp (mkConst ``PySem.Around.handled) A) (mkApp (mkConst ``PySem.Around.handled) A0)
  let hh ← mkExpectedTypeHint (← mkEqRefl hdv) hhT
  let hgN := mkApp (mkConst ``Option.none [0]) (mkApp (mkConst ``List [0]) (mkConst ``Code))
  let hg ← mkEqRefl hgN
  g.assign (mkAppN (mkConst ``codeAny_le) #[M, A, A0, c, R, S, pf, hh, bt, hf, hg, bt])
  -- what follows
  for m in conts do
    m.withContext do m.setType (← instantiateMVars (← m.getType))
    let (_, m1) ← m.intros
    let m2 ← m1.withContext do
      let ms ← memsIn
      let some (D', a) := ms.back? | throwError "useCtr: no Mem behind"
      let post := pairsOf a[3]!
      let k := placed.length
      let nw := post.take (post.length - k)
      let own' := post.drop (post.length - k)
      let mut news' := newsL
      -- the order of the pattern is the order of the known objects
      let sorted := placed.mergeSort (· ≤ ·)
      for (i, p) in sorted.zip own' do news' := news'.set i p
      let (p0, rest) := (newsL[0]!, newsL.drop 1)
      let mk' := maskOf newsL.length placed
      let mrest := listE (mkConst ``Bool) (((List.range newsL.length).map fun i => boolE (placed.contains i)).drop 1)
      let lT := mkApp (mkConst ``List [0]) tyPair
      let hn := rflAt lT nE
      let hm := rflAt (mkApp (mkConst ``List [0]) (mkConst ``Bool)) mk'
      let hk := rflAt (mkApp (mkConst ``List [0]) (mkConst ``Nat)) (listE (mkConst ``Nat) (own'.map (·.1)))
      let pf := mkAppN (mkConst ``backMem) #[b.h0, st.h, nE, D, mk', pairE p0.1 p0.2, newsE rest, mrest, hn, hm, a[1]!, newsE nw, newsE own', D', hk]
      let ty := mkApp4 (mkConst ``Mem) b.h0 a[1]! (newsE []) (newsE (nw ++ news'))
      let m2 ← m1.assert `D ty pf
      let (_, m2) ← m2.intro1P
      m2.clear D'.fvarId!
    out := out.push m2
  return some out.toList

/-- an end by the contract's own continuation -/
def settleEnd (g : MVarId) : TacticM MVarId := g.withContext do
  let T := (← instantiateMVars (← g.getType)).consumeMData
  let a := T.getAppArgs
  unless a.size ≥ 2 do return g
  let r ← kw a[a.size - 2]!
  unless r.isAppOf ``Except.ok do return g
  let f ← kw r.appArg!
  unless f.isAppOfArity ``Flow.ret 1 do return g
  let v ← kw f.appArg!
  if ← isCtor v then return g
  let some (v', some h) ← settle v | return g
  let lam ← withLocalDeclD `x (mkConst ``Value) fun x => do mkLambdaFVars #[x] (mkAppN T.getAppFn (a.set! (a.size - 2) (mkApp r.appFn! (mkApp f.appFn! x))))
  let m ← mkFreshExprSyntheticOpaqueMVar (mkApp lam v').headBeta
  let e ← mkCongrArg lam h
  g.assign (← mkExpectedTypeHint (← mkAppM ``Eq.mpr #[e, m]) T)
  return m.mvarId!
def endBy (hR : Name) : TacticM Unit := do
  let g ← settleEnd (← getMainGoal)
  g.withContext do
  let T := (← instantiateMVars (← g.getType)).consumeMData
  let some d := (← getLCtx).findFromUserName? hR | throwError "endBy: no {hR}"
  let (ms, _, concl) ← forallMetaTelescope d.type
  -- the answer and the state
  let a := T.getAppArgs
  let r ← kw a[a.size - 2]!
  let r ← (do
    if r.isAppOf ``Except.ok then
      let f ← kw r.appArg!
      if f.isAppOfArity ``Flow.ret 1 then return mkApp r.appFn! (mkApp f.appFn! (← normVal2 f.appArg!))
      return mkApp r.appFn! f
    if r.isAppOf ``Except.error then return mkApp r.appFn! (← normVal r.appArg!)
    return r : MetaM Lean.Expr)
  let T' := mkAppN T.getAppFn ((a.set! (a.size - 2) r))
  unless ← isDefEq concl T' do throwError "endBy: the end {T'} against {concl}"
  let S := a.back!
  let h := S.getAppArgs[0]!
  let some (D, ma) := (← memsIn).toList.reverse.find? (fun (_, x) => x[1]! == h) | throwError "endBy: no Mem"
  let news := pairsOf ma[3]!
  for m in ms do
    let t := (← instantiateMVars (← inferType m)).consumeMData
    if t.isAppOfArity ``Mem 4 then
      match ← placeThem (pairsOf t.getAppArgs[3]!) news with
      | .error s => throwError "endBy: {s}"
      | .ok is =>
        let t ← instantiateMVars t
        m.mvarId!.assign (← mkExpectedTypeHint (mkAppN (mkConst ``dropMem) #[ma[0]!, ma[1]!, ma[3]!, D, maskOf news.length is]) t)
  let mut out := #[]
  for m in ms do
    if ← m.mvarId!.isAssigned then continue
    let t := (← instantiateMVars (← inferType m)).consumeMData
    if ← isProp t then
      m.mvarId!.setType t
      unless ← trySide m.mvarId! do
        Lean.logInfo m!"endBy {hR}: left {((toString (← ppExpr t)).take 600).toString}"
        out := out.push m.mvarId!
    else throwError "endBy: a datum is open: {t}"
  let pf ← instantiateMVars (mkAppN d.toExpr ms)
  g.assign (← mkExpectedTypeHint pf T)
  replaceMainGoal out.toList

/-- an end by the first of these continuations that fits whole -/
def endBys (hRs : List Name) : TacticM Unit := do
  let g ← getMainGoal
  let mut said : Array MessageData := #[]
  for n in hRs do
    let saved ← saveState
    try
      setGoals [g]
      endBy n
      if (← getGoals).isEmpty then return ()
      let l ← (← getGoals).mapM fun m => do return m!"{← m.getType}"
      saved.restore
      said := said.push m!"{n}: left {l}"
    catch e =>
      saved.restore
      said := said.push m!"{n}: {e.toMessageData}"
  throwError "endBys: {said.toList}"
/-- list items of a list whose items are known as ints alone -/
def hookGetitem : Hook := fun b st g => g.withContext do
  let T := (← instantiateMVars (← g.getType)).consumeMData
  let c := T.getAppArgs[2]!
  let args := c.appArg!.getAppArgs[0]!
  unless args.isAppOfArity ``List.cons 3 do return none
  let self := args.getAppArgs[1]!
  unless self.isAppOfArity ``Value.ref 1 do return none
  let some (o, ho) ← find b st self.appArg! | return none
  let o ← kw o
  unless o.isAppOfArity ``Obj.mk 4 do return none
  let dt ← kw o.getAppArgs[2]!
  unless dt.isAppOfArity ``Data.seq 2 && dt.getAppArgs[0]!.isFVar do return none
  let hs ← Term.exprToSyntax ho
  let second := args.getAppArgs[2]!.getAppArgs[1]!
  if second.isAppOfArity ``Value.ref 1 then
    let some (_, hos) ← find b st second.appArg! | return none
    let hos ← Term.exprToSyntax hos
    let D ← Term.exprToSyntax st.mem
    let gs ← runT g (do evalTactic (← `(tactic| refine code_slice $D $hs $hos rfl rfl (by assumption) (by omega) ?_)))
    return some gs
  let gs ← runT g (do evalTactic (← `(tactic| refine code_getitem $hs (by assumption) (by omega) (by omega) (by omega) ?_)))
  return some gs
def hookFloordiv : Hook := fun b st g => g.withContext do
  let T := (← instantiateMVars (← g.getType)).consumeMData
  let c := T.getAppArgs[2]!
  let args := pairless c.appArg!.getAppArgs[0]!
  match args with
  | [x, y] =>
    unless x.isAppOfArity ``Value.int 2 && y.isAppOfArity ``Value.int 2 do return none
    let gs ← runT g (do evalTactic (← `(tactic| refine code_floordiv (by omega) (by omega) ?_)))
    return some gs
  | _ => return none
where pairless (e : Lean.Expr) : List Lean.Expr := Id.run do
  let mut out := #[]
  let mut l := e
  for _ in [0:100] do
    if l.isAppOfArity ``List.cons 3 then
      out := out.push l.getAppArgs[1]!
      l := l.getAppArgs[2]!
  return out.toList
def hookMod : Hook := fun b st g => g.withContext do
  let T := (← instantiateMVars (← g.getType)).consumeMData
  match elems T.getAppArgs[2]!.appArg!.getAppArgs[0]! with
  | [x, y] =>
    unless x.isAppOfArity ``Value.int 2 && y.isAppOfArity ``Value.int 2 do return none
    let gs ← runT g (do evalTactic (← `(tactic| refine code_mod (by omega) ?_)))
    return some gs
  | _ => return none
def stdHooks : String → Option Hook := fun k => match k with
  | "list.__getitem__" => some hookGetitem
  | "int.__floordiv__" => some hookFloordiv
  | "int.__mod__" => some hookMod
  | _ => none
def showVal (e : Lean.Expr) : MetaM String := do
  let e ← normVal e
  let cut (x : Lean.Expr) : MetaM String := do return ((toString (← ppExpr x)).take 60).toString
  if e.isAppOfArity ``Value.int 2 then return s!"int {← cut e.appFn!.appArg!}"
  if e.isAppOfArity ``Value.str 2 then
    match ← cpsOf e.appFn!.appArg! with
    | some cs => return s!"'{String.ofList (cs.map Char.ofNat)}'"
    | none => return s!"str {← cut e.appFn!.appArg!}"
  cut e
def listItemsE (e : Lean.Expr) : List Lean.Expr := Id.run do
  let mut out := #[]
  let mut l := if e.isAppOfArity ``Array.mk 2 then e.appArg! else e
  for _ in [0:1000] do
    if l.isAppOfArity ``List.cons 3 then
      out := out.push l.getAppArgs[1]!
      l := l.getAppArgs[2]!
  return out.toList
def showObj (o : Lean.Expr) : MetaM String := do
  let o ← normObj o
  unless o.isAppOfArity ``Obj.mk 4 do return ((toString (← ppExpr o)).take 100).toString
  let a := o.getAppArgs
  let d ← kw a[2]!
  let body ← (do
    if d.isAppOf ``Data.dict then
      let es ← (listItemsE d.getAppArgs[0]!).mapM fun e => do
        if e.isAppOfArity ``DictEntry.mk 3 then return s!"{← showVal e.getAppArgs[1]!}: {← showVal e.getAppArgs[2]!}" else return "?"
      return s!"dict {es} epoch {((toString (← ppExpr d.getAppArgs[1]!)).take 50).toString}"
    if d.isAppOf ``Data.seq then
      let es ← (listItemsE d.getAppArgs[0]!).mapM showVal
      return s!"seq {es} epoch {((toString (← ppExpr d.getAppArgs[1]!)).take 50).toString}"
    if d.isAppOf ``Data.fields then
      let es ← (listItemsE d.getAppArgs[0]!).mapM showVal
      return s!"fields {es}"
    return ((toString (← ppExpr d)).take 100).toString : MetaM String)
  return s!"{((toString (← ppExpr a[0]!)).take 60).toString} dict={((toString (← ppExpr a[1]!)).take 40).toString} {body} slots={((toString (← ppExpr a[3]!)).take 100).toString}"
def noHook : String → Option Hook := fun _ => none
end Mine
end
section
open PySem PySem.W PySem.W.X PyProof.Rows
namespace Mine
def Rdy (sl : Array (Option Value)) : Prop := ∃ c gl x2 bk x4 x5 bi, sl = #[some c, some gl, x2, some bk, x4, x5, some bi]
def codesL : List Str := [⟨#[78, 70]⟩, ⟨#[83, 78]⟩, ⟨#[82, 71]⟩, ⟨#[79, 68]⟩, ⟨#[70, 67]⟩, ⟨#[79, 86]⟩, ⟨#[79, 77]⟩, ⟨#[85, 76]⟩, ⟨#[66, 83]⟩, ⟨#[68, 68]⟩, ⟨#[68, 90]⟩, ⟨#[73, 68]⟩, ⟨#[84, 77]⟩, ⟨#[79, 83]⟩, ⟨#[76, 83]⟩, ⟨#[83, 84]⟩, ⟨#[67, 78]⟩, ⟨#[85, 70]⟩, ⟨#[78, 82]⟩, ⟨#[82, 87]⟩, ⟨#[85, 69]⟩, ⟨#[87, 69]⟩, ⟨#[70, 79]⟩, ⟨#[66, 70]⟩, ⟨#[66, 78]⟩, ⟨#[65, 79]⟩, ⟨#[70, 70]⟩, ⟨#[69, 70]⟩, ⟨#[78, 77]⟩]
def IsCode (cd : Str) (n : Int) : Prop :=
  (1 ≤ n ∧ n ≤ 29 ∧ codesL[(n - 1).toNat]? = some cd)
  ∨ (30 ≤ n ∧ n ≤ 99 ∧ ∃ a b : Nat, 48 ≤ a ∧ a ≤ 57 ∧ 48 ≤ b ∧ b ≤ 57 ∧ n = 10 * ((a : Int) - 48) + ((b : Int) - 48) ∧ cd = ⟨#[85, 69, a, b]⟩)
  ∨ (100 ≤ n ∧ n ≤ 255 ∧ ∃ a b c : Nat, 48 ≤ a ∧ a ≤ 57 ∧ 48 ≤ b ∧ b ≤ 57 ∧ 48 ≤ c ∧ c ≤ 57 ∧ n = 100 * ((a : Int) - 48) + 10 * ((b : Int) - 48) + ((c : Int) - 48) ∧ cd = ⟨#[85, 69, a, b, c]⟩)
  ∨ (n = 0 ∧ cd = ⟨#[]⟩)
theorem IsCode.le {cd n} (h : IsCode cd n) : 0 ≤ n ∧ n ≤ 255 := by
  rcases h with ⟨a, b, _⟩ | ⟨a, b, _⟩ | ⟨a, b, _⟩ | ⟨a, _⟩ <;> omega
theorem IsCode.two {n : Int} {a b : Nat} (h1 : 30 ≤ n) (h2 : n ≤ 99) (ha : 48 ≤ a) (ha' : a ≤ 57) (hb : 48 ≤ b) (hb' : b ≤ 57) (h : n = 10 * ((a : Int) - 48) + ((b : Int) - 48)) : IsCode ⟨#[85, 69, a, b]⟩ n :=
  .inr (.inl ⟨h1, h2, a, b, ha, ha', hb, hb', h, rfl⟩)
theorem IsCode.three {n : Int} {a b c : Nat} (h1 : 100 ≤ n) (h2 : n ≤ 255) (ha : 48 ≤ a) (ha' : a ≤ 57) (hb : 48 ≤ b) (hb' : b ≤ 57) (hc : 48 ≤ c) (hc' : c ≤ 57) (h : n = 100 * ((a : Int) - 48) + 10 * ((b : Int) - 48) + ((c : Int) - 48)) : IsCode ⟨#[85, 69, a, b, c]⟩ n :=
  .inr (.inr (.inl ⟨h1, h2, a, b, c, ha, ha', hb, hb', hc, hc', h, rfl⟩))

theorem IsCode.two' {a b : Nat} (h1 : 30 ≤ 10 * ((a : Int) - 48) + ((b : Int) - 48)) (h2 : 10 * ((a : Int) - 48) + ((b : Int) - 48) ≤ 99) (ha : 48 ≤ a) (ha' : a ≤ 57) (hb : 48 ≤ b) (hb' : b ≤ 57) : IsCode ⟨#[85, 69, a, b]⟩ (10 * ((a : Int) - 48) + ((b : Int) - 48)) :=
  .two h1 h2 ha ha' hb hb' rfl
theorem IsCode.three' {a b c : Nat} (h1 : 100 ≤ 100 * ((a : Int) - 48) + 10 * ((b : Int) - 48) + ((c : Int) - 48)) (h2 : 100 * ((a : Int) - 48) + 10 * ((b : Int) - 48) + ((c : Int) - 48) ≤ 255) (ha : 48 ≤ a) (ha' : a ≤ 57) (hb : 48 ≤ b) (hb' : b ≤ 57) (hc : 48 ≤ c) (hc' : c ≤ 57) : IsCode ⟨#[85, 69, a, b, c]⟩ (100 * ((a : Int) - 48) + 10 * ((b : Int) - 48) + ((c : Int) - 48)) :=
  .three h1 h2 ha ha' hb hb' hc hc' rfl
theorem IsCode.fn {a b : Str} {n : Int} (h : IsCode a n) (h' : IsCode b n) : a = b := by
  rcases h with ⟨h1, h2, h3⟩ | ⟨h1, h2, x, y, e1, e2, e3, e4, e5, rfl⟩ | ⟨h1, h2, x, y, z, e1, e2, e3, e4, e5, e6, e7, rfl⟩ | ⟨h1, rfl⟩ <;>
  rcases h' with ⟨g1, g2, g3⟩ | ⟨g1, g2, x', y', f1, f2, f3, f4, f5, rfl⟩ | ⟨g1, g2, x', y', z', f1, f2, f3, f4, f5, f6, f7, rfl⟩ | ⟨g1, rfl⟩ <;> first
  | rfl
  | (exfalso; omega)
  | (rw [h3] at g3; exact Option.some.inj g3)
  | (have e : x = x' := by omega
     have e' : y = y' := by omega
     subst e e'; rfl)
  | (have e : x = x' := by omega
     have e' : y = y' := by omega
     have e'' : z = z' := by omega
     subst e e' e''; rfl)
theorem IsCode.zero : IsCode ⟨#[]⟩ 0 := .inr (.inr (.inr ⟨rfl, rfl⟩))
theorem IsCode.ue : IsCode ⟨#[85, 69]⟩ 21 := .inl ⟨by decide, by decide, rfl⟩
theorem IsCode.fc : IsCode ⟨#[70, 67]⟩ 5 := .inl ⟨by decide, by decide, rfl⟩
theorem IsCode.rw' : IsCode ⟨#[82, 87]⟩ 20 := .inl ⟨by decide, by decide, rfl⟩
theorem IsCode.st : IsCode ⟨#[83, 84]⟩ 16 := .inl ⟨by decide, by decide, rfl⟩

/-! the decimal text of an int -/
def intCps (a : Int) : Array Nat := match a with
  | .ofNat m => ((Nat.toDigits 10 m).map Char.toNat).toArray
  | .negSucc m => (45 :: (Nat.toDigits 10 (m + 1)).map Char.toNat).toArray
theorem strInt (a : Int) : Str.ofString (toString a) = ⟨intCps a⟩ := by
  cases a with
  | ofNat m => exact Fast.ofString_ofList _
  | negSucc m =>
    have e : toString (Int.negSucc m) = String.ofList ('-' :: Nat.toDigits 10 (m + 1)) := by
      show "-" ++ String.ofList (Nat.toDigits 10 (m + 1)) = _
      rw [show "-" = String.ofList ['-'] from rfl, ← String.ofList_append]
      rfl
    rw [e]; exact Fast.ofString_ofList _
theorem digits_two : ∀ m < 100, 30 ≤ m → ((Nat.toDigits 10 m).map Char.toNat) = [48 + m / 10, 48 + m % 10] := by decide +kernel
theorem digits_three : ∀ m < 256, 100 ≤ m → ((Nat.toDigits 10 m).map Char.toNat) = [48 + m / 100, 48 + m / 10 % 10, 48 + m % 10] := by decide +kernel
theorem intCps_two {n : Int} (h1 : 30 ≤ n) (h2 : n ≤ 99) : ∃ a b : Nat, 48 ≤ a ∧ a ≤ 57 ∧ 48 ≤ b ∧ b ≤ 57 ∧ n = 10 * ((a : Int) - 48) + ((b : Int) - 48) ∧ intCps n = #[a, b] := by
  obtain ⟨m, rfl⟩ := Int.eq_ofNat_of_zero_le (show 0 ≤ n by omega)
  refine ⟨48 + m / 10, 48 + m % 10, by omega, by omega, by omega, by omega, by omega, ?_⟩
  show ((Nat.toDigits 10 m).map Char.toNat).toArray = _
  rw [digits_two m (by omega) (by omega)]
theorem intCps_three {n : Int} (h1 : 100 ≤ n) (h2 : n ≤ 255) : ∃ a b c : Nat, 48 ≤ a ∧ a ≤ 57 ∧ 48 ≤ b ∧ b ≤ 57 ∧ 48 ≤ c ∧ c ≤ 57 ∧ n = 100 * ((a : Int) - 48) + 10 * ((b : Int) - 48) + ((c : Int) - 48) ∧ intCps n = #[a, b, c] := by
  obtain ⟨m, rfl⟩ := Int.eq_ofNat_of_zero_le (show 0 ≤ n by omega)
  refine ⟨48 + m / 100, 48 + m / 10 % 10, 48 + m % 10, by omega, by omega, by omega, by omega, by omega, by omega, by omega, ?_⟩
  show ((Nat.toDigits 10 m).map Char.toNat).toArray = _
  rw [digits_three m (by omega) (by omega)]

theorem digits_len : ∀ m < 1001, (Nat.toDigits 10 m).length ≤ 5 := by decide +kernel
theorem intCps_len {a : Int} (h1 : -1000 < a) (h2 : a < 1000) : Str.length ⟨intCps a⟩ ≤ sizeLine := by
  rw [sizeLine_eq]
  refine Nat.le_trans (m := 6) ?_ (by decide)
  cases a with
  | ofNat m => 
    have h2' : (m : Int) < 1000 := h2
    have := digits_len m (by omega)
    show (((Nat.toDigits 10 m).map Char.toNat).toArray).size ≤ 6
    simp; omega
  | negSucc m =>
    have := digits_len (m + 1) (by omega)
    show ((45 :: (Nat.toDigits 10 (m + 1)).map Char.toNat).toArray).size ≤ 6
    simp; omega
section
variable {prog : Program} {w : World} {A : Around} {R : Result → Shared → Prop} {h : Heap} {g : Array GenState} {d : Drawn} {tk : Nat} {os : OsState}
theorem code_repr {a : Int} {t : Tok} (ha : -1000 < a) (hb : a < 1000) (hR : R (.ok (.ret (.str ⟨intCps a⟩ tk))) ⟨h, g, d, tk + 1, os⟩) :
    codeAny (model prog w) A (.call (.builtin "int.__repr__") ⟨[.int a t], []⟩) R ⟨h, g, d, tk, os⟩ :=
  codeAny_call_builtin PySem.F.slot_int_repr.plain PySem.F.entry_int_repr (PySem.F.slot_int_repr.check _ _ _ _ _ _ _ _ (typeIs_int _ a t) (PySem.F.args_int_repr_1 _)
    (gives_int_repr a t (by
      by_cases h0 : a.natAbs = 0
      · rw [h0]; decide
      · exact Nat.lt_of_lt_of_le ((Nat.log2_lt h0).mpr (show a.natAbs < 2 ^ 10 by omega)) (by decide)) prog w A R _ (by rw [strInt]; exact ⟨intCps_len ha hb, hR⟩)))
theorem code_repr2 {a : Int} {t : Tok} (h1 : 30 ≤ a) (h2 : a ≤ 255)
    (hR2 : ∀ x y : Nat, a ≤ 99 → 48 ≤ x → x ≤ 57 → 48 ≤ y → y ≤ 57 → a = 10 * ((x : Int) - 48) + ((y : Int) - 48) → R (.ok (.ret (.str ⟨#[x, y]⟩ tk))) ⟨h, g, d, tk + 1, os⟩)
    (hR3 : ∀ x y z : Nat, 100 ≤ a → 48 ≤ x → x ≤ 57 → 48 ≤ y → y ≤ 57 → 48 ≤ z → z ≤ 57 → a = 100 * ((x : Int) - 48) + 10 * ((y : Int) - 48) + ((z : Int) - 48) → R (.ok (.ret (.str ⟨#[x, y, z]⟩ tk))) ⟨h, g, d, tk + 1, os⟩) :
    codeAny (model prog w) A (.call (.builtin "int.__repr__") ⟨[.int a t], []⟩) R ⟨h, g, d, tk, os⟩ := by
  refine code_repr (by omega) (by omega) ?_
  by_cases hc : a ≤ 99
  · obtain ⟨x, y, e1, e2, e3, e4, e5, e6⟩ := intCps_two h1 hc
    rw [e6]; exact hR2 x y hc e1 e2 e3 e4 e5
  · obtain ⟨x, y, z, e1, e2, e3, e4, e5, e6, e7, e8⟩ := intCps_three (show 100 ≤ a by omega) h2
    rw [e8]; exact hR3 x y z (by omega) e1 e2 e3 e4 e5 e6 e7
theorem code_streq {x y : Str} {t u : Tok} (hR : ∀ b : Bool, (b = true → x = y) → (b = false → x ≠ y) → R (.ok (.ret (.bool b))) ⟨h, g, d, tk, os⟩) :
    codeAny (model prog w) A (.call (.builtin "str.__eq__") ⟨[.str x t, .str y u], []⟩) R ⟨h, g, d, tk, os⟩ :=
  codeAny_call_builtin PySem.F.slot_str_eq.plain PySem.F.entry_str_eq (PySem.F.slot_str_eq.check _ _ _ _ _ _ _ _ (typeIs_str _ x t) (PySem.F.args_str_eq_2 _ _)
    (gives_str_eq x y t u prog w A R _ (hR _ (fun e => by cases x; cases y; simpa using e) (fun e e' => by subst e'; simp at e))))
theorem code_streq_t {x y : Str} {t u : Tok} (e : x = y) (hR : R (.ok (.ret (.bool true))) ⟨h, g, d, tk, os⟩) :
    codeAny (model prog w) A (.call (.builtin "str.__eq__") ⟨[.str x t, .str y u], []⟩) R ⟨h, g, d, tk, os⟩ :=
  code_streq fun b _ h2 => by cases b with | true => exact hR | false => exact absurd e (h2 rfl)
theorem code_streq_f {x y : Str} {t u : Tok} (e : x ≠ y) (hR : R (.ok (.ret (.bool false))) ⟨h, g, d, tk, os⟩) :
    codeAny (model prog w) A (.call (.builtin "str.__eq__") ⟨[.str x t, .str y u], []⟩) R ⟨h, g, d, tk, os⟩ :=
  code_streq fun b h1 _ => by cases b with | false => exact hR | true => exact absurd (h1 rfl) e

def valStr : Value → Option Str | .str s _ => some s | _ => none
def isStrB (x : Str) : Value → Bool | .str s _ => s == x | _ => false
theorem any_codes {items : List Value} {ss : List Str} (hs : items.map valStr = ss.map some) (x : Str) : items.any (isStrB x) = ss.any (· == x) := by
  induction items generalizing ss with
  | nil => cases ss with | nil => rfl | cons _ _ => cases hs
  | cons v items ih =>
    cases ss with
    | nil => cases hs
    | cons s ss =>
      rw [List.map_cons, List.map_cons] at hs
      injection hs with h1 h2
      cases v <;> simp [valStr] at h1
      subst h1
      rw [List.any_cons, List.any_cons, ih h2]
      rfl
theorem mem_codes {items : List Value} {ss : List Str} (hs : items.map valStr = ss.map some) {y : Value} (hy : y ∈ items) : ∃ s t, y = .str s t := by
  have : valStr y ∈ ss.map some := hs ▸ List.mem_map_of_mem hy
  obtain ⟨s, _, e⟩ := List.mem_map.mp this
  cases y <;> simp [valStr] at e
  exact ⟨_, _, rfl⟩
theorem eq_codes {items : Array Value} {ss : List Str} (hs : items.toList.map valStr = ss.map some) (x : Str) (t : Tok) : ∀ y, y ∈ items → MeetsSeq.EqGives y (.str x t) (isStrB x y) := fun y hy => by
  obtain ⟨s, u, rfl⟩ := mem_codes hs (by simpa using hy)
  exact eqGives_str s x u t
set_option maxRecDepth 100000 in
theorem code_contains {l : Addr} {items : Array Value} {n : Nat} {x : Str} {t : Tok} {b : Bool} (ho : h.get? l = some ⟨.type "list", none, .seq items n, #[]⟩) (hs : items.toList.map valStr = codesL.map some)
    (e : codesL.any (· == x) = b) (hR : R (.ok (.ret (.bool b))) ⟨h, g, d, tk, os⟩) :
    codeAny (model prog w) A (.call (.builtin "list.__contains__") ⟨[.ref l, .str x t], []⟩) R ⟨h, g, d, tk, os⟩ := by
  have hl : h.IsList l items := ⟨_, ho, rfl, n, rfl⟩
  refine codeAny_call_builtin PySem.F.slot_list_contains.plain PySem.F.entry_list_contains (PySem.F.slot_list_contains.check _ _ _ _ _ _ _ _ hl.typeIs (PySem.F.args_list_contains_2 _ _)
    (MeetsSeq.list_contains l items n (.str x t) (isStrB x) (eq_codes hs x t) prog w A R _ ⟨ho, ?_⟩))
  rw [← Array.any_toList, any_codes hs, e]; exact hR
set_option maxRecDepth 100000 in
theorem code_index {l : Addr} {items : Array Value} {n : Nat} {x : Str} {t : Tok} {k : Int} (ho : h.get? l = some ⟨.type "list", none, .seq items n, #[]⟩) (hs : items.toList.map valStr = codesL.map some)
    (h0 : 0 ≤ k) (hk : codesL[k.toNat]? = some x) (hR : R (.ok (.ret (.int k tk))) ⟨h, g, d, tk + 1, os⟩) :
    codeAny (model prog w) A (.call (.builtin "list.index") ⟨[.ref l, .str x t], []⟩) R ⟨h, g, d, tk, os⟩ := by
  have hl : h.IsList l items := ⟨_, ho, rfl, n, rfl⟩
  obtain ⟨j, rfl⟩ := Int.eq_ofNat_of_zero_le h0
  have hk' : codesL[j]? = some x := hk
  obtain ⟨hj, hx⟩ := List.getElem?_eq_some_iff.mp hk'
  have hlen : items.size = codesL.length := by
    have := congrArg List.length hs
    simpa using this
  have at_ : ∀ (m : Nat) (hm : m < items.size), isStrB x items[m] = (codesL[m]'(hlen ▸ hm) == x) := fun m hm => by
    have q : (items.toList.map valStr)[m]? = (codesL.map some)[m]? := by rw [hs]
    rw [List.getElem?_map, List.getElem?_map, List.getElem?_eq_getElem (by simpa using hm), List.getElem?_eq_getElem (hlen ▸ hm)] at q
    simp only [Option.map_some, Option.some.injEq, Array.getElem_toList] at q
    cases hv : items[m] <;> rw [hv] at q <;> simp [valStr] at q
    subst q
    rfl
  have nd : ∀ a < 29, ∀ b < 29, a ≠ b → (codesL[a]? == codesL[b]?) = false := by decide +kernel
  refine codeAny_call_builtin PySem.F.slot_list_index.plain PySem.F.entry_list_index (PySem.F.slot_list_index.check _ _ _ _ _ _ _ _ hl.typeIs (PySem.F.args_list_index_2 _ _)
    (MeetsSeq.list_index l items n (.str x t) (isStrB x) (eq_codes hs x t) j (hlen ▸ hj) ?_ ?_ ?_ prog w A R _ ⟨ho, hR⟩))
  · have : j < 29 := hj
    omega
  · rw [at_ j (hlen ▸ hj), hx]; simp
  · intro m hm hmj
    rw [at_ m hm]
    have h1 : j < 29 := hj
    have q := nd m (by omega) j h1 (by omega)
    rw [List.getElem?_eq_getElem (hlen ▸ hm), hk'] at q
    simpa using q
theorem code_ord {c : Nat} {t : Tok} (hR : R (.ok (.ret (.int c tk))) ⟨h, g, d, tk + 1, os⟩) : codeAny (model prog w) A (.call (.builtin "ord") ⟨[.str ⟨#[c]⟩ t], []⟩) R ⟨h, g, d, tk, os⟩ := by
  refine codeAny_call_builtin PySem.F.plain_ord PySem.F.entry_ord ?_
  have hfin := gives_ord c t prog w A R ⟨h, g, d, tk, os⟩ hR
  have ok := PySem.F.args_ord1 (.str ⟨#[c]⟩ t)
  simp only [checkBuiltinCall, PySem.F.kind_ord]
  cases hsig : Manifest.signature? "ord" with
  | none => exact wpAny_pure hfin
  | some sig =>
    simp only [argsOk, hsig] at ok
    have h2 : Bind.checkArgs "ord" sig ⟨[.str ⟨#[c]⟩ t], []⟩ = pure () := ok
    show wpAny _ _ (Bind.checkArgs "ord" sig ⟨[.str ⟨#[c]⟩ t], []⟩) _ _ _
    rw [h2]
    exact wpAny_pure hfin
theorem code_tupitem {l : Addr} {items : Array Value} {n : Nat} {k : Nat} {t : Tok} {v : Value} (ho : h.get? l = some ⟨.type "tuple", none, .seq items n, #[]⟩) (hk : Nat.ble k 100 = true) (hv : items[k]? = some v)
    (hR : R (.ok (.ret v)) ⟨h, g, d, tk, os⟩) : codeAny (model prog w) A (.call (.builtin "tuple.__getitem__") ⟨[.ref l, .int k t], []⟩) R ⟨h, g, d, tk, os⟩ := by
  have hT : Shared.TypeIs ⟨h, g, d, tk, os⟩ (.ref l) "tuple" := ⟨_, ho, rfl⟩
  have hk' := Nat.le_of_ble_eq_true hk
  have hlt : k < items.size := by
    by_cases q : k < items.size
    · exact q
    · rw [Array.getElem?_eq_none (by omega)] at hv; cases hv
  refine codeAny_call_builtin PySem.F.slot_tuple_getitem.plain PySem.F.entry_tuple_getitem (PySem.F.slot_tuple_getitem.check _ _ _ _ _ _ _ _ hT (PySem.F.args_tuple_getitem_2 _ _)
    (MeetsSeq.tuple_getitem_at l items n k t k v (by omega) (by omega) (by unfold seqIndex?; simp; omega) hv prog w A R _ ⟨ho, hR⟩))
theorem code_dcontains {dd : Addr} {es : Array DictEntry} {ep : Nat} {k : Int} {t : Tok} (ho : h.get? dd = some ⟨.type "dict", none, .dict es ep, #[]⟩) (hk : IntKeys es) (hne : dd ≠ sysModules)
    (hv : (findBy Value.isInt es k).isSome = true) (hR : R (.ok (.ret (.bool true))) ⟨h, g, d, tk + 1, os⟩) :
    codeAny (model prog w) A (.call (.builtin "dict.__contains__") ⟨[.ref dd, .int k t], []⟩) R ⟨h, g, d, tk, os⟩ := by
  have hT : Shared.TypeIs ⟨h, g, d, tk, os⟩ (.ref dd) "dict" := ⟨_, ho, rfl⟩
  have im : h.IntMap dd (findBy Value.isInt es) := ⟨_, es, ep, ho, rfl, rfl, hk, fun _ => rfl⟩
  exact codeAny_call_builtin PySem.F.slot_dict_contains.plain PySem.F.entry_dict_contains (PySem.F.slot_dict_contains.check _ _ _ _ _ _ _ _ hT (PySem.F.args_dict_contains_2 _ _)
    (meets_dict_contains (intKind prog w) (k := k) dd (by simp [intKind, Value.isInt]) (by simpa using hne) A R _ ⟨_, im.mapOf (fun o e => by rw [ho] at e; cases e; exact ⟨rfl, rfl⟩), by rw [hv]; exact hR⟩))
theorem code_dgetitem {dd : Addr} {es : Array DictEntry} {ep : Nat} {k : Int} {t : Tok} {v : Value} (ho : h.get? dd = some ⟨.type "dict", none, .dict es ep, #[]⟩) (hk : IntKeys es)
    (hv : findBy Value.isInt es k = some v) (hR : R (.ok (.ret v)) ⟨h, g, d, tk + 1, os⟩) :
    codeAny (model prog w) A (.call (.builtin "dict.__getitem__") ⟨[.ref dd, .int k t], []⟩) R ⟨h, g, d, tk, os⟩ := by
  have hT : Shared.TypeIs ⟨h, g, d, tk, os⟩ (.ref dd) "dict" := ⟨_, ho, rfl⟩
  have im : h.IntMap dd (findBy Value.isInt es) := ⟨_, es, ep, ho, rfl, rfl, hk, fun _ => rfl⟩
  exact codeAny_call_builtin PySem.F.slot_dict_getitem.plain PySem.F.entry_dict_getitem (PySem.F.slot_dict_getitem.check _ _ _ _ _ _ _ _ hT (PySem.F.args_dict_getitem_2 _ _)
    (meets_dict_getitem (intKind prog w) (k := k) dd (by simp [intKind, Value.isInt]) A R _ ⟨_, v, im.mapOf (fun o e => by rw [ho] at e; cases e; exact ⟨rfl, rfl⟩), hv, hR⟩))
theorem keys3 {t0 t1 t2 : Tok} {v0 v1 v2 : Value} : IntKeys #[⟨10, .int 10 t0, v0⟩, ⟨20, .int 20 t1, v1⟩, ⟨30, .int 30 t2, v2⟩] := fun e he => by
  simp only [List.mem_toArray, List.mem_cons, List.not_mem_nil, or_false] at he
  rcases he with rfl | rfl | rfl
  · exact ⟨10, t0, rfl, (show (10 : Int) = hashInt 10 by decide)⟩
  · exact ⟨20, t1, rfl, (show (20 : Int) = hashInt 20 by decide)⟩
  · exact ⟨30, t2, rfl, (show (30 : Int) = hashInt 30 by decide)⟩
theorem code_mul {a b : Int} {t u : Tok} (h1 : -1000000 < a) (h2 : a < 1000000) (hR : R (.ok (.ret (.int (a * b) tk))) ⟨h, g, d, tk + 1, os⟩) :
    codeAny (model prog w) A (.call (.builtin "int.__mul__") ⟨[.int a t, .int b u], []⟩) R ⟨h, g, d, tk, os⟩ :=
  codeAny_call_builtin PySem.F.slot_int_mul.plain PySem.F.entry_int_mul (PySem.F.slot_int_mul.check _ _ _ _ _ _ _ _ (typeIs_int _ a t) (PySem.F.args_int_mul_2 _ _)
    (AutoIntG1.int___mul___int_int_0 a t b u (IntMulOk.of_left (intBits_le_64 (by omega) (by omega))) prog w A R _ hR))
theorem fits {b : Int} (h0 : -1000 < b) (h1 : b < 1000000) : Builtin.Range.rangeFitsLong b = true := by
  unfold Builtin.Range.rangeFitsLong
  simp only [Bool.and_eq_true, decide_eq_true_eq]
  constructor <;> omega
theorem rsize {b : Int} (h0 : 0 < b) : Builtin.Range.rangeSize 0 b 1 = b := by
  unfold Builtin.Range.rangeSize
  rw [if_pos (by decide), if_pos h0, Int.ediv_one]; omega
theorem code_rangeiter {h₀ : Heap} {news : List (Addr × Obj)} {r : Addr} {b : Int} {t u v : Tok} (D : Mem h₀ h [] news) (ho : h.get? r = some ⟨.type "range", none, .fields #[.int 0 t, .int b u, .int 1 v], #[]⟩) (h0 : 0 < b) (h1 : b < 1000)
    (hR : ∀ a h', Mem h₀ h' [] ((a, ⟨.type "range_iterator", none, .fields #[.int 0 0, .int b 0, .int 1 0], #[]⟩) :: news) → R (.ok (.ret (.ref a))) ⟨h', g, d, tk, os⟩) :
    codeAny (model prog w) A (.call (.builtin "range.__iter__") ⟨[.ref r], []⟩) R ⟨h, g, d, tk, os⟩ := by
  have hT : Shared.TypeIs ⟨h, g, d, tk, os⟩ (.ref r) "range" := ⟨_, ho, rfl⟩
  have hs : (Builtin.Range.rangeFitsLong 0 && Builtin.Range.rangeFitsLong b && Builtin.Range.rangeFitsLong 1 && Builtin.Range.rangeFitsLong (Builtin.Range.rangeSize 0 b 1) && (Builtin.Range.rangeSize 0 b 1 == 0 || if (1 : Int) > 0 then Builtin.Range.rangeFitsLong (b + (1 - 1)) else Builtin.Range.rangeFitsLong (b + (1 + 1)))) = true := by
    rw [rsize h0, if_pos (by decide), fits (b := 0) (by omega) (by omega), fits (b := b) (by omega) (by omega), fits (b := 1) (by omega) (by omega), fits (b := b + (1 - 1)) (by omega) (by omega)]
    simp
  have hz := rsize h0
  refine codeAny_call_builtin PySem.F.slot_range_iter.plain PySem.F.entry_range_iter (PySem.F.slot_range_iter.check _ _ _ _ _ _ _ _ hT (PySem.F.args_range_iter_1 _)
    (AutoRange.range___iter___range_1 r 0 b 1 t u v (by rw [hs]; decide) prog w A R _ ⟨ho, ?_⟩))
  rw [hs, hz]
  exact hR _ _ (D.alloc rfl)
theorem codes_size {items : Array Value} (hs : items.toList.map valStr = codesL.map some) : (items.size : Int) = 29 := by
  have := congrArg List.length hs
  have h2 : items.size = codesL.length := by simpa using this
  rw [h2]; rfl
theorem code_len {l : Addr} {items : Array Value} {n : Nat} {k : Int} (ho : h.get? l = some ⟨.type "list", none, .seq items n, #[]⟩) (e : (items.size : Int) = k) (hR : R (.ok (.ret (.int k tk))) ⟨h, g, d, tk + 1, os⟩) :
    codeAny (model prog w) A (.call (.builtin "list.__len__") ⟨[.ref l], []⟩) R ⟨h, g, d, tk, os⟩ := by
  have hl : h.IsList l items := ⟨_, ho, rfl, n, rfl⟩
  subst e
  exact codeAny_call_builtin PySem.F.slot_list_len.plain PySem.F.entry_list_len (PySem.F.slot_list_len.check _ _ _ _ _ _ _ _ hl.typeIs (PySem.F.args_list_len_1 _)
    (AutoListH.list___len___list_0 l items n prog w A R _ ⟨ho, hR⟩))
theorem code_striter {h₀ : Heap} {news : List (Addr × Obj)} {x : Str} {t : Tok} (D : Mem h₀ h [] news) (ha : x.cps.all (· < 128) = true)
    (hR : ∀ a h', Mem h₀ h' [] ((a, ⟨.type "str_ascii_iterator", none, .fields #[.str x t, rawInt 0], #[]⟩) :: news) → R (.ok (.ret (.ref a))) ⟨h', g, d, tk, os⟩) :
    codeAny (model prog w) A (.call (.builtin "str.__iter__") ⟨[.str x t], []⟩) R ⟨h, g, d, tk, os⟩ := by
  refine codeAny_call_builtin PySem.F.slot_str_iter.plain PySem.F.entry_str_iter (PySem.F.slot_str_iter.check _ _ _ _ _ _ _ _ (typeIs_str _ x t) (PySem.F.args_str_iter_1 _)
    (wpAny_mono (Q := fun fin s' => ∃ v, fin = .done (.ret v) ∧ R (.ok (.ret v)) s') (E := fun e s' => R (.error e) s') ?_ (fun fin s' h' => by obtain ⟨v, rfl, hv⟩ := h'; exact hv) fun _ _ h' => h'))
  show wpAny _ _ (newObj (.type (if (true && x.cps.all (· < 128)) = true then "str_ascii_iterator" else "str_iterator")) (.fields #[.str x t, rawInt 0]) >>= fun v => ret v) _ _ _
  rw [ha]
  exact wpAny_bind (wpAny_newObj_type (wpAny_pure ⟨_, rfl, hR _ _ (D.alloc rfl)⟩) (by size_fits))
theorem code_strslice {x y : Str} {t t2 : Tok} {k : Int} {sl : Addr} {osl : Obj} (hos : h.get? sl = some osl) (hcs : osl.cls = .type "slice") (hds : osl.data = .fields #[.int k t2, .none, .none])
    (hm : sliceMade x t (some (k, t2)) none none = .str y) (hl : Nat.ble y.length 1000 = true) (hR : R (.ok (.ret (.str y tk))) ⟨h, g, d, tk + 1, os⟩) :
    codeAny (model prog w) A (.call (.builtin "str.__getitem__") ⟨[.str x t, .ref sl], []⟩) R ⟨h, g, d, tk, os⟩ :=
  codeAny_call_builtin PySem.F.slot_str_getitem.plain PySem.F.entry_str_getitem (PySem.F.slot_str_getitem.check _ _ _ _ _ _ _ _ (typeIs_str _ x t) (PySem.F.args_str_getitem_2 _ _)
    (meets_str_getitem_slice x t sl (some (k, t2)) none none rfl prog w A R _ ⟨⟨osl, hos, hcs, hds⟩, by rw [hm]; exact ⟨Nat.le_trans (Nat.le_of_ble_eq_true hl) (by rw [sizeLine_eq]; decide), hR⟩⟩))
theorem code_strslice0 {x : Str} {t t2 : Tok} {k : Int} {sl : Addr} {osl : Obj} (hos : h.get? sl = some osl) (hcs : osl.cls = .type "slice") (hds : osl.data = .fields #[.int k t2, .none, .none])
    (hm : sliceMade x t (some (k, t2)) none none = .val (.str x t)) (hR : R (.ok (.ret (.str x t))) ⟨h, g, d, tk, os⟩) :
    codeAny (model prog w) A (.call (.builtin "str.__getitem__") ⟨[.str x t, .ref sl], []⟩) R ⟨h, g, d, tk, os⟩ :=
  codeAny_call_builtin PySem.F.slot_str_getitem.plain PySem.F.entry_str_getitem (PySem.F.slot_str_getitem.check _ _ _ _ _ _ _ _ (typeIs_str _ x t) (PySem.F.args_str_getitem_2 _ _)
    (meets_str_getitem_slice x t sl (some (k, t2)) none none rfl prog w A R _ ⟨⟨osl, hos, hcs, hds⟩, by rw [hm]; exact hR⟩))
set_option maxRecDepth 100000 in
theorem code_item {l : Addr} {items : Array Value} {n : Nat} {k : Int} {t : Tok} (ho : h.get? l = some ⟨.type "list", none, .seq items n, #[]⟩) (hs : items.toList.map valStr = codesL.map some)
    (h0 : 0 ≤ k) (h1 : k < 29) (hR : ∀ cd tc, IsCode cd (k + 1) → R (.ok (.ret (.str cd tc))) ⟨h, g, d, tk, os⟩) :
    codeAny (model prog w) A (.call (.builtin "list.__getitem__") ⟨[.ref l, .int k t], []⟩) R ⟨h, g, d, tk, os⟩ := by
  have hfit : k < 2 ^ 63 := by omega
  have hf := fitsIndex_of h0 hfit
  clear hfit
  have hl : h.IsList l items := ⟨_, ho, rfl, n, rfl⟩
  have hlt : k.toNat < codesL.length := by show k.toNat < 29; omega
  have hlen : items.size = codesL.length := by
    have := congrArg List.length hs
    simpa using this
  have q : (items.toList.map valStr)[k.toNat]? = (codesL.map some)[k.toNat]? := by rw [hs]
  rw [List.getElem?_map, List.getElem?_map, List.getElem?_eq_getElem (by simpa [hlen] using hlt), List.getElem?_eq_getElem hlt] at q
  simp only [Option.map_some, Option.some.injEq, Array.getElem_toList] at q
  obtain ⟨tc, hx⟩ : ∃ tc, items[k.toNat]? = some (.str codesL[k.toNat] tc) := by
    rw [Array.getElem?_eq_getElem (hlen ▸ hlt)]
    cases hv : items[k.toNat]'(hlen ▸ hlt) <;> rw [hv] at q <;> simp [valStr] at q
    subst q
    exact ⟨_, rfl⟩
  have fin := hR codesL[k.toNat] tc (.inl ⟨by omega, by omega, by rw [show (k + 1 - 1) = k by omega]; exact List.getElem?_eq_getElem hlt⟩)
  generalize codesL[k.toNat] = cd at hx fin
  clear hR h1 hs q hlen
  refine codeAny_call_builtin slot_list_getitem.plain entry_list_getitem (slot_list_getitem.check _ _ _ _ _ _ _ _ hl.typeIs (args_list_getitem _ _)
    (wpAny_mono (Q := fun fin s' => ∃ v, fin = .done (.ret v) ∧ R (.ok (.ret v)) s') (E := fun e s' => R (.error e) s') ?_ (fun fin s' h' => by obtain ⟨v, rfl, hv⟩ := h'; exact hv) fun _ _ h' => h'))
  show wpAny _ _ (Builtin.List.listSubscript? (.int k t) >>= _) _ _ _
  refine wpAny_bind (wpAny_listSubscript_int hf ?_)
  clear hf
  obtain ⟨j, rfl⟩ := Int.eq_ofNat_of_zero_le h0
  have hx : items[j]? = some (.str cd tc) := hx
  show wpAny _ _ ((seqItemAt l j >>= fun r => pure (r.map (j, ·))) >>= _) _ _ _
  refine wpAny_bind (wpAny_bind (wpAny_seqItemAt ho rfl (wpAny_pure ?_)))
  rw [hx]
  first
    | exact wpAny_bind (wpAny_pure (wpAny_pure ⟨_, rfl, fin⟩))
    | exact wpAny_pure ⟨_, rfl, fin⟩
    | exact wpAny_pure ⟨_, rfl, wpAny_pure fin⟩
set_option maxRecDepth 100000 in
theorem code_itemL {l : Addr} {items : Array Value} {n : Nat} {k : Int} {t : Tok} (ho : h.get? l = some ⟨.type "list", none, .seq items n, #[]⟩) (hs : items.toList.map valStr = codesL.map some)
    {cd : Str} (h0 : 0 ≤ k) (h1 : k < 29) (hk : codesL[k.toNat]? = some cd) (hR : ∀ tc, R (.ok (.ret (.str cd tc))) ⟨h, g, d, tk, os⟩) :
    codeAny (model prog w) A (.call (.builtin "list.__getitem__") ⟨[.ref l, .int k t], []⟩) R ⟨h, g, d, tk, os⟩ := by
  have hfit : k < 2 ^ 63 := by omega
  have hf := fitsIndex_of h0 hfit
  clear hfit
  have hl : h.IsList l items := ⟨_, ho, rfl, n, rfl⟩
  have hlt : k.toNat < codesL.length := by show k.toNat < 29; omega
  have hlen : items.size = codesL.length := by
    have := congrArg List.length hs
    simpa using this
  have q : (items.toList.map valStr)[k.toNat]? = (codesL.map some)[k.toNat]? := by rw [hs]
  rw [List.getElem?_map, List.getElem?_map, List.getElem?_eq_getElem (by simpa [hlen] using hlt), List.getElem?_eq_getElem hlt] at q
  simp only [Option.map_some, Option.some.injEq, Array.getElem_toList] at q
  obtain ⟨tc, hx⟩ : ∃ tc, items[k.toNat]? = some (.str codesL[k.toNat] tc) := by
    rw [Array.getElem?_eq_getElem (hlen ▸ hlt)]
    cases hv : items[k.toNat]'(hlen ▸ hlt) <;> rw [hv] at q <;> simp [valStr] at q
    subst q
    exact ⟨_, rfl⟩
  have ecd : codesL[k.toNat] = cd := Option.some.inj ((List.getElem?_eq_getElem hlt).symm.trans hk)
  rw [ecd] at hx
  have fin := hR tc
  clear hk ecd
  clear hR h1 hs q hlen
  refine codeAny_call_builtin slot_list_getitem.plain entry_list_getitem (slot_list_getitem.check _ _ _ _ _ _ _ _ hl.typeIs (args_list_getitem _ _)
    (wpAny_mono (Q := fun fin s' => ∃ v, fin = .done (.ret v) ∧ R (.ok (.ret v)) s') (E := fun e s' => R (.error e) s') ?_ (fun fin s' h' => by obtain ⟨v, rfl, hv⟩ := h'; exact hv) fun _ _ h' => h'))
  show wpAny _ _ (Builtin.List.listSubscript? (.int k t) >>= _) _ _ _
  refine wpAny_bind (wpAny_listSubscript_int hf ?_)
  clear hf
  obtain ⟨j, rfl⟩ := Int.eq_ofNat_of_zero_le h0
  have hx : items[j]? = some (.str cd tc) := hx
  show wpAny _ _ ((seqItemAt l j >>= fun r => pure (r.map (j, ·))) >>= _) _ _ _
  refine wpAny_bind (wpAny_bind (wpAny_seqItemAt ho rfl (wpAny_pure ?_)))
  rw [hx]
  first
    | exact wpAny_bind (wpAny_pure (wpAny_pure ⟨_, rfl, fin⟩))
    | exact wpAny_pure ⟨_, rfl, fin⟩
    | exact wpAny_pure ⟨_, rfl, wpAny_pure fin⟩
set_option maxRecDepth 100000 in
theorem code_itemS {l : Addr} {items : Array Value} {n : Nat} {k : Int} {t : Tok} (ho : h.get? l = some ⟨.type "list", none, .seq items n, #[]⟩) {ss : List Str} (hs : items.toList.map valStr = ss.map some)
    (h0 : 0 ≤ k) (h1 : k < ss.length) (hz : Nat.ble ss.length 1000 = true) (hR : ∀ cd tc, cd ∈ ss → R (.ok (.ret (.str cd tc))) ⟨h, g, d, tk, os⟩) :
    codeAny (model prog w) A (.call (.builtin "list.__getitem__") ⟨[.ref l, .int k t], []⟩) R ⟨h, g, d, tk, os⟩ := by
  have hz' := Nat.le_of_ble_eq_true hz
  have hfit : k < 2 ^ 63 := by omega
  have hf := fitsIndex_of h0 hfit
  clear hfit
  have hl : h.IsList l items := ⟨_, ho, rfl, n, rfl⟩
  have hlt : k.toNat < ss.length := by omega
  have hlen : items.size = ss.length := by
    have := congrArg List.length hs
    simpa using this
  have q : (items.toList.map valStr)[k.toNat]? = (ss.map some)[k.toNat]? := by rw [hs]
  rw [List.getElem?_map, List.getElem?_map, List.getElem?_eq_getElem (by simpa [hlen] using hlt), List.getElem?_eq_getElem hlt] at q
  simp only [Option.map_some, Option.some.injEq, Array.getElem_toList] at q
  obtain ⟨tc, hx⟩ : ∃ tc, items[k.toNat]? = some (.str ss[k.toNat] tc) := by
    rw [Array.getElem?_eq_getElem (hlen ▸ hlt)]
    cases hv : items[k.toNat]'(hlen ▸ hlt) <;> rw [hv] at q <;> simp [valStr] at q
    subst q
    exact ⟨_, rfl⟩
  have fin := hR ss[k.toNat] tc (List.getElem_mem hlt)
  generalize ss[k.toNat] = cd at hx fin
  clear hz hz'
  clear hR h1 hs q hlen
  refine codeAny_call_builtin slot_list_getitem.plain entry_list_getitem (slot_list_getitem.check _ _ _ _ _ _ _ _ hl.typeIs (args_list_getitem _ _)
    (wpAny_mono (Q := fun fin s' => ∃ v, fin = .done (.ret v) ∧ R (.ok (.ret v)) s') (E := fun e s' => R (.error e) s') ?_ (fun fin s' h' => by obtain ⟨v, rfl, hv⟩ := h'; exact hv) fun _ _ h' => h'))
  show wpAny _ _ (Builtin.List.listSubscript? (.int k t) >>= _) _ _ _
  refine wpAny_bind (wpAny_listSubscript_int hf ?_)
  clear hf
  obtain ⟨j, rfl⟩ := Int.eq_ofNat_of_zero_le h0
  have hx : items[j]? = some (.str cd tc) := hx
  show wpAny _ _ ((seqItemAt l j >>= fun r => pure (r.map (j, ·))) >>= _) _ _ _
  refine wpAny_bind (wpAny_bind (wpAny_seqItemAt ho rfl (wpAny_pure ?_)))
  rw [hx]
  first
    | exact wpAny_bind (wpAny_pure (wpAny_pure ⟨_, rfl, fin⟩))
    | exact wpAny_pure ⟨_, rfl, fin⟩
    | exact wpAny_pure ⟨_, rfl, wpAny_pure fin⟩
theorem gives_strne (x y : Str) (t u : Tok) : Gives (Builtin.«str.__ne__» ⟨[.str x t, .str y u], []⟩) (.val (.bool (x.cps.toList != y.cps.toList))) := .of_eq rfl
theorem code_strne {x y : Str} {t u : Tok} (hR : ∀ b : Bool, (b = false → x = y) → (b = true → x ≠ y) → R (.ok (.ret (.bool b))) ⟨h, g, d, tk, os⟩) :
    codeAny (model prog w) A (.call (.builtin "str.__ne__") ⟨[.str x t, .str y u], []⟩) R ⟨h, g, d, tk, os⟩ :=
  codeAny_call_builtin PySem.F.slot_str_ne.plain PySem.F.entry_str_ne (PySem.F.slot_str_ne.check _ _ _ _ _ _ _ _ (typeIs_str _ x t) (PySem.F.args_str_ne_2 _ _)
    (gives_strne x y t u prog w A R _ (hR _ (fun e => by cases x; cases y; simpa using e) (fun e e' => by subst e'; simp at e))))
theorem code_strne_f {x y : Str} {t u : Tok} (e : x = y) (hR : R (.ok (.ret (.bool false))) ⟨h, g, d, tk, os⟩) :
    codeAny (model prog w) A (.call (.builtin "str.__ne__") ⟨[.str x t, .str y u], []⟩) R ⟨h, g, d, tk, os⟩ :=
  code_strne fun b _ h2 => by cases b with | false => exact hR | true => exact absurd e (h2 rfl)
theorem code_strne_t {x y : Str} {t u : Tok} (e : x ≠ y) (hR : R (.ok (.ret (.bool true))) ⟨h, g, d, tk, os⟩) :
    codeAny (model prog w) A (.call (.builtin "str.__ne__") ⟨[.str x t, .str y u], []⟩) R ⟨h, g, d, tk, os⟩ :=
  code_strne fun b h1 _ => by cases b with | true => exact hR | false => exact absurd (h1 rfl) e
theorem find_str {E : Value → Shared → Prop} {s : Shared} {dd : Addr} {es : Array DictEntry} {ep : Nat} {x : Str} {t t' : Tok} {hs : Int} {i : Nat} {ent : DictEntry} {Q : Option Nat → Shared → Prop}
    (ho : s.heap.get? dd = some ⟨.type "dict", none, .dict es ep, #[]⟩) (hall : (es.all fun e => isExactStrKey e.key) = true) (hi : es.findIdx? (·.key.isStr x) = some i) (he : es[i]? = some ent) (hk : ent.key = .str x t')
    (h : Q (some i) s) : wpAny (model prog w) A (dictFind dd (.str x t) hs) Q E s := by
  unfold dictFind
  try with_reducible refine wpAny_holding ?_
  refine wpAny_bind (wpAny_dictEntries ho rfl ?_)
  dsimp only
  rw [if_pos hall]
  unfold foundByValue
  simp only [hi, he]
  refine wpAny_bind (wpAny_dictEpoch ho rfl (wpAny_bind ?_))
  rw [hk]
  refine eqBool_str (wpAny_bind (wpAny_dictEpoch ho rfl ?_))
  show wpAny _ _ (if (ep != ep) = true then _ else _) _ E _
  rw [if_neg (by simp), beq_self_eq_true]
  exact wpAny_bind (wpAny_rule (wpAny_pure h))
theorem code_sget {dd : Addr} {es : Array DictEntry} {ep : Nat} {x : Str} {t t' : Tok} {i : Nat} {ent : DictEntry}
    (ho : h.get? dd = some ⟨.type "dict", none, .dict es ep, #[]⟩) (hall : (es.all fun e => isExactStrKey e.key) = true) (hi : es.findIdx? (·.key.isStr x) = some i) (he : es[i]? = some ent) (hk : ent.key = .str x t')
    (hR : R (.ok (.ret ent.val)) ⟨h, g, d, tk + 1, os⟩) :
    codeAny (model prog w) A (.call (.builtin "dict.__getitem__") ⟨[.ref dd, .str x t], []⟩) R ⟨h, g, d, tk, os⟩ := by
  have hT : Shared.TypeIs ⟨h, g, d, tk, os⟩ (.ref dd) "dict" := ⟨_, ho, rfl⟩
  refine codeAny_call_builtin PySem.F.slot_dict_getitem.plain PySem.F.entry_dict_getitem (PySem.F.slot_dict_getitem.check _ _ _ _ _ _ _ _ hT (PySem.F.args_dict_getitem_2 _ _)
    (wpAny_mono (Q := fun fin s' => ∃ v, fin = .done (.ret v) ∧ R (.ok (.ret v)) s') (E := fun e s' => R (.error e) s') ?_ (fun fin s' h' => by obtain ⟨v, rfl, hv⟩ := h'; exact hv) fun _ _ h' => h'))
  show wpAny _ _ (dictGet dd (.str x t) >>= _) _ _ _
  refine wpAny_bind ?_
  unfold dictGet
  try with_reducible refine wpAny_holding ?_
  refine wpAny_bind (wpAny_pyHash_str (wpAny_bind (find_str (s := ⟨h, g, d, tk + 1, os⟩) ho hall hi he hk (wpAny_bind (wpAny_dictEntries (s := ⟨h, g, d, tk + 1, os⟩) ho rfl (wpAny_pure ?_))))))
  rw [he]
  exact wpAny_pure ⟨_, rfl, hR⟩
theorem code_sset {h₀ : Heap} {news : List (Addr × Obj)} {dd : Addr} {es : Array DictEntry} {ep : Nat} {x : Str} {t t' : Tok} {i j : Nat} {ent : DictEntry} {v : Value}
    (D : Mem h₀ h [] news) (hj : news[j]? = some (dd, ⟨.type "dict", none, .dict es ep, #[]⟩)) (hall : (es.all fun e => isExactStrKey e.key) = true) (hi : es.findIdx? (·.key.isStr x) = some i) (he : es[i]? = some ent) (hk : ent.key = .str x t')
    (hR : ∀ h', Mem h₀ h' [] (news.set j (dd, ⟨.type "dict", none, .dict (es.modify i fun e => { e with val := v }) ep, #[]⟩)) → R (.ok (.ret .none)) ⟨h', g, d, tk + 1, os⟩) :
    codeAny (model prog w) A (.call (.builtin "dict.__setitem__") ⟨[.ref dd, .str x t, v], []⟩) R ⟨h, g, d, tk, os⟩ := by
  have ho := D.at j dd _ hj
  have hT : Shared.TypeIs ⟨h, g, d, tk, os⟩ (.ref dd) "dict" := ⟨_, ho, rfl⟩
  refine codeAny_call_builtin PySem.F.slot_dict_setitem.plain PySem.F.entry_dict_setitem (PySem.F.slot_dict_setitem.check _ _ _ _ _ _ _ _ hT (PySem.F.args_dict_setitem_3 _ _ _)
    (wpAny_mono (Q := fun fin s' => ∃ v, fin = .done (.ret v) ∧ R (.ok (.ret v)) s') (E := fun e s' => R (.error e) s') ?_ (fun fin s' h' => by obtain ⟨v, rfl, hv⟩ := h'; exact hv) fun _ _ h' => h'))
  show wpAny _ _ (Builtin.Dict.notOrdered "__setitem__" ⟨[.ref dd, .str x t, v], []⟩ >>= _) _ _ _
  refine wpAny_bind (wpAny_notOrdered_dict hT ?_)
  show wpAny _ _ (dictSet dd (.str x t) v >>= _) _ _ _
  refine wpAny_bind ?_
  unfold dictSet
  try with_reducible refine wpAny_holding ?_
  refine wpAny_bind (wpAny_pyHash_str ?_)
  unfold dictSetHashed
  try with_reducible refine wpAny_holding ?_
  refine wpAny_bind (find_str (s := ⟨h, g, d, tk + 1, os⟩) ho hall hi he hk ?_)
  refine wpAny_bind (wpAny_rule (wpAny_bind (wpAny_updateDict (s := ⟨h, g, d, tk + 1, os⟩) ho rfl (wpAny_point ?_))))
  exact wpAny_pure ⟨_, rfl, hR _ (D.update hj rfl)⟩
end
end Mine
end
section
open PySem PySem.W PySem.W.X PyProof.Rows
namespace Mine
theorem any_two (a b : Nat) : codesL.any (· == ⟨#[85, 69, a, b]⟩) = false := by simp [codesL]
theorem any_three (a b c : Nat) : codesL.any (· == ⟨#[85, 69, a, b, c]⟩) = false := by simp [codesL]
theorem any_of_at {cd : Str} {k : Nat} (h : codesL[k]? = some cd) : codesL.any (· == cd) = true := by
  rw [List.any_eq_true]
  exact ⟨cd, List.mem_of_getElem? h, by simp⟩
theorem ascii1 {a : Nat} (h : a < 128) : (Str.mk #[a]).cps.all (· < 128) = true := by simp [h]
theorem ascii2 {a b : Nat} (h : a < 128) (h' : b < 128) : (Str.mk #[a, b]).cps.all (· < 128) = true := by simp [h, h']
theorem ascii3 {a b c : Nat} (h : a < 128) (h' : b < 128) (h'' : c < 128) : (Str.mk #[a, b, c]).cps.all (· < 128) = true := by simp [h, h', h'']
theorem IsCode.cast {cd : Str} {m n : Int} (h : IsCode cd m) (e : m = n) : IsCode cd n := e ▸ h
open Lean Meta Elab Tactic PySem PySem.W PySem.W.X PySem.W.XRun

def hookLen : Hook := fun b st g => g.withContext do
  let T := (← instantiateMVars (← g.getType)).consumeMData
  let args := listItemsE T.getAppArgs[2]!.appArg!.getAppArgs[0]!
  match args with
  | [l] =>
    unless l.isAppOfArity ``Value.ref 1 do return none
    let some (o, ho) ← find b st l.appArg! | return none
    let o ← normObj o
    unless o.isAppOfArity ``Obj.mk 4 do return none
    let dt ← kw o.getAppArgs[2]!
    unless dt.isAppOfArity ``Data.seq 2 do return none
    let hs ← Term.exprToSyntax ho
    if dt.getAppArgs[0]!.isFVar then
      let gs ← runT g (do evalTactic (← `(tactic| refine code_len (k := 29) $hs (codes_size (by assumption)) ?_)))
      return some gs
    unless dt.getAppArgs[0]!.isAppOfArity ``Array.mk 2 do return none
    let k := Syntax.mkNumLit (toString (listItemsE dt.getAppArgs[0]!).length)
    let gs ← runT g (do evalTactic (← `(tactic| refine code_len (k := $k) $hs rfl ?_)))
    return some gs
  | _ => return none

/-- the texts among a call's arguments laid open -/
def strArgs (g : MVarId) : TacticM (Option (MVarId × List Lean.Expr)) := g.withContext do
  let T := (← instantiateMVars (← g.getType)).consumeMData
  let y := T.getAppArgs
  let c := y[2]!
  let args := c.appArg!.getAppArgs[0]!
  let go (n : Nat) : Lean.Expr → MetaM Lean.Expr := fixP n (fun l => return l) fun _ ih l => do
      if l.isAppOfArity ``List.cons 3 then
        let a := l.getAppArgs
        let v := a[1]!
        let v' ← if v.isAppOfArity ``Value.str 2 then pure (mkApp2 v.getAppFn (← normStr v.appFn!.appArg!) v.appArg!) else pure v
        return mkApp3 l.getAppFn a[0]! v' (← ih a[2]!)
      return l
  let args' ← go 10 args
  let A := c.appArg!
  let c' := mkApp2 c.getAppFn c.appFn!.appArg! (mkApp2 A.getAppFn args' A.getAppArgs[1]!)
  let m ← mkFreshExprSyntheticOpaqueMVar (mkAppN T.getAppFn (y.set! 2 c'))
  g.assign m
  return some (m.mvarId!, listItemsE args')

def listObj (b : Base) (st : XRun.St) (v : Lean.Expr) : TacticM (Option (Array Lean.Expr × Term)) := do
  unless v.isAppOfArity ``Value.ref 1 do return none
  let some (o, ho) ← find b st v.appArg! | return none
  let o ← normObj o
  unless o.isAppOfArity ``Obj.mk 4 do return none
  let dt ← kw o.getAppArgs[2]!
  unless dt.isAppOfArity ``Data.seq 2 do return none
  return some ((listItemsE dt.getAppArgs[0]!).toArray, ← Term.exprToSyntax ho)
def isCodes (items : Array Lean.Expr) : Bool := items.size == 29 && items.all (·.isAppOfArity ``Value.str 2)

def litStrOf (v : Lean.Expr) : MetaM (Option (List Nat)) := do
  unless v.isAppOfArity ``Value.str 2 do return none
  cpsOf v.appFn!.appArg!
def codeTexts : List (List Nat) := ("NF SN RG OD FC OV OM UL BS DD DZ ID TM OS LS ST CN UF NR RW UE WE FO BF BN AO FF EF NM".splitOn " ").map fun s => s.toList.map Char.toNat

def hookContains : Hook := fun b st g => do
  let some (g, args) ← strArgs g | return none
  g.withContext do
  match args with
  | [l, x] =>
    let some (items, ho) ← listObj b st l | return none
    let gs ← runT g (do evalTactic (← `(tactic| first
      | refine code_contains (b := true) $ho (by first | assumption | rfl) (by first | exact any_of_at (by assumption) | decide +kernel) ?_
      | refine code_contains (b := false) $ho (by first | assumption | rfl) (by first | exact any_two _ _ | exact any_three _ _ _ | decide +kernel) ?_)))
    return some gs
  | _ => return none
def hookIndex : Hook := fun b st g => do
  let some (g, args) ← strArgs g | return none
  g.withContext do
  match args with
  | [l, x] =>
    let some (items, ho) ← listObj b st l | return none
    match ← litStrOf x with
    | some cs =>
      let some k := codeTexts.findIdx? (· == cs) | return none
      let kE := Syntax.mkNumLit (toString k)
      let gs ← runT g (do evalTactic (← `(tactic| refine code_index (k := $kE) $ho (by first | assumption | rfl) (by decide) rfl ?_)))
      return some gs
    | none =>
      let gs ← runT g (do evalTactic (← `(tactic| refine code_index $ho (by first | assumption | rfl) ?h0 (by assumption) ?hR)))
      match gs with
      | [g1, g2] =>
        let r ← runT g1 (evalTactic (← `(tactic| omega)))
        unless r.isEmpty do return none
        return some [g2]
      | _ => return none
  | _ => return none
def hookItem : Hook := fun b st g => do
  g.withContext do
  let T := (← instantiateMVars (← g.getType)).consumeMData
  let args := listItemsE T.getAppArgs[2]!.appArg!.getAppArgs[0]!
  match args with
  | [l, x] =>
    unless x.isAppOfArity ``Value.int 2 do return ← hookGetitem b st g
    let k := x.appFn!.appArg!
    if !k.hasFVar then
      if let some (items, ho) ← listObj b st l then
        if items.isEmpty then
          let kn ← kw k
          if kn.isAppOfArity ``Int.ofNat 1 then
            if let some n := litOf (← kw kn.appArg!) then
              if let some cs := codeTexts[n]? then
                let nat := mkConst ``Nat
                let cd := mkApp (mkConst ``Str.mk) (mkApp2 (mkConst ``Array.mk [0]) nat (listE nat (cs.map mkRawNatLit)))
                let cdS ← Term.exprToSyntax cd
                try
                  let gs ← runT g (do evalTactic (← `(tactic| refine code_itemL (cd := $cdS) $ho (by assumption) (by decide) (by decide) rfl ?_)))
                  return some gs
                catch _ => pure ()
    if k.hasFVar then
      if let some (items, ho) ← listObj b st l then
        if items.size == 11 then
          let ls : List (Option (List Nat)) ← items.toList.mapM fun v => (litStrOf v : TacticM _)
          if ls.all (·.isSome) then
            let nat := mkConst ``Nat
            let ss := listE (mkConst ``Str) (ls.map fun cs => mkApp (mkConst ``Str.mk) (mkApp2 (mkConst ``Array.mk [0]) nat (listE nat ((cs.getD []).map mkRawNatLit))))
            let ssS ← Term.exprToSyntax ss
            let gs ← runT g (do evalTactic (← `(tactic| refine code_itemS (ss := $ssS) $ho (by kernel_rfl) (by omega) (by simp only [List.length_cons, List.length_nil]; omega) rfl ?_)))
            return some gs
      if let some (items, ho) ← listObj b st l then
        try
          let gs ← runT g (do evalTactic (← `(tactic| refine code_item $ho (by first | assumption | rfl) (by omega) (by omega) ?_)))
          return some gs
        catch _ => pure ()
    hookGetitem b st g
  | _ => hookGetitem b st g
def hookRepr : Hook := fun b st g => g.withContext do
  let T := (← instantiateMVars (← g.getType)).consumeMData
  let args := listItemsE T.getAppArgs[2]!.appArg!.getAppArgs[0]!
  match args with
  | [x] =>
    unless x.isAppOfArity ``Value.int 2 do return none
    if x.appFn!.appArg!.hasFVar then
      let gs ← runT g (do evalTactic (← `(tactic| refine code_repr2 (by omega) (by omega) ?_ ?_)))
      return some (← gs.filterMapM fun m => m.withContext do
        let (_, m1) ← m.intros
        m1.withContext do
          match ← byOmega (mkConst ``False) with
          | some h =>
            m1.assign (← mkAppOptM ``False.elim #[some (← m1.getType), some h])
            return none
          | none => return some m1)
    else
      let gs ← runT g (do evalTactic (← `(tactic| refine code_repr (by decide) (by decide) ?_)))
      return some gs
  | _ => return none
def hookStreq : Hook := fun b st g => do
  let some (g, args) ← strArgs g | return none
  g.withContext do
  match args with
  | [x, y] =>
    unless x.isAppOfArity ``Value.str 2 && y.isAppOfArity ``Value.str 2 do return none
    match ← litStrOf x, ← litStrOf y with
    | some a, some c =>
      if a == c then return some (← runT g (do evalTactic (← `(tactic| refine code_streq_t rfl ?_))))
      else return some (← runT g (do evalTactic (← `(tactic| refine code_streq_f (by decide) ?_))))
    | _, _ =>
      let gs ← runT g (do evalTactic (← `(tactic| first
        | refine code_streq_t (by first | assumption | rfl | (simp only [Str.mk.injEq, Array.mk.injEq, List.cons.injEq, and_true, true_and]; omega)) ?_
        | refine code_streq_f (by first | assumption | (intro he; simp only [Str.mk.injEq, Array.mk.injEq, List.cons.injEq, and_true, true_and] at he; omega)) ?_
        | refine code_streq ?_)))
      return some gs
  | _ => return none
def hookStriter : Hook := fun b st g => do
  let some (g, args) ← strArgs g | return none
  g.withContext do
  match args with
  | [x] =>
    unless x.isAppOfArity ``Value.str 2 do return none
    let D ← Term.exprToSyntax st.mem
    let gs ← runT g (do evalTactic (← `(tactic| refine code_striter $D (by first | decide +kernel | exact ascii1 (by omega) | exact ascii2 (by omega) (by omega) | exact ascii3 (by omega) (by omega) (by omega)) ?_)))
    return some gs
  | _ => return none
def hookStrGet : Hook := fun b st g => do
  let some (g, args) ← strArgs g | return none
  g.withContext do
  match args with
  | [x, sl] =>
    unless x.isAppOfArity ``Value.str 2 && sl.isAppOfArity ``Value.ref 1 do return none
    let cps := x.appFn!.appArg!
    unless cps.isAppOfArity ``Str.mk 1 && cps.appArg!.isAppOfArity ``Array.mk 2 do return none
    let els := listItemsE cps.appArg!
    let some (_, hos) ← find b st sl.appArg! | return none
    let hos ← Term.exprToSyntax hos
    let nat := mkConst ``Nat
    let y := mkApp (mkConst ``Str.mk) (mkApp2 (mkConst ``Array.mk [0]) nat (listE nat (els.drop 2)))
    let yS ← Term.exprToSyntax y
    let gs ← runT g (do
      if els.isEmpty then evalTactic (← `(tactic| refine code_strslice0 (k := 2) $hos rfl rfl (by kernel_rfl) ?_))
      else evalTactic (← `(tactic| refine code_strslice (k := 2) (y := $yS) $hos rfl rfl (by kernel_rfl) rfl ?_)))
    return some gs
  | _ => return none
def hookOrd : Hook := fun b st g => do
  let some (g, args) ← strArgs g | return none
  let gs ← runT g (do evalTactic (← `(tactic| refine code_ord ?_)))
  return some gs
def hookMul : Hook := fun b st g => do
  let gs ← runT g (do evalTactic (← `(tactic| refine code_mul (by omega) (by omega) ?_)))
  return some gs
def hookRange : Hook := fun b st g => g.withContext do
  let T := (← instantiateMVars (← g.getType)).consumeMData
  let args := listItemsE T.getAppArgs[2]!.appArg!.getAppArgs[0]!
  match args with
  | [r] =>
    unless r.isAppOfArity ``Value.ref 1 do return none
    let some (_, ho) ← find b st r.appArg! | return none
    let ho ← Term.exprToSyntax ho
    let D ← Term.exprToSyntax st.mem
    let gs ← runT g (do evalTactic (← `(tactic| refine code_rangeiter $D $ho (by omega) (by omega) ?_)))
    return some gs
  | _ => return none
def hookStrne : Hook := fun b st g => do
  let some (g, args) ← strArgs g | return none
  g.withContext do
  match args with
  | [x, y] =>
    unless x.isAppOfArity ``Value.str 2 && y.isAppOfArity ``Value.str 2 do return none
    match ← litStrOf x, ← litStrOf y with
    | some a, some c =>
      if a == c then return some (← runT g (do evalTactic (← `(tactic| refine code_strne_f rfl ?_))))
      else return some (← runT g (do evalTactic (← `(tactic| refine code_strne_t (by decide) ?_))))
    | _, _ =>
      let two := mkIdent `Mine.IsCode.two
      let three := mkIdent `Mine.IsCode.three
      let fn := mkIdent `Mine.IsCode.fn
      let cast := mkIdent `Mine.IsCode.cast
      let gs ← runT g (do evalTactic (← `(tactic| first
        | refine code_strne_f (by first
            | exact $fn (by assumption) ($two (by omega) (by omega) (by omega) (by omega) (by omega) (by omega) (by omega))
            | exact $fn (by assumption) ($three (by omega) (by omega) (by omega) (by omega) (by omega) (by omega) (by omega) (by omega) (by omega))
            | exact $fn (by assumption) ($cast (by assumption) (by omega))) ?_
        | refine code_strne ?_)))
      return some gs
  | _ => return none
def hookDict (get : Bool) : Hook := fun b st g => g.withContext do
  let T := (← instantiateMVars (← g.getType)).consumeMData
  let args := listItemsE T.getAppArgs[2]!.appArg!.getAppArgs[0]!
  match args with
  | [dd, k] =>
    unless dd.isAppOfArity ``Value.ref 1 && k.isAppOfArity ``Value.int 2 do return none
    let some (o, ho) ← find b st dd.appArg! | return none
    let o ← normObj o
    let dt ← kw o.getAppArgs[2]!
    unless dt.isAppOfArity ``Data.dict 2 do return none
    unless (listItemsE dt.getAppArgs[0]!).length == 3 do return none
    let ho ← Term.exprToSyntax ho
    if get then
      return some (← runT g (do evalTactic (← `(tactic| refine code_dgetitem $ho keys3 (by rfl) ?_))))
    else
      let some ne ← neProof b st dd.appArg! (← addrOf (mkConst ``sysModules)) | return none
      let ne ← Term.exprToSyntax (← mkExpectedTypeHint ne (← mkAppM ``Ne #[dd.appArg!, mkConst ``sysModules]))
      return some (← runT g (do evalTactic (← `(tactic| refine code_dcontains $ho keys3 $ne (by rfl) ?_))))
  | _ => return none
def hookDictS (get : Bool) : Hook := fun b st g0 => do
  let some (g, args) ← strArgs g0 | return none
  g.withContext do
  let dd := args[0]!
  let k := args[1]!
  unless dd.isAppOfArity ``Value.ref 1 do return none
  let some key ← litStrOf k | return none
  let some (o, ho) ← find b st dd.appArg! | return none
  let o ← normObj o
  unless o.isAppOfArity ``Obj.mk 4 do return none
  let dt ← kw o.getAppArgs[2]!
  unless dt.isAppOfArity ``Data.dict 2 do return none
  let es := listItemsE dt.getAppArgs[0]!
  let mut n := 0
  let mut at_ : Option Nat := none
  for e in es do
    unless e.isAppOfArity ``DictEntry.mk 3 do return none
    if at_.isNone then
      if (← litStrOf e.getAppArgs[1]!) == some key then at_ := some n
    n := n + 1
  let some i := at_ | return none
  let ent := es[i]!
  let iS := Syntax.mkNumLit (toString i)
  let entS ← Term.exprToSyntax ent
  if get then
    let ho ← Term.exprToSyntax ho
    return some (← runT g (do evalTactic (← `(tactic| refine code_sget (i := $iS) (ent := $entS) $ho (by kernel_rfl) (by kernel_rfl) rfl rfl ?_))))
  let some (jx, oj) := idxOf st dd.appArg! | return none
  let nE := newsE st.news
  let hj ← Term.exprToSyntax (atProof dd.appArg! oj)
  let D ← Term.exprToSyntax st.mem
  let jS := Syntax.mkNumLit (toString jx)
  let gs ← runT g (do evalTactic (← `(tactic| refine code_sset (i := $iS) (j := $jS) (ent := $entS) $D $hj (by kernel_rfl) (by kernel_rfl) rfl rfl ?_)))
  match gs with
  | [g1] =>
    let (fs, g2) ← g1.introNP 2
    g2.withContext do
      let v := args[2]!
      let a := ent.getAppArgs
      let ent' := mkApp3 ent.getAppFn a[0]! a[1]! v
      let arr := mkApp2 (mkConst ``Array.mk [0]) (mkConst ``DictEntry) (listE (mkConst ``DictEntry) (es.set i ent'))
      let oa := o.getAppArgs
      let o' := mkApp4 (mkConst ``Obj.mk) oa[0]! oa[1]! (mkApp2 dt.getAppFn arr dt.getAppArgs[1]!) oa[3]!
      let news' := st.news.set jx (dd.appArg!, o')
      let h' := mkFVar fs[0]!
      let ty := mkApp4 (mkConst ``Mem) b.h0 h' (newsE []) (newsE news')
      let g3 ← g2.assert `D ty (mkFVar fs[1]!)
      let (_, g3) ← g3.intro1P
      let g3 ← g3.clear fs[1]!
      return some [g3]
  | _ => return none
def hookTup : Hook := fun b st g => g.withContext do
  let T := (← instantiateMVars (← g.getType)).consumeMData
  let args := listItemsE T.getAppArgs[2]!.appArg!.getAppArgs[0]!
  match args with
  | [l, x] =>
    unless x.isAppOfArity ``Value.int 2 do return none
    let kn ← kw x.appFn!.appArg!
    unless kn.isAppOfArity ``Int.ofNat 1 do return none
    let some n := litOf (← kw kn.appArg!) | return none
    let some (items, ho) ← listObj b st l | return none
    unless n < items.size do return none
    let vS ← Term.exprToSyntax items[n]!
    let kS := Syntax.mkNumLit (toString n)
    let g2 ← runT g (do evalTactic (← `(tactic| refine code_tupitem (k := $kS) (v := $vS) $ho rfl rfl ?_)))
    return some g2
  | _ => return none
def hooks2 : String → Option Hook := fun k => match k with
  | "list.__getitem__" => some hookItem
  | "list.__contains__" => some hookContains
  | "list.__len__" => some hookLen
  | "list.index" => some hookIndex
  | "int.__repr__" => some hookRepr
  | "str.__eq__" => some hookStreq
  | "tuple.__getitem__" => some hookTup
  | "dict.__contains__" => some (hookDict false)
  | "dict.__getitem__" => some (fun b st g => do
      let T := (← instantiateMVars (← g.getType)).consumeMData
      let args := listItemsE T.getAppArgs[2]!.appArg!.getAppArgs[0]!
      if args[1]!.isAppOf ``Value.str then hookDictS true b st g else hookDict true b st g)
  | "dict.__setitem__" => some (hookDictS false)
  | "str.__ne__" => some hookStrne
  | "range.__iter__" => some hookRange
  | "int.__mul__" => some hookMul
  | "ord" => some hookOrd
  | "str.__getitem__" => some hookStrGet
  | "str.__iter__" => some hookStriter
  | k => stdHooks k
end Mine
end
section
open PySem PySem.W PySem.W.X PyProof.Rows
namespace Mine
/-! the law's own account, in plain Lean -/
inductive Nu | i (n : Int) | n | x
def NuV : Nu → Value → Prop
  | .i n, v => ∃ tn, v = .int n tn
  | .n, v => v = .none
  | .x, v => ∃ tn, v = .str ⟨#[78, 69, 88, 84]⟩ tn
structure TS where
  hdl : Int
  on : Bool
  num : Int
  el : Int
  fa : Int
  st : Int
inductive An | done | led (v : Int) | out (v : Int) | line (v : Int) | place (v : Int)
def Drew (kd : Int) (nu : Nu) : Prop :=
  (kd = 0 ∧ ∃ n, nu = .i n) ∨ (kd = 2 ∧ ∃ n, nu = .i n ∧ (n = 0 ∨ n = 10 ∨ n = 20 ∨ n = 30)) ∨ (kd = 3 ∧ ∃ n, nu = .i n) ∨ (kd = 4 ∧ (nu = .i 30 ∨ nu = .n ∨ nu = .x))
def ledBy (at' : Int) (s : TS) (f : Int) : An × TS :=
  if s.hdl = 0 ∨ s.on = true then (.out f, s) else (.led (s.hdl / 5 - 2), ⟨s.hdl, true, f, 10 + 10 * (at' / 2), at', s.st⟩)
def spec (ms at' : Int) (s : TS) (kd : Int) (nu : Nu) : An × TS :=
  if kd = 0 then
    match nu with
    | .i n => ledBy at' s (if 1 ≤ n ∧ n ≤ 255 then n else 5)
    | _ => (.done, s)
  else if kd = 2 then
    match nu with
    | .i n => if n = 0 ∧ s.on = true then (.out s.num, ⟨n, s.on, s.num, s.el, s.fa, s.st⟩) else (.done, ⟨n, s.on, s.num, s.el, s.fa, s.st⟩)
    | _ => (.done, s)
  else if kd = 3 then
    if ms < s.st + 1 then (.out 16, ⟨s.hdl, s.on, s.num, s.el, s.fa, s.st + 1⟩) else (.done, ⟨s.hdl, s.on, s.num, s.el, s.fa, s.st + 1⟩)
  else if s.on = true then
    match nu with
    | .i n => (.line n, ⟨s.hdl, false, s.num, s.el, s.fa, s.st⟩)
    | .n => (.place s.fa, ⟨s.hdl, false, s.num, s.el, s.fa, s.st⟩)
    | .x => (.place (s.fa + 1), ⟨s.hdl, false, s.num, s.el, s.fa, s.st⟩)
  else ledBy at' s 20
def Inv (s : TS) : Prop := (s.hdl = 0 ∨ s.hdl = 10 ∨ s.hdl = 20 ∨ s.hdl = 30) ∧ (s.on = true → 0 ≤ s.fa ∧ 1 ≤ s.num)
section
variable {ms at' hdl num el fa st n fault : Int} {on : Bool} {nu : Nu}
theorem s0L (hf : (1 ≤ n ∧ n ≤ 255 ∧ fault = n) ∨ ((n < 1 ∨ 255 < n) ∧ fault = 5)) (ho : on = false) (hh : hdl ≠ 0) :
    spec ms at' ⟨hdl, on, num, el, fa, st⟩ 0 (.i n) = (.led (hdl / 5 - 2), ⟨hdl, true, fault, 10 + 10 * (at' / 2), at', st⟩) := by
  subst ho
  have e : (if 1 ≤ n ∧ n ≤ 255 then n else 5) = fault := by split <;> omega
  simp [spec, ledBy, hh, e]
theorem s0O (hf : (1 ≤ n ∧ n ≤ 255 ∧ fault = n) ∨ ((n < 1 ∨ 255 < n) ∧ fault = 5)) (ho : hdl = 0 ∨ on = true) :
    spec ms at' ⟨hdl, on, num, el, fa, st⟩ 0 (.i n) = (.out fault, ⟨hdl, on, num, el, fa, st⟩) := by
  have e : (if 1 ≤ n ∧ n ≤ 255 then n else 5) = fault := by split <;> omega
  simp [spec, ledBy, ho, e]
theorem s2D (hn : n ≠ 0 ∨ on = false) : spec ms at' ⟨hdl, on, num, el, fa, st⟩ 2 (.i n) = (.done, ⟨n, on, num, el, fa, st⟩) := by
  have : ¬(n = 0 ∧ on = true) := by rcases hn with h | h <;> simp [h]
  simp [spec, this]
theorem s2O (hn : n = 0) (ho : on = true) : spec ms at' ⟨hdl, on, num, el, fa, st⟩ 2 (.i n) = (.out num, ⟨n, on, num, el, fa, st⟩) := by
  simp [spec, hn, ho]
theorem s3D (h : st + 1 ≤ ms) : spec ms at' ⟨hdl, on, num, el, fa, st⟩ 3 nu = (.done, ⟨hdl, on, num, el, fa, st + 1⟩) := by
  have : ¬(ms < st + 1) := by omega
  simp [spec, this]
theorem s3O (h : ms < st + 1) : spec ms at' ⟨hdl, on, num, el, fa, st⟩ 3 nu = (.out 16, ⟨hdl, on, num, el, fa, st + 1⟩) := by
  simp [spec, h]
theorem s4L (ho : on = false) (hh : hdl ≠ 0) :
    spec ms at' ⟨hdl, on, num, el, fa, st⟩ 4 nu = (.led (hdl / 5 - 2), ⟨hdl, true, 20, 10 + 10 * (at' / 2), at', st⟩) := by
  subst ho; simp [spec, ledBy, hh]
theorem s4O (hh : hdl = 0) (ho : on = false) : spec ms at' ⟨hdl, on, num, el, fa, st⟩ 4 nu = (.out 20, ⟨hdl, on, num, el, fa, st⟩) := by
  subst ho; simp [spec, ledBy, hh]
theorem s4a (ho : on = true) : spec ms at' ⟨hdl, on, num, el, fa, st⟩ 4 (.i n) = (.line n, ⟨hdl, false, num, el, fa, st⟩) := by
  simp [spec, ho]
theorem s4b (ho : on = true) : spec ms at' ⟨hdl, on, num, el, fa, st⟩ 4 .n = (.place fa, ⟨hdl, false, num, el, fa, st⟩) := by
  simp [spec, ho]
theorem s4c (ho : on = true) : spec ms at' ⟨hdl, on, num, el, fa, st⟩ 4 .x = (.place (fa + 1), ⟨hdl, false, num, el, fa, st⟩) := by
  simp [spec, ho]
theorem faultOf (n : Int) : ∃ f, ((1 ≤ n ∧ n ≤ 255 ∧ f = n) ∨ ((n < 1 ∨ 255 < n) ∧ f = 5)) ∧ 1 ≤ f := by
  by_cases h : 1 ≤ n ∧ n ≤ 255
  · exact ⟨n, .inl ⟨h.1, h.2, rfl⟩, h.1⟩
  · exact ⟨5, .inr ⟨by omega, rfl⟩, by omega⟩
theorem spec_kind {kd : Int} {s : TS} (hd : Drew kd nu) (h0 : s.hdl = 0) (h1 : s.on = false) :
    (spec ms at' s kd nu).1 = .done ∨ ∃ v, (spec ms at' s kd nu).1 = .out v := by
  obtain ⟨a, b, c, d, e, f⟩ := s
  simp only at h0 h1
  subst h0 h1
  rcases hd with ⟨rfl, n, rfl⟩ | ⟨rfl, n, rfl, -⟩ | ⟨rfl, n, rfl⟩ | ⟨rfl, -⟩
  · obtain ⟨f, hf, -⟩ := faultOf n
    rw [s0O hf (.inl rfl)]; exact .inr ⟨_, rfl⟩
  · rw [s2D (.inr rfl)]; exact .inl rfl
  · by_cases hm : ms < f + 1
    · rw [s3O hm]; exact .inr ⟨_, rfl⟩
    · rw [s3D (by omega)]; exact .inl rfl
  · rw [s4O rfl rfl]; exact .inr ⟨_, rfl⟩
theorem led0 {kd v : Int} {s s' : TS} (hd : Drew kd nu) (h0 : s.hdl = 0) (h1 : s.on = false) (h : spec ms at' s kd nu = (.led v, s')) : False := by
  have := spec_kind (ms := ms) (at' := at') hd h0 h1
  rw [h] at this
  rcases this with h | ⟨_, h⟩ <;> cases h
theorem line0 {kd v : Int} {s s' : TS} (hd : Drew kd nu) (h0 : s.hdl = 0) (h1 : s.on = false) (h : spec ms at' s kd nu = (.line v, s')) : False := by
  have := spec_kind (ms := ms) (at' := at') hd h0 h1
  rw [h] at this
  rcases this with h | ⟨_, h⟩ <;> cases h
theorem place0 {kd v : Int} {s s' : TS} (hd : Drew kd nu) (h0 : s.hdl = 0) (h1 : s.on = false) (h : spec ms at' s kd nu = (.place v, s')) : False := by
  have := spec_kind (ms := ms) (at' := at') hd h0 h1
  rw [h] at this
  rcases this with h | ⟨_, h⟩ <;> cases h
end
theorem eqT {x : An × TS} {a a0 : An} {s s0 : TS} (e : x = (a0, s0)) (ha : a = a0) (hs : s = s0) : x = (a, s) := by rw [e, ha, hs]
theorem atS {x : An × TS} {a a' : An} {s s' : TS} (hs : x = (a, s)) (e : x = (a', s')) (P : An → TS → Prop) (h : P a s) : P a' s' := by
  have e := hs.symm.trans e
  cases e
  exact h
end Mine
end
section
open PySem PySem.W PySem.W.X PyProof.Rows
namespace Mine
theorem code_listne6 {prog : Program} {w : PySem.World} {A : Around} {R : Result → Shared → Prop} {h : Heap} {g : Array GenState} {d : Drawn} {tk : Nat} {os : OsState} {a b : Addr} {ea eb : Nat} {v0 v2 v2' v3 v4 v5 : Int} {v1 : Bool} {t0 t2 t3 t4 t5 u0 u2 u3 u4 u5 : Tok}
    (ha : h.get? a = some ⟨.type "list", none, .seq ⟨[.int v0 t0, .bool v1, .int v2 t2, .int v3 t3, .int v4 t4, .int v5 t5]⟩ ea, #[]⟩)
    (hb : h.get? b = some ⟨.type "list", none, .seq ⟨[.int v0 u0, .bool v1, .int v2' u2, .int v3 u3, .int v4 u4, .int v5 u5]⟩ eb, #[]⟩)
    (e2 : v2 = v2') (hR : R (.ok (.ret (.bool false))) ⟨h, g, d, tk, os⟩) :
    codeAny (model prog w) A (.call (.builtin "list.__ne__") ⟨[.ref a, .ref b], []⟩) R ⟨h, g, d, tk, os⟩ := by
  subst e2
  have hT : Shared.TypeIs ⟨h, g, d, tk, os⟩ (.ref a) "list" := ⟨_, ha, rfl⟩
  refine codeAny_call_builtin PySem.F.slot_list_ne.plain PySem.F.entry_list_ne (PySem.F.slot_list_ne.check _ _ _ _ _ _ _ _ hT (PySem.F.args_list_ne_2 _ _)
    (PySem.SeqAt.list_neAt a b ⟨[.int v0 t0, .bool v1, .int v2 t2, .int v3 t3, .int v4 t4, .int v5 t5]⟩ ⟨[.int v0 u0, .bool v1, .int v2 u2, .int v3 u3, .int v4 u4, .int v5 u5]⟩ ea eb none none #[] #[] rfl (fun _ => true) prog w A R _ ⟨ha, hb, ?_, ?_⟩))
  · intro j h1 h2
    have : j < 6 := h1
    rcases j with _ | _ | _ | _ | _ | _ | j
    · have z := PySem.SeqAt.EqAt.int_int (A := A.in1) (s := ⟨h, g, d, tk, os⟩) v0 t0 v0 u0
      rwa [beq_self_eq_true] at z
    · have z := PySem.SeqAt.EqAt.bool_bool (A := A.in1) (s := ⟨h, g, d, tk, os⟩) v1 v1
      rwa [beq_self_eq_true] at z
    · have z := PySem.SeqAt.EqAt.int_int (A := A.in1) (s := ⟨h, g, d, tk, os⟩) v2 t2 v2 u2
      rwa [beq_self_eq_true] at z
    · have z := PySem.SeqAt.EqAt.int_int (A := A.in1) (s := ⟨h, g, d, tk, os⟩) v3 t3 v3 u3
      rwa [beq_self_eq_true] at z
    · have z := PySem.SeqAt.EqAt.int_int (A := A.in1) (s := ⟨h, g, d, tk, os⟩) v4 t4 v4 u4
      rwa [beq_self_eq_true] at z
    · have z := PySem.SeqAt.EqAt.int_int (A := A.in1) (s := ⟨h, g, d, tk, os⟩) v5 t5 v5 u5
      rwa [beq_self_eq_true] at z
    · omega
  · exact hR
theorem code_tuplene2 {prog : Program} {w : PySem.World} {A : Around} {R : Result → Shared → Prop} {h : Heap} {g : Array GenState} {d : Drawn} {tk : Nat} {os : OsState} {a b : Addr} {ea eb : Nat} {wd : Str} {v v' : Int} {t0 t1 u0 u1 : Tok}
    (ha : h.get? a = some ⟨.type "tuple", none, .seq ⟨[.str wd t0, .int v t1]⟩ ea, #[]⟩)
    (hb : h.get? b = some ⟨.type "tuple", none, .seq ⟨[.str wd u0, .int v' u1]⟩ eb, #[]⟩)
    (e2 : v = v') (hR : R (.ok (.ret (.bool false))) ⟨h, g, d, tk, os⟩) :
    codeAny (model prog w) A (.call (.builtin "tuple.__ne__") ⟨[.ref a, .ref b], []⟩) R ⟨h, g, d, tk, os⟩ := by
  subst e2
  have hT : Shared.TypeIs ⟨h, g, d, tk, os⟩ (.ref a) "tuple" := ⟨_, ha, rfl⟩
  refine codeAny_call_builtin PySem.F.slot_tuple_ne.plain PySem.F.entry_tuple_ne (PySem.F.slot_tuple_ne.check _ _ _ _ _ _ _ _ hT (PySem.F.args_tuple_ne_2 _ _)
    (PySem.SeqAt.tuple_neAt a b ⟨[.str wd t0, .int v t1]⟩ ⟨[.str wd u0, .int v u1]⟩ ea eb none none #[] #[] (fun _ => true) prog w A R _ ⟨ha, hb, ?_, ?_⟩))
  · intro j h1 h2
    have : j < 2 := h1
    rcases j with _ | _ | j
    · have z := PySem.SeqAt.EqAt.str_str (A := A.in1) (s := ⟨h, g, d, tk, os⟩) wd t0 wd u0
      rwa [beq_self_eq_true] at z
    · have z := PySem.SeqAt.EqAt.int_int (A := A.in1) (s := ⟨h, g, d, tk, os⟩) v t1 v u1
      rwa [beq_self_eq_true] at z
    · omega
  · exact hR
end Mine
end
section
open PySem PySem.W PySem.W.X PyProof.Rows
namespace Mine
set_option maxRecDepth 100000
set_option maxHeartbeats 0

theorem endCodes {R : Value → Prop} {a : Addr} {its : Array Value} : True := trivial

theorem c_codes0 (w : PySem.World) (h₀ h : Heap) (g : Array GenState) (d : Drawn) (t : Nat) (os : OsState) (mk : Addr) (omk : Obj) 
    (KX : (KH w.params).In h₀) (D : Mem h₀ h [] [(mk, omk)])
    (R : Result → Shared → Prop) (hR : ∀ a its h' t', its.toList.map valStr = codesL.map some → Mem h₀ h' [] [(a, ⟨.type "list", none, .seq its 0, #[]⟩), (mk, omk)] → R (.ok (.ret (.ref a))) ⟨h', g, d, t', os⟩) :
    codeAny (model PR w) { handled := none, depth := 850, units := 9500 } (.call (.ref 51) ⟨[], []⟩) R ⟨h, g, d, t, os⟩ := by
  run_tac do
    let t0 ← IO.monoMsNow
    driveMain 400 hooks2 (endBy `hR)
    let t1 ← IO.monoMsNow
    Lean.logInfo m!"ms {t1 - t0}"

theorem c_codes1 (w : PySem.World) (h₀ h : Heap) (g : Array GenState) (d : Drawn) (t : Nat) (os : OsState) (mk : Addr) (omk : Obj) (e : Addr)
    (KX : (KH w.params).In h₀) (D : Mem h₀ h [] [(mk, omk)])
    (R : Result → Shared → Prop) (hR : ∀ a its h' t', its.toList.map valStr = codesL.map some → Mem h₀ h' [] [(a, ⟨.type "list", none, .seq its 0, #[]⟩), (mk, omk)] → R (.ok (.ret (.ref a))) ⟨h', g, d, t', os⟩) :
    codeAny (model PR w) { handled := some (.ref e), depth := 850, units := 9500 } (.call (.ref 51) ⟨[], []⟩) R ⟨h, g, d, t, os⟩ := by
  run_tac do
    let t0 ← IO.monoMsNow
    driveMain 400 hooks2 (endBy `hR)
    let t1 ← IO.monoMsNow
    Lean.logInfo m!"ms {t1 - t0}"
end Mine
end
section
open PySem PySem.W PySem.W.X PyProof.Rows
namespace Mine
set_option maxRecDepth 100000
set_option maxHeartbeats 0
theorem c_next (w : PySem.World) (h₀ h : Heap) (g : Array GenState) (d : Drawn) (t : Nat) (os : OsState) (mk : Addr) (omk : Obj) (feed cells : Addr) (turn many : Int) (tt tm : Tok) (items : Array Value) (en em : Nat)
    (KX : (KH w.params).In h₀) (D : Mem h₀ h [] [(mk, omk), (feed, ⟨.type "list", none, .seq #[.ref cells, .int turn tt] en, #[]⟩), (cells, ⟨.type "list", none, .seq items em, #[]⟩)])
    (ht : 0 ≤ turn) (ht2 : turn < 1000) (hm : 0 < many) (hm2 : many < 1000) (hi : items.size ≤ 63) (hall : ∀ i, i < items.size → ∃ z tk, items[i]? = some (.int z tk))
    (R : Result → Shared → Prop) (hR : ∀ v tv turn' tt' h' t', 0 ≤ v → v < many → turn' = turn + 1 → Mem h₀ h' [] [(mk, omk), (feed, ⟨.type "list", none, .seq #[.ref cells, .int turn' tt'] en, #[]⟩), (cells, ⟨.type "list", none, .seq items em, #[]⟩)] → R (.ok (.ret (.int v tv))) ⟨h', g, d, t', os⟩) :
    codeAny (model PR w) { handled := none, depth := 800, units := 9000 } (.call (.ref 374) ⟨[.ref feed, .int many tm], []⟩) R ⟨h, g, d, t, os⟩ := by
  run_tac do
    let t0 ← IO.monoMsNow
    driveMain 3000 hooks2 (endBy `hR)
    let t1 ← IO.monoMsNow
    Lean.logInfo m!"ms {t1 - t0}"
theorem c_next0 (w : PySem.World) (h₀ h : Heap) (g : Array GenState) (d : Drawn) (t : Nat) (os : OsState) (feed cells : Addr) (turn many : Int) (tt tm : Tok) (items : Array Value) (en em : Nat)
    (KX : (KH w.params).In h₀) (D : Mem h₀ h [] [(feed, ⟨.type "list", none, .seq #[.ref cells, .int turn tt] en, #[]⟩), (cells, ⟨.type "list", none, .seq items em, #[]⟩)])
    (ht : 0 ≤ turn) (ht2 : turn < 1000) (hm : 0 < many) (hm2 : many < 1000) (hi : items.size ≤ 63) (hall : ∀ i, i < items.size → ∃ z tk, items[i]? = some (.int z tk))
    (R : Result → Shared → Prop) (hR : ∀ v tv turn' tt' h' t', 0 ≤ v → v < many → turn' = turn + 1 → Mem h₀ h' [] [(feed, ⟨.type "list", none, .seq #[.ref cells, .int turn' tt'] en, #[]⟩), (cells, ⟨.type "list", none, .seq items em, #[]⟩)] → R (.ok (.ret (.int v tv))) ⟨h', g, d, t', os⟩) :
    codeAny (model PR w) { handled := none, depth := 800, units := 9000 } (.call (.ref 374) ⟨[.ref feed, .int many tm], []⟩) R ⟨h, g, d, t, os⟩ := by
  run_tac do
    let t0 ← IO.monoMsNow
    driveMain 3000 hooks2 (endBy `hR)
    let t1 ← IO.monoMsNow
    Lean.logInfo m!"ms {t1 - t0}"
end Mine
end
section
open PySem PySem.W PySem.W.X PyProof.Rows
namespace Mine
set_option maxRecDepth 100000
set_option maxHeartbeats 0
abbrev feedO (cells : Addr) (turn : Int) (tt : Tok) (en : Nat) : Obj := ⟨.type "list", none, .seq #[.ref cells, .int turn tt] en, #[]⟩
abbrev cellsO (items : Array Value) (em : Nat) : Obj := ⟨.type "list", none, .seq items em, #[]⟩
abbrev tupO (vs : Array Value) : Obj := ⟨.type "tuple", none, .seq vs 0, #[]⟩
theorem c_drawn (w : PySem.World) (h₀ h : Heap) (g : Array GenState) (d : Drawn) (t : Nat) (os : OsState) (mk : Addr) (omk : Obj) (feed cells : Addr) (turn most : Int) (tt tm : Tok) (items : Array Value) (en em : Nat)
    (KX : (KH w.params).In h₀) (D : Mem h₀ h [] [(mk, omk), (feed, feedO cells turn tt en), (cells, cellsO items em)])
    (ht : 0 ≤ turn) (ht2 : turn < 900) (hi : items.size ≤ 63) (hall : ∀ i, i < items.size → ∃ z tk, items[i]? = some (.int z tk))
    (R : Result → Shared → Prop)
    (hR0 : ∀ kd at' n tk ta tn a turn' tt' h' t', kd = 0 → 0 ≤ at' → at' < 6 → -10 ≤ n → n < 290 → turn ≤ turn' → turn' ≤ turn + 4 →
      Mem h₀ h' [] [(a, tupO #[.int kd tk, .int at' ta, .int n tn]), (mk, omk), (feed, feedO cells turn' tt' en), (cells, cellsO items em)] → R (.ok (.ret (.ref a))) ⟨h', g, d, t', os⟩)
    (hR2 : ∀ kd at' n tk ta tn a turn' tt' h' t', kd = 2 → 0 ≤ at' → at' < 6 → (n = 0 ∨ n = 10 ∨ n = 20 ∨ n = 30) → turn ≤ turn' → turn' ≤ turn + 4 →
      Mem h₀ h' [] [(a, tupO #[.int kd tk, .int at' ta, .int n tn]), (mk, omk), (feed, feedO cells turn' tt' en), (cells, cellsO items em)] → R (.ok (.ret (.ref a))) ⟨h', g, d, t', os⟩)
    (hR3 : ∀ kd at' n tk ta tn a turn' tt' h' t', kd = 3 → 0 ≤ at' → at' < 6 → turn ≤ turn' → turn' ≤ turn + 4 →
      Mem h₀ h' [] [(a, tupO #[.int kd tk, .int at' ta, .int n tn]), (mk, omk), (feed, feedO cells turn' tt' en), (cells, cellsO items em)] → R (.ok (.ret (.ref a))) ⟨h', g, d, t', os⟩)
    (hR4 : ∀ kd at' n tk ta tn a turn' tt' h' t', kd = 4 → 0 ≤ at' → at' < 6 → n = 30 → turn ≤ turn' → turn' ≤ turn + 4 →
      Mem h₀ h' [] [(a, tupO #[.int kd tk, .int at' ta, .int n tn]), (mk, omk), (feed, feedO cells turn' tt' en), (cells, cellsO items em)] → R (.ok (.ret (.ref a))) ⟨h', g, d, t', os⟩)
    (hR5 : ∀ kd at' tk ta a turn' tt' h' t', kd = 4 → 0 ≤ at' → at' < 6 → turn ≤ turn' → turn' ≤ turn + 4 →
      Mem h₀ h' [] [(a, tupO #[.int kd tk, .int at' ta, .none]), (mk, omk), (feed, feedO cells turn' tt' en), (cells, cellsO items em)] → R (.ok (.ret (.ref a))) ⟨h', g, d, t', os⟩)
    (hR6 : ∀ kd at' tk ta tn a turn' tt' h' t', kd = 4 → 0 ≤ at' → at' < 6 → turn ≤ turn' → turn' ≤ turn + 4 →
      Mem h₀ h' [] [(a, tupO #[.int kd tk, .int at' ta, .str (Str.ofString "NEXT") tn]), (mk, omk), (feed, feedO cells turn' tt' en), (cells, cellsO items em)] → R (.ok (.ret (.ref a))) ⟨h', g, d, t', os⟩) :
    codeAny (model PR w) { handled := none, depth := 600, units := 7000 } (.call (.ref 381) ⟨[.ref feed, .int most tm], []⟩) R ⟨h, g, d, t, os⟩ := by
  run_tac do
    let t0 ← IO.monoMsNow
    driveMain 30000 (fun k => if k == "374" then some (useCtr ``c_next) else hooks2 k) (endBys [`hR0, `hR2, `hR3, `hR4, `hR5, `hR6])
    let t1 ← IO.monoMsNow
    Lean.logInfo m!"ms {t1 - t0}"
end Mine
end
section
open PySem PySem.W PySem.W.X PyProof.Rows
namespace Mine
set_option maxRecDepth 100000
set_option maxHeartbeats 0
theorem c_coe (w : PySem.World) (h₀ h : Heap) (g : Array GenState) (d : Drawn) (t : Nat) (os : OsState) (mk : Addr) (omk : Obj) (tn : Tok) (n : Int)
    (KX : (KH w.params).In h₀) (D : Mem h₀ h [] [(mk, omk)]) (h1 : 1 ≤ n) (h2 : n ≤ 255)
    (R : Result → Shared → Prop) (hR : ∀ cd tv h' t', IsCode cd n → Mem h₀ h' [] [(mk, omk)] → R (.ok (.ret (.str cd tv))) ⟨h', g, d, t', os⟩) :
    codeAny (model PR w) { handled := none, depth := 800, units := 9000 } (.call (.ref 65) ⟨[.int n tn], []⟩) R ⟨h, g, d, t, os⟩ := by
  run_tac do
    let t0 ← IO.monoMsNow
    driveMain 400 (fun k => if k == "51" then some (useCtr ``c_codes0) else hooks2 k) (endBy `hR)
    let t1 ← IO.monoMsNow
    Lean.logInfo m!"ms {t1 - t0}"
end Mine
end
section
open PySem PySem.W PySem.W.X PyProof.Rows
namespace Mine
set_option maxRecDepth 100000
set_option maxHeartbeats 0

theorem c_noe0 (w : PySem.World) (h₀ h : Heap) (g : Array GenState) (d : Drawn) (t : Nat) (os : OsState) (mk : Addr) (omk : Obj) (tc : Tok) (cd : Str) (n : Int)
    (KX : (KH w.params).In h₀) (D : Mem h₀ h [] [(mk, omk)]) (hc : IsCode cd n)
    (R : Result → Shared → Prop) (hR : ∀ v tv h' t', v = n → Mem h₀ h' [] [(mk, omk)] → R (.ok (.ret (.int v tv))) ⟨h', g, d, t', os⟩) :
    codeAny (model PR w) { handled := none, depth := 800, units := 9000 } (.call (.ref 58) ⟨[.str cd tc], []⟩) R ⟨h, g, d, t, os⟩ := by
  rcases hc with ⟨h1, h2, h3⟩ | ⟨h1, h2, a, b, ha, ha', hb, hb', he, rfl⟩ | ⟨h1, h2, a, b, c, ha, ha', hb, hb', hc, hc', he, rfl⟩ | ⟨rfl, rfl⟩
  all_goals run_tac do
    let t0 ← IO.monoMsNow
    driveMain 500 (fun k => if k == "51" then some (useCtr ``c_codes0) else hooks2 k) (endBy `hR)
    let t1 ← IO.monoMsNow
    Lean.logInfo m!"ms {t1 - t0}"
end Mine
end
section
open PySem PySem.W PySem.W.X PyProof.Rows
namespace Mine
set_option maxRecDepth 5000
set_option maxHeartbeats 0

theorem c_noe1 (w : PySem.World) (h₀ h : Heap) (g : Array GenState) (d : Drawn) (t : Nat) (os : OsState) (mk : Addr) (omk : Obj) (e : Addr) (edd : Option Addr) (x0 x1 x3 x4 x5 : Value) (esl : Array (Option Value)) (tc : Tok) (cd : Str) (n : Int)
    (KX : (KH w.params).In h₀) (D : Mem h₀ h [] [(mk, omk), (e, ⟨.ref 41, edd, .fields #[x0, x1, .none, x3, x4, x5], esl⟩)]) (hc : IsCode cd n)
    (R : Result → Shared → Prop) (hR : ∀ v tv h' t', v = n → Mem h₀ h' [] [(mk, omk), (e, ⟨.ref 41, edd, .fields #[x0, x1, .none, x3, x4, x5], esl⟩)] → R (.ok (.ret (.int v tv))) ⟨h', g, d, t', os⟩) :
    codeAny (model PR w) { handled := some (.ref e), depth := 800, units := 9000 } (.call (.ref 58) ⟨[.str cd tc], []⟩) R ⟨h, g, d, t, os⟩ := by
  rcases hc with ⟨h1, h2, h3⟩ | ⟨h1, h2, a, b, ha, ha', hb, hb', he, rfl⟩ | ⟨h1, h2, a, b, c, ha, ha', hb, hb', hc, hc', he, rfl⟩ | ⟨rfl, rfl⟩
  all_goals run_tac do
    let t0 ← IO.monoMsNow
    driveMain 500 (fun k => if k == "51" then some (useCtr ``c_codes1) else hooks2 k) (endBy `hR)
    let t1 ← IO.monoMsNow
    Lean.logInfo m!"ms {t1 - t0}"
end Mine
end
section
open PySem PySem.W PySem.W.X PyProof.Rows
namespace Mine
set_option maxRecDepth 5000
set_option maxHeartbeats 0
def textsL : List Str := [⟨#[85]⟩, ⟨#[85, 69, 55]⟩, ⟨#[85, 69, 50, 57]⟩, ⟨#[85, 69, 48, 51, 48]⟩, ⟨#[85, 69, 45, 51]⟩, ⟨#[85, 69, 51, 120]⟩, ⟨#[88, 88]⟩, ⟨#[78, 70, 49]⟩, ⟨#[117, 101, 52, 48]⟩]
theorem c_noeT (w : PySem.World) (h₀ h : Heap) (g : Array GenState) (d : Drawn) (t : Nat) (os : OsState) (mk : Addr) (omk : Obj) (tc : Tok) (x : Str)
    (KX : (KH w.params).In h₀) (D : Mem h₀ h [] [(mk, omk)]) (hx : x ∈ textsL)
    (R : Result → Shared → Prop) (hR : ∀ v tv h' t', v = 0 → Mem h₀ h' [] [(mk, omk)] → R (.ok (.ret (.int v tv))) ⟨h', g, d, t', os⟩) :
    codeAny (model PR w) { handled := none, depth := 800, units := 9000 } (.call (.ref 58) ⟨[.str x tc], []⟩) R ⟨h, g, d, t, os⟩ := by
  rcases List.mem_cons.mp hx with rfl | hx
  · run_tac driveMain 600 (fun k => if k == "51" then some (useCtr ``c_codes0) else hooks2 k) (endBy `hR)
  rcases List.mem_cons.mp hx with rfl | hx
  · run_tac driveMain 600 (fun k => if k == "51" then some (useCtr ``c_codes0) else hooks2 k) (endBy `hR)
  rcases List.mem_cons.mp hx with rfl | hx
  · run_tac driveMain 600 (fun k => if k == "51" then some (useCtr ``c_codes0) else hooks2 k) (endBy `hR)
  rcases List.mem_cons.mp hx with rfl | hx
  · run_tac driveMain 600 (fun k => if k == "51" then some (useCtr ``c_codes0) else hooks2 k) (endBy `hR)
  rcases List.mem_cons.mp hx with rfl | hx
  · run_tac driveMain 600 (fun k => if k == "51" then some (useCtr ``c_codes0) else hooks2 k) (endBy `hR)
  rcases List.mem_cons.mp hx with rfl | hx
  · run_tac driveMain 600 (fun k => if k == "51" then some (useCtr ``c_codes0) else hooks2 k) (endBy `hR)
  rcases List.mem_cons.mp hx with rfl | hx
  · run_tac driveMain 600 (fun k => if k == "51" then some (useCtr ``c_codes0) else hooks2 k) (endBy `hR)
  rcases List.mem_cons.mp hx with rfl | hx
  · run_tac driveMain 600 (fun k => if k == "51" then some (useCtr ``c_codes0) else hooks2 k) (endBy `hR)
  rcases List.mem_cons.mp hx with rfl | hx
  · run_tac driveMain 600 (fun k => if k == "51" then some (useCtr ``c_codes0) else hooks2 k) (endBy `hR)
  · exact nomatch hx
end Mine
end
section
open PySem PySem.W PySem.W.X PyProof.Rows
namespace Mine
set_option maxRecDepth 5000
set_option maxHeartbeats 0
theorem c_noeA (w : PySem.World) (h₀ h : Heap) (g : Array GenState) (d : Drawn) (t : Nat) (os : OsState) (mk : Addr) (omk : Obj) (tc : Tok) (x : Str)
    (KX : (KH w.params).In h₀) (D : Mem h₀ h [] [(mk, omk)]) (hx : x ∈ [(⟨#[]⟩ : Str), (⟨#[85]⟩ : Str), (⟨#[85, 69]⟩ : Str), (⟨#[85, 69, 55]⟩ : Str), (⟨#[85, 69, 50, 57]⟩ : Str), (⟨#[85, 69, 48, 51, 48]⟩ : Str), (⟨#[85, 69, 45, 51]⟩ : Str), (⟨#[85, 69, 51, 120]⟩ : Str), (⟨#[88, 88]⟩ : Str), (⟨#[78, 70, 49]⟩ : Str), (⟨#[117, 101, 52, 48]⟩ : Str)])
    (R : Result → Shared → Prop) (hR1 : ∀ v tv h' t', x = ⟨#[85, 69]⟩ → v = 21 → Mem h₀ h' [] [(mk, omk)] → R (.ok (.ret (.int v tv))) ⟨h', g, d, t', os⟩)
    (hR2 : ∀ v tv h' t', x ≠ ⟨#[85, 69]⟩ → v = 0 → Mem h₀ h' [] [(mk, omk)] → R (.ok (.ret (.int v tv))) ⟨h', g, d, t', os⟩) :
    codeAny (model PR w) { handled := none, depth := 800, units := 9000 } (.call (.ref 58) ⟨[.str x tc], []⟩) R ⟨h, g, d, t, os⟩ := by
  rcases List.mem_cons.mp hx with rfl | hx
  · exact c_noe0 w h₀ h g d t os mk omk tc _ 0 KX D IsCode.zero R fun v tv h' t' e D' => hR2 v tv h' t' (by decide) e D'
  rcases List.mem_cons.mp hx with rfl | hx
  · exact c_noeT w h₀ h g d t os mk omk tc _ KX D (by decide) R fun v tv h' t' e D' => hR2 v tv h' t' (by decide) e D'
  rcases List.mem_cons.mp hx with rfl | hx
  · exact c_noe0 w h₀ h g d t os mk omk tc _ 21 KX D IsCode.ue R fun v tv h' t' e D' => hR1 v tv h' t' rfl e D'
  rcases List.mem_cons.mp hx with rfl | hx
  · exact c_noeT w h₀ h g d t os mk omk tc _ KX D (by decide) R fun v tv h' t' e D' => hR2 v tv h' t' (by decide) e D'
  rcases List.mem_cons.mp hx with rfl | hx
  · exact c_noeT w h₀ h g d t os mk omk tc _ KX D (by decide) R fun v tv h' t' e D' => hR2 v tv h' t' (by decide) e D'
  rcases List.mem_cons.mp hx with rfl | hx
  · exact c_noeT w h₀ h g d t os mk omk tc _ KX D (by decide) R fun v tv h' t' e D' => hR2 v tv h' t' (by decide) e D'
  rcases List.mem_cons.mp hx with rfl | hx
  · exact c_noeT w h₀ h g d t os mk omk tc _ KX D (by decide) R fun v tv h' t' e D' => hR2 v tv h' t' (by decide) e D'
  rcases List.mem_cons.mp hx with rfl | hx
  · exact c_noeT w h₀ h g d t os mk omk tc _ KX D (by decide) R fun v tv h' t' e D' => hR2 v tv h' t' (by decide) e D'
  rcases List.mem_cons.mp hx with rfl | hx
  · exact c_noeT w h₀ h g d t os mk omk tc _ KX D (by decide) R fun v tv h' t' e D' => hR2 v tv h' t' (by decide) e D'
  rcases List.mem_cons.mp hx with rfl | hx
  · exact c_noeT w h₀ h g d t os mk omk tc _ KX D (by decide) R fun v tv h' t' e D' => hR2 v tv h' t' (by decide) e D'
  rcases List.mem_cons.mp hx with rfl | hx
  · exact c_noeT w h₀ h g d t os mk omk tc _ KX D (by decide) R fun v tv h' t' e D' => hR2 v tv h' t' (by decide) e D'
  · exact nomatch hx
end Mine
end
section
open PySem PySem.W PySem.W.X PyProof.Rows
namespace Mine
set_option maxRecDepth 5000
set_option maxHeartbeats 0

open Lean Meta Elab Tactic PySem.W.XRun in
theorem c_right (w : PySem.World) (h₀ h : Heap) (g : Array GenState) (d : Drawn) (t : Nat) (os : OsState) (mk : Addr) (omk : Obj) (feed cells : Addr) (turn : Int) (tt : Tok) (items : Array Value) (en em : Nat)
    (KX : (KH w.params).In h₀) (D : Mem h₀ h [] [(mk, omk), (feed, feedO cells turn tt en), (cells, cellsO items em)])
    (ht : 0 ≤ turn) (ht2 : turn < 900) (hi : items.size ≤ 63) (hall : ∀ i, i < items.size → ∃ z tk, items[i]? = some (.int z tk))
    (R : Result → Shared → Prop) (hR : ∀ b turn' tt' h' t', b = true → Mem h₀ h' [] [(mk, omk), (feed, feedO cells turn' tt' en), (cells, cellsO items em)] → R (.ok (.ret (.bool b))) ⟨h', g, d, t', os⟩) :
    codeAny (model PR w) { handled := none, depth := 600, units := 7000 } (.call (.ref 416) ⟨[.ref feed], []⟩) R ⟨h, g, d, t, os⟩ := by
  run_tac do
    let t0 ← IO.monoMsNow
    driveMain 3000 (fun k => if k == "374" then some (useCtr ``c_next) else if k == "51" then some (useCtr ``c_codes0) else if k == "65" then some (useCtr ``c_coe) else if k == "58" then some (fun b st g => do
      let g ← (do match ← strArgs g with | some (g, _) => pure g | none => pure g)
      let args := listItemsE (← instantiateMVars (← g.getType)).consumeMData.getAppArgs[2]!.appArg!.getAppArgs[0]!
      let isT ← g.withContext do
        let x := args[0]!.appFn!.appArg!
        for dd in ← getLCtx do
          if dd.isImplementationDetail then continue
          let ty := (← instantiateMVars dd.type).consumeMData
          if ty.isAppOf ``Membership.mem && ty.appArg! == x then return true
        return false
      if isT then useCtr ``c_noeA b st g else useCtr ``c_noe0 b st g) else hooks2 k) (endBy `hR)
    let t1 ← IO.monoMsNow
    Lean.logInfo m!"ms {t1 - t0}"
end Mine
end
section
open PySem PySem.W PySem.W.X PyProof.Rows
namespace Mine
set_option maxRecDepth 5000
set_option maxHeartbeats 0

theorem c_line (w : PySem.World) (h₀ h : Heap) (g : Array GenState) (d : Drawn) (t : Nat) (os : OsState) (mk : Addr) (omk : Obj) (r0 r1 r2 r3 r4 r5 places rowsL flat flatD : Addr) (rt0 rt1 rt2 rt3 rt4 rt5 pt0 pt1 pt2 pu0 pu1 pu2 : Tok) (ph0 ph1 ph2 : Int) (rv0 rv1 rv2 rv3 rv4 rv5 : Value) (re0 re1 re2 re3 re4 re5 pep rowse : Nat) (fh0 fh1 fh2 fh3 fh4 fh5 : Int) (ft0 ft1 ft2 ft3 ft4 ft5 : Tok) (fv2 fv3 fv4 fv5 : Value) (fep : Nat) (e : Addr) (row : Int) (tr : Tok)
    (KX : (KH w.params).In h₀) (D : Mem h₀ h [] [(mk, omk), (r5, ⟨.type "tuple", none, .seq #[.int 30 rt5, rv5] re5, #[]⟩), (r4, ⟨.type "tuple", none, .seq #[.int 30 rt4, rv4] re4, #[]⟩), (r3, ⟨.type "tuple", none, .seq #[.int 20 rt3, rv3] re3, #[]⟩), (r2, ⟨.type "tuple", none, .seq #[.int 20 rt2, rv2] re2, #[]⟩), (r1, ⟨.type "tuple", none, .seq #[.int 10 rt1, rv1] re1, #[]⟩), (r0, ⟨.type "tuple", none, .seq #[.int 10 rt0, rv0] re0, #[]⟩), (rowsL, ⟨.type "list", none, .seq #[.ref r0, .ref r1, .ref r2, .ref r3, .ref r4, .ref r5] rowse, #[]⟩), (flat, ⟨.ref 145, some flatD, .plain, #[]⟩), (flatD, ⟨.type "dict", none, .dict #[⟨fh0, .str ⟨#[114, 111, 119, 115]⟩ ft0, .ref rowsL⟩, ⟨fh1, .str ⟨#[112, 108, 97, 99, 101, 115]⟩ ft1, .ref places⟩, ⟨fh2, .str ⟨#[100, 97, 116, 97]⟩ ft2, fv2⟩, ⟨fh3, .str ⟨#[112, 97, 105, 114, 115]⟩ ft3, fv3⟩, ⟨fh4, .str ⟨#[108, 111, 111, 112, 115]⟩ ft4, fv4⟩, ⟨fh5, .str ⟨#[102, 110, 115]⟩ ft5, fv5⟩] fep, #[]⟩)])
    (h1 : 0 ≤ row) (h2 : row < 6)
    (R : Result → Shared → Prop) (hR : ∀ v tv h' t', v = 10 + 10 * (row / 2) → Mem h₀ h' [] [(mk, omk), (r5, ⟨.type "tuple", none, .seq #[.int 30 rt5, rv5] re5, #[]⟩), (r4, ⟨.type "tuple", none, .seq #[.int 30 rt4, rv4] re4, #[]⟩), (r3, ⟨.type "tuple", none, .seq #[.int 20 rt3, rv3] re3, #[]⟩), (r2, ⟨.type "tuple", none, .seq #[.int 20 rt2, rv2] re2, #[]⟩), (r1, ⟨.type "tuple", none, .seq #[.int 10 rt1, rv1] re1, #[]⟩), (r0, ⟨.type "tuple", none, .seq #[.int 10 rt0, rv0] re0, #[]⟩), (rowsL, ⟨.type "list", none, .seq #[.ref r0, .ref r1, .ref r2, .ref r3, .ref r4, .ref r5] rowse, #[]⟩), (flat, ⟨.ref 145, some flatD, .plain, #[]⟩), (flatD, ⟨.type "dict", none, .dict #[⟨fh0, .str ⟨#[114, 111, 119, 115]⟩ ft0, .ref rowsL⟩, ⟨fh1, .str ⟨#[112, 108, 97, 99, 101, 115]⟩ ft1, .ref places⟩, ⟨fh2, .str ⟨#[100, 97, 116, 97]⟩ ft2, fv2⟩, ⟨fh3, .str ⟨#[112, 97, 105, 114, 115]⟩ ft3, fv3⟩, ⟨fh4, .str ⟨#[108, 111, 111, 112, 115]⟩ ft4, fv4⟩, ⟨fh5, .str ⟨#[102, 110, 115]⟩ ft5, fv5⟩] fep, #[]⟩)] → R (.ok (.ret (.int v tv))) ⟨h', g, d, t', os⟩) :
    codeAny (model PR w) { handled := some (.ref e), depth := 800, units := 9000 } (.call (.ref 212) ⟨[.ref flat, .int row tr], []⟩) R ⟨h, g, d, t, os⟩ := by
  run_tac do
    let t0 ← IO.monoMsNow
    driveMain 600 hooks2 (endBy `hR)
    let t1 ← IO.monoMsNow
    Lean.logInfo m!"ms {t1 - t0}"
theorem c_place (w : PySem.World) (h₀ h : Heap) (g : Array GenState) (d : Drawn) (t : Nat) (os : OsState) (mk : Addr) (omk : Obj) (r0 r1 r2 r3 r4 r5 places rowsL flat flatD : Addr) (rt0 rt1 rt2 rt3 rt4 rt5 pt0 pt1 pt2 pu0 pu1 pu2 : Tok) (ph0 ph1 ph2 : Int) (rv0 rv1 rv2 rv3 rv4 rv5 : Value) (re0 re1 re2 re3 re4 re5 pep rowse : Nat) (fh0 fh1 fh2 fh3 fh4 fh5 : Int) (ft0 ft1 ft2 ft3 ft4 ft5 : Tok) (fv2 fv3 fv4 fv5 : Value) (fep : Nat) (e : Addr) (e0 : ph0 = 10) (e1 : ph1 = 20) (e2 : ph2 = 30) (row : Int) (tr : Tok)
    (KX : (KH w.params).In h₀) (D : Mem h₀ h [] [(mk, omk), (places, ⟨.type "dict", none, .dict #[⟨ph0, .int 10 pt0, .int 0 pu0⟩, ⟨ph1, .int 20 pt1, .int 2 pu1⟩, ⟨ph2, .int 30 pt2, .int 4 pu2⟩] pep, #[]⟩), (flat, ⟨.ref 145, some flatD, .plain, #[]⟩), (flatD, ⟨.type "dict", none, .dict #[⟨fh0, .str ⟨#[114, 111, 119, 115]⟩ ft0, .ref rowsL⟩, ⟨fh1, .str ⟨#[112, 108, 97, 99, 101, 115]⟩ ft1, .ref places⟩, ⟨fh2, .str ⟨#[100, 97, 116, 97]⟩ ft2, fv2⟩, ⟨fh3, .str ⟨#[112, 97, 105, 114, 115]⟩ ft3, fv3⟩, ⟨fh4, .str ⟨#[108, 111, 111, 112, 115]⟩ ft4, fv4⟩, ⟨fh5, .str ⟨#[102, 110, 115]⟩ ft5, fv5⟩] fep, #[]⟩)])
    (h1 : row = 10 ∨ row = 20 ∨ row = 30)
    (R : Result → Shared → Prop) (hR : ∀ v tv h' t', v = row / 5 - 2 → Mem h₀ h' [] [(mk, omk), (places, ⟨.type "dict", none, .dict #[⟨ph0, .int 10 pt0, .int 0 pu0⟩, ⟨ph1, .int 20 pt1, .int 2 pu1⟩, ⟨ph2, .int 30 pt2, .int 4 pu2⟩] pep, #[]⟩), (flat, ⟨.ref 145, some flatD, .plain, #[]⟩), (flatD, ⟨.type "dict", none, .dict #[⟨fh0, .str ⟨#[114, 111, 119, 115]⟩ ft0, .ref rowsL⟩, ⟨fh1, .str ⟨#[112, 108, 97, 99, 101, 115]⟩ ft1, .ref places⟩, ⟨fh2, .str ⟨#[100, 97, 116, 97]⟩ ft2, fv2⟩, ⟨fh3, .str ⟨#[112, 97, 105, 114, 115]⟩ ft3, fv3⟩, ⟨fh4, .str ⟨#[108, 111, 111, 112, 115]⟩ ft4, fv4⟩, ⟨fh5, .str ⟨#[102, 110, 115]⟩ ft5, fv5⟩] fep, #[]⟩)] → R (.ok (.ret (.int v tv))) ⟨h', g, d, t', os⟩) :
    codeAny (model PR w) { handled := some (.ref e), depth := 800, units := 9000 } (.call (.ref 205) ⟨[.ref flat, .int row tr], []⟩) R ⟨h, g, d, t, os⟩ := by
  subst e0 e1 e2
  rcases h1 with rfl | rfl | rfl
  all_goals run_tac do
    let t0 ← IO.monoMsNow
    driveMain 600 hooks2 (endBy `hR)
    let t1 ← IO.monoMsNow
    Lean.logInfo m!"ms {t1 - t0}"
end Mine
end
section
open PySem PySem.W PySem.W.X PyProof.Rows
namespace Mine
set_option maxRecDepth 5000
set_option maxHeartbeats 0

theorem c_exc1 (w : PySem.World) (h₀ h : Heap) (g : Array GenState) (d : Drawn) (t : Nat) (os : OsState) (mk : Addr) (omk : Obj) (cd : Str) (tc : Tok) 
    (KX : (KH w.params).In h₀) (D : Mem h₀ h [] [(mk, omk)])
    (R : Result → Shared → Prop) (hR : ∀ e ed ar eh0 eh1 et0 et1 et2 et3 et4 eep h' t', Mem h₀ h' [] [(ed, ⟨.type "dict", none, .dict #[⟨eh0, .str ⟨#[99, 111, 100, 101]⟩ et0, .str cd et1⟩, ⟨eh1, .str ⟨#[116, 111, 108, 100]⟩ et2, .str (⟨#[]⟩) et3⟩] eep, #[]⟩), (ar, ⟨.type "tuple", none, .seq #[.str cd et4] 0, #[]⟩), (e, ⟨.ref 41, some ed, .fields #[.ref ar, .none, .none, .none, .bool false, .none], #[]⟩), (mk, omk)] → R (.ok (.ret (.ref e))) ⟨h', g, d, t', os⟩) :
    codeAny (model PR w) { handled := none, depth := 800, units := 9000 } (.call (.ref 41) ⟨[.str cd tc], []⟩) R ⟨h, g, d, t, os⟩ := by
  run_tac do
    let t0 ← IO.monoMsNow
    driveMain 600 hooks2 (endBy `hR)
    let t1 ← IO.monoMsNow
    Lean.logInfo m!"ms {t1 - t0}"

theorem c_exc2 (w : PySem.World) (h₀ h : Heap) (g : Array GenState) (d : Drawn) (t : Nat) (os : OsState) (mk : Addr) (omk : Obj) (cd : Str) (tc : Tok) (td : Str) (tt : Tok)
    (KX : (KH w.params).In h₀) (D : Mem h₀ h [] [(mk, omk)])
    (R : Result → Shared → Prop) (hR : ∀ e ed ar eh0 eh1 et0 et1 et2 et3 et4 eep h' t', Mem h₀ h' [] [(ed, ⟨.type "dict", none, .dict #[⟨eh0, .str ⟨#[99, 111, 100, 101]⟩ et0, .str cd et1⟩, ⟨eh1, .str ⟨#[116, 111, 108, 100]⟩ et2, .str td et3⟩] eep, #[]⟩), (ar, ⟨.type "tuple", none, .seq #[.str cd et4] 0, #[]⟩), (e, ⟨.ref 41, some ed, .fields #[.ref ar, .none, .none, .none, .bool false, .none], #[]⟩), (mk, omk)] → R (.ok (.ret (.ref e))) ⟨h', g, d, t', os⟩) :
    codeAny (model PR w) { handled := none, depth := 800, units := 9000 } (.call (.ref 41) ⟨[.str cd tc, .str td tt], []⟩) R ⟨h, g, d, t, os⟩ := by
  run_tac do
    let t0 ← IO.monoMsNow
    driveMain 600 hooks2 (endBy `hR)
    let t1 ← IO.monoMsNow
    Lean.logInfo m!"ms {t1 - t0}"
end Mine
end
section
open PySem PySem.W PySem.W.X PyProof.Rows
namespace Mine
set_option maxRecDepth 5000
set_option maxHeartbeats 0

theorem due0 (w : PySem.World) (h₀ h : Heap) (g : Array GenState) (d : Drawn) (t : Nat) (os : OsState) (mk : Addr) (omk : Obj) (told : Addr) (qh0 qh1 qh2 qh3 qh4 qh5 qh6 : Int) (qt0 qt1 qt2 qt3 qt4 qt5 qt6 : Tok) (qep : Nat) (th tnum tl tr ts tm : Int) (ton : Bool) (qu0 qu2 qu3 qu4 qu5 qu6 : Tok) (kd at' : Int) (tk ta : Tok) (n fault : Int) (tn : Tok)
    (KX : (KH w.params).In h₀) (D : Mem h₀ h [] [(mk, omk), (told, ⟨.type "dict", none, .dict #[⟨qh0, .str ⟨#[104, 97, 110, 100, 108, 101, 114]⟩ qt0, .int th qu0⟩, ⟨qh1, .str ⟨#[111, 110]⟩ qt1, .bool ton⟩, ⟨qh2, .str ⟨#[110, 117, 109, 98, 101, 114]⟩ qt2, .int tnum qu2⟩, ⟨qh3, .str ⟨#[108, 105, 110, 101]⟩ qt3, .int tl qu3⟩, ⟨qh4, .str ⟨#[114, 111, 119]⟩ qt4, .int tr qu4⟩, ⟨qh5, .str ⟨#[115, 116, 101, 112, 115]⟩ qt5, .int ts qu5⟩, ⟨qh6, .str ⟨#[109, 111, 115, 116]⟩ qt6, .int tm qu6⟩] qep, #[]⟩)])
    (hkd : kd = 0) (hat : 0 ≤ at') (hat' : at' < 6) (hh : th = 0 ∨ th = 10 ∨ th = 20 ∨ th = 30) (hf : (1 ≤ n ∧ n ≤ 255 ∧ fault = n) ∨ ((n < 1 ∨ 255 < n) ∧ fault = 5))
    (R : Result → Shared → Prop)
    (hL : ∀ v tv l' lt r' rt nu' nt qep' h' t', ton = false → th ≠ 0 → v = th / 5 - 2 → l' = 10 + 10 * (at' / 2) → nu' = fault → r' = at' → Mem h₀ h' [] [(mk, omk), (told, ⟨.type "dict", none, .dict #[⟨qh0, .str ⟨#[104, 97, 110, 100, 108, 101, 114]⟩ qt0, .int th qu0⟩, ⟨qh1, .str ⟨#[111, 110]⟩ qt1, .bool true⟩, ⟨qh2, .str ⟨#[110, 117, 109, 98, 101, 114]⟩ qt2, .int nu' nt⟩, ⟨qh3, .str ⟨#[108, 105, 110, 101]⟩ qt3, .int l' lt⟩, ⟨qh4, .str ⟨#[114, 111, 119]⟩ qt4, .int r' rt⟩, ⟨qh5, .str ⟨#[115, 116, 101, 112, 115]⟩ qt5, .int ts qu5⟩, ⟨qh6, .str ⟨#[109, 111, 115, 116]⟩ qt6, .int tm qu6⟩] qep', #[]⟩)] → R (.ok (.ret (.int v tv))) ⟨h', g, d, t', os⟩)
    (hO : ∀ tp tq v tv h' t', (th = 0 ∨ ton = true) → v = fault → Mem h₀ h' [] [(tp, ⟨.type "tuple", none, .seq #[.str ⟨#[111, 117, 116]⟩ tq, .int v tv] 0, #[]⟩), (mk, omk), (told, ⟨.type "dict", none, .dict #[⟨qh0, .str ⟨#[104, 97, 110, 100, 108, 101, 114]⟩ qt0, .int th qu0⟩, ⟨qh1, .str ⟨#[111, 110]⟩ qt1, .bool ton⟩, ⟨qh2, .str ⟨#[110, 117, 109, 98, 101, 114]⟩ qt2, .int tnum qu2⟩, ⟨qh3, .str ⟨#[108, 105, 110, 101]⟩ qt3, .int tl qu3⟩, ⟨qh4, .str ⟨#[114, 111, 119]⟩ qt4, .int tr qu4⟩, ⟨qh5, .str ⟨#[115, 116, 101, 112, 115]⟩ qt5, .int ts qu5⟩, ⟨qh6, .str ⟨#[109, 111, 115, 116]⟩ qt6, .int tm qu6⟩] qep, #[]⟩)] → R (.ok (.ret (.ref tp))) ⟨h', g, d, t', os⟩) :
    codeAny (model PR w) { handled := none, depth := 340, units := 3000 } (.call (.ref 409) ⟨[.ref told, .int at' ta, .int kd tk, .int n tn], []⟩) R ⟨h, g, d, t, os⟩ := by
  subst hkd
  run_tac do
    let t0 ← IO.monoMsNow
    driveMain 3000 hooks2 (endBys [`hL, `hO])
    let t1 ← IO.monoMsNow
    Lean.logInfo m!"ms {t1 - t0}"

theorem due2 (w : PySem.World) (h₀ h : Heap) (g : Array GenState) (d : Drawn) (t : Nat) (os : OsState) (mk : Addr) (omk : Obj) (told : Addr) (qh0 qh1 qh2 qh3 qh4 qh5 qh6 : Int) (qt0 qt1 qt2 qt3 qt4 qt5 qt6 : Tok) (qep : Nat) (th tnum tl tr ts tm : Int) (ton : Bool) (qu0 qu2 qu3 qu4 qu5 qu6 : Tok) (kd at' : Int) (tk ta : Tok) (n : Int) (tn : Tok)
    (KX : (KH w.params).In h₀) (D : Mem h₀ h [] [(mk, omk), (told, ⟨.type "dict", none, .dict #[⟨qh0, .str ⟨#[104, 97, 110, 100, 108, 101, 114]⟩ qt0, .int th qu0⟩, ⟨qh1, .str ⟨#[111, 110]⟩ qt1, .bool ton⟩, ⟨qh2, .str ⟨#[110, 117, 109, 98, 101, 114]⟩ qt2, .int tnum qu2⟩, ⟨qh3, .str ⟨#[108, 105, 110, 101]⟩ qt3, .int tl qu3⟩, ⟨qh4, .str ⟨#[114, 111, 119]⟩ qt4, .int tr qu4⟩, ⟨qh5, .str ⟨#[115, 116, 101, 112, 115]⟩ qt5, .int ts qu5⟩, ⟨qh6, .str ⟨#[109, 111, 115, 116]⟩ qt6, .int tm qu6⟩] qep, #[]⟩)])
    (hkd : kd = 2) (hat : 0 ≤ at') (hat' : at' < 6) (hn : n = 0 ∨ n = 10 ∨ n = 20 ∨ n = 30) (hon : ton = true → 1 ≤ tnum)
    (R : Result → Shared → Prop)
    (hD : ∀ sv th' tht qep' h' t', (n ≠ 0 ∨ ton = false) → th' = n → Mem h₀ h' [] [(mk, omk), (told, ⟨.type "dict", none, .dict #[⟨qh0, .str ⟨#[104, 97, 110, 100, 108, 101, 114]⟩ qt0, .int th' tht⟩, ⟨qh1, .str ⟨#[111, 110]⟩ qt1, .bool ton⟩, ⟨qh2, .str ⟨#[110, 117, 109, 98, 101, 114]⟩ qt2, .int tnum qu2⟩, ⟨qh3, .str ⟨#[108, 105, 110, 101]⟩ qt3, .int tl qu3⟩, ⟨qh4, .str ⟨#[114, 111, 119]⟩ qt4, .int tr qu4⟩, ⟨qh5, .str ⟨#[115, 116, 101, 112, 115]⟩ qt5, .int ts qu5⟩, ⟨qh6, .str ⟨#[109, 111, 115, 116]⟩ qt6, .int tm qu6⟩] qep', #[]⟩)] → R (.ok (.ret (.str ⟨#[100, 111, 110, 101]⟩ sv))) ⟨h', g, d, t', os⟩)
    (hO : ∀ tp tq v tv th' tht qep' h' t', n = 0 → ton = true → v = tnum → th' = n → Mem h₀ h' [] [(tp, ⟨.type "tuple", none, .seq #[.str ⟨#[111, 117, 116]⟩ tq, .int v tv] 0, #[]⟩), (mk, omk), (told, ⟨.type "dict", none, .dict #[⟨qh0, .str ⟨#[104, 97, 110, 100, 108, 101, 114]⟩ qt0, .int th' tht⟩, ⟨qh1, .str ⟨#[111, 110]⟩ qt1, .bool ton⟩, ⟨qh2, .str ⟨#[110, 117, 109, 98, 101, 114]⟩ qt2, .int tnum qu2⟩, ⟨qh3, .str ⟨#[108, 105, 110, 101]⟩ qt3, .int tl qu3⟩, ⟨qh4, .str ⟨#[114, 111, 119]⟩ qt4, .int tr qu4⟩, ⟨qh5, .str ⟨#[115, 116, 101, 112, 115]⟩ qt5, .int ts qu5⟩, ⟨qh6, .str ⟨#[109, 111, 115, 116]⟩ qt6, .int tm qu6⟩] qep', #[]⟩)] → R (.ok (.ret (.ref tp))) ⟨h', g, d, t', os⟩) :
    codeAny (model PR w) { handled := none, depth := 340, units := 3000 } (.call (.ref 409) ⟨[.ref told, .int at' ta, .int kd tk, .int n tn], []⟩) R ⟨h, g, d, t, os⟩ := by
  subst hkd
  cases ton <;> simp only [Bool.true_eq_false, Bool.false_eq_true, false_implies, true_implies] at hon
  all_goals run_tac do
    let t0 ← IO.monoMsNow
    driveMain 3000 hooks2 (endBys [`hD, `hO])
    let t1 ← IO.monoMsNow
    Lean.logInfo m!"ms {t1 - t0}"

theorem due3 (w : PySem.World) (h₀ h : Heap) (g : Array GenState) (d : Drawn) (t : Nat) (os : OsState) (mk : Addr) (omk : Obj) (told : Addr) (qh0 qh1 qh2 qh3 qh4 qh5 qh6 : Int) (qt0 qt1 qt2 qt3 qt4 qt5 qt6 : Tok) (qep : Nat) (th tnum tl tr ts tm : Int) (ton : Bool) (qu0 qu2 qu3 qu4 qu5 qu6 : Tok) (kd at' : Int) (tk ta : Tok) (n : Int) (tn : Tok)
    (KX : (KH w.params).In h₀) (D : Mem h₀ h [] [(mk, omk), (told, ⟨.type "dict", none, .dict #[⟨qh0, .str ⟨#[104, 97, 110, 100, 108, 101, 114]⟩ qt0, .int th qu0⟩, ⟨qh1, .str ⟨#[111, 110]⟩ qt1, .bool ton⟩, ⟨qh2, .str ⟨#[110, 117, 109, 98, 101, 114]⟩ qt2, .int tnum qu2⟩, ⟨qh3, .str ⟨#[108, 105, 110, 101]⟩ qt3, .int tl qu3⟩, ⟨qh4, .str ⟨#[114, 111, 119]⟩ qt4, .int tr qu4⟩, ⟨qh5, .str ⟨#[115, 116, 101, 112, 115]⟩ qt5, .int ts qu5⟩, ⟨qh6, .str ⟨#[109, 111, 115, 116]⟩ qt6, .int tm qu6⟩] qep, #[]⟩)])
    (hkd : kd = 3) (hat : 0 ≤ at') (hat' : at' < 6) 
    (R : Result → Shared → Prop)
    (hD : ∀ sv ts' tst qep' h' t', ts + 1 ≤ tm → ts' = ts + 1 → Mem h₀ h' [] [(mk, omk), (told, ⟨.type "dict", none, .dict #[⟨qh0, .str ⟨#[104, 97, 110, 100, 108, 101, 114]⟩ qt0, .int th qu0⟩, ⟨qh1, .str ⟨#[111, 110]⟩ qt1, .bool ton⟩, ⟨qh2, .str ⟨#[110, 117, 109, 98, 101, 114]⟩ qt2, .int tnum qu2⟩, ⟨qh3, .str ⟨#[108, 105, 110, 101]⟩ qt3, .int tl qu3⟩, ⟨qh4, .str ⟨#[114, 111, 119]⟩ qt4, .int tr qu4⟩, ⟨qh5, .str ⟨#[115, 116, 101, 112, 115]⟩ qt5, .int ts' tst⟩, ⟨qh6, .str ⟨#[109, 111, 115, 116]⟩ qt6, .int tm qu6⟩] qep', #[]⟩)] → R (.ok (.ret (.str ⟨#[100, 111, 110, 101]⟩ sv))) ⟨h', g, d, t', os⟩)
    (hO : ∀ tp tq v tv ts' tst qep' h' t', tm < ts + 1 → v = 16 → ts' = ts + 1 → Mem h₀ h' [] [(tp, ⟨.type "tuple", none, .seq #[.str ⟨#[111, 117, 116]⟩ tq, .int v tv] 0, #[]⟩), (mk, omk), (told, ⟨.type "dict", none, .dict #[⟨qh0, .str ⟨#[104, 97, 110, 100, 108, 101, 114]⟩ qt0, .int th qu0⟩, ⟨qh1, .str ⟨#[111, 110]⟩ qt1, .bool ton⟩, ⟨qh2, .str ⟨#[110, 117, 109, 98, 101, 114]⟩ qt2, .int tnum qu2⟩, ⟨qh3, .str ⟨#[108, 105, 110, 101]⟩ qt3, .int tl qu3⟩, ⟨qh4, .str ⟨#[114, 111, 119]⟩ qt4, .int tr qu4⟩, ⟨qh5, .str ⟨#[115, 116, 101, 112, 115]⟩ qt5, .int ts' tst⟩, ⟨qh6, .str ⟨#[109, 111, 115, 116]⟩ qt6, .int tm qu6⟩] qep', #[]⟩)] → R (.ok (.ret (.ref tp))) ⟨h', g, d, t', os⟩) :
    codeAny (model PR w) { handled := none, depth := 340, units := 3000 } (.call (.ref 409) ⟨[.ref told, .int at' ta, .int kd tk, .int n tn], []⟩) R ⟨h, g, d, t, os⟩ := by
  subst hkd
  run_tac do
    let t0 ← IO.monoMsNow
    driveMain 3000 hooks2 (endBys [`hD, `hO])
    let t1 ← IO.monoMsNow
    Lean.logInfo m!"ms {t1 - t0}"

theorem due4a (w : PySem.World) (h₀ h : Heap) (g : Array GenState) (d : Drawn) (t : Nat) (os : OsState) (mk : Addr) (omk : Obj) (told : Addr) (qh0 qh1 qh2 qh3 qh4 qh5 qh6 : Int) (qt0 qt1 qt2 qt3 qt4 qt5 qt6 : Tok) (qep : Nat) (th tnum tl tr ts tm : Int) (ton : Bool) (qu0 qu2 qu3 qu4 qu5 qu6 : Tok) (kd at' : Int) (tk ta : Tok) (n : Int) (tn : Tok)
    (KX : (KH w.params).In h₀) (D : Mem h₀ h [] [(mk, omk), (told, ⟨.type "dict", none, .dict #[⟨qh0, .str ⟨#[104, 97, 110, 100, 108, 101, 114]⟩ qt0, .int th qu0⟩, ⟨qh1, .str ⟨#[111, 110]⟩ qt1, .bool ton⟩, ⟨qh2, .str ⟨#[110, 117, 109, 98, 101, 114]⟩ qt2, .int tnum qu2⟩, ⟨qh3, .str ⟨#[108, 105, 110, 101]⟩ qt3, .int tl qu3⟩, ⟨qh4, .str ⟨#[114, 111, 119]⟩ qt4, .int tr qu4⟩, ⟨qh5, .str ⟨#[115, 116, 101, 112, 115]⟩ qt5, .int ts qu5⟩, ⟨qh6, .str ⟨#[109, 111, 115, 116]⟩ qt6, .int tm qu6⟩] qep, #[]⟩)])
    (hkd : kd = 4) (hat : 0 ≤ at') (hat' : at' < 6) (hh : th = 0 ∨ th = 10 ∨ th = 20 ∨ th = 30) (hn : n = 30)
    (R : Result → Shared → Prop)
    (hL : ∀ v tv l' lt r' rt nu' nt qep' h' t', ton = false → th ≠ 0 → v = th / 5 - 2 → l' = 10 + 10 * (at' / 2) → nu' = 20 → r' = at' → Mem h₀ h' [] [(mk, omk), (told, ⟨.type "dict", none, .dict #[⟨qh0, .str ⟨#[104, 97, 110, 100, 108, 101, 114]⟩ qt0, .int th qu0⟩, ⟨qh1, .str ⟨#[111, 110]⟩ qt1, .bool true⟩, ⟨qh2, .str ⟨#[110, 117, 109, 98, 101, 114]⟩ qt2, .int nu' nt⟩, ⟨qh3, .str ⟨#[108, 105, 110, 101]⟩ qt3, .int l' lt⟩, ⟨qh4, .str ⟨#[114, 111, 119]⟩ qt4, .int r' rt⟩, ⟨qh5, .str ⟨#[115, 116, 101, 112, 115]⟩ qt5, .int ts qu5⟩, ⟨qh6, .str ⟨#[109, 111, 115, 116]⟩ qt6, .int tm qu6⟩] qep', #[]⟩)] → R (.ok (.ret (.int v tv))) ⟨h', g, d, t', os⟩)
    (hO : ∀ tp tq v tv h' t', th = 0 → ton = false → v = 20 → Mem h₀ h' [] [(tp, ⟨.type "tuple", none, .seq #[.str ⟨#[111, 117, 116]⟩ tq, .int v tv] 0, #[]⟩), (mk, omk), (told, ⟨.type "dict", none, .dict #[⟨qh0, .str ⟨#[104, 97, 110, 100, 108, 101, 114]⟩ qt0, .int th qu0⟩, ⟨qh1, .str ⟨#[111, 110]⟩ qt1, .bool ton⟩, ⟨qh2, .str ⟨#[110, 117, 109, 98, 101, 114]⟩ qt2, .int tnum qu2⟩, ⟨qh3, .str ⟨#[108, 105, 110, 101]⟩ qt3, .int tl qu3⟩, ⟨qh4, .str ⟨#[114, 111, 119]⟩ qt4, .int tr qu4⟩, ⟨qh5, .str ⟨#[115, 116, 101, 112, 115]⟩ qt5, .int ts qu5⟩, ⟨qh6, .str ⟨#[109, 111, 115, 116]⟩ qt6, .int tm qu6⟩] qep, #[]⟩)] → R (.ok (.ret (.ref tp))) ⟨h', g, d, t', os⟩)
    (hP : ∀ tp tq v tv qep' h' t', ton = true → v = 30 → Mem h₀ h' [] [(tp, ⟨.type "tuple", none, .seq #[.str ⟨#[108, 105, 110, 101]⟩ tq, .int v tv] 0, #[]⟩), (mk, omk), (told, ⟨.type "dict", none, .dict #[⟨qh0, .str ⟨#[104, 97, 110, 100, 108, 101, 114]⟩ qt0, .int th qu0⟩, ⟨qh1, .str ⟨#[111, 110]⟩ qt1, .bool false⟩, ⟨qh2, .str ⟨#[110, 117, 109, 98, 101, 114]⟩ qt2, .int tnum qu2⟩, ⟨qh3, .str ⟨#[108, 105, 110, 101]⟩ qt3, .int tl qu3⟩, ⟨qh4, .str ⟨#[114, 111, 119]⟩ qt4, .int tr qu4⟩, ⟨qh5, .str ⟨#[115, 116, 101, 112, 115]⟩ qt5, .int ts qu5⟩, ⟨qh6, .str ⟨#[109, 111, 115, 116]⟩ qt6, .int tm qu6⟩] qep', #[]⟩)] → R (.ok (.ret (.ref tp))) ⟨h', g, d, t', os⟩) :
    codeAny (model PR w) { handled := none, depth := 340, units := 3000 } (.call (.ref 409) ⟨[.ref told, .int at' ta, .int kd tk, .int n tn], []⟩) R ⟨h, g, d, t, os⟩ := by
  subst hkd
  run_tac do
    let t0 ← IO.monoMsNow
    driveMain 3000 hooks2 (endBys [`hL, `hO, `hP])
    let t1 ← IO.monoMsNow
    Lean.logInfo m!"ms {t1 - t0}"

theorem due4b (w : PySem.World) (h₀ h : Heap) (g : Array GenState) (d : Drawn) (t : Nat) (os : OsState) (mk : Addr) (omk : Obj) (told : Addr) (qh0 qh1 qh2 qh3 qh4 qh5 qh6 : Int) (qt0 qt1 qt2 qt3 qt4 qt5 qt6 : Tok) (qep : Nat) (th tnum tl tr ts tm : Int) (ton : Bool) (qu0 qu2 qu3 qu4 qu5 qu6 : Tok) (kd at' : Int) (tk ta : Tok) 
    (KX : (KH w.params).In h₀) (D : Mem h₀ h [] [(mk, omk), (told, ⟨.type "dict", none, .dict #[⟨qh0, .str ⟨#[104, 97, 110, 100, 108, 101, 114]⟩ qt0, .int th qu0⟩, ⟨qh1, .str ⟨#[111, 110]⟩ qt1, .bool ton⟩, ⟨qh2, .str ⟨#[110, 117, 109, 98, 101, 114]⟩ qt2, .int tnum qu2⟩, ⟨qh3, .str ⟨#[108, 105, 110, 101]⟩ qt3, .int tl qu3⟩, ⟨qh4, .str ⟨#[114, 111, 119]⟩ qt4, .int tr qu4⟩, ⟨qh5, .str ⟨#[115, 116, 101, 112, 115]⟩ qt5, .int ts qu5⟩, ⟨qh6, .str ⟨#[109, 111, 115, 116]⟩ qt6, .int tm qu6⟩] qep, #[]⟩)])
    (hkd : kd = 4) (hat : 0 ≤ at') (hat' : at' < 6) (hh : th = 0 ∨ th = 10 ∨ th = 20 ∨ th = 30)
    (R : Result → Shared → Prop)
    (hL : ∀ v tv l' lt r' rt nu' nt qep' h' t', ton = false → th ≠ 0 → v = th / 5 - 2 → l' = 10 + 10 * (at' / 2) → nu' = 20 → r' = at' → Mem h₀ h' [] [(mk, omk), (told, ⟨.type "dict", none, .dict #[⟨qh0, .str ⟨#[104, 97, 110, 100, 108, 101, 114]⟩ qt0, .int th qu0⟩, ⟨qh1, .str ⟨#[111, 110]⟩ qt1, .bool true⟩, ⟨qh2, .str ⟨#[110, 117, 109, 98, 101, 114]⟩ qt2, .int nu' nt⟩, ⟨qh3, .str ⟨#[108, 105, 110, 101]⟩ qt3, .int l' lt⟩, ⟨qh4, .str ⟨#[114, 111, 119]⟩ qt4, .int r' rt⟩, ⟨qh5, .str ⟨#[115, 116, 101, 112, 115]⟩ qt5, .int ts qu5⟩, ⟨qh6, .str ⟨#[109, 111, 115, 116]⟩ qt6, .int tm qu6⟩] qep', #[]⟩)] → R (.ok (.ret (.int v tv))) ⟨h', g, d, t', os⟩)
    (hO : ∀ tp tq v tv h' t', th = 0 → ton = false → v = 20 → Mem h₀ h' [] [(tp, ⟨.type "tuple", none, .seq #[.str ⟨#[111, 117, 116]⟩ tq, .int v tv] 0, #[]⟩), (mk, omk), (told, ⟨.type "dict", none, .dict #[⟨qh0, .str ⟨#[104, 97, 110, 100, 108, 101, 114]⟩ qt0, .int th qu0⟩, ⟨qh1, .str ⟨#[111, 110]⟩ qt1, .bool ton⟩, ⟨qh2, .str ⟨#[110, 117, 109, 98, 101, 114]⟩ qt2, .int tnum qu2⟩, ⟨qh3, .str ⟨#[108, 105, 110, 101]⟩ qt3, .int tl qu3⟩, ⟨qh4, .str ⟨#[114, 111, 119]⟩ qt4, .int tr qu4⟩, ⟨qh5, .str ⟨#[115, 116, 101, 112, 115]⟩ qt5, .int ts qu5⟩, ⟨qh6, .str ⟨#[109, 111, 115, 116]⟩ qt6, .int tm qu6⟩] qep, #[]⟩)] → R (.ok (.ret (.ref tp))) ⟨h', g, d, t', os⟩)
    (hP : ∀ tp tq v tv qep' h' t', ton = true → v = tr → Mem h₀ h' [] [(tp, ⟨.type "tuple", none, .seq #[.str ⟨#[112, 108, 97, 99, 101]⟩ tq, .int v tv] 0, #[]⟩), (mk, omk), (told, ⟨.type "dict", none, .dict #[⟨qh0, .str ⟨#[104, 97, 110, 100, 108, 101, 114]⟩ qt0, .int th qu0⟩, ⟨qh1, .str ⟨#[111, 110]⟩ qt1, .bool false⟩, ⟨qh2, .str ⟨#[110, 117, 109, 98, 101, 114]⟩ qt2, .int tnum qu2⟩, ⟨qh3, .str ⟨#[108, 105, 110, 101]⟩ qt3, .int tl qu3⟩, ⟨qh4, .str ⟨#[114, 111, 119]⟩ qt4, .int tr qu4⟩, ⟨qh5, .str ⟨#[115, 116, 101, 112, 115]⟩ qt5, .int ts qu5⟩, ⟨qh6, .str ⟨#[109, 111, 115, 116]⟩ qt6, .int tm qu6⟩] qep', #[]⟩)] → R (.ok (.ret (.ref tp))) ⟨h', g, d, t', os⟩) :
    codeAny (model PR w) { handled := none, depth := 340, units := 3000 } (.call (.ref 409) ⟨[.ref told, .int at' ta, .int kd tk, .none], []⟩) R ⟨h, g, d, t, os⟩ := by
  subst hkd
  run_tac do
    let t0 ← IO.monoMsNow
    driveMain 3000 hooks2 (endBys [`hL, `hO, `hP])
    let t1 ← IO.monoMsNow
    Lean.logInfo m!"ms {t1 - t0}"

theorem due4c (w : PySem.World) (h₀ h : Heap) (g : Array GenState) (d : Drawn) (t : Nat) (os : OsState) (mk : Addr) (omk : Obj) (told : Addr) (qh0 qh1 qh2 qh3 qh4 qh5 qh6 : Int) (qt0 qt1 qt2 qt3 qt4 qt5 qt6 : Tok) (qep : Nat) (th tnum tl tr ts tm : Int) (ton : Bool) (qu0 qu2 qu3 qu4 qu5 qu6 : Tok) (kd at' : Int) (tk ta : Tok) (tn : Tok)
    (KX : (KH w.params).In h₀) (D : Mem h₀ h [] [(mk, omk), (told, ⟨.type "dict", none, .dict #[⟨qh0, .str ⟨#[104, 97, 110, 100, 108, 101, 114]⟩ qt0, .int th qu0⟩, ⟨qh1, .str ⟨#[111, 110]⟩ qt1, .bool ton⟩, ⟨qh2, .str ⟨#[110, 117, 109, 98, 101, 114]⟩ qt2, .int tnum qu2⟩, ⟨qh3, .str ⟨#[108, 105, 110, 101]⟩ qt3, .int tl qu3⟩, ⟨qh4, .str ⟨#[114, 111, 119]⟩ qt4, .int tr qu4⟩, ⟨qh5, .str ⟨#[115, 116, 101, 112, 115]⟩ qt5, .int ts qu5⟩, ⟨qh6, .str ⟨#[109, 111, 115, 116]⟩ qt6, .int tm qu6⟩] qep, #[]⟩)])
    (hkd : kd = 4) (hat : 0 ≤ at') (hat' : at' < 6) (hh : th = 0 ∨ th = 10 ∨ th = 20 ∨ th = 30)
    (R : Result → Shared → Prop)
    (hL : ∀ v tv l' lt r' rt nu' nt qep' h' t', ton = false → th ≠ 0 → v = th / 5 - 2 → l' = 10 + 10 * (at' / 2) → nu' = 20 → r' = at' → Mem h₀ h' [] [(mk, omk), (told, ⟨.type "dict", none, .dict #[⟨qh0, .str ⟨#[104, 97, 110, 100, 108, 101, 114]⟩ qt0, .int th qu0⟩, ⟨qh1, .str ⟨#[111, 110]⟩ qt1, .bool true⟩, ⟨qh2, .str ⟨#[110, 117, 109, 98, 101, 114]⟩ qt2, .int nu' nt⟩, ⟨qh3, .str ⟨#[108, 105, 110, 101]⟩ qt3, .int l' lt⟩, ⟨qh4, .str ⟨#[114, 111, 119]⟩ qt4, .int r' rt⟩, ⟨qh5, .str ⟨#[115, 116, 101, 112, 115]⟩ qt5, .int ts qu5⟩, ⟨qh6, .str ⟨#[109, 111, 115, 116]⟩ qt6, .int tm qu6⟩] qep', #[]⟩)] → R (.ok (.ret (.int v tv))) ⟨h', g, d, t', os⟩)
    (hO : ∀ tp tq v tv h' t', th = 0 → ton = false → v = 20 → Mem h₀ h' [] [(tp, ⟨.type "tuple", none, .seq #[.str ⟨#[111, 117, 116]⟩ tq, .int v tv] 0, #[]⟩), (mk, omk), (told, ⟨.type "dict", none, .dict #[⟨qh0, .str ⟨#[104, 97, 110, 100, 108, 101, 114]⟩ qt0, .int th qu0⟩, ⟨qh1, .str ⟨#[111, 110]⟩ qt1, .bool ton⟩, ⟨qh2, .str ⟨#[110, 117, 109, 98, 101, 114]⟩ qt2, .int tnum qu2⟩, ⟨qh3, .str ⟨#[108, 105, 110, 101]⟩ qt3, .int tl qu3⟩, ⟨qh4, .str ⟨#[114, 111, 119]⟩ qt4, .int tr qu4⟩, ⟨qh5, .str ⟨#[115, 116, 101, 112, 115]⟩ qt5, .int ts qu5⟩, ⟨qh6, .str ⟨#[109, 111, 115, 116]⟩ qt6, .int tm qu6⟩] qep, #[]⟩)] → R (.ok (.ret (.ref tp))) ⟨h', g, d, t', os⟩)
    (hP : ∀ tp tq v tv qep' h' t', ton = true → v = tr + 1 → Mem h₀ h' [] [(tp, ⟨.type "tuple", none, .seq #[.str ⟨#[112, 108, 97, 99, 101]⟩ tq, .int v tv] 0, #[]⟩), (mk, omk), (told, ⟨.type "dict", none, .dict #[⟨qh0, .str ⟨#[104, 97, 110, 100, 108, 101, 114]⟩ qt0, .int th qu0⟩, ⟨qh1, .str ⟨#[111, 110]⟩ qt1, .bool false⟩, ⟨qh2, .str ⟨#[110, 117, 109, 98, 101, 114]⟩ qt2, .int tnum qu2⟩, ⟨qh3, .str ⟨#[108, 105, 110, 101]⟩ qt3, .int tl qu3⟩, ⟨qh4, .str ⟨#[114, 111, 119]⟩ qt4, .int tr qu4⟩, ⟨qh5, .str ⟨#[115, 116, 101, 112, 115]⟩ qt5, .int ts qu5⟩, ⟨qh6, .str ⟨#[109, 111, 115, 116]⟩ qt6, .int tm qu6⟩] qep', #[]⟩)] → R (.ok (.ret (.ref tp))) ⟨h', g, d, t', os⟩) :
    codeAny (model PR w) { handled := none, depth := 340, units := 3000 } (.call (.ref 409) ⟨[.ref told, .int at' ta, .int kd tk, .str ⟨#[78, 69, 88, 84]⟩ tn], []⟩) R ⟨h, g, d, t, os⟩ := by
  subst hkd
  run_tac do
    let t0 ← IO.monoMsNow
    driveMain 3000 hooks2 (endBys [`hL, `hO, `hP])
    let t1 ← IO.monoMsNow
    Lean.logInfo m!"ms {t1 - t0}"
end Mine
end
section
open PySem PySem.W PySem.W.X PyProof.Rows
namespace Mine
set_option maxRecDepth 5000
set_option maxHeartbeats 0

theorem dueAll (w : PySem.World) (h₀ h : Heap) (g : Array GenState) (d : Drawn) (t : Nat) (os : OsState) (mk : Addr) (omk : Obj) (told : Addr) (qh0 qh1 qh2 qh3 qh4 qh5 qh6 : Int) (qt0 qt1 qt2 qt3 qt4 qt5 qt6 : Tok) (qep : Nat) (th tnum tl tr ts tm : Int) (ton : Bool) (qu0 qu2 qu3 qu4 qu5 qu6 : Tok) (kd at' : Int) (tk ta : Tok) (nu : Nu) (nv : Value) (an : An) (th' tnum' tl' tr' ts' : Int) (ton' : Bool)
    (KX : (KH w.params).In h₀) (D : Mem h₀ h [] [(mk, omk), (told, ⟨.type "dict", none, .dict #[⟨qh0, .str ⟨#[104, 97, 110, 100, 108, 101, 114]⟩ qt0, .int th qu0⟩, ⟨qh1, .str ⟨#[111, 110]⟩ qt1, .bool ton⟩, ⟨qh2, .str ⟨#[110, 117, 109, 98, 101, 114]⟩ qt2, .int tnum qu2⟩, ⟨qh3, .str ⟨#[108, 105, 110, 101]⟩ qt3, .int tl qu3⟩, ⟨qh4, .str ⟨#[114, 111, 119]⟩ qt4, .int tr qu4⟩, ⟨qh5, .str ⟨#[115, 116, 101, 112, 115]⟩ qt5, .int ts qu5⟩, ⟨qh6, .str ⟨#[109, 111, 115, 116]⟩ qt6, .int tm qu6⟩] qep, #[]⟩)])
    (hs : spec tm at' ⟨th, ton, tnum, tl, tr, ts⟩ kd nu = (an, ⟨th', ton', tnum', tl', tr', ts'⟩))
    (hnv : NuV nu nv) (hdr : Drew kd nu) (hat : 0 ≤ at') (hat' : at' < 6) (hinv : Inv ⟨th, ton, tnum, tl, tr, ts⟩)
    (R : Result → Shared → Prop)
    (hD : ∀ sv tht nt lt rt tst qep' h' t', an = .done → Mem h₀ h' [] [(mk, omk), (told, ⟨.type "dict", none, .dict #[⟨qh0, .str ⟨#[104, 97, 110, 100, 108, 101, 114]⟩ qt0, .int th' tht⟩, ⟨qh1, .str ⟨#[111, 110]⟩ qt1, .bool ton'⟩, ⟨qh2, .str ⟨#[110, 117, 109, 98, 101, 114]⟩ qt2, .int tnum' nt⟩, ⟨qh3, .str ⟨#[108, 105, 110, 101]⟩ qt3, .int tl' lt⟩, ⟨qh4, .str ⟨#[114, 111, 119]⟩ qt4, .int tr' rt⟩, ⟨qh5, .str ⟨#[115, 116, 101, 112, 115]⟩ qt5, .int ts' tst⟩, ⟨qh6, .str ⟨#[109, 111, 115, 116]⟩ qt6, .int tm qu6⟩] qep', #[]⟩)] → R (.ok (.ret (.str ⟨#[100, 111, 110, 101]⟩ sv))) ⟨h', g, d, t', os⟩)
    (hL : ∀ v tv tht nt lt rt tst qep' h' t', an = .led v → Mem h₀ h' [] [(mk, omk), (told, ⟨.type "dict", none, .dict #[⟨qh0, .str ⟨#[104, 97, 110, 100, 108, 101, 114]⟩ qt0, .int th' tht⟩, ⟨qh1, .str ⟨#[111, 110]⟩ qt1, .bool ton'⟩, ⟨qh2, .str ⟨#[110, 117, 109, 98, 101, 114]⟩ qt2, .int tnum' nt⟩, ⟨qh3, .str ⟨#[108, 105, 110, 101]⟩ qt3, .int tl' lt⟩, ⟨qh4, .str ⟨#[114, 111, 119]⟩ qt4, .int tr' rt⟩, ⟨qh5, .str ⟨#[115, 116, 101, 112, 115]⟩ qt5, .int ts' tst⟩, ⟨qh6, .str ⟨#[109, 111, 115, 116]⟩ qt6, .int tm qu6⟩] qep', #[]⟩)] → R (.ok (.ret (.int v tv))) ⟨h', g, d, t', os⟩)
    (hO : ∀ tp tq v tv tht nt lt rt tst qep' h' t', an = .out v → Mem h₀ h' [] [(tp, ⟨.type "tuple", none, .seq #[.str ⟨#[111, 117, 116]⟩ tq, .int v tv] 0, #[]⟩), (mk, omk), (told, ⟨.type "dict", none, .dict #[⟨qh0, .str ⟨#[104, 97, 110, 100, 108, 101, 114]⟩ qt0, .int th' tht⟩, ⟨qh1, .str ⟨#[111, 110]⟩ qt1, .bool ton'⟩, ⟨qh2, .str ⟨#[110, 117, 109, 98, 101, 114]⟩ qt2, .int tnum' nt⟩, ⟨qh3, .str ⟨#[108, 105, 110, 101]⟩ qt3, .int tl' lt⟩, ⟨qh4, .str ⟨#[114, 111, 119]⟩ qt4, .int tr' rt⟩, ⟨qh5, .str ⟨#[115, 116, 101, 112, 115]⟩ qt5, .int ts' tst⟩, ⟨qh6, .str ⟨#[109, 111, 115, 116]⟩ qt6, .int tm qu6⟩] qep', #[]⟩)] → R (.ok (.ret (.ref tp))) ⟨h', g, d, t', os⟩)
    (hN : ∀ tp tq v tv tht nt lt rt tst qep' h' t', an = .line v → Mem h₀ h' [] [(tp, ⟨.type "tuple", none, .seq #[.str ⟨#[108, 105, 110, 101]⟩ tq, .int v tv] 0, #[]⟩), (mk, omk), (told, ⟨.type "dict", none, .dict #[⟨qh0, .str ⟨#[104, 97, 110, 100, 108, 101, 114]⟩ qt0, .int th' tht⟩, ⟨qh1, .str ⟨#[111, 110]⟩ qt1, .bool ton'⟩, ⟨qh2, .str ⟨#[110, 117, 109, 98, 101, 114]⟩ qt2, .int tnum' nt⟩, ⟨qh3, .str ⟨#[108, 105, 110, 101]⟩ qt3, .int tl' lt⟩, ⟨qh4, .str ⟨#[114, 111, 119]⟩ qt4, .int tr' rt⟩, ⟨qh5, .str ⟨#[115, 116, 101, 112, 115]⟩ qt5, .int ts' tst⟩, ⟨qh6, .str ⟨#[109, 111, 115, 116]⟩ qt6, .int tm qu6⟩] qep', #[]⟩)] → R (.ok (.ret (.ref tp))) ⟨h', g, d, t', os⟩)
    (hP : ∀ tp tq v tv tht nt lt rt tst qep' h' t', an = .place v → Mem h₀ h' [] [(tp, ⟨.type "tuple", none, .seq #[.str ⟨#[112, 108, 97, 99, 101]⟩ tq, .int v tv] 0, #[]⟩), (mk, omk), (told, ⟨.type "dict", none, .dict #[⟨qh0, .str ⟨#[104, 97, 110, 100, 108, 101, 114]⟩ qt0, .int th' tht⟩, ⟨qh1, .str ⟨#[111, 110]⟩ qt1, .bool ton'⟩, ⟨qh2, .str ⟨#[110, 117, 109, 98, 101, 114]⟩ qt2, .int tnum' nt⟩, ⟨qh3, .str ⟨#[108, 105, 110, 101]⟩ qt3, .int tl' lt⟩, ⟨qh4, .str ⟨#[114, 111, 119]⟩ qt4, .int tr' rt⟩, ⟨qh5, .str ⟨#[115, 116, 101, 112, 115]⟩ qt5, .int ts' tst⟩, ⟨qh6, .str ⟨#[109, 111, 115, 116]⟩ qt6, .int tm qu6⟩] qep', #[]⟩)] → R (.ok (.ret (.ref tp))) ⟨h', g, d, t', os⟩) :
    codeAny (model PR w) { handled := none, depth := 340, units := 3000 } (.call (.ref 409) ⟨[.ref told, .int at' ta, .int kd tk, nv], []⟩) R ⟨h, g, d, t, os⟩ := by
  have hh : th = 0 ∨ th = 10 ∨ th = 20 ∨ th = 30 := hinv.1
  have hof : ton = true → 0 ≤ tr ∧ 1 ≤ tnum := hinv.2
  let PD : An → TS → Prop := fun a s => ∀ sv tht nt lt rt tst qep' h' t', a = .done → Mem h₀ h' [] [(mk, omk), (told, ⟨.type "dict", none, .dict #[⟨qh0, .str ⟨#[104, 97, 110, 100, 108, 101, 114]⟩ qt0, .int s.hdl tht⟩, ⟨qh1, .str ⟨#[111, 110]⟩ qt1, .bool s.on⟩, ⟨qh2, .str ⟨#[110, 117, 109, 98, 101, 114]⟩ qt2, .int s.num nt⟩, ⟨qh3, .str ⟨#[108, 105, 110, 101]⟩ qt3, .int s.el lt⟩, ⟨qh4, .str ⟨#[114, 111, 119]⟩ qt4, .int s.fa rt⟩, ⟨qh5, .str ⟨#[115, 116, 101, 112, 115]⟩ qt5, .int s.st tst⟩, ⟨qh6, .str ⟨#[109, 111, 115, 116]⟩ qt6, .int tm qu6⟩] qep', #[]⟩)] → R (.ok (.ret (.str ⟨#[100, 111, 110, 101]⟩ sv))) ⟨h', g, d, t', os⟩
  let PL : An → TS → Prop := fun a s => ∀ v tv tht nt lt rt tst qep' h' t', a = .led v → Mem h₀ h' [] [(mk, omk), (told, ⟨.type "dict", none, .dict #[⟨qh0, .str ⟨#[104, 97, 110, 100, 108, 101, 114]⟩ qt0, .int s.hdl tht⟩, ⟨qh1, .str ⟨#[111, 110]⟩ qt1, .bool s.on⟩, ⟨qh2, .str ⟨#[110, 117, 109, 98, 101, 114]⟩ qt2, .int s.num nt⟩, ⟨qh3, .str ⟨#[108, 105, 110, 101]⟩ qt3, .int s.el lt⟩, ⟨qh4, .str ⟨#[114, 111, 119]⟩ qt4, .int s.fa rt⟩, ⟨qh5, .str ⟨#[115, 116, 101, 112, 115]⟩ qt5, .int s.st tst⟩, ⟨qh6, .str ⟨#[109, 111, 115, 116]⟩ qt6, .int tm qu6⟩] qep', #[]⟩)] → R (.ok (.ret (.int v tv))) ⟨h', g, d, t', os⟩
  let PO : An → TS → Prop := fun a s => ∀ tp tq v tv tht nt lt rt tst qep' h' t', a = .out v → Mem h₀ h' [] [(tp, ⟨.type "tuple", none, .seq #[.str ⟨#[111, 117, 116]⟩ tq, .int v tv] 0, #[]⟩), (mk, omk), (told, ⟨.type "dict", none, .dict #[⟨qh0, .str ⟨#[104, 97, 110, 100, 108, 101, 114]⟩ qt0, .int s.hdl tht⟩, ⟨qh1, .str ⟨#[111, 110]⟩ qt1, .bool s.on⟩, ⟨qh2, .str ⟨#[110, 117, 109, 98, 101, 114]⟩ qt2, .int s.num nt⟩, ⟨qh3, .str ⟨#[108, 105, 110, 101]⟩ qt3, .int s.el lt⟩, ⟨qh4, .str ⟨#[114, 111, 119]⟩ qt4, .int s.fa rt⟩, ⟨qh5, .str ⟨#[115, 116, 101, 112, 115]⟩ qt5, .int s.st tst⟩, ⟨qh6, .str ⟨#[109, 111, 115, 116]⟩ qt6, .int tm qu6⟩] qep', #[]⟩)] → R (.ok (.ret (.ref tp))) ⟨h', g, d, t', os⟩
  let PN : An → TS → Prop := fun a s => ∀ tp tq v tv tht nt lt rt tst qep' h' t', a = .line v → Mem h₀ h' [] [(tp, ⟨.type "tuple", none, .seq #[.str ⟨#[108, 105, 110, 101]⟩ tq, .int v tv] 0, #[]⟩), (mk, omk), (told, ⟨.type "dict", none, .dict #[⟨qh0, .str ⟨#[104, 97, 110, 100, 108, 101, 114]⟩ qt0, .int s.hdl tht⟩, ⟨qh1, .str ⟨#[111, 110]⟩ qt1, .bool s.on⟩, ⟨qh2, .str ⟨#[110, 117, 109, 98, 101, 114]⟩ qt2, .int s.num nt⟩, ⟨qh3, .str ⟨#[108, 105, 110, 101]⟩ qt3, .int s.el lt⟩, ⟨qh4, .str ⟨#[114, 111, 119]⟩ qt4, .int s.fa rt⟩, ⟨qh5, .str ⟨#[115, 116, 101, 112, 115]⟩ qt5, .int s.st tst⟩, ⟨qh6, .str ⟨#[109, 111, 115, 116]⟩ qt6, .int tm qu6⟩] qep', #[]⟩)] → R (.ok (.ret (.ref tp))) ⟨h', g, d, t', os⟩
  let PP : An → TS → Prop := fun a s => ∀ tp tq v tv tht nt lt rt tst qep' h' t', a = .place v → Mem h₀ h' [] [(tp, ⟨.type "tuple", none, .seq #[.str ⟨#[112, 108, 97, 99, 101]⟩ tq, .int v tv] 0, #[]⟩), (mk, omk), (told, ⟨.type "dict", none, .dict #[⟨qh0, .str ⟨#[104, 97, 110, 100, 108, 101, 114]⟩ qt0, .int s.hdl tht⟩, ⟨qh1, .str ⟨#[111, 110]⟩ qt1, .bool s.on⟩, ⟨qh2, .str ⟨#[110, 117, 109, 98, 101, 114]⟩ qt2, .int s.num nt⟩, ⟨qh3, .str ⟨#[108, 105, 110, 101]⟩ qt3, .int s.el lt⟩, ⟨qh4, .str ⟨#[114, 111, 119]⟩ qt4, .int s.fa rt⟩, ⟨qh5, .str ⟨#[115, 116, 101, 112, 115]⟩ qt5, .int s.st tst⟩, ⟨qh6, .str ⟨#[109, 111, 115, 116]⟩ qt6, .int tm qu6⟩] qep', #[]⟩)] → R (.ok (.ret (.ref tp))) ⟨h', g, d, t', os⟩
  rcases hdr with ⟨rfl, n, rfl⟩ | ⟨rfl, n, rfl, hn⟩ | ⟨rfl, n, rfl⟩ | ⟨rfl, hx⟩
  · obtain ⟨tn, rfl⟩ := hnv
    obtain ⟨f, hf, hf1⟩ := faultOf n
    exact due0 w h₀ h g d t os mk omk told qh0 qh1 qh2 qh3 qh4 qh5 qh6 qt0 qt1 qt2 qt3 qt4 qt5 qt6 qep th tnum tl tr ts tm ton qu0 qu2 qu3 qu4 qu5 qu6 0 at' tk ta n f tn KX D rfl hat hat' hh hf R
      (fun v tv l' lt r' rt nu' nt qep' h' t' hon hne hv hl hn hr => (atS hs (eqT (s0L hf hon hne) (congrArg An.led hv) (show TS.mk th true nu' l' r' ts = TS.mk th true f (10 + 10 * (at' / 2)) at' ts by rw [hl, hn, hr])) PL hL) v tv _ _ _ _ _ _ _ _ rfl)
      (fun tp tq v tv h' t' ho hv => (atS hs (eqT (s0O hf ho) (congrArg An.out hv) rfl) PO hO) tp tq v tv _ _ _ _ _ _ _ _ rfl)
  · obtain ⟨tn, rfl⟩ := hnv
    exact due2 w h₀ h g d t os mk omk told qh0 qh1 qh2 qh3 qh4 qh5 qh6 qt0 qt1 qt2 qt3 qt4 qt5 qt6 qep th tnum tl tr ts tm ton qu0 qu2 qu3 qu4 qu5 qu6 2 at' tk ta n tn KX D rfl hat hat' hn (fun q => (hof q).2) R
      (fun sv th' tht qep' h' t' hc he => (atS hs (eqT (s2D hc) rfl (show TS.mk th' ton tnum tl tr ts = TS.mk n ton tnum tl tr ts by rw [he])) PD hD) sv _ _ _ _ _ _ _ _ rfl)
      (fun tp tq v tv th' tht qep' h' t' hn0 ho hv he => (atS hs (eqT (s2O hn0 ho) (congrArg An.out hv) (show TS.mk th' ton tnum tl tr ts = TS.mk n ton tnum tl tr ts by rw [he])) PO hO) tp tq v tv _ _ _ _ _ _ _ _ rfl)
  · obtain ⟨tn, rfl⟩ := hnv
    exact due3 w h₀ h g d t os mk omk told qh0 qh1 qh2 qh3 qh4 qh5 qh6 qt0 qt1 qt2 qt3 qt4 qt5 qt6 qep th tnum tl tr ts tm ton qu0 qu2 qu3 qu4 qu5 qu6 3 at' tk ta n tn KX D rfl hat hat' R
      (fun sv ts' tst qep' h' t' hc he => (atS hs (eqT (s3D hc) rfl (show TS.mk th ton tnum tl tr ts' = TS.mk th ton tnum tl tr (ts + 1) by rw [he])) PD hD) sv _ _ _ _ _ _ _ _ rfl)
      (fun tp tq v tv ts' tst qep' h' t' hc hv he => (atS hs (eqT (s3O hc) (congrArg An.out hv) (show TS.mk th ton tnum tl tr ts' = TS.mk th ton tnum tl tr (ts + 1) by rw [he])) PO hO) tp tq v tv _ _ _ _ _ _ _ _ rfl)
  · have h4L (v l' r' nu' : Int) (hon : ton = false) (hne : th ≠ 0) (hv : v = th / 5 - 2) (hl : l' = 10 + 10 * (at' / 2)) (hn : nu' = 20) (hr : r' = at') : PL (An.led v) (TS.mk th true nu' l' r' ts) :=
      atS hs (eqT (s4L hon hne) (congrArg An.led hv) (show TS.mk th true nu' l' r' ts = TS.mk th true 20 (10 + 10 * (at' / 2)) at' ts by rw [hl, hn, hr])) PL hL
    have h4O (v : Int) (h0 : th = 0) (ho : ton = false) (hv : v = 20) : PO (An.out v) (TS.mk th ton tnum tl tr ts) :=
      atS hs (eqT (s4O h0 ho) (congrArg An.out hv) rfl) PO hO
    rcases hx with rfl | rfl | rfl
    · obtain ⟨tn, rfl⟩ := hnv
      exact due4a w h₀ h g d t os mk omk told qh0 qh1 qh2 qh3 qh4 qh5 qh6 qt0 qt1 qt2 qt3 qt4 qt5 qt6 qep th tnum tl tr ts tm ton qu0 qu2 qu3 qu4 qu5 qu6 4 at' tk ta 30 tn KX D rfl hat hat' hh rfl R
        (fun v tv l' lt r' rt nu' nt qep' h' t' hon hne hv hl hn hr => h4L v l' r' nu' hon hne hv hl hn hr v tv _ _ _ _ _ _ _ _ rfl)
        (fun tp tq v tv h' t' h0 ho hv => h4O v h0 ho hv tp tq v tv _ _ _ _ _ _ _ _ rfl)
        (fun tp tq v tv qep' h' t' ho hv => (atS hs (eqT (s4a ho) (congrArg An.line hv) rfl) PN hN) tp tq v tv _ _ _ _ _ _ _ _ rfl)
    · have hnv : nv = .none := hnv; subst hnv
      exact due4b w h₀ h g d t os mk omk told qh0 qh1 qh2 qh3 qh4 qh5 qh6 qt0 qt1 qt2 qt3 qt4 qt5 qt6 qep th tnum tl tr ts tm ton qu0 qu2 qu3 qu4 qu5 qu6 4 at' tk ta  KX D rfl hat hat' hh R
        (fun v tv l' lt r' rt nu' nt qep' h' t' hon hne hv hl hn hr => h4L v l' r' nu' hon hne hv hl hn hr v tv _ _ _ _ _ _ _ _ rfl)
        (fun tp tq v tv h' t' h0 ho hv => h4O v h0 ho hv tp tq v tv _ _ _ _ _ _ _ _ rfl)
        (fun tp tq v tv qep' h' t' ho hv => (atS hs (eqT (s4b ho) (congrArg An.place hv) rfl) PP hP) tp tq v tv _ _ _ _ _ _ _ _ rfl)
    · obtain ⟨tn, rfl⟩ := hnv
      exact due4c w h₀ h g d t os mk omk told qh0 qh1 qh2 qh3 qh4 qh5 qh6 qt0 qt1 qt2 qt3 qt4 qt5 qt6 qep th tnum tl tr ts tm ton qu0 qu2 qu3 qu4 qu5 qu6 4 at' tk ta tn KX D rfl hat hat' hh R
        (fun v tv l' lt r' rt nu' nt qep' h' t' hon hne hv hl hn hr => h4L v l' r' nu' hon hne hv hl hn hr v tv _ _ _ _ _ _ _ _ rfl)
        (fun tp tq v tv h' t' h0 ho hv => h4O v h0 ho hv tp tq v tv _ _ _ _ _ _ _ _ rfl)
        (fun tp tq v tv qep' h' t' ho hv => (atS hs (eqT (s4c ho) (congrArg An.place hv) rfl) PP hP) tp tq v tv _ _ _ _ _ _ _ _ rfl)
end Mine
end
section
open PySem PySem.W PySem.W.X PyProof.Rows
namespace Mine
theorem drawnAll (w : PySem.World) (h₀ h : Heap) (g : Array GenState) (d : Drawn) (t : Nat) (os : OsState) (mk : Addr) (omk : Obj) (feed cells : Addr) (turn most : Int) (tt tm : Tok) (items : Array Value) (en em : Nat)
    (KX : (KH w.params).In h₀) (D : Mem h₀ h [] [(mk, omk), (feed, feedO cells turn tt en), (cells, cellsO items em)])
    (ht : 0 ≤ turn) (ht2 : turn < 900) (hi : items.size ≤ 63) (hall : ∀ i, i < items.size → ∃ z tk, items[i]? = some (.int z tk))
    (R : Result → Shared → Prop)
    (hR : ∀ kd at' nu nv tk ta a turn' tt' h' t', NuV nu nv → Drew kd nu → 0 ≤ at' → at' < 6 → 0 ≤ turn' → turn' ≤ turn + 4 →
      Mem h₀ h' [] [(a, tupO #[.int kd tk, .int at' ta, nv]), (mk, omk), (feed, feedO cells turn' tt' en), (cells, cellsO items em)] → R (.ok (.ret (.ref a))) ⟨h', g, d, t', os⟩) :
    codeAny (model PR w) { handled := none, depth := 600, units := 7000 } (.call (.ref 381) ⟨[.ref feed, .int most tm], []⟩) R ⟨h, g, d, t, os⟩ := by
  refine c_drawn w h₀ h g d t os mk omk feed cells turn most tt tm items en em KX D ht ht2 hi hall R ?_ ?_ ?_ ?_ ?_ ?_
  · intro kd at' n tk ta tn a turn' tt' h' t' e h1 h2 h3 h4 h5 h6 M
    exact hR kd at' (.i n) _ tk ta a turn' tt' h' t' ⟨tn, rfl⟩ (.inl ⟨e, n, rfl⟩) h1 h2 (by omega) h6 M
  · intro kd at' n tk ta tn a turn' tt' h' t' e h1 h2 h3 h5 h6 M
    exact hR kd at' (.i n) _ tk ta a turn' tt' h' t' ⟨tn, rfl⟩ (.inr (.inl ⟨e, n, rfl, h3⟩)) h1 h2 (by omega) h6 M
  · intro kd at' n tk ta tn a turn' tt' h' t' e h1 h2 h5 h6 M
    exact hR kd at' (.i n) _ tk ta a turn' tt' h' t' ⟨tn, rfl⟩ (.inr (.inr (.inl ⟨e, n, rfl⟩))) h1 h2 (by omega) h6 M
  · intro kd at' n tk ta tn a turn' tt' h' t' e h1 h2 h3 h5 h6 M
    exact hR kd at' (.i n) _ tk ta a turn' tt' h' t' ⟨tn, rfl⟩ (.inr (.inr (.inr ⟨e, .inl (h3 ▸ rfl)⟩))) h1 h2 (by omega) h6 M
  · intro kd at' tk ta a turn' tt' h' t' e h1 h2 h5 h6 M
    exact hR kd at' .n _ tk ta a turn' tt' h' t' rfl (.inr (.inr (.inr ⟨e, .inr (.inl rfl)⟩))) h1 h2 (by omega) h6 M
  · intro kd at' tk ta tn a turn' tt' h' t' e h1 h2 h5 h6 M
    exact hR kd at' .x _ tk ta a turn' tt' h' t' ⟨tn, rfl⟩ (.inr (.inr (.inr ⟨e, .inr (.inr rfl)⟩))) h1 h2 (by omega) h6 M
end Mine
end
section
open PySem PySem.W PySem.W.X PyProof.Rows
namespace Mine
open Lean Meta Elab Tactic PySem.W.XRun in
/-- the law's body, a part of its sixth statement (the loop) -/
def loopPart (i : Nat) : TacticM Unit := do
  let some (od, _) ← kObj (mkConst ``KH) 423 | throwError "no law"
  let t ← withLocalDeclD `p (mkConst ``Params) fun p => do
    let o ← kw (mkApp (mkConst od) p)
    let dt ← kw o.getAppArgs[2]!
    let fd ← kw dt.appArg!
    for a in fd.getAppArgs do
      if (← whnfD (← inferType a)).isConstOf ``FuncBody then
        let b ← kw a
        let l ← nList b.appArg! kw
        let st := (listItemsE l)[5]!
        return st.getAppArgs[i]!
    throwError "no body"
  closeMainGoal `loopPart t
def lawTgt : PySem.Expr := by run_tac loopPart 0
def lawBody : List Stmt := by run_tac loopPart 2
def lawElse : List Stmt := by run_tac loopPart 3
end Mine
end
section
open PySem PySem.W PySem.W.X PyProof.Rows
namespace Mine
set_option maxRecDepth 5000
set_option maxHeartbeats 0
open Lean Meta Elab Tactic PySem PySem.W PySem.W.X PySem.W.XRun in
def lawFrame : TacticM Unit := do
  let T ← Term.elabTerm (← `(∀ (w : PySem.World) (h₀ : Heap) (g : Array GenState) (d : Drawn) (t : Nat) (os : OsState) (sc : Addr) (items : Array Value) (em : Nat)
    (KX : (KH w.params).In h₀) (hsc : h₀.get? sc = some ⟨.type "list", none, .seq items em, #[]⟩) (D : Mem h₀ h₀ [] [])
    (hi : items.size ≤ 63) (hall : ∀ i, i < items.size → ∃ z tk, items[i]? = some (.int z tk))
    (R : Result → Shared → Prop), codeAny (model PR w) { handled := none, depth := 60, frames := some [], units := 300 } (.call (.ref 423) ⟨[.ref sc], []⟩) R ⟨h₀, g, d, t, os⟩)) none
  Term.synthesizeSyntheticMVarsNoPostponing
  let T ← instantiateMVars T
  let out ← IO.mkRef (none : Option Lean.Expr)
  let saved ← saveState
  try
    let m ← mkFreshExprSyntheticOpaqueMVar T
    let (_, g) ← m.mvarId!.intros
    let _ ← Tactic.run g (driveMain 600 (fun k => if k == "374" then some (fun b st g => g.withContext do
        let T ← instantiateMVars (← g.getType)
        let fr ← kw (mkApp (mkConst ``PySem.Around.frames) T.getAppArgs[1]!)
        let l ← nList fr.appArg! kw
        let e := (listItemsE l)[0]!
        let mut a := e.getAppArgs
        let sc ← kw a[0]!
        let mut s := sc.getAppArgs
        for i in [0:s.size] do s := s.set! i (← kw s[i]!)
        a := a.set! 0 (mkAppN sc.getAppFn s)
        for i in [1:a.size] do a := a.set! i (← kw a[i]!)
        let L ← addrOf a[1]!
        let e := mkAppN e.getAppFn (a.set! 1 L)
        let fe := e.getAppArgs[7]!
        let fa ← addrOf fe.appArg!
        let e := mkAppN e.getAppFn (e.getAppArgs.set! 7 (mkApp fe.appFn! fa))
        out.set (some (← mkLambdaFVars #[L] e))
        return some []) else hooks2 k) (pure ()))
  catch _ => pure ()
  let r ← out.get
  saved.restore
  match r with
  | some e =>
    Lean.logInfo m!"{e}"
    closeMainGoal `lawFrame e
  | none => throwError "no env"
noncomputable def lawEnv : Addr → Env := by run_tac lawFrame
end Mine
end
section
open PySem PySem.W PySem.W.X PyProof.Rows
namespace Mine
set_option maxRecDepth 5000
set_option maxHeartbeats 0

open Lean Meta Elab Tactic PySem.W.XRun in
theorem heard0 (w : PySem.World) (h₀ h : Heap) (g : Array GenState) (d : Drawn) (t : Nat) (os : OsState) (mk : Addr) (omk : Obj) (ctl ctlD run runD world worldD L : Addr) (r0 r1 r2 r3 r4 r5 places rowsL flat flatD : Addr) (rt0 rt1 rt2 rt3 rt4 rt5 pt0 pt1 pt2 pu0 pu1 pu2 : Tok) (ph0 ph1 ph2 : Int) (rv0 rv1 rv2 rv3 rv4 rv5 : Value) (re0 re1 re2 re3 re4 re5 pep rowse : Nat) (fh0 fh1 fh2 fh3 fh4 fh5 : Int) (ft0 ft1 ft2 ft3 ft4 ft5 : Tok) (fv2 fv3 fv4 fv5 : Value) (fep : Nat) (ch0 ch1 ch2 : Int) (ct0 ct1 ct2 : Tok) (cv0 cv1 : Value) (cep : Nat) (nh0 nh1 nh2 nh3 nh4 nh5 nh6 : Int) (nt0 nt1 nt2 nt3 nt4 nt5 nt6 : Tok) (nv2 nv3 nv4 nv6 : Value) (nep : Nat) (wh0 wh1 wh2 wh3 wh4 wh5 wh6 wh7 wh8 wh9 wh10 wh11 wh12 wh13 wh14 wh15 wh16 wh17 wh18 wh19 wh20 wh21 wh22 wh23 wh24 wh25 wh26 wh27 : Int) (wt0 wt1 wt2 wt3 wt4 wt5 wt6 wt7 wt8 wt9 wt10 wt11 wt12 wt13 wt14 wt15 wt16 wt17 wt18 wt19 wt20 wt21 wt22 wt23 wt24 wt25 wt26 wt27 : Tok) (wv0 wv1 wv3 wv4 wv5 wv6 wv7 wv8 wv9 wv10 wv11 wv12 wv13 wv14 wv15 wv16 wv17 wv18 wv20 wv25 wv26 wv27 : Value) (wep : Nat) (les : Array DictEntry) (lep : Nat) (ms st hdl el fa : Int) (on : Bool) (ec : Str) (mst stt hdt elt ect fat : Tok) (enm : List (Str × NameKind)) (emo : List (Str × Const)) (egl ebi : Addr) (equ : Str) (efn : Option Addr) (ecd : Value) (at' kd : Int) (ta tk : Tok) (n fault : Int) (tn : Tok) (lsl : Array (Option Value)) (ph0e : ph0 = 10) (ph1e : ph1 = 20) (ph2e : ph2 = 30)
    (KX : (KH w.params).In h₀) (D : Mem h₀ h [] [(mk, omk), (ctl, ⟨.ref 82, some ctlD, .plain, #[]⟩), (ctlD, ⟨.type "dict", none, .dict #[⟨ch0, .str ⟨#[112, 105, 108, 101]⟩ ct0, cv0⟩, ⟨ch1, .str ⟨#[109, 111, 115, 116]⟩ ct1, cv1⟩, ⟨ch2, .str ⟨#[102, 97, 105, 108, 101, 100, 95, 97, 116]⟩ ct2, .int fa fat⟩] cep, #[]⟩), (run, ⟨.ref 363, some runD, .plain, #[]⟩), (runD, ⟨.type "dict", none, .dict #[⟨nh0, .str ⟨#[119, 111, 114, 108, 100]⟩ nt0, .ref world⟩, ⟨nh1, .str ⟨#[102, 108, 97, 116]⟩ nt1, .ref flat⟩, ⟨nh2, .str ⟨#[97, 110, 115, 119, 101, 114, 115]⟩ nt2, nv2⟩, ⟨nh3, .str ⟨#[98, 105, 116, 115]⟩ nt3, nv3⟩, ⟨nh4, .str ⟨#[100, 105, 103, 105, 116, 115]⟩ nt4, nv4⟩, ⟨nh5, .str ⟨#[99, 111, 110, 116, 114, 111, 108]⟩ nt5, .ref ctl⟩, ⟨nh6, .str ⟨#[97, 115, 107, 101, 100]⟩ nt6, nv6⟩] nep, #[]⟩), (r5, ⟨.type "tuple", none, .seq #[.int 30 rt5, rv5] re5, #[]⟩), (r4, ⟨.type "tuple", none, .seq #[.int 30 rt4, rv4] re4, #[]⟩), (r3, ⟨.type "tuple", none, .seq #[.int 20 rt3, rv3] re3, #[]⟩), (r2, ⟨.type "tuple", none, .seq #[.int 20 rt2, rv2] re2, #[]⟩), (r1, ⟨.type "tuple", none, .seq #[.int 10 rt1, rv1] re1, #[]⟩), (r0, ⟨.type "tuple", none, .seq #[.int 10 rt0, rv0] re0, #[]⟩), (places, ⟨.type "dict", none, .dict #[⟨ph0, .int 10 pt0, .int 0 pu0⟩, ⟨ph1, .int 20 pt1, .int 2 pu1⟩, ⟨ph2, .int 30 pt2, .int 4 pu2⟩] pep, #[]⟩), (rowsL, ⟨.type "list", none, .seq #[.ref r0, .ref r1, .ref r2, .ref r3, .ref r4, .ref r5] rowse, #[]⟩), (flat, ⟨.ref 145, some flatD, .plain, #[]⟩), (flatD, ⟨.type "dict", none, .dict #[⟨fh0, .str ⟨#[114, 111, 119, 115]⟩ ft0, .ref rowsL⟩, ⟨fh1, .str ⟨#[112, 108, 97, 99, 101, 115]⟩ ft1, .ref places⟩, ⟨fh2, .str ⟨#[100, 97, 116, 97]⟩ ft2, fv2⟩, ⟨fh3, .str ⟨#[112, 97, 105, 114, 115]⟩ ft3, fv3⟩, ⟨fh4, .str ⟨#[108, 111, 111, 112, 115]⟩ ft4, fv4⟩, ⟨fh5, .str ⟨#[102, 110, 115]⟩ ft5, fv5⟩] fep, #[]⟩), (world, ⟨.ref 237, some worldD, .plain, #[]⟩), (worldD, ⟨.type "dict", none, .dict #[⟨wh0, .str ⟨#[98, 105, 116, 115]⟩ wt0, wv0⟩, ⟨wh1, .str ⟨#[100, 105, 103, 105, 116, 115]⟩ wt1, wv1⟩, ⟨wh2, .str ⟨#[109, 111, 115, 116, 95, 115, 116, 101, 112, 115]⟩ wt2, .int ms mst⟩, ⟨wh3, .str ⟨#[109, 111, 115, 116, 95, 100, 101, 112, 116, 104]⟩ wt3, wv3⟩, ⟨wh4, .str ⟨#[114, 111, 111, 109]⟩ wt4, wv4⟩, ⟨wh5, .str ⟨#[110, 97, 109, 101, 115]⟩ wt5, wv5⟩, ⟨wh6, .str ⟨#[97, 114, 114, 97, 121, 115]⟩ wt6, wv6⟩, ⟨wh7, .str ⟨#[107, 105, 110, 100, 115]⟩ wt7, wv7⟩, ⟨wh8, .str ⟨#[102, 110, 115]⟩ wt8, wv8⟩, ⟨wh9, .str ⟨#[111, 117, 116]⟩ wt9, wv9⟩, ⟨wh10, .str ⟨#[114, 111, 119]⟩ wt10, wv10⟩, ⟨wh11, .str ⟨#[105, 110, 112, 117, 116, 115]⟩ wt11, wv11⟩, ⟨wh12, .str ⟨#[102, 105, 108, 101, 115]⟩ wt12, wv12⟩, ⟨wh13, .str ⟨#[111, 112, 101, 110]⟩ wt13, wv13⟩, ⟨wh14, .str ⟨#[102, 105, 101, 108, 100, 115]⟩ wt14, wv14⟩, ⟨wh15, .str ⟨#[100, 97, 116, 97]⟩ wt15, wv15⟩, ⟨wh16, .str ⟨#[115, 112, 111, 116]⟩ wt16, wv16⟩, ⟨wh17, .str ⟨#[98, 97, 115, 101]⟩ wt17, wv17⟩, ⟨wh18, .str ⟨#[115, 101, 101, 100]⟩ wt18, wv18⟩, ⟨wh19, .str ⟨#[115, 116, 101, 112, 115]⟩ wt19, .int st stt⟩, ⟨wh20, .str ⟨#[100, 101, 112, 116, 104]⟩ wt20, wv20⟩, ⟨wh21, .str ⟨#[104, 97, 110, 100, 108, 101, 114]⟩ wt21, .int hdl hdt⟩, ⟨wh22, .str ⟨#[105, 115, 95, 104, 97, 110, 100, 108, 105, 110, 103]⟩ wt22, .bool on⟩, ⟨wh23, .str ⟨#[101, 114, 114, 111, 114, 95, 108, 105, 110, 101]⟩ wt23, .int el elt⟩, ⟨wh24, .str ⟨#[101, 114, 114, 111, 114, 95, 99, 111, 100, 101]⟩ wt24, .str ec ect⟩, ⟨wh25, .str ⟨#[105, 115, 95, 116, 114, 97, 99, 101, 100]⟩ wt25, wv25⟩, ⟨wh26, .str ⟨#[116, 114, 97, 99, 101, 115]⟩ wt26, wv26⟩, ⟨wh27, .str ⟨#[99, 111, 109, 109, 111, 110]⟩ wt27, wv27⟩] wep, #[]⟩), (L, ⟨.type "frame", none, .dict les lep, lsl⟩)])
     (hkd : kd = 0) (hat : 0 ≤ at') (hat' : at' < 6) (hh : hdl = 0 ∨ hdl = 10 ∨ hdl = 20 ∨ hdl = 30) (hf : (1 ≤ n ∧ n ≤ 255 ∧ fault = n) ∨ ((n < 1 ∨ 255 < n) ∧ fault = 5))
    (R : Result → Shared → Prop)
    (hL : ∀ v tv el' elt' ec' ect' fa' fat' lsl' wep' cep' h' t', on = false → hdl ≠ 0 → v = hdl / 5 - 2 → el' = 10 + 10 * (at' / 2) → IsCode ec' fault → fa' = at' → Mem h₀ h' [] [(mk, omk), (ctl, ⟨.ref 82, some ctlD, .plain, #[]⟩), (ctlD, ⟨.type "dict", none, .dict #[⟨ch0, .str ⟨#[112, 105, 108, 101]⟩ ct0, cv0⟩, ⟨ch1, .str ⟨#[109, 111, 115, 116]⟩ ct1, cv1⟩, ⟨ch2, .str ⟨#[102, 97, 105, 108, 101, 100, 95, 97, 116]⟩ ct2, .int fa' fat'⟩] cep', #[]⟩), (run, ⟨.ref 363, some runD, .plain, #[]⟩), (runD, ⟨.type "dict", none, .dict #[⟨nh0, .str ⟨#[119, 111, 114, 108, 100]⟩ nt0, .ref world⟩, ⟨nh1, .str ⟨#[102, 108, 97, 116]⟩ nt1, .ref flat⟩, ⟨nh2, .str ⟨#[97, 110, 115, 119, 101, 114, 115]⟩ nt2, nv2⟩, ⟨nh3, .str ⟨#[98, 105, 116, 115]⟩ nt3, nv3⟩, ⟨nh4, .str ⟨#[100, 105, 103, 105, 116, 115]⟩ nt4, nv4⟩, ⟨nh5, .str ⟨#[99, 111, 110, 116, 114, 111, 108]⟩ nt5, .ref ctl⟩, ⟨nh6, .str ⟨#[97, 115, 107, 101, 100]⟩ nt6, nv6⟩] nep, #[]⟩), (r5, ⟨.type "tuple", none, .seq #[.int 30 rt5, rv5] re5, #[]⟩), (r4, ⟨.type "tuple", none, .seq #[.int 30 rt4, rv4] re4, #[]⟩), (r3, ⟨.type "tuple", none, .seq #[.int 20 rt3, rv3] re3, #[]⟩), (r2, ⟨.type "tuple", none, .seq #[.int 20 rt2, rv2] re2, #[]⟩), (r1, ⟨.type "tuple", none, .seq #[.int 10 rt1, rv1] re1, #[]⟩), (r0, ⟨.type "tuple", none, .seq #[.int 10 rt0, rv0] re0, #[]⟩), (places, ⟨.type "dict", none, .dict #[⟨ph0, .int 10 pt0, .int 0 pu0⟩, ⟨ph1, .int 20 pt1, .int 2 pu1⟩, ⟨ph2, .int 30 pt2, .int 4 pu2⟩] pep, #[]⟩), (rowsL, ⟨.type "list", none, .seq #[.ref r0, .ref r1, .ref r2, .ref r3, .ref r4, .ref r5] rowse, #[]⟩), (flat, ⟨.ref 145, some flatD, .plain, #[]⟩), (flatD, ⟨.type "dict", none, .dict #[⟨fh0, .str ⟨#[114, 111, 119, 115]⟩ ft0, .ref rowsL⟩, ⟨fh1, .str ⟨#[112, 108, 97, 99, 101, 115]⟩ ft1, .ref places⟩, ⟨fh2, .str ⟨#[100, 97, 116, 97]⟩ ft2, fv2⟩, ⟨fh3, .str ⟨#[112, 97, 105, 114, 115]⟩ ft3, fv3⟩, ⟨fh4, .str ⟨#[108, 111, 111, 112, 115]⟩ ft4, fv4⟩, ⟨fh5, .str ⟨#[102, 110, 115]⟩ ft5, fv5⟩] fep, #[]⟩), (world, ⟨.ref 237, some worldD, .plain, #[]⟩), (worldD, ⟨.type "dict", none, .dict #[⟨wh0, .str ⟨#[98, 105, 116, 115]⟩ wt0, wv0⟩, ⟨wh1, .str ⟨#[100, 105, 103, 105, 116, 115]⟩ wt1, wv1⟩, ⟨wh2, .str ⟨#[109, 111, 115, 116, 95, 115, 116, 101, 112, 115]⟩ wt2, .int ms mst⟩, ⟨wh3, .str ⟨#[109, 111, 115, 116, 95, 100, 101, 112, 116, 104]⟩ wt3, wv3⟩, ⟨wh4, .str ⟨#[114, 111, 111, 109]⟩ wt4, wv4⟩, ⟨wh5, .str ⟨#[110, 97, 109, 101, 115]⟩ wt5, wv5⟩, ⟨wh6, .str ⟨#[97, 114, 114, 97, 121, 115]⟩ wt6, wv6⟩, ⟨wh7, .str ⟨#[107, 105, 110, 100, 115]⟩ wt7, wv7⟩, ⟨wh8, .str ⟨#[102, 110, 115]⟩ wt8, wv8⟩, ⟨wh9, .str ⟨#[111, 117, 116]⟩ wt9, wv9⟩, ⟨wh10, .str ⟨#[114, 111, 119]⟩ wt10, wv10⟩, ⟨wh11, .str ⟨#[105, 110, 112, 117, 116, 115]⟩ wt11, wv11⟩, ⟨wh12, .str ⟨#[102, 105, 108, 101, 115]⟩ wt12, wv12⟩, ⟨wh13, .str ⟨#[111, 112, 101, 110]⟩ wt13, wv13⟩, ⟨wh14, .str ⟨#[102, 105, 101, 108, 100, 115]⟩ wt14, wv14⟩, ⟨wh15, .str ⟨#[100, 97, 116, 97]⟩ wt15, wv15⟩, ⟨wh16, .str ⟨#[115, 112, 111, 116]⟩ wt16, wv16⟩, ⟨wh17, .str ⟨#[98, 97, 115, 101]⟩ wt17, wv17⟩, ⟨wh18, .str ⟨#[115, 101, 101, 100]⟩ wt18, wv18⟩, ⟨wh19, .str ⟨#[115, 116, 101, 112, 115]⟩ wt19, .int st stt⟩, ⟨wh20, .str ⟨#[100, 101, 112, 116, 104]⟩ wt20, wv20⟩, ⟨wh21, .str ⟨#[104, 97, 110, 100, 108, 101, 114]⟩ wt21, .int hdl hdt⟩, ⟨wh22, .str ⟨#[105, 115, 95, 104, 97, 110, 100, 108, 105, 110, 103]⟩ wt22, .bool true⟩, ⟨wh23, .str ⟨#[101, 114, 114, 111, 114, 95, 108, 105, 110, 101]⟩ wt23, .int el' elt'⟩, ⟨wh24, .str ⟨#[101, 114, 114, 111, 114, 95, 99, 111, 100, 101]⟩ wt24, .str ec' ect'⟩, ⟨wh25, .str ⟨#[105, 115, 95, 116, 114, 97, 99, 101, 100]⟩ wt25, wv25⟩, ⟨wh26, .str ⟨#[116, 114, 97, 99, 101, 115]⟩ wt26, wv26⟩, ⟨wh27, .str ⟨#[99, 111, 109, 109, 111, 110]⟩ wt27, wv27⟩] wep', #[]⟩), (L, ⟨.type "frame", none, .dict les lep, lsl'⟩)] → R (.ok (.ret (.int v tv))) ⟨h', g, d, t', os⟩)
    (hO : ∀ tp tq v tv lsl'  h' t', (hdl = 0 ∨ on = true) → v = fault → Mem h₀ h' [] [(tp, ⟨.type "tuple", none, .seq #[.str ⟨#[111, 117, 116]⟩ tq, .int v tv] 0, #[]⟩), (mk, omk), (ctl, ⟨.ref 82, some ctlD, .plain, #[]⟩), (ctlD, ⟨.type "dict", none, .dict #[⟨ch0, .str ⟨#[112, 105, 108, 101]⟩ ct0, cv0⟩, ⟨ch1, .str ⟨#[109, 111, 115, 116]⟩ ct1, cv1⟩, ⟨ch2, .str ⟨#[102, 97, 105, 108, 101, 100, 95, 97, 116]⟩ ct2, .int fa fat⟩] cep, #[]⟩), (run, ⟨.ref 363, some runD, .plain, #[]⟩), (runD, ⟨.type "dict", none, .dict #[⟨nh0, .str ⟨#[119, 111, 114, 108, 100]⟩ nt0, .ref world⟩, ⟨nh1, .str ⟨#[102, 108, 97, 116]⟩ nt1, .ref flat⟩, ⟨nh2, .str ⟨#[97, 110, 115, 119, 101, 114, 115]⟩ nt2, nv2⟩, ⟨nh3, .str ⟨#[98, 105, 116, 115]⟩ nt3, nv3⟩, ⟨nh4, .str ⟨#[100, 105, 103, 105, 116, 115]⟩ nt4, nv4⟩, ⟨nh5, .str ⟨#[99, 111, 110, 116, 114, 111, 108]⟩ nt5, .ref ctl⟩, ⟨nh6, .str ⟨#[97, 115, 107, 101, 100]⟩ nt6, nv6⟩] nep, #[]⟩), (r5, ⟨.type "tuple", none, .seq #[.int 30 rt5, rv5] re5, #[]⟩), (r4, ⟨.type "tuple", none, .seq #[.int 30 rt4, rv4] re4, #[]⟩), (r3, ⟨.type "tuple", none, .seq #[.int 20 rt3, rv3] re3, #[]⟩), (r2, ⟨.type "tuple", none, .seq #[.int 20 rt2, rv2] re2, #[]⟩), (r1, ⟨.type "tuple", none, .seq #[.int 10 rt1, rv1] re1, #[]⟩), (r0, ⟨.type "tuple", none, .seq #[.int 10 rt0, rv0] re0, #[]⟩), (places, ⟨.type "dict", none, .dict #[⟨ph0, .int 10 pt0, .int 0 pu0⟩, ⟨ph1, .int 20 pt1, .int 2 pu1⟩, ⟨ph2, .int 30 pt2, .int 4 pu2⟩] pep, #[]⟩), (rowsL, ⟨.type "list", none, .seq #[.ref r0, .ref r1, .ref r2, .ref r3, .ref r4, .ref r5] rowse, #[]⟩), (flat, ⟨.ref 145, some flatD, .plain, #[]⟩), (flatD, ⟨.type "dict", none, .dict #[⟨fh0, .str ⟨#[114, 111, 119, 115]⟩ ft0, .ref rowsL⟩, ⟨fh1, .str ⟨#[112, 108, 97, 99, 101, 115]⟩ ft1, .ref places⟩, ⟨fh2, .str ⟨#[100, 97, 116, 97]⟩ ft2, fv2⟩, ⟨fh3, .str ⟨#[112, 97, 105, 114, 115]⟩ ft3, fv3⟩, ⟨fh4, .str ⟨#[108, 111, 111, 112, 115]⟩ ft4, fv4⟩, ⟨fh5, .str ⟨#[102, 110, 115]⟩ ft5, fv5⟩] fep, #[]⟩), (world, ⟨.ref 237, some worldD, .plain, #[]⟩), (worldD, ⟨.type "dict", none, .dict #[⟨wh0, .str ⟨#[98, 105, 116, 115]⟩ wt0, wv0⟩, ⟨wh1, .str ⟨#[100, 105, 103, 105, 116, 115]⟩ wt1, wv1⟩, ⟨wh2, .str ⟨#[109, 111, 115, 116, 95, 115, 116, 101, 112, 115]⟩ wt2, .int ms mst⟩, ⟨wh3, .str ⟨#[109, 111, 115, 116, 95, 100, 101, 112, 116, 104]⟩ wt3, wv3⟩, ⟨wh4, .str ⟨#[114, 111, 111, 109]⟩ wt4, wv4⟩, ⟨wh5, .str ⟨#[110, 97, 109, 101, 115]⟩ wt5, wv5⟩, ⟨wh6, .str ⟨#[97, 114, 114, 97, 121, 115]⟩ wt6, wv6⟩, ⟨wh7, .str ⟨#[107, 105, 110, 100, 115]⟩ wt7, wv7⟩, ⟨wh8, .str ⟨#[102, 110, 115]⟩ wt8, wv8⟩, ⟨wh9, .str ⟨#[111, 117, 116]⟩ wt9, wv9⟩, ⟨wh10, .str ⟨#[114, 111, 119]⟩ wt10, wv10⟩, ⟨wh11, .str ⟨#[105, 110, 112, 117, 116, 115]⟩ wt11, wv11⟩, ⟨wh12, .str ⟨#[102, 105, 108, 101, 115]⟩ wt12, wv12⟩, ⟨wh13, .str ⟨#[111, 112, 101, 110]⟩ wt13, wv13⟩, ⟨wh14, .str ⟨#[102, 105, 101, 108, 100, 115]⟩ wt14, wv14⟩, ⟨wh15, .str ⟨#[100, 97, 116, 97]⟩ wt15, wv15⟩, ⟨wh16, .str ⟨#[115, 112, 111, 116]⟩ wt16, wv16⟩, ⟨wh17, .str ⟨#[98, 97, 115, 101]⟩ wt17, wv17⟩, ⟨wh18, .str ⟨#[115, 101, 101, 100]⟩ wt18, wv18⟩, ⟨wh19, .str ⟨#[115, 116, 101, 112, 115]⟩ wt19, .int st stt⟩, ⟨wh20, .str ⟨#[100, 101, 112, 116, 104]⟩ wt20, wv20⟩, ⟨wh21, .str ⟨#[104, 97, 110, 100, 108, 101, 114]⟩ wt21, .int hdl hdt⟩, ⟨wh22, .str ⟨#[105, 115, 95, 104, 97, 110, 100, 108, 105, 110, 103]⟩ wt22, .bool on⟩, ⟨wh23, .str ⟨#[101, 114, 114, 111, 114, 95, 108, 105, 110, 101]⟩ wt23, .int el elt⟩, ⟨wh24, .str ⟨#[101, 114, 114, 111, 114, 95, 99, 111, 100, 101]⟩ wt24, .str ec ect⟩, ⟨wh25, .str ⟨#[105, 115, 95, 116, 114, 97, 99, 101, 100]⟩ wt25, wv25⟩, ⟨wh26, .str ⟨#[116, 114, 97, 99, 101, 115]⟩ wt26, wv26⟩, ⟨wh27, .str ⟨#[99, 111, 109, 109, 111, 110]⟩ wt27, wv27⟩] wep, #[]⟩), (L, ⟨.type "frame", none, .dict les lep, lsl'⟩)] → R (.ok (.ret (.ref tp))) ⟨h', g, d, t', os⟩) :
    codeAny (model PR w) { handled := none, depth := 340, frames := some [⟨⟨.function, enm, false, false, emo⟩, L, egl, [], equ, efn, ecd, some L, ebi⟩], units := 3000 } (.call (.ref 402) ⟨[.ref run, .int at' ta, .int kd tk, .int n tn], []⟩) R ⟨h, g, d, t, os⟩ := by
  skip
  subst ph0e ph1e ph2e hkd
  run_tac do
    let t0 ← IO.monoMsNow
    driveMain 8000 (fun k => match k with
      | "65" => some (useCtr ``c_coe)
      | "58" => some (useCtr ``c_noe1)
      | "212" => some (useCtr ``c_line)
      | "205" => some (useCtr ``c_place)
      | "41" => some (fun b st g => do
          let n := (listItemsE (← instantiateMVars (← g.getType)).consumeMData.getAppArgs[2]!.appArg!.getAppArgs[0]!).length
          if n == 1 then useCtr ``c_exc1 b st g else useCtr ``c_exc2 b st g)
      | k => hooks2 k) (endBys [`hL, `hO])
    let t1 ← IO.monoMsNow
    Lean.logInfo m!"ms {t1 - t0}"
end Mine
end
section
open PySem PySem.W PySem.W.X PyProof.Rows
namespace Mine
set_option maxRecDepth 5000
set_option maxHeartbeats 0

open Lean Meta Elab Tactic PySem.W.XRun in
theorem heard2d (w : PySem.World) (h₀ h : Heap) (g : Array GenState) (d : Drawn) (t : Nat) (os : OsState) (mk : Addr) (omk : Obj) (ctl ctlD run runD world worldD L : Addr) (r0 r1 r2 r3 r4 r5 places rowsL flat flatD : Addr) (rt0 rt1 rt2 rt3 rt4 rt5 pt0 pt1 pt2 pu0 pu1 pu2 : Tok) (ph0 ph1 ph2 : Int) (rv0 rv1 rv2 rv3 rv4 rv5 : Value) (re0 re1 re2 re3 re4 re5 pep rowse : Nat) (fh0 fh1 fh2 fh3 fh4 fh5 : Int) (ft0 ft1 ft2 ft3 ft4 ft5 : Tok) (fv2 fv3 fv4 fv5 : Value) (fep : Nat) (ch0 ch1 ch2 : Int) (ct0 ct1 ct2 : Tok) (cv0 cv1 : Value) (cep : Nat) (nh0 nh1 nh2 nh3 nh4 nh5 nh6 : Int) (nt0 nt1 nt2 nt3 nt4 nt5 nt6 : Tok) (nv2 nv3 nv4 nv6 : Value) (nep : Nat) (wh0 wh1 wh2 wh3 wh4 wh5 wh6 wh7 wh8 wh9 wh10 wh11 wh12 wh13 wh14 wh15 wh16 wh17 wh18 wh19 wh20 wh21 wh22 wh23 wh24 wh25 wh26 wh27 : Int) (wt0 wt1 wt2 wt3 wt4 wt5 wt6 wt7 wt8 wt9 wt10 wt11 wt12 wt13 wt14 wt15 wt16 wt17 wt18 wt19 wt20 wt21 wt22 wt23 wt24 wt25 wt26 wt27 : Tok) (wv0 wv1 wv3 wv4 wv5 wv6 wv7 wv8 wv9 wv10 wv11 wv12 wv13 wv14 wv15 wv16 wv17 wv18 wv20 wv25 wv26 wv27 : Value) (wep : Nat) (les : Array DictEntry) (lep : Nat) (ms st hdl el fa : Int) (on : Bool) (ec : Str) (mst stt hdt elt ect fat : Tok) (enm : List (Str × NameKind)) (emo : List (Str × Const)) (egl ebi : Addr) (equ : Str) (efn : Option Addr) (ecd : Value) (at' kd : Int) (ta tk : Tok) (n : Int) (tn : Tok) (lsl : Array (Option Value)) (ph0e : ph0 = 10) (ph1e : ph1 = 20) (ph2e : ph2 = 30)
    (KX : (KH w.params).In h₀) (D : Mem h₀ h [] [(mk, omk), (ctl, ⟨.ref 82, some ctlD, .plain, #[]⟩), (ctlD, ⟨.type "dict", none, .dict #[⟨ch0, .str ⟨#[112, 105, 108, 101]⟩ ct0, cv0⟩, ⟨ch1, .str ⟨#[109, 111, 115, 116]⟩ ct1, cv1⟩, ⟨ch2, .str ⟨#[102, 97, 105, 108, 101, 100, 95, 97, 116]⟩ ct2, .int fa fat⟩] cep, #[]⟩), (run, ⟨.ref 363, some runD, .plain, #[]⟩), (runD, ⟨.type "dict", none, .dict #[⟨nh0, .str ⟨#[119, 111, 114, 108, 100]⟩ nt0, .ref world⟩, ⟨nh1, .str ⟨#[102, 108, 97, 116]⟩ nt1, .ref flat⟩, ⟨nh2, .str ⟨#[97, 110, 115, 119, 101, 114, 115]⟩ nt2, nv2⟩, ⟨nh3, .str ⟨#[98, 105, 116, 115]⟩ nt3, nv3⟩, ⟨nh4, .str ⟨#[100, 105, 103, 105, 116, 115]⟩ nt4, nv4⟩, ⟨nh5, .str ⟨#[99, 111, 110, 116, 114, 111, 108]⟩ nt5, .ref ctl⟩, ⟨nh6, .str ⟨#[97, 115, 107, 101, 100]⟩ nt6, nv6⟩] nep, #[]⟩), (r5, ⟨.type "tuple", none, .seq #[.int 30 rt5, rv5] re5, #[]⟩), (r4, ⟨.type "tuple", none, .seq #[.int 30 rt4, rv4] re4, #[]⟩), (r3, ⟨.type "tuple", none, .seq #[.int 20 rt3, rv3] re3, #[]⟩), (r2, ⟨.type "tuple", none, .seq #[.int 20 rt2, rv2] re2, #[]⟩), (r1, ⟨.type "tuple", none, .seq #[.int 10 rt1, rv1] re1, #[]⟩), (r0, ⟨.type "tuple", none, .seq #[.int 10 rt0, rv0] re0, #[]⟩), (places, ⟨.type "dict", none, .dict #[⟨ph0, .int 10 pt0, .int 0 pu0⟩, ⟨ph1, .int 20 pt1, .int 2 pu1⟩, ⟨ph2, .int 30 pt2, .int 4 pu2⟩] pep, #[]⟩), (rowsL, ⟨.type "list", none, .seq #[.ref r0, .ref r1, .ref r2, .ref r3, .ref r4, .ref r5] rowse, #[]⟩), (flat, ⟨.ref 145, some flatD, .plain, #[]⟩), (flatD, ⟨.type "dict", none, .dict #[⟨fh0, .str ⟨#[114, 111, 119, 115]⟩ ft0, .ref rowsL⟩, ⟨fh1, .str ⟨#[112, 108, 97, 99, 101, 115]⟩ ft1, .ref places⟩, ⟨fh2, .str ⟨#[100, 97, 116, 97]⟩ ft2, fv2⟩, ⟨fh3, .str ⟨#[112, 97, 105, 114, 115]⟩ ft3, fv3⟩, ⟨fh4, .str ⟨#[108, 111, 111, 112, 115]⟩ ft4, fv4⟩, ⟨fh5, .str ⟨#[102, 110, 115]⟩ ft5, fv5⟩] fep, #[]⟩), (world, ⟨.ref 237, some worldD, .plain, #[]⟩), (worldD, ⟨.type "dict", none, .dict #[⟨wh0, .str ⟨#[98, 105, 116, 115]⟩ wt0, wv0⟩, ⟨wh1, .str ⟨#[100, 105, 103, 105, 116, 115]⟩ wt1, wv1⟩, ⟨wh2, .str ⟨#[109, 111, 115, 116, 95, 115, 116, 101, 112, 115]⟩ wt2, .int ms mst⟩, ⟨wh3, .str ⟨#[109, 111, 115, 116, 95, 100, 101, 112, 116, 104]⟩ wt3, wv3⟩, ⟨wh4, .str ⟨#[114, 111, 111, 109]⟩ wt4, wv4⟩, ⟨wh5, .str ⟨#[110, 97, 109, 101, 115]⟩ wt5, wv5⟩, ⟨wh6, .str ⟨#[97, 114, 114, 97, 121, 115]⟩ wt6, wv6⟩, ⟨wh7, .str ⟨#[107, 105, 110, 100, 115]⟩ wt7, wv7⟩, ⟨wh8, .str ⟨#[102, 110, 115]⟩ wt8, wv8⟩, ⟨wh9, .str ⟨#[111, 117, 116]⟩ wt9, wv9⟩, ⟨wh10, .str ⟨#[114, 111, 119]⟩ wt10, wv10⟩, ⟨wh11, .str ⟨#[105, 110, 112, 117, 116, 115]⟩ wt11, wv11⟩, ⟨wh12, .str ⟨#[102, 105, 108, 101, 115]⟩ wt12, wv12⟩, ⟨wh13, .str ⟨#[111, 112, 101, 110]⟩ wt13, wv13⟩, ⟨wh14, .str ⟨#[102, 105, 101, 108, 100, 115]⟩ wt14, wv14⟩, ⟨wh15, .str ⟨#[100, 97, 116, 97]⟩ wt15, wv15⟩, ⟨wh16, .str ⟨#[115, 112, 111, 116]⟩ wt16, wv16⟩, ⟨wh17, .str ⟨#[98, 97, 115, 101]⟩ wt17, wv17⟩, ⟨wh18, .str ⟨#[115, 101, 101, 100]⟩ wt18, wv18⟩, ⟨wh19, .str ⟨#[115, 116, 101, 112, 115]⟩ wt19, .int st stt⟩, ⟨wh20, .str ⟨#[100, 101, 112, 116, 104]⟩ wt20, wv20⟩, ⟨wh21, .str ⟨#[104, 97, 110, 100, 108, 101, 114]⟩ wt21, .int hdl hdt⟩, ⟨wh22, .str ⟨#[105, 115, 95, 104, 97, 110, 100, 108, 105, 110, 103]⟩ wt22, .bool on⟩, ⟨wh23, .str ⟨#[101, 114, 114, 111, 114, 95, 108, 105, 110, 101]⟩ wt23, .int el elt⟩, ⟨wh24, .str ⟨#[101, 114, 114, 111, 114, 95, 99, 111, 100, 101]⟩ wt24, .str ec ect⟩, ⟨wh25, .str ⟨#[105, 115, 95, 116, 114, 97, 99, 101, 100]⟩ wt25, wv25⟩, ⟨wh26, .str ⟨#[116, 114, 97, 99, 101, 115]⟩ wt26, wv26⟩, ⟨wh27, .str ⟨#[99, 111, 109, 109, 111, 110]⟩ wt27, wv27⟩] wep, #[]⟩), (L, ⟨.type "frame", none, .dict les lep, lsl⟩)])
    (hkd : kd = 2) (hat : 0 ≤ at') (hat' : at' < 6) (hh : hdl = 0 ∨ hdl = 10 ∨ hdl = 20 ∨ hdl = 30) (hn : n = 0 ∨ n = 10 ∨ n = 20 ∨ n = 30) (hno : n ≠ 0 ∨ on = false)
    (R : Result → Shared → Prop)
    (hD : ∀ sv lsl' hd' hdt' wep' h' t', hd' = n → lsl' = lsl → Mem h₀ h' [] [(mk, omk), (ctl, ⟨.ref 82, some ctlD, .plain, #[]⟩), (ctlD, ⟨.type "dict", none, .dict #[⟨ch0, .str ⟨#[112, 105, 108, 101]⟩ ct0, cv0⟩, ⟨ch1, .str ⟨#[109, 111, 115, 116]⟩ ct1, cv1⟩, ⟨ch2, .str ⟨#[102, 97, 105, 108, 101, 100, 95, 97, 116]⟩ ct2, .int fa fat⟩] cep, #[]⟩), (run, ⟨.ref 363, some runD, .plain, #[]⟩), (runD, ⟨.type "dict", none, .dict #[⟨nh0, .str ⟨#[119, 111, 114, 108, 100]⟩ nt0, .ref world⟩, ⟨nh1, .str ⟨#[102, 108, 97, 116]⟩ nt1, .ref flat⟩, ⟨nh2, .str ⟨#[97, 110, 115, 119, 101, 114, 115]⟩ nt2, nv2⟩, ⟨nh3, .str ⟨#[98, 105, 116, 115]⟩ nt3, nv3⟩, ⟨nh4, .str ⟨#[100, 105, 103, 105, 116, 115]⟩ nt4, nv4⟩, ⟨nh5, .str ⟨#[99, 111, 110, 116, 114, 111, 108]⟩ nt5, .ref ctl⟩, ⟨nh6, .str ⟨#[97, 115, 107, 101, 100]⟩ nt6, nv6⟩] nep, #[]⟩), (r5, ⟨.type "tuple", none, .seq #[.int 30 rt5, rv5] re5, #[]⟩), (r4, ⟨.type "tuple", none, .seq #[.int 30 rt4, rv4] re4, #[]⟩), (r3, ⟨.type "tuple", none, .seq #[.int 20 rt3, rv3] re3, #[]⟩), (r2, ⟨.type "tuple", none, .seq #[.int 20 rt2, rv2] re2, #[]⟩), (r1, ⟨.type "tuple", none, .seq #[.int 10 rt1, rv1] re1, #[]⟩), (r0, ⟨.type "tuple", none, .seq #[.int 10 rt0, rv0] re0, #[]⟩), (places, ⟨.type "dict", none, .dict #[⟨ph0, .int 10 pt0, .int 0 pu0⟩, ⟨ph1, .int 20 pt1, .int 2 pu1⟩, ⟨ph2, .int 30 pt2, .int 4 pu2⟩] pep, #[]⟩), (rowsL, ⟨.type "list", none, .seq #[.ref r0, .ref r1, .ref r2, .ref r3, .ref r4, .ref r5] rowse, #[]⟩), (flat, ⟨.ref 145, some flatD, .plain, #[]⟩), (flatD, ⟨.type "dict", none, .dict #[⟨fh0, .str ⟨#[114, 111, 119, 115]⟩ ft0, .ref rowsL⟩, ⟨fh1, .str ⟨#[112, 108, 97, 99, 101, 115]⟩ ft1, .ref places⟩, ⟨fh2, .str ⟨#[100, 97, 116, 97]⟩ ft2, fv2⟩, ⟨fh3, .str ⟨#[112, 97, 105, 114, 115]⟩ ft3, fv3⟩, ⟨fh4, .str ⟨#[108, 111, 111, 112, 115]⟩ ft4, fv4⟩, ⟨fh5, .str ⟨#[102, 110, 115]⟩ ft5, fv5⟩] fep, #[]⟩), (world, ⟨.ref 237, some worldD, .plain, #[]⟩), (worldD, ⟨.type "dict", none, .dict #[⟨wh0, .str ⟨#[98, 105, 116, 115]⟩ wt0, wv0⟩, ⟨wh1, .str ⟨#[100, 105, 103, 105, 116, 115]⟩ wt1, wv1⟩, ⟨wh2, .str ⟨#[109, 111, 115, 116, 95, 115, 116, 101, 112, 115]⟩ wt2, .int ms mst⟩, ⟨wh3, .str ⟨#[109, 111, 115, 116, 95, 100, 101, 112, 116, 104]⟩ wt3, wv3⟩, ⟨wh4, .str ⟨#[114, 111, 111, 109]⟩ wt4, wv4⟩, ⟨wh5, .str ⟨#[110, 97, 109, 101, 115]⟩ wt5, wv5⟩, ⟨wh6, .str ⟨#[97, 114, 114, 97, 121, 115]⟩ wt6, wv6⟩, ⟨wh7, .str ⟨#[107, 105, 110, 100, 115]⟩ wt7, wv7⟩, ⟨wh8, .str ⟨#[102, 110, 115]⟩ wt8, wv8⟩, ⟨wh9, .str ⟨#[111, 117, 116]⟩ wt9, wv9⟩, ⟨wh10, .str ⟨#[114, 111, 119]⟩ wt10, wv10⟩, ⟨wh11, .str ⟨#[105, 110, 112, 117, 116, 115]⟩ wt11, wv11⟩, ⟨wh12, .str ⟨#[102, 105, 108, 101, 115]⟩ wt12, wv12⟩, ⟨wh13, .str ⟨#[111, 112, 101, 110]⟩ wt13, wv13⟩, ⟨wh14, .str ⟨#[102, 105, 101, 108, 100, 115]⟩ wt14, wv14⟩, ⟨wh15, .str ⟨#[100, 97, 116, 97]⟩ wt15, wv15⟩, ⟨wh16, .str ⟨#[115, 112, 111, 116]⟩ wt16, wv16⟩, ⟨wh17, .str ⟨#[98, 97, 115, 101]⟩ wt17, wv17⟩, ⟨wh18, .str ⟨#[115, 101, 101, 100]⟩ wt18, wv18⟩, ⟨wh19, .str ⟨#[115, 116, 101, 112, 115]⟩ wt19, .int st stt⟩, ⟨wh20, .str ⟨#[100, 101, 112, 116, 104]⟩ wt20, wv20⟩, ⟨wh21, .str ⟨#[104, 97, 110, 100, 108, 101, 114]⟩ wt21, .int hd' hdt'⟩, ⟨wh22, .str ⟨#[105, 115, 95, 104, 97, 110, 100, 108, 105, 110, 103]⟩ wt22, .bool on⟩, ⟨wh23, .str ⟨#[101, 114, 114, 111, 114, 95, 108, 105, 110, 101]⟩ wt23, .int el elt⟩, ⟨wh24, .str ⟨#[101, 114, 114, 111, 114, 95, 99, 111, 100, 101]⟩ wt24, .str ec ect⟩, ⟨wh25, .str ⟨#[105, 115, 95, 116, 114, 97, 99, 101, 100]⟩ wt25, wv25⟩, ⟨wh26, .str ⟨#[116, 114, 97, 99, 101, 115]⟩ wt26, wv26⟩, ⟨wh27, .str ⟨#[99, 111, 109, 109, 111, 110]⟩ wt27, wv27⟩] wep', #[]⟩), (L, ⟨.type "frame", none, .dict les lep, lsl'⟩)] → R (.ok (.ret (.str ⟨#[100, 111, 110, 101]⟩ sv))) ⟨h', g, d, t', os⟩) :
    codeAny (model PR w) { handled := none, depth := 340, frames := some [⟨⟨.function, enm, false, false, emo⟩, L, egl, [], equ, efn, ecd, some L, ebi⟩], units := 3000 } (.call (.ref 402) ⟨[.ref run, .int at' ta, .int kd tk, .int n tn], []⟩) R ⟨h, g, d, t, os⟩ := by
  subst ph0e ph1e ph2e hkd
  rcases hno with hno | rfl
  all_goals run_tac do
    let t0 ← IO.monoMsNow
    driveMain 8000 (fun k => match k with
      | "65" => some (useCtr ``c_coe)
      | "58" => some (useCtr ``c_noe1)
      | "212" => some (useCtr ``c_line)
      | "205" => some (useCtr ``c_place)
      | "41" => some (fun b st g => do
          let n := (listItemsE (← instantiateMVars (← g.getType)).consumeMData.getAppArgs[2]!.appArg!.getAppArgs[0]!).length
          if n == 1 then useCtr ``c_exc1 b st g else useCtr ``c_exc2 b st g)
      | k => hooks2 k) (endBys [`hD])
    let t1 ← IO.monoMsNow
    Lean.logInfo m!"ms {t1 - t0}"
end Mine
end
section
open PySem PySem.W PySem.W.X PyProof.Rows
namespace Mine
set_option maxRecDepth 5000
set_option maxHeartbeats 0

open Lean Meta Elab Tactic PySem.W.XRun in
theorem heard2o (w : PySem.World) (h₀ h : Heap) (g : Array GenState) (d : Drawn) (t : Nat) (os : OsState) (mk : Addr) (omk : Obj) (ctl ctlD run runD world worldD L : Addr) (r0 r1 r2 r3 r4 r5 places rowsL flat flatD : Addr) (rt0 rt1 rt2 rt3 rt4 rt5 pt0 pt1 pt2 pu0 pu1 pu2 : Tok) (ph0 ph1 ph2 : Int) (rv0 rv1 rv2 rv3 rv4 rv5 : Value) (re0 re1 re2 re3 re4 re5 pep rowse : Nat) (fh0 fh1 fh2 fh3 fh4 fh5 : Int) (ft0 ft1 ft2 ft3 ft4 ft5 : Tok) (fv2 fv3 fv4 fv5 : Value) (fep : Nat) (ch0 ch1 ch2 : Int) (ct0 ct1 ct2 : Tok) (cv0 cv1 : Value) (cep : Nat) (nh0 nh1 nh2 nh3 nh4 nh5 nh6 : Int) (nt0 nt1 nt2 nt3 nt4 nt5 nt6 : Tok) (nv2 nv3 nv4 nv6 : Value) (nep : Nat) (wh0 wh1 wh2 wh3 wh4 wh5 wh6 wh7 wh8 wh9 wh10 wh11 wh12 wh13 wh14 wh15 wh16 wh17 wh18 wh19 wh20 wh21 wh22 wh23 wh24 wh25 wh26 wh27 : Int) (wt0 wt1 wt2 wt3 wt4 wt5 wt6 wt7 wt8 wt9 wt10 wt11 wt12 wt13 wt14 wt15 wt16 wt17 wt18 wt19 wt20 wt21 wt22 wt23 wt24 wt25 wt26 wt27 : Tok) (wv0 wv1 wv3 wv4 wv5 wv6 wv7 wv8 wv9 wv10 wv11 wv12 wv13 wv14 wv15 wv16 wv17 wv18 wv20 wv25 wv26 wv27 : Value) (wep : Nat) (les : Array DictEntry) (lep : Nat) (ms st hdl el fa : Int) (on : Bool) (ec : Str) (mst stt hdt elt ect fat : Tok) (enm : List (Str × NameKind)) (emo : List (Str × Const)) (egl ebi : Addr) (equ : Str) (efn : Option Addr) (ecd : Value) (at' kd : Int) (ta tk : Tok) (n num : Int) (tn : Tok) (lsl : Array (Option Value)) (ph0e : ph0 = 10) (ph1e : ph1 = 20) (ph2e : ph2 = 30)
    (KX : (KH w.params).In h₀) (D : Mem h₀ h [] [(mk, omk), (ctl, ⟨.ref 82, some ctlD, .plain, #[]⟩), (ctlD, ⟨.type "dict", none, .dict #[⟨ch0, .str ⟨#[112, 105, 108, 101]⟩ ct0, cv0⟩, ⟨ch1, .str ⟨#[109, 111, 115, 116]⟩ ct1, cv1⟩, ⟨ch2, .str ⟨#[102, 97, 105, 108, 101, 100, 95, 97, 116]⟩ ct2, .int fa fat⟩] cep, #[]⟩), (run, ⟨.ref 363, some runD, .plain, #[]⟩), (runD, ⟨.type "dict", none, .dict #[⟨nh0, .str ⟨#[119, 111, 114, 108, 100]⟩ nt0, .ref world⟩, ⟨nh1, .str ⟨#[102, 108, 97, 116]⟩ nt1, .ref flat⟩, ⟨nh2, .str ⟨#[97, 110, 115, 119, 101, 114, 115]⟩ nt2, nv2⟩, ⟨nh3, .str ⟨#[98, 105, 116, 115]⟩ nt3, nv3⟩, ⟨nh4, .str ⟨#[100, 105, 103, 105, 116, 115]⟩ nt4, nv4⟩, ⟨nh5, .str ⟨#[99, 111, 110, 116, 114, 111, 108]⟩ nt5, .ref ctl⟩, ⟨nh6, .str ⟨#[97, 115, 107, 101, 100]⟩ nt6, nv6⟩] nep, #[]⟩), (r5, ⟨.type "tuple", none, .seq #[.int 30 rt5, rv5] re5, #[]⟩), (r4, ⟨.type "tuple", none, .seq #[.int 30 rt4, rv4] re4, #[]⟩), (r3, ⟨.type "tuple", none, .seq #[.int 20 rt3, rv3] re3, #[]⟩), (r2, ⟨.type "tuple", none, .seq #[.int 20 rt2, rv2] re2, #[]⟩), (r1, ⟨.type "tuple", none, .seq #[.int 10 rt1, rv1] re1, #[]⟩), (r0, ⟨.type "tuple", none, .seq #[.int 10 rt0, rv0] re0, #[]⟩), (places, ⟨.type "dict", none, .dict #[⟨ph0, .int 10 pt0, .int 0 pu0⟩, ⟨ph1, .int 20 pt1, .int 2 pu1⟩, ⟨ph2, .int 30 pt2, .int 4 pu2⟩] pep, #[]⟩), (rowsL, ⟨.type "list", none, .seq #[.ref r0, .ref r1, .ref r2, .ref r3, .ref r4, .ref r5] rowse, #[]⟩), (flat, ⟨.ref 145, some flatD, .plain, #[]⟩), (flatD, ⟨.type "dict", none, .dict #[⟨fh0, .str ⟨#[114, 111, 119, 115]⟩ ft0, .ref rowsL⟩, ⟨fh1, .str ⟨#[112, 108, 97, 99, 101, 115]⟩ ft1, .ref places⟩, ⟨fh2, .str ⟨#[100, 97, 116, 97]⟩ ft2, fv2⟩, ⟨fh3, .str ⟨#[112, 97, 105, 114, 115]⟩ ft3, fv3⟩, ⟨fh4, .str ⟨#[108, 111, 111, 112, 115]⟩ ft4, fv4⟩, ⟨fh5, .str ⟨#[102, 110, 115]⟩ ft5, fv5⟩] fep, #[]⟩), (world, ⟨.ref 237, some worldD, .plain, #[]⟩), (worldD, ⟨.type "dict", none, .dict #[⟨wh0, .str ⟨#[98, 105, 116, 115]⟩ wt0, wv0⟩, ⟨wh1, .str ⟨#[100, 105, 103, 105, 116, 115]⟩ wt1, wv1⟩, ⟨wh2, .str ⟨#[109, 111, 115, 116, 95, 115, 116, 101, 112, 115]⟩ wt2, .int ms mst⟩, ⟨wh3, .str ⟨#[109, 111, 115, 116, 95, 100, 101, 112, 116, 104]⟩ wt3, wv3⟩, ⟨wh4, .str ⟨#[114, 111, 111, 109]⟩ wt4, wv4⟩, ⟨wh5, .str ⟨#[110, 97, 109, 101, 115]⟩ wt5, wv5⟩, ⟨wh6, .str ⟨#[97, 114, 114, 97, 121, 115]⟩ wt6, wv6⟩, ⟨wh7, .str ⟨#[107, 105, 110, 100, 115]⟩ wt7, wv7⟩, ⟨wh8, .str ⟨#[102, 110, 115]⟩ wt8, wv8⟩, ⟨wh9, .str ⟨#[111, 117, 116]⟩ wt9, wv9⟩, ⟨wh10, .str ⟨#[114, 111, 119]⟩ wt10, wv10⟩, ⟨wh11, .str ⟨#[105, 110, 112, 117, 116, 115]⟩ wt11, wv11⟩, ⟨wh12, .str ⟨#[102, 105, 108, 101, 115]⟩ wt12, wv12⟩, ⟨wh13, .str ⟨#[111, 112, 101, 110]⟩ wt13, wv13⟩, ⟨wh14, .str ⟨#[102, 105, 101, 108, 100, 115]⟩ wt14, wv14⟩, ⟨wh15, .str ⟨#[100, 97, 116, 97]⟩ wt15, wv15⟩, ⟨wh16, .str ⟨#[115, 112, 111, 116]⟩ wt16, wv16⟩, ⟨wh17, .str ⟨#[98, 97, 115, 101]⟩ wt17, wv17⟩, ⟨wh18, .str ⟨#[115, 101, 101, 100]⟩ wt18, wv18⟩, ⟨wh19, .str ⟨#[115, 116, 101, 112, 115]⟩ wt19, .int st stt⟩, ⟨wh20, .str ⟨#[100, 101, 112, 116, 104]⟩ wt20, wv20⟩, ⟨wh21, .str ⟨#[104, 97, 110, 100, 108, 101, 114]⟩ wt21, .int hdl hdt⟩, ⟨wh22, .str ⟨#[105, 115, 95, 104, 97, 110, 100, 108, 105, 110, 103]⟩ wt22, .bool on⟩, ⟨wh23, .str ⟨#[101, 114, 114, 111, 114, 95, 108, 105, 110, 101]⟩ wt23, .int el elt⟩, ⟨wh24, .str ⟨#[101, 114, 114, 111, 114, 95, 99, 111, 100, 101]⟩ wt24, .str ec ect⟩, ⟨wh25, .str ⟨#[105, 115, 95, 116, 114, 97, 99, 101, 100]⟩ wt25, wv25⟩, ⟨wh26, .str ⟨#[116, 114, 97, 99, 101, 115]⟩ wt26, wv26⟩, ⟨wh27, .str ⟨#[99, 111, 109, 109, 111, 110]⟩ wt27, wv27⟩] wep, #[]⟩), (L, ⟨.type "frame", none, .dict les lep, lsl⟩)])
    (hkd : kd = 2) (hat : 0 ≤ at') (hat' : at' < 6) (hh : hdl = 0 ∨ hdl = 10 ∨ hdl = 20 ∨ hdl = 30) (hn : n = 0) (hon : on = true) (hcd : IsCode ec num)
    (R : Result → Shared → Prop)
    (hO : ∀ tp tq v tv lsl' hd' hdt' wep' h' t', hd' = n → v = num → Mem h₀ h' [] [(tp, ⟨.type "tuple", none, .seq #[.str ⟨#[111, 117, 116]⟩ tq, .int v tv] 0, #[]⟩), (mk, omk), (ctl, ⟨.ref 82, some ctlD, .plain, #[]⟩), (ctlD, ⟨.type "dict", none, .dict #[⟨ch0, .str ⟨#[112, 105, 108, 101]⟩ ct0, cv0⟩, ⟨ch1, .str ⟨#[109, 111, 115, 116]⟩ ct1, cv1⟩, ⟨ch2, .str ⟨#[102, 97, 105, 108, 101, 100, 95, 97, 116]⟩ ct2, .int fa fat⟩] cep, #[]⟩), (run, ⟨.ref 363, some runD, .plain, #[]⟩), (runD, ⟨.type "dict", none, .dict #[⟨nh0, .str ⟨#[119, 111, 114, 108, 100]⟩ nt0, .ref world⟩, ⟨nh1, .str ⟨#[102, 108, 97, 116]⟩ nt1, .ref flat⟩, ⟨nh2, .str ⟨#[97, 110, 115, 119, 101, 114, 115]⟩ nt2, nv2⟩, ⟨nh3, .str ⟨#[98, 105, 116, 115]⟩ nt3, nv3⟩, ⟨nh4, .str ⟨#[100, 105, 103, 105, 116, 115]⟩ nt4, nv4⟩, ⟨nh5, .str ⟨#[99, 111, 110, 116, 114, 111, 108]⟩ nt5, .ref ctl⟩, ⟨nh6, .str ⟨#[97, 115, 107, 101, 100]⟩ nt6, nv6⟩] nep, #[]⟩), (r5, ⟨.type "tuple", none, .seq #[.int 30 rt5, rv5] re5, #[]⟩), (r4, ⟨.type "tuple", none, .seq #[.int 30 rt4, rv4] re4, #[]⟩), (r3, ⟨.type "tuple", none, .seq #[.int 20 rt3, rv3] re3, #[]⟩), (r2, ⟨.type "tuple", none, .seq #[.int 20 rt2, rv2] re2, #[]⟩), (r1, ⟨.type "tuple", none, .seq #[.int 10 rt1, rv1] re1, #[]⟩), (r0, ⟨.type "tuple", none, .seq #[.int 10 rt0, rv0] re0, #[]⟩), (places, ⟨.type "dict", none, .dict #[⟨ph0, .int 10 pt0, .int 0 pu0⟩, ⟨ph1, .int 20 pt1, .int 2 pu1⟩, ⟨ph2, .int 30 pt2, .int 4 pu2⟩] pep, #[]⟩), (rowsL, ⟨.type "list", none, .seq #[.ref r0, .ref r1, .ref r2, .ref r3, .ref r4, .ref r5] rowse, #[]⟩), (flat, ⟨.ref 145, some flatD, .plain, #[]⟩), (flatD, ⟨.type "dict", none, .dict #[⟨fh0, .str ⟨#[114, 111, 119, 115]⟩ ft0, .ref rowsL⟩, ⟨fh1, .str ⟨#[112, 108, 97, 99, 101, 115]⟩ ft1, .ref places⟩, ⟨fh2, .str ⟨#[100, 97, 116, 97]⟩ ft2, fv2⟩, ⟨fh3, .str ⟨#[112, 97, 105, 114, 115]⟩ ft3, fv3⟩, ⟨fh4, .str ⟨#[108, 111, 111, 112, 115]⟩ ft4, fv4⟩, ⟨fh5, .str ⟨#[102, 110, 115]⟩ ft5, fv5⟩] fep, #[]⟩), (world, ⟨.ref 237, some worldD, .plain, #[]⟩), (worldD, ⟨.type "dict", none, .dict #[⟨wh0, .str ⟨#[98, 105, 116, 115]⟩ wt0, wv0⟩, ⟨wh1, .str ⟨#[100, 105, 103, 105, 116, 115]⟩ wt1, wv1⟩, ⟨wh2, .str ⟨#[109, 111, 115, 116, 95, 115, 116, 101, 112, 115]⟩ wt2, .int ms mst⟩, ⟨wh3, .str ⟨#[109, 111, 115, 116, 95, 100, 101, 112, 116, 104]⟩ wt3, wv3⟩, ⟨wh4, .str ⟨#[114, 111, 111, 109]⟩ wt4, wv4⟩, ⟨wh5, .str ⟨#[110, 97, 109, 101, 115]⟩ wt5, wv5⟩, ⟨wh6, .str ⟨#[97, 114, 114, 97, 121, 115]⟩ wt6, wv6⟩, ⟨wh7, .str ⟨#[107, 105, 110, 100, 115]⟩ wt7, wv7⟩, ⟨wh8, .str ⟨#[102, 110, 115]⟩ wt8, wv8⟩, ⟨wh9, .str ⟨#[111, 117, 116]⟩ wt9, wv9⟩, ⟨wh10, .str ⟨#[114, 111, 119]⟩ wt10, wv10⟩, ⟨wh11, .str ⟨#[105, 110, 112, 117, 116, 115]⟩ wt11, wv11⟩, ⟨wh12, .str ⟨#[102, 105, 108, 101, 115]⟩ wt12, wv12⟩, ⟨wh13, .str ⟨#[111, 112, 101, 110]⟩ wt13, wv13⟩, ⟨wh14, .str ⟨#[102, 105, 101, 108, 100, 115]⟩ wt14, wv14⟩, ⟨wh15, .str ⟨#[100, 97, 116, 97]⟩ wt15, wv15⟩, ⟨wh16, .str ⟨#[115, 112, 111, 116]⟩ wt16, wv16⟩, ⟨wh17, .str ⟨#[98, 97, 115, 101]⟩ wt17, wv17⟩, ⟨wh18, .str ⟨#[115, 101, 101, 100]⟩ wt18, wv18⟩, ⟨wh19, .str ⟨#[115, 116, 101, 112, 115]⟩ wt19, .int st stt⟩, ⟨wh20, .str ⟨#[100, 101, 112, 116, 104]⟩ wt20, wv20⟩, ⟨wh21, .str ⟨#[104, 97, 110, 100, 108, 101, 114]⟩ wt21, .int hd' hdt'⟩, ⟨wh22, .str ⟨#[105, 115, 95, 104, 97, 110, 100, 108, 105, 110, 103]⟩ wt22, .bool on⟩, ⟨wh23, .str ⟨#[101, 114, 114, 111, 114, 95, 108, 105, 110, 101]⟩ wt23, .int el elt⟩, ⟨wh24, .str ⟨#[101, 114, 114, 111, 114, 95, 99, 111, 100, 101]⟩ wt24, .str ec ect⟩, ⟨wh25, .str ⟨#[105, 115, 95, 116, 114, 97, 99, 101, 100]⟩ wt25, wv25⟩, ⟨wh26, .str ⟨#[116, 114, 97, 99, 101, 115]⟩ wt26, wv26⟩, ⟨wh27, .str ⟨#[99, 111, 109, 109, 111, 110]⟩ wt27, wv27⟩] wep', #[]⟩), (L, ⟨.type "frame", none, .dict les lep, lsl'⟩)] → R (.ok (.ret (.ref tp))) ⟨h', g, d, t', os⟩) :
    codeAny (model PR w) { handled := none, depth := 340, frames := some [⟨⟨.function, enm, false, false, emo⟩, L, egl, [], equ, efn, ecd, some L, ebi⟩], units := 3000 } (.call (.ref 402) ⟨[.ref run, .int at' ta, .int kd tk, .int n tn], []⟩) R ⟨h, g, d, t, os⟩ := by
  subst ph0e ph1e ph2e hkd
  subst hon
  all_goals run_tac do
    let t0 ← IO.monoMsNow
    driveMain 8000 (fun k => match k with
      | "65" => some (useCtr ``c_coe)
      | "58" => some (useCtr ``c_noe1)
      | "212" => some (useCtr ``c_line)
      | "205" => some (useCtr ``c_place)
      | "41" => some (fun b st g => do
          let n := (listItemsE (← instantiateMVars (← g.getType)).consumeMData.getAppArgs[2]!.appArg!.getAppArgs[0]!).length
          if n == 1 then useCtr ``c_exc1 b st g else useCtr ``c_exc2 b st g)
      | k => hooks2 k) (endBys [`hO])
    let t1 ← IO.monoMsNow
    Lean.logInfo m!"ms {t1 - t0}"
end Mine
end
section
open PySem PySem.W PySem.W.X PyProof.Rows
namespace Mine
set_option maxRecDepth 5000
set_option maxHeartbeats 0

open Lean Meta Elab Tactic PySem.W.XRun in
theorem heard3d (w : PySem.World) (h₀ h : Heap) (g : Array GenState) (d : Drawn) (t : Nat) (os : OsState) (mk : Addr) (omk : Obj) (ctl ctlD run runD world worldD L : Addr) (r0 r1 r2 r3 r4 r5 places rowsL flat flatD : Addr) (rt0 rt1 rt2 rt3 rt4 rt5 pt0 pt1 pt2 pu0 pu1 pu2 : Tok) (ph0 ph1 ph2 : Int) (rv0 rv1 rv2 rv3 rv4 rv5 : Value) (re0 re1 re2 re3 re4 re5 pep rowse : Nat) (fh0 fh1 fh2 fh3 fh4 fh5 : Int) (ft0 ft1 ft2 ft3 ft4 ft5 : Tok) (fv2 fv3 fv4 fv5 : Value) (fep : Nat) (ch0 ch1 ch2 : Int) (ct0 ct1 ct2 : Tok) (cv0 cv1 : Value) (cep : Nat) (nh0 nh1 nh2 nh3 nh4 nh5 nh6 : Int) (nt0 nt1 nt2 nt3 nt4 nt5 nt6 : Tok) (nv2 nv3 nv4 nv6 : Value) (nep : Nat) (wh0 wh1 wh2 wh3 wh4 wh5 wh6 wh7 wh8 wh9 wh10 wh11 wh12 wh13 wh14 wh15 wh16 wh17 wh18 wh19 wh20 wh21 wh22 wh23 wh24 wh25 wh26 wh27 : Int) (wt0 wt1 wt2 wt3 wt4 wt5 wt6 wt7 wt8 wt9 wt10 wt11 wt12 wt13 wt14 wt15 wt16 wt17 wt18 wt19 wt20 wt21 wt22 wt23 wt24 wt25 wt26 wt27 : Tok) (wv0 wv1 wv3 wv4 wv5 wv6 wv7 wv8 wv9 wv10 wv11 wv12 wv13 wv14 wv15 wv16 wv17 wv18 wv20 wv25 wv26 wv27 : Value) (wep : Nat) (les : Array DictEntry) (lep : Nat) (ms st hdl el fa : Int) (on : Bool) (ec : Str) (mst stt hdt elt ect fat : Tok) (enm : List (Str × NameKind)) (emo : List (Str × Const)) (egl ebi : Addr) (equ : Str) (efn : Option Addr) (ecd : Value) (at' kd : Int) (ta tk : Tok) (n : Int) (tn : Tok) (lsl : Array (Option Value)) (ph0e : ph0 = 10) (ph1e : ph1 = 20) (ph2e : ph2 = 30)
    (KX : (KH w.params).In h₀) (D : Mem h₀ h [] [(mk, omk), (ctl, ⟨.ref 82, some ctlD, .plain, #[]⟩), (ctlD, ⟨.type "dict", none, .dict #[⟨ch0, .str ⟨#[112, 105, 108, 101]⟩ ct0, cv0⟩, ⟨ch1, .str ⟨#[109, 111, 115, 116]⟩ ct1, cv1⟩, ⟨ch2, .str ⟨#[102, 97, 105, 108, 101, 100, 95, 97, 116]⟩ ct2, .int fa fat⟩] cep, #[]⟩), (run, ⟨.ref 363, some runD, .plain, #[]⟩), (runD, ⟨.type "dict", none, .dict #[⟨nh0, .str ⟨#[119, 111, 114, 108, 100]⟩ nt0, .ref world⟩, ⟨nh1, .str ⟨#[102, 108, 97, 116]⟩ nt1, .ref flat⟩, ⟨nh2, .str ⟨#[97, 110, 115, 119, 101, 114, 115]⟩ nt2, nv2⟩, ⟨nh3, .str ⟨#[98, 105, 116, 115]⟩ nt3, nv3⟩, ⟨nh4, .str ⟨#[100, 105, 103, 105, 116, 115]⟩ nt4, nv4⟩, ⟨nh5, .str ⟨#[99, 111, 110, 116, 114, 111, 108]⟩ nt5, .ref ctl⟩, ⟨nh6, .str ⟨#[97, 115, 107, 101, 100]⟩ nt6, nv6⟩] nep, #[]⟩), (r5, ⟨.type "tuple", none, .seq #[.int 30 rt5, rv5] re5, #[]⟩), (r4, ⟨.type "tuple", none, .seq #[.int 30 rt4, rv4] re4, #[]⟩), (r3, ⟨.type "tuple", none, .seq #[.int 20 rt3, rv3] re3, #[]⟩), (r2, ⟨.type "tuple", none, .seq #[.int 20 rt2, rv2] re2, #[]⟩), (r1, ⟨.type "tuple", none, .seq #[.int 10 rt1, rv1] re1, #[]⟩), (r0, ⟨.type "tuple", none, .seq #[.int 10 rt0, rv0] re0, #[]⟩), (places, ⟨.type "dict", none, .dict #[⟨ph0, .int 10 pt0, .int 0 pu0⟩, ⟨ph1, .int 20 pt1, .int 2 pu1⟩, ⟨ph2, .int 30 pt2, .int 4 pu2⟩] pep, #[]⟩), (rowsL, ⟨.type "list", none, .seq #[.ref r0, .ref r1, .ref r2, .ref r3, .ref r4, .ref r5] rowse, #[]⟩), (flat, ⟨.ref 145, some flatD, .plain, #[]⟩), (flatD, ⟨.type "dict", none, .dict #[⟨fh0, .str ⟨#[114, 111, 119, 115]⟩ ft0, .ref rowsL⟩, ⟨fh1, .str ⟨#[112, 108, 97, 99, 101, 115]⟩ ft1, .ref places⟩, ⟨fh2, .str ⟨#[100, 97, 116, 97]⟩ ft2, fv2⟩, ⟨fh3, .str ⟨#[112, 97, 105, 114, 115]⟩ ft3, fv3⟩, ⟨fh4, .str ⟨#[108, 111, 111, 112, 115]⟩ ft4, fv4⟩, ⟨fh5, .str ⟨#[102, 110, 115]⟩ ft5, fv5⟩] fep, #[]⟩), (world, ⟨.ref 237, some worldD, .plain, #[]⟩), (worldD, ⟨.type "dict", none, .dict #[⟨wh0, .str ⟨#[98, 105, 116, 115]⟩ wt0, wv0⟩, ⟨wh1, .str ⟨#[100, 105, 103, 105, 116, 115]⟩ wt1, wv1⟩, ⟨wh2, .str ⟨#[109, 111, 115, 116, 95, 115, 116, 101, 112, 115]⟩ wt2, .int ms mst⟩, ⟨wh3, .str ⟨#[109, 111, 115, 116, 95, 100, 101, 112, 116, 104]⟩ wt3, wv3⟩, ⟨wh4, .str ⟨#[114, 111, 111, 109]⟩ wt4, wv4⟩, ⟨wh5, .str ⟨#[110, 97, 109, 101, 115]⟩ wt5, wv5⟩, ⟨wh6, .str ⟨#[97, 114, 114, 97, 121, 115]⟩ wt6, wv6⟩, ⟨wh7, .str ⟨#[107, 105, 110, 100, 115]⟩ wt7, wv7⟩, ⟨wh8, .str ⟨#[102, 110, 115]⟩ wt8, wv8⟩, ⟨wh9, .str ⟨#[111, 117, 116]⟩ wt9, wv9⟩, ⟨wh10, .str ⟨#[114, 111, 119]⟩ wt10, wv10⟩, ⟨wh11, .str ⟨#[105, 110, 112, 117, 116, 115]⟩ wt11, wv11⟩, ⟨wh12, .str ⟨#[102, 105, 108, 101, 115]⟩ wt12, wv12⟩, ⟨wh13, .str ⟨#[111, 112, 101, 110]⟩ wt13, wv13⟩, ⟨wh14, .str ⟨#[102, 105, 101, 108, 100, 115]⟩ wt14, wv14⟩, ⟨wh15, .str ⟨#[100, 97, 116, 97]⟩ wt15, wv15⟩, ⟨wh16, .str ⟨#[115, 112, 111, 116]⟩ wt16, wv16⟩, ⟨wh17, .str ⟨#[98, 97, 115, 101]⟩ wt17, wv17⟩, ⟨wh18, .str ⟨#[115, 101, 101, 100]⟩ wt18, wv18⟩, ⟨wh19, .str ⟨#[115, 116, 101, 112, 115]⟩ wt19, .int st stt⟩, ⟨wh20, .str ⟨#[100, 101, 112, 116, 104]⟩ wt20, wv20⟩, ⟨wh21, .str ⟨#[104, 97, 110, 100, 108, 101, 114]⟩ wt21, .int hdl hdt⟩, ⟨wh22, .str ⟨#[105, 115, 95, 104, 97, 110, 100, 108, 105, 110, 103]⟩ wt22, .bool on⟩, ⟨wh23, .str ⟨#[101, 114, 114, 111, 114, 95, 108, 105, 110, 101]⟩ wt23, .int el elt⟩, ⟨wh24, .str ⟨#[101, 114, 114, 111, 114, 95, 99, 111, 100, 101]⟩ wt24, .str ec ect⟩, ⟨wh25, .str ⟨#[105, 115, 95, 116, 114, 97, 99, 101, 100]⟩ wt25, wv25⟩, ⟨wh26, .str ⟨#[116, 114, 97, 99, 101, 115]⟩ wt26, wv26⟩, ⟨wh27, .str ⟨#[99, 111, 109, 109, 111, 110]⟩ wt27, wv27⟩] wep, #[]⟩), (L, ⟨.type "frame", none, .dict les lep, lsl⟩)])
    (hkd : kd = 3) (hat : 0 ≤ at') (hat' : at' < 6) (hh : hdl = 0 ∨ hdl = 10 ∨ hdl = 20 ∨ hdl = 30) (hms : st + 1 ≤ ms)
    (R : Result → Shared → Prop)
    (hD : ∀ sv lsl' st' stt' wep' h' t', st' = st + 1 → lsl' = lsl → Mem h₀ h' [] [(mk, omk), (ctl, ⟨.ref 82, some ctlD, .plain, #[]⟩), (ctlD, ⟨.type "dict", none, .dict #[⟨ch0, .str ⟨#[112, 105, 108, 101]⟩ ct0, cv0⟩, ⟨ch1, .str ⟨#[109, 111, 115, 116]⟩ ct1, cv1⟩, ⟨ch2, .str ⟨#[102, 97, 105, 108, 101, 100, 95, 97, 116]⟩ ct2, .int fa fat⟩] cep, #[]⟩), (run, ⟨.ref 363, some runD, .plain, #[]⟩), (runD, ⟨.type "dict", none, .dict #[⟨nh0, .str ⟨#[119, 111, 114, 108, 100]⟩ nt0, .ref world⟩, ⟨nh1, .str ⟨#[102, 108, 97, 116]⟩ nt1, .ref flat⟩, ⟨nh2, .str ⟨#[97, 110, 115, 119, 101, 114, 115]⟩ nt2, nv2⟩, ⟨nh3, .str ⟨#[98, 105, 116, 115]⟩ nt3, nv3⟩, ⟨nh4, .str ⟨#[100, 105, 103, 105, 116, 115]⟩ nt4, nv4⟩, ⟨nh5, .str ⟨#[99, 111, 110, 116, 114, 111, 108]⟩ nt5, .ref ctl⟩, ⟨nh6, .str ⟨#[97, 115, 107, 101, 100]⟩ nt6, nv6⟩] nep, #[]⟩), (r5, ⟨.type "tuple", none, .seq #[.int 30 rt5, rv5] re5, #[]⟩), (r4, ⟨.type "tuple", none, .seq #[.int 30 rt4, rv4] re4, #[]⟩), (r3, ⟨.type "tuple", none, .seq #[.int 20 rt3, rv3] re3, #[]⟩), (r2, ⟨.type "tuple", none, .seq #[.int 20 rt2, rv2] re2, #[]⟩), (r1, ⟨.type "tuple", none, .seq #[.int 10 rt1, rv1] re1, #[]⟩), (r0, ⟨.type "tuple", none, .seq #[.int 10 rt0, rv0] re0, #[]⟩), (places, ⟨.type "dict", none, .dict #[⟨ph0, .int 10 pt0, .int 0 pu0⟩, ⟨ph1, .int 20 pt1, .int 2 pu1⟩, ⟨ph2, .int 30 pt2, .int 4 pu2⟩] pep, #[]⟩), (rowsL, ⟨.type "list", none, .seq #[.ref r0, .ref r1, .ref r2, .ref r3, .ref r4, .ref r5] rowse, #[]⟩), (flat, ⟨.ref 145, some flatD, .plain, #[]⟩), (flatD, ⟨.type "dict", none, .dict #[⟨fh0, .str ⟨#[114, 111, 119, 115]⟩ ft0, .ref rowsL⟩, ⟨fh1, .str ⟨#[112, 108, 97, 99, 101, 115]⟩ ft1, .ref places⟩, ⟨fh2, .str ⟨#[100, 97, 116, 97]⟩ ft2, fv2⟩, ⟨fh3, .str ⟨#[112, 97, 105, 114, 115]⟩ ft3, fv3⟩, ⟨fh4, .str ⟨#[108, 111, 111, 112, 115]⟩ ft4, fv4⟩, ⟨fh5, .str ⟨#[102, 110, 115]⟩ ft5, fv5⟩] fep, #[]⟩), (world, ⟨.ref 237, some worldD, .plain, #[]⟩), (worldD, ⟨.type "dict", none, .dict #[⟨wh0, .str ⟨#[98, 105, 116, 115]⟩ wt0, wv0⟩, ⟨wh1, .str ⟨#[100, 105, 103, 105, 116, 115]⟩ wt1, wv1⟩, ⟨wh2, .str ⟨#[109, 111, 115, 116, 95, 115, 116, 101, 112, 115]⟩ wt2, .int ms mst⟩, ⟨wh3, .str ⟨#[109, 111, 115, 116, 95, 100, 101, 112, 116, 104]⟩ wt3, wv3⟩, ⟨wh4, .str ⟨#[114, 111, 111, 109]⟩ wt4, wv4⟩, ⟨wh5, .str ⟨#[110, 97, 109, 101, 115]⟩ wt5, wv5⟩, ⟨wh6, .str ⟨#[97, 114, 114, 97, 121, 115]⟩ wt6, wv6⟩, ⟨wh7, .str ⟨#[107, 105, 110, 100, 115]⟩ wt7, wv7⟩, ⟨wh8, .str ⟨#[102, 110, 115]⟩ wt8, wv8⟩, ⟨wh9, .str ⟨#[111, 117, 116]⟩ wt9, wv9⟩, ⟨wh10, .str ⟨#[114, 111, 119]⟩ wt10, wv10⟩, ⟨wh11, .str ⟨#[105, 110, 112, 117, 116, 115]⟩ wt11, wv11⟩, ⟨wh12, .str ⟨#[102, 105, 108, 101, 115]⟩ wt12, wv12⟩, ⟨wh13, .str ⟨#[111, 112, 101, 110]⟩ wt13, wv13⟩, ⟨wh14, .str ⟨#[102, 105, 101, 108, 100, 115]⟩ wt14, wv14⟩, ⟨wh15, .str ⟨#[100, 97, 116, 97]⟩ wt15, wv15⟩, ⟨wh16, .str ⟨#[115, 112, 111, 116]⟩ wt16, wv16⟩, ⟨wh17, .str ⟨#[98, 97, 115, 101]⟩ wt17, wv17⟩, ⟨wh18, .str ⟨#[115, 101, 101, 100]⟩ wt18, wv18⟩, ⟨wh19, .str ⟨#[115, 116, 101, 112, 115]⟩ wt19, .int st' stt'⟩, ⟨wh20, .str ⟨#[100, 101, 112, 116, 104]⟩ wt20, wv20⟩, ⟨wh21, .str ⟨#[104, 97, 110, 100, 108, 101, 114]⟩ wt21, .int hdl hdt⟩, ⟨wh22, .str ⟨#[105, 115, 95, 104, 97, 110, 100, 108, 105, 110, 103]⟩ wt22, .bool on⟩, ⟨wh23, .str ⟨#[101, 114, 114, 111, 114, 95, 108, 105, 110, 101]⟩ wt23, .int el elt⟩, ⟨wh24, .str ⟨#[101, 114, 114, 111, 114, 95, 99, 111, 100, 101]⟩ wt24, .str ec ect⟩, ⟨wh25, .str ⟨#[105, 115, 95, 116, 114, 97, 99, 101, 100]⟩ wt25, wv25⟩, ⟨wh26, .str ⟨#[116, 114, 97, 99, 101, 115]⟩ wt26, wv26⟩, ⟨wh27, .str ⟨#[99, 111, 109, 109, 111, 110]⟩ wt27, wv27⟩] wep', #[]⟩), (L, ⟨.type "frame", none, .dict les lep, lsl'⟩)] → R (.ok (.ret (.str ⟨#[100, 111, 110, 101]⟩ sv))) ⟨h', g, d, t', os⟩) :
    codeAny (model PR w) { handled := none, depth := 340, frames := some [⟨⟨.function, enm, false, false, emo⟩, L, egl, [], equ, efn, ecd, some L, ebi⟩], units := 3000 } (.call (.ref 402) ⟨[.ref run, .int at' ta, .int kd tk, .int n tn], []⟩) R ⟨h, g, d, t, os⟩ := by
  subst ph0e ph1e ph2e hkd
  all_goals run_tac do
    let t0 ← IO.monoMsNow
    driveMain 8000 (fun k => match k with
      | "65" => some (useCtr ``c_coe)
      | "58" => some (useCtr ``c_noe1)
      | "212" => some (useCtr ``c_line)
      | "205" => some (useCtr ``c_place)
      | "41" => some (fun b st g => do
          let n := (listItemsE (← instantiateMVars (← g.getType)).consumeMData.getAppArgs[2]!.appArg!.getAppArgs[0]!).length
          if n == 1 then useCtr ``c_exc1 b st g else useCtr ``c_exc2 b st g)
      | k => hooks2 k) (endBys [`hD])
    let t1 ← IO.monoMsNow
    Lean.logInfo m!"ms {t1 - t0}"
end Mine
end
section
open PySem PySem.W PySem.W.X PyProof.Rows
namespace Mine
set_option maxRecDepth 5000
set_option maxHeartbeats 0

open Lean Meta Elab Tactic PySem.W.XRun in
theorem heard3o (w : PySem.World) (h₀ h : Heap) (g : Array GenState) (d : Drawn) (t : Nat) (os : OsState) (mk : Addr) (omk : Obj) (ctl ctlD run runD world worldD L : Addr) (r0 r1 r2 r3 r4 r5 places rowsL flat flatD : Addr) (rt0 rt1 rt2 rt3 rt4 rt5 pt0 pt1 pt2 pu0 pu1 pu2 : Tok) (ph0 ph1 ph2 : Int) (rv0 rv1 rv2 rv3 rv4 rv5 : Value) (re0 re1 re2 re3 re4 re5 pep rowse : Nat) (fh0 fh1 fh2 fh3 fh4 fh5 : Int) (ft0 ft1 ft2 ft3 ft4 ft5 : Tok) (fv2 fv3 fv4 fv5 : Value) (fep : Nat) (ch0 ch1 ch2 : Int) (ct0 ct1 ct2 : Tok) (cv0 cv1 : Value) (cep : Nat) (nh0 nh1 nh2 nh3 nh4 nh5 nh6 : Int) (nt0 nt1 nt2 nt3 nt4 nt5 nt6 : Tok) (nv2 nv3 nv4 nv6 : Value) (nep : Nat) (wh0 wh1 wh2 wh3 wh4 wh5 wh6 wh7 wh8 wh9 wh10 wh11 wh12 wh13 wh14 wh15 wh16 wh17 wh18 wh19 wh20 wh21 wh22 wh23 wh24 wh25 wh26 wh27 : Int) (wt0 wt1 wt2 wt3 wt4 wt5 wt6 wt7 wt8 wt9 wt10 wt11 wt12 wt13 wt14 wt15 wt16 wt17 wt18 wt19 wt20 wt21 wt22 wt23 wt24 wt25 wt26 wt27 : Tok) (wv0 wv1 wv3 wv4 wv5 wv6 wv7 wv8 wv9 wv10 wv11 wv12 wv13 wv14 wv15 wv16 wv17 wv18 wv20 wv25 wv26 wv27 : Value) (wep : Nat) (les : Array DictEntry) (lep : Nat) (ms st hdl el fa : Int) (on : Bool) (ec : Str) (mst stt hdt elt ect fat : Tok) (enm : List (Str × NameKind)) (emo : List (Str × Const)) (egl ebi : Addr) (equ : Str) (efn : Option Addr) (ecd : Value) (at' kd : Int) (ta tk : Tok) (n : Int) (tn : Tok) (lsl : Array (Option Value)) (ph0e : ph0 = 10) (ph1e : ph1 = 20) (ph2e : ph2 = 30)
    (KX : (KH w.params).In h₀) (D : Mem h₀ h [] [(mk, omk), (ctl, ⟨.ref 82, some ctlD, .plain, #[]⟩), (ctlD, ⟨.type "dict", none, .dict #[⟨ch0, .str ⟨#[112, 105, 108, 101]⟩ ct0, cv0⟩, ⟨ch1, .str ⟨#[109, 111, 115, 116]⟩ ct1, cv1⟩, ⟨ch2, .str ⟨#[102, 97, 105, 108, 101, 100, 95, 97, 116]⟩ ct2, .int fa fat⟩] cep, #[]⟩), (run, ⟨.ref 363, some runD, .plain, #[]⟩), (runD, ⟨.type "dict", none, .dict #[⟨nh0, .str ⟨#[119, 111, 114, 108, 100]⟩ nt0, .ref world⟩, ⟨nh1, .str ⟨#[102, 108, 97, 116]⟩ nt1, .ref flat⟩, ⟨nh2, .str ⟨#[97, 110, 115, 119, 101, 114, 115]⟩ nt2, nv2⟩, ⟨nh3, .str ⟨#[98, 105, 116, 115]⟩ nt3, nv3⟩, ⟨nh4, .str ⟨#[100, 105, 103, 105, 116, 115]⟩ nt4, nv4⟩, ⟨nh5, .str ⟨#[99, 111, 110, 116, 114, 111, 108]⟩ nt5, .ref ctl⟩, ⟨nh6, .str ⟨#[97, 115, 107, 101, 100]⟩ nt6, nv6⟩] nep, #[]⟩), (r5, ⟨.type "tuple", none, .seq #[.int 30 rt5, rv5] re5, #[]⟩), (r4, ⟨.type "tuple", none, .seq #[.int 30 rt4, rv4] re4, #[]⟩), (r3, ⟨.type "tuple", none, .seq #[.int 20 rt3, rv3] re3, #[]⟩), (r2, ⟨.type "tuple", none, .seq #[.int 20 rt2, rv2] re2, #[]⟩), (r1, ⟨.type "tuple", none, .seq #[.int 10 rt1, rv1] re1, #[]⟩), (r0, ⟨.type "tuple", none, .seq #[.int 10 rt0, rv0] re0, #[]⟩), (places, ⟨.type "dict", none, .dict #[⟨ph0, .int 10 pt0, .int 0 pu0⟩, ⟨ph1, .int 20 pt1, .int 2 pu1⟩, ⟨ph2, .int 30 pt2, .int 4 pu2⟩] pep, #[]⟩), (rowsL, ⟨.type "list", none, .seq #[.ref r0, .ref r1, .ref r2, .ref r3, .ref r4, .ref r5] rowse, #[]⟩), (flat, ⟨.ref 145, some flatD, .plain, #[]⟩), (flatD, ⟨.type "dict", none, .dict #[⟨fh0, .str ⟨#[114, 111, 119, 115]⟩ ft0, .ref rowsL⟩, ⟨fh1, .str ⟨#[112, 108, 97, 99, 101, 115]⟩ ft1, .ref places⟩, ⟨fh2, .str ⟨#[100, 97, 116, 97]⟩ ft2, fv2⟩, ⟨fh3, .str ⟨#[112, 97, 105, 114, 115]⟩ ft3, fv3⟩, ⟨fh4, .str ⟨#[108, 111, 111, 112, 115]⟩ ft4, fv4⟩, ⟨fh5, .str ⟨#[102, 110, 115]⟩ ft5, fv5⟩] fep, #[]⟩), (world, ⟨.ref 237, some worldD, .plain, #[]⟩), (worldD, ⟨.type "dict", none, .dict #[⟨wh0, .str ⟨#[98, 105, 116, 115]⟩ wt0, wv0⟩, ⟨wh1, .str ⟨#[100, 105, 103, 105, 116, 115]⟩ wt1, wv1⟩, ⟨wh2, .str ⟨#[109, 111, 115, 116, 95, 115, 116, 101, 112, 115]⟩ wt2, .int ms mst⟩, ⟨wh3, .str ⟨#[109, 111, 115, 116, 95, 100, 101, 112, 116, 104]⟩ wt3, wv3⟩, ⟨wh4, .str ⟨#[114, 111, 111, 109]⟩ wt4, wv4⟩, ⟨wh5, .str ⟨#[110, 97, 109, 101, 115]⟩ wt5, wv5⟩, ⟨wh6, .str ⟨#[97, 114, 114, 97, 121, 115]⟩ wt6, wv6⟩, ⟨wh7, .str ⟨#[107, 105, 110, 100, 115]⟩ wt7, wv7⟩, ⟨wh8, .str ⟨#[102, 110, 115]⟩ wt8, wv8⟩, ⟨wh9, .str ⟨#[111, 117, 116]⟩ wt9, wv9⟩, ⟨wh10, .str ⟨#[114, 111, 119]⟩ wt10, wv10⟩, ⟨wh11, .str ⟨#[105, 110, 112, 117, 116, 115]⟩ wt11, wv11⟩, ⟨wh12, .str ⟨#[102, 105, 108, 101, 115]⟩ wt12, wv12⟩, ⟨wh13, .str ⟨#[111, 112, 101, 110]⟩ wt13, wv13⟩, ⟨wh14, .str ⟨#[102, 105, 101, 108, 100, 115]⟩ wt14, wv14⟩, ⟨wh15, .str ⟨#[100, 97, 116, 97]⟩ wt15, wv15⟩, ⟨wh16, .str ⟨#[115, 112, 111, 116]⟩ wt16, wv16⟩, ⟨wh17, .str ⟨#[98, 97, 115, 101]⟩ wt17, wv17⟩, ⟨wh18, .str ⟨#[115, 101, 101, 100]⟩ wt18, wv18⟩, ⟨wh19, .str ⟨#[115, 116, 101, 112, 115]⟩ wt19, .int st stt⟩, ⟨wh20, .str ⟨#[100, 101, 112, 116, 104]⟩ wt20, wv20⟩, ⟨wh21, .str ⟨#[104, 97, 110, 100, 108, 101, 114]⟩ wt21, .int hdl hdt⟩, ⟨wh22, .str ⟨#[105, 115, 95, 104, 97, 110, 100, 108, 105, 110, 103]⟩ wt22, .bool on⟩, ⟨wh23, .str ⟨#[101, 114, 114, 111, 114, 95, 108, 105, 110, 101]⟩ wt23, .int el elt⟩, ⟨wh24, .str ⟨#[101, 114, 114, 111, 114, 95, 99, 111, 100, 101]⟩ wt24, .str ec ect⟩, ⟨wh25, .str ⟨#[105, 115, 95, 116, 114, 97, 99, 101, 100]⟩ wt25, wv25⟩, ⟨wh26, .str ⟨#[116, 114, 97, 99, 101, 115]⟩ wt26, wv26⟩, ⟨wh27, .str ⟨#[99, 111, 109, 109, 111, 110]⟩ wt27, wv27⟩] wep, #[]⟩), (L, ⟨.type "frame", none, .dict les lep, lsl⟩)])
    (hkd : kd = 3) (hat : 0 ≤ at') (hat' : at' < 6) (hh : hdl = 0 ∨ hdl = 10 ∨ hdl = 20 ∨ hdl = 30) (hms : ms < st + 1)
    (R : Result → Shared → Prop)
    (hO : ∀ tp tq v tv lsl' st' stt' wep' h' t', st' = st + 1 → v = 16 → Mem h₀ h' [] [(tp, ⟨.type "tuple", none, .seq #[.str ⟨#[111, 117, 116]⟩ tq, .int v tv] 0, #[]⟩), (mk, omk), (ctl, ⟨.ref 82, some ctlD, .plain, #[]⟩), (ctlD, ⟨.type "dict", none, .dict #[⟨ch0, .str ⟨#[112, 105, 108, 101]⟩ ct0, cv0⟩, ⟨ch1, .str ⟨#[109, 111, 115, 116]⟩ ct1, cv1⟩, ⟨ch2, .str ⟨#[102, 97, 105, 108, 101, 100, 95, 97, 116]⟩ ct2, .int fa fat⟩] cep, #[]⟩), (run, ⟨.ref 363, some runD, .plain, #[]⟩), (runD, ⟨.type "dict", none, .dict #[⟨nh0, .str ⟨#[119, 111, 114, 108, 100]⟩ nt0, .ref world⟩, ⟨nh1, .str ⟨#[102, 108, 97, 116]⟩ nt1, .ref flat⟩, ⟨nh2, .str ⟨#[97, 110, 115, 119, 101, 114, 115]⟩ nt2, nv2⟩, ⟨nh3, .str ⟨#[98, 105, 116, 115]⟩ nt3, nv3⟩, ⟨nh4, .str ⟨#[100, 105, 103, 105, 116, 115]⟩ nt4, nv4⟩, ⟨nh5, .str ⟨#[99, 111, 110, 116, 114, 111, 108]⟩ nt5, .ref ctl⟩, ⟨nh6, .str ⟨#[97, 115, 107, 101, 100]⟩ nt6, nv6⟩] nep, #[]⟩), (r5, ⟨.type "tuple", none, .seq #[.int 30 rt5, rv5] re5, #[]⟩), (r4, ⟨.type "tuple", none, .seq #[.int 30 rt4, rv4] re4, #[]⟩), (r3, ⟨.type "tuple", none, .seq #[.int 20 rt3, rv3] re3, #[]⟩), (r2, ⟨.type "tuple", none, .seq #[.int 20 rt2, rv2] re2, #[]⟩), (r1, ⟨.type "tuple", none, .seq #[.int 10 rt1, rv1] re1, #[]⟩), (r0, ⟨.type "tuple", none, .seq #[.int 10 rt0, rv0] re0, #[]⟩), (places, ⟨.type "dict", none, .dict #[⟨ph0, .int 10 pt0, .int 0 pu0⟩, ⟨ph1, .int 20 pt1, .int 2 pu1⟩, ⟨ph2, .int 30 pt2, .int 4 pu2⟩] pep, #[]⟩), (rowsL, ⟨.type "list", none, .seq #[.ref r0, .ref r1, .ref r2, .ref r3, .ref r4, .ref r5] rowse, #[]⟩), (flat, ⟨.ref 145, some flatD, .plain, #[]⟩), (flatD, ⟨.type "dict", none, .dict #[⟨fh0, .str ⟨#[114, 111, 119, 115]⟩ ft0, .ref rowsL⟩, ⟨fh1, .str ⟨#[112, 108, 97, 99, 101, 115]⟩ ft1, .ref places⟩, ⟨fh2, .str ⟨#[100, 97, 116, 97]⟩ ft2, fv2⟩, ⟨fh3, .str ⟨#[112, 97, 105, 114, 115]⟩ ft3, fv3⟩, ⟨fh4, .str ⟨#[108, 111, 111, 112, 115]⟩ ft4, fv4⟩, ⟨fh5, .str ⟨#[102, 110, 115]⟩ ft5, fv5⟩] fep, #[]⟩), (world, ⟨.ref 237, some worldD, .plain, #[]⟩), (worldD, ⟨.type "dict", none, .dict #[⟨wh0, .str ⟨#[98, 105, 116, 115]⟩ wt0, wv0⟩, ⟨wh1, .str ⟨#[100, 105, 103, 105, 116, 115]⟩ wt1, wv1⟩, ⟨wh2, .str ⟨#[109, 111, 115, 116, 95, 115, 116, 101, 112, 115]⟩ wt2, .int ms mst⟩, ⟨wh3, .str ⟨#[109, 111, 115, 116, 95, 100, 101, 112, 116, 104]⟩ wt3, wv3⟩, ⟨wh4, .str ⟨#[114, 111, 111, 109]⟩ wt4, wv4⟩, ⟨wh5, .str ⟨#[110, 97, 109, 101, 115]⟩ wt5, wv5⟩, ⟨wh6, .str ⟨#[97, 114, 114, 97, 121, 115]⟩ wt6, wv6⟩, ⟨wh7, .str ⟨#[107, 105, 110, 100, 115]⟩ wt7, wv7⟩, ⟨wh8, .str ⟨#[102, 110, 115]⟩ wt8, wv8⟩, ⟨wh9, .str ⟨#[111, 117, 116]⟩ wt9, wv9⟩, ⟨wh10, .str ⟨#[114, 111, 119]⟩ wt10, wv10⟩, ⟨wh11, .str ⟨#[105, 110, 112, 117, 116, 115]⟩ wt11, wv11⟩, ⟨wh12, .str ⟨#[102, 105, 108, 101, 115]⟩ wt12, wv12⟩, ⟨wh13, .str ⟨#[111, 112, 101, 110]⟩ wt13, wv13⟩, ⟨wh14, .str ⟨#[102, 105, 101, 108, 100, 115]⟩ wt14, wv14⟩, ⟨wh15, .str ⟨#[100, 97, 116, 97]⟩ wt15, wv15⟩, ⟨wh16, .str ⟨#[115, 112, 111, 116]⟩ wt16, wv16⟩, ⟨wh17, .str ⟨#[98, 97, 115, 101]⟩ wt17, wv17⟩, ⟨wh18, .str ⟨#[115, 101, 101, 100]⟩ wt18, wv18⟩, ⟨wh19, .str ⟨#[115, 116, 101, 112, 115]⟩ wt19, .int st' stt'⟩, ⟨wh20, .str ⟨#[100, 101, 112, 116, 104]⟩ wt20, wv20⟩, ⟨wh21, .str ⟨#[104, 97, 110, 100, 108, 101, 114]⟩ wt21, .int hdl hdt⟩, ⟨wh22, .str ⟨#[105, 115, 95, 104, 97, 110, 100, 108, 105, 110, 103]⟩ wt22, .bool on⟩, ⟨wh23, .str ⟨#[101, 114, 114, 111, 114, 95, 108, 105, 110, 101]⟩ wt23, .int el elt⟩, ⟨wh24, .str ⟨#[101, 114, 114, 111, 114, 95, 99, 111, 100, 101]⟩ wt24, .str ec ect⟩, ⟨wh25, .str ⟨#[105, 115, 95, 116, 114, 97, 99, 101, 100]⟩ wt25, wv25⟩, ⟨wh26, .str ⟨#[116, 114, 97, 99, 101, 115]⟩ wt26, wv26⟩, ⟨wh27, .str ⟨#[99, 111, 109, 109, 111, 110]⟩ wt27, wv27⟩] wep', #[]⟩), (L, ⟨.type "frame", none, .dict les lep, lsl'⟩)] → R (.ok (.ret (.ref tp))) ⟨h', g, d, t', os⟩) :
    codeAny (model PR w) { handled := none, depth := 340, frames := some [⟨⟨.function, enm, false, false, emo⟩, L, egl, [], equ, efn, ecd, some L, ebi⟩], units := 3000 } (.call (.ref 402) ⟨[.ref run, .int at' ta, .int kd tk, .int n tn], []⟩) R ⟨h, g, d, t, os⟩ := by
  subst ph0e ph1e ph2e hkd
  all_goals run_tac do
    let t0 ← IO.monoMsNow
    driveMain 8000 (fun k => match k with
      | "65" => some (useCtr ``c_coe)
      | "58" => some (useCtr ``c_noe1)
      | "212" => some (useCtr ``c_line)
      | "205" => some (useCtr ``c_place)
      | "41" => some (fun b st g => do
          let n := (listItemsE (← instantiateMVars (← g.getType)).consumeMData.getAppArgs[2]!.appArg!.getAppArgs[0]!).length
          if n == 1 then useCtr ``c_exc1 b st g else useCtr ``c_exc2 b st g)
      | k => hooks2 k) (endBys [`hO])
    let t1 ← IO.monoMsNow
    Lean.logInfo m!"ms {t1 - t0}"
end Mine
end
section
open PySem PySem.W PySem.W.X PyProof.Rows
namespace Mine
set_option maxRecDepth 5000
set_option maxHeartbeats 0

open Lean Meta Elab Tactic PySem.W.XRun in
theorem heard4f (w : PySem.World) (h₀ h : Heap) (g : Array GenState) (d : Drawn) (t : Nat) (os : OsState) (mk : Addr) (omk : Obj) (ctl ctlD run runD world worldD L : Addr) (r0 r1 r2 r3 r4 r5 places rowsL flat flatD : Addr) (rt0 rt1 rt2 rt3 rt4 rt5 pt0 pt1 pt2 pu0 pu1 pu2 : Tok) (ph0 ph1 ph2 : Int) (rv0 rv1 rv2 rv3 rv4 rv5 : Value) (re0 re1 re2 re3 re4 re5 pep rowse : Nat) (fh0 fh1 fh2 fh3 fh4 fh5 : Int) (ft0 ft1 ft2 ft3 ft4 ft5 : Tok) (fv2 fv3 fv4 fv5 : Value) (fep : Nat) (ch0 ch1 ch2 : Int) (ct0 ct1 ct2 : Tok) (cv0 cv1 : Value) (cep : Nat) (nh0 nh1 nh2 nh3 nh4 nh5 nh6 : Int) (nt0 nt1 nt2 nt3 nt4 nt5 nt6 : Tok) (nv2 nv3 nv4 nv6 : Value) (nep : Nat) (wh0 wh1 wh2 wh3 wh4 wh5 wh6 wh7 wh8 wh9 wh10 wh11 wh12 wh13 wh14 wh15 wh16 wh17 wh18 wh19 wh20 wh21 wh22 wh23 wh24 wh25 wh26 wh27 : Int) (wt0 wt1 wt2 wt3 wt4 wt5 wt6 wt7 wt8 wt9 wt10 wt11 wt12 wt13 wt14 wt15 wt16 wt17 wt18 wt19 wt20 wt21 wt22 wt23 wt24 wt25 wt26 wt27 : Tok) (wv0 wv1 wv3 wv4 wv5 wv6 wv7 wv8 wv9 wv10 wv11 wv12 wv13 wv14 wv15 wv16 wv17 wv18 wv20 wv25 wv26 wv27 : Value) (wep : Nat) (les : Array DictEntry) (lep : Nat) (ms st hdl el fa : Int) (on : Bool) (ec : Str) (mst stt hdt elt ect fat : Tok) (enm : List (Str × NameKind)) (emo : List (Str × Const)) (egl ebi : Addr) (equ : Str) (efn : Option Addr) (ecd : Value) (at' kd : Int) (ta tk : Tok) (nv : Value) (lsl : Array (Option Value)) (ph0e : ph0 = 10) (ph1e : ph1 = 20) (ph2e : ph2 = 30)
    (KX : (KH w.params).In h₀) (D : Mem h₀ h [] [(mk, omk), (ctl, ⟨.ref 82, some ctlD, .plain, #[]⟩), (ctlD, ⟨.type "dict", none, .dict #[⟨ch0, .str ⟨#[112, 105, 108, 101]⟩ ct0, cv0⟩, ⟨ch1, .str ⟨#[109, 111, 115, 116]⟩ ct1, cv1⟩, ⟨ch2, .str ⟨#[102, 97, 105, 108, 101, 100, 95, 97, 116]⟩ ct2, .int fa fat⟩] cep, #[]⟩), (run, ⟨.ref 363, some runD, .plain, #[]⟩), (runD, ⟨.type "dict", none, .dict #[⟨nh0, .str ⟨#[119, 111, 114, 108, 100]⟩ nt0, .ref world⟩, ⟨nh1, .str ⟨#[102, 108, 97, 116]⟩ nt1, .ref flat⟩, ⟨nh2, .str ⟨#[97, 110, 115, 119, 101, 114, 115]⟩ nt2, nv2⟩, ⟨nh3, .str ⟨#[98, 105, 116, 115]⟩ nt3, nv3⟩, ⟨nh4, .str ⟨#[100, 105, 103, 105, 116, 115]⟩ nt4, nv4⟩, ⟨nh5, .str ⟨#[99, 111, 110, 116, 114, 111, 108]⟩ nt5, .ref ctl⟩, ⟨nh6, .str ⟨#[97, 115, 107, 101, 100]⟩ nt6, nv6⟩] nep, #[]⟩), (r5, ⟨.type "tuple", none, .seq #[.int 30 rt5, rv5] re5, #[]⟩), (r4, ⟨.type "tuple", none, .seq #[.int 30 rt4, rv4] re4, #[]⟩), (r3, ⟨.type "tuple", none, .seq #[.int 20 rt3, rv3] re3, #[]⟩), (r2, ⟨.type "tuple", none, .seq #[.int 20 rt2, rv2] re2, #[]⟩), (r1, ⟨.type "tuple", none, .seq #[.int 10 rt1, rv1] re1, #[]⟩), (r0, ⟨.type "tuple", none, .seq #[.int 10 rt0, rv0] re0, #[]⟩), (places, ⟨.type "dict", none, .dict #[⟨ph0, .int 10 pt0, .int 0 pu0⟩, ⟨ph1, .int 20 pt1, .int 2 pu1⟩, ⟨ph2, .int 30 pt2, .int 4 pu2⟩] pep, #[]⟩), (rowsL, ⟨.type "list", none, .seq #[.ref r0, .ref r1, .ref r2, .ref r3, .ref r4, .ref r5] rowse, #[]⟩), (flat, ⟨.ref 145, some flatD, .plain, #[]⟩), (flatD, ⟨.type "dict", none, .dict #[⟨fh0, .str ⟨#[114, 111, 119, 115]⟩ ft0, .ref rowsL⟩, ⟨fh1, .str ⟨#[112, 108, 97, 99, 101, 115]⟩ ft1, .ref places⟩, ⟨fh2, .str ⟨#[100, 97, 116, 97]⟩ ft2, fv2⟩, ⟨fh3, .str ⟨#[112, 97, 105, 114, 115]⟩ ft3, fv3⟩, ⟨fh4, .str ⟨#[108, 111, 111, 112, 115]⟩ ft4, fv4⟩, ⟨fh5, .str ⟨#[102, 110, 115]⟩ ft5, fv5⟩] fep, #[]⟩), (world, ⟨.ref 237, some worldD, .plain, #[]⟩), (worldD, ⟨.type "dict", none, .dict #[⟨wh0, .str ⟨#[98, 105, 116, 115]⟩ wt0, wv0⟩, ⟨wh1, .str ⟨#[100, 105, 103, 105, 116, 115]⟩ wt1, wv1⟩, ⟨wh2, .str ⟨#[109, 111, 115, 116, 95, 115, 116, 101, 112, 115]⟩ wt2, .int ms mst⟩, ⟨wh3, .str ⟨#[109, 111, 115, 116, 95, 100, 101, 112, 116, 104]⟩ wt3, wv3⟩, ⟨wh4, .str ⟨#[114, 111, 111, 109]⟩ wt4, wv4⟩, ⟨wh5, .str ⟨#[110, 97, 109, 101, 115]⟩ wt5, wv5⟩, ⟨wh6, .str ⟨#[97, 114, 114, 97, 121, 115]⟩ wt6, wv6⟩, ⟨wh7, .str ⟨#[107, 105, 110, 100, 115]⟩ wt7, wv7⟩, ⟨wh8, .str ⟨#[102, 110, 115]⟩ wt8, wv8⟩, ⟨wh9, .str ⟨#[111, 117, 116]⟩ wt9, wv9⟩, ⟨wh10, .str ⟨#[114, 111, 119]⟩ wt10, wv10⟩, ⟨wh11, .str ⟨#[105, 110, 112, 117, 116, 115]⟩ wt11, wv11⟩, ⟨wh12, .str ⟨#[102, 105, 108, 101, 115]⟩ wt12, wv12⟩, ⟨wh13, .str ⟨#[111, 112, 101, 110]⟩ wt13, wv13⟩, ⟨wh14, .str ⟨#[102, 105, 101, 108, 100, 115]⟩ wt14, wv14⟩, ⟨wh15, .str ⟨#[100, 97, 116, 97]⟩ wt15, wv15⟩, ⟨wh16, .str ⟨#[115, 112, 111, 116]⟩ wt16, wv16⟩, ⟨wh17, .str ⟨#[98, 97, 115, 101]⟩ wt17, wv17⟩, ⟨wh18, .str ⟨#[115, 101, 101, 100]⟩ wt18, wv18⟩, ⟨wh19, .str ⟨#[115, 116, 101, 112, 115]⟩ wt19, .int st stt⟩, ⟨wh20, .str ⟨#[100, 101, 112, 116, 104]⟩ wt20, wv20⟩, ⟨wh21, .str ⟨#[104, 97, 110, 100, 108, 101, 114]⟩ wt21, .int hdl hdt⟩, ⟨wh22, .str ⟨#[105, 115, 95, 104, 97, 110, 100, 108, 105, 110, 103]⟩ wt22, .bool on⟩, ⟨wh23, .str ⟨#[101, 114, 114, 111, 114, 95, 108, 105, 110, 101]⟩ wt23, .int el elt⟩, ⟨wh24, .str ⟨#[101, 114, 114, 111, 114, 95, 99, 111, 100, 101]⟩ wt24, .str ec ect⟩, ⟨wh25, .str ⟨#[105, 115, 95, 116, 114, 97, 99, 101, 100]⟩ wt25, wv25⟩, ⟨wh26, .str ⟨#[116, 114, 97, 99, 101, 115]⟩ wt26, wv26⟩, ⟨wh27, .str ⟨#[99, 111, 109, 109, 111, 110]⟩ wt27, wv27⟩] wep, #[]⟩), (L, ⟨.type "frame", none, .dict les lep, lsl⟩)])
    (hkd : kd = 4) (hat : 0 ≤ at') (hat' : at' < 6) (hh : hdl = 0 ∨ hdl = 10 ∨ hdl = 20 ∨ hdl = 30) (hof : on = false)
    (R : Result → Shared → Prop)
    (hL : ∀ v tv el' elt' ec' ect' fa' fat' lsl' wep' cep' h' t', hdl ≠ 0 → v = hdl / 5 - 2 → el' = 10 + 10 * (at' / 2) → IsCode ec' 20 → fa' = at' → Mem h₀ h' [] [(mk, omk), (ctl, ⟨.ref 82, some ctlD, .plain, #[]⟩), (ctlD, ⟨.type "dict", none, .dict #[⟨ch0, .str ⟨#[112, 105, 108, 101]⟩ ct0, cv0⟩, ⟨ch1, .str ⟨#[109, 111, 115, 116]⟩ ct1, cv1⟩, ⟨ch2, .str ⟨#[102, 97, 105, 108, 101, 100, 95, 97, 116]⟩ ct2, .int fa' fat'⟩] cep', #[]⟩), (run, ⟨.ref 363, some runD, .plain, #[]⟩), (runD, ⟨.type "dict", none, .dict #[⟨nh0, .str ⟨#[119, 111, 114, 108, 100]⟩ nt0, .ref world⟩, ⟨nh1, .str ⟨#[102, 108, 97, 116]⟩ nt1, .ref flat⟩, ⟨nh2, .str ⟨#[97, 110, 115, 119, 101, 114, 115]⟩ nt2, nv2⟩, ⟨nh3, .str ⟨#[98, 105, 116, 115]⟩ nt3, nv3⟩, ⟨nh4, .str ⟨#[100, 105, 103, 105, 116, 115]⟩ nt4, nv4⟩, ⟨nh5, .str ⟨#[99, 111, 110, 116, 114, 111, 108]⟩ nt5, .ref ctl⟩, ⟨nh6, .str ⟨#[97, 115, 107, 101, 100]⟩ nt6, nv6⟩] nep, #[]⟩), (r5, ⟨.type "tuple", none, .seq #[.int 30 rt5, rv5] re5, #[]⟩), (r4, ⟨.type "tuple", none, .seq #[.int 30 rt4, rv4] re4, #[]⟩), (r3, ⟨.type "tuple", none, .seq #[.int 20 rt3, rv3] re3, #[]⟩), (r2, ⟨.type "tuple", none, .seq #[.int 20 rt2, rv2] re2, #[]⟩), (r1, ⟨.type "tuple", none, .seq #[.int 10 rt1, rv1] re1, #[]⟩), (r0, ⟨.type "tuple", none, .seq #[.int 10 rt0, rv0] re0, #[]⟩), (places, ⟨.type "dict", none, .dict #[⟨ph0, .int 10 pt0, .int 0 pu0⟩, ⟨ph1, .int 20 pt1, .int 2 pu1⟩, ⟨ph2, .int 30 pt2, .int 4 pu2⟩] pep, #[]⟩), (rowsL, ⟨.type "list", none, .seq #[.ref r0, .ref r1, .ref r2, .ref r3, .ref r4, .ref r5] rowse, #[]⟩), (flat, ⟨.ref 145, some flatD, .plain, #[]⟩), (flatD, ⟨.type "dict", none, .dict #[⟨fh0, .str ⟨#[114, 111, 119, 115]⟩ ft0, .ref rowsL⟩, ⟨fh1, .str ⟨#[112, 108, 97, 99, 101, 115]⟩ ft1, .ref places⟩, ⟨fh2, .str ⟨#[100, 97, 116, 97]⟩ ft2, fv2⟩, ⟨fh3, .str ⟨#[112, 97, 105, 114, 115]⟩ ft3, fv3⟩, ⟨fh4, .str ⟨#[108, 111, 111, 112, 115]⟩ ft4, fv4⟩, ⟨fh5, .str ⟨#[102, 110, 115]⟩ ft5, fv5⟩] fep, #[]⟩), (world, ⟨.ref 237, some worldD, .plain, #[]⟩), (worldD, ⟨.type "dict", none, .dict #[⟨wh0, .str ⟨#[98, 105, 116, 115]⟩ wt0, wv0⟩, ⟨wh1, .str ⟨#[100, 105, 103, 105, 116, 115]⟩ wt1, wv1⟩, ⟨wh2, .str ⟨#[109, 111, 115, 116, 95, 115, 116, 101, 112, 115]⟩ wt2, .int ms mst⟩, ⟨wh3, .str ⟨#[109, 111, 115, 116, 95, 100, 101, 112, 116, 104]⟩ wt3, wv3⟩, ⟨wh4, .str ⟨#[114, 111, 111, 109]⟩ wt4, wv4⟩, ⟨wh5, .str ⟨#[110, 97, 109, 101, 115]⟩ wt5, wv5⟩, ⟨wh6, .str ⟨#[97, 114, 114, 97, 121, 115]⟩ wt6, wv6⟩, ⟨wh7, .str ⟨#[107, 105, 110, 100, 115]⟩ wt7, wv7⟩, ⟨wh8, .str ⟨#[102, 110, 115]⟩ wt8, wv8⟩, ⟨wh9, .str ⟨#[111, 117, 116]⟩ wt9, wv9⟩, ⟨wh10, .str ⟨#[114, 111, 119]⟩ wt10, wv10⟩, ⟨wh11, .str ⟨#[105, 110, 112, 117, 116, 115]⟩ wt11, wv11⟩, ⟨wh12, .str ⟨#[102, 105, 108, 101, 115]⟩ wt12, wv12⟩, ⟨wh13, .str ⟨#[111, 112, 101, 110]⟩ wt13, wv13⟩, ⟨wh14, .str ⟨#[102, 105, 101, 108, 100, 115]⟩ wt14, wv14⟩, ⟨wh15, .str ⟨#[100, 97, 116, 97]⟩ wt15, wv15⟩, ⟨wh16, .str ⟨#[115, 112, 111, 116]⟩ wt16, wv16⟩, ⟨wh17, .str ⟨#[98, 97, 115, 101]⟩ wt17, wv17⟩, ⟨wh18, .str ⟨#[115, 101, 101, 100]⟩ wt18, wv18⟩, ⟨wh19, .str ⟨#[115, 116, 101, 112, 115]⟩ wt19, .int st stt⟩, ⟨wh20, .str ⟨#[100, 101, 112, 116, 104]⟩ wt20, wv20⟩, ⟨wh21, .str ⟨#[104, 97, 110, 100, 108, 101, 114]⟩ wt21, .int hdl hdt⟩, ⟨wh22, .str ⟨#[105, 115, 95, 104, 97, 110, 100, 108, 105, 110, 103]⟩ wt22, .bool true⟩, ⟨wh23, .str ⟨#[101, 114, 114, 111, 114, 95, 108, 105, 110, 101]⟩ wt23, .int el' elt'⟩, ⟨wh24, .str ⟨#[101, 114, 114, 111, 114, 95, 99, 111, 100, 101]⟩ wt24, .str ec' ect'⟩, ⟨wh25, .str ⟨#[105, 115, 95, 116, 114, 97, 99, 101, 100]⟩ wt25, wv25⟩, ⟨wh26, .str ⟨#[116, 114, 97, 99, 101, 115]⟩ wt26, wv26⟩, ⟨wh27, .str ⟨#[99, 111, 109, 109, 111, 110]⟩ wt27, wv27⟩] wep', #[]⟩), (L, ⟨.type "frame", none, .dict les lep, lsl'⟩)] → R (.ok (.ret (.int v tv))) ⟨h', g, d, t', os⟩)
    (hO : ∀ tp tq v tv lsl'  h' t', hdl = 0 → v = 20 → Mem h₀ h' [] [(tp, ⟨.type "tuple", none, .seq #[.str ⟨#[111, 117, 116]⟩ tq, .int v tv] 0, #[]⟩), (mk, omk), (ctl, ⟨.ref 82, some ctlD, .plain, #[]⟩), (ctlD, ⟨.type "dict", none, .dict #[⟨ch0, .str ⟨#[112, 105, 108, 101]⟩ ct0, cv0⟩, ⟨ch1, .str ⟨#[109, 111, 115, 116]⟩ ct1, cv1⟩, ⟨ch2, .str ⟨#[102, 97, 105, 108, 101, 100, 95, 97, 116]⟩ ct2, .int fa fat⟩] cep, #[]⟩), (run, ⟨.ref 363, some runD, .plain, #[]⟩), (runD, ⟨.type "dict", none, .dict #[⟨nh0, .str ⟨#[119, 111, 114, 108, 100]⟩ nt0, .ref world⟩, ⟨nh1, .str ⟨#[102, 108, 97, 116]⟩ nt1, .ref flat⟩, ⟨nh2, .str ⟨#[97, 110, 115, 119, 101, 114, 115]⟩ nt2, nv2⟩, ⟨nh3, .str ⟨#[98, 105, 116, 115]⟩ nt3, nv3⟩, ⟨nh4, .str ⟨#[100, 105, 103, 105, 116, 115]⟩ nt4, nv4⟩, ⟨nh5, .str ⟨#[99, 111, 110, 116, 114, 111, 108]⟩ nt5, .ref ctl⟩, ⟨nh6, .str ⟨#[97, 115, 107, 101, 100]⟩ nt6, nv6⟩] nep, #[]⟩), (r5, ⟨.type "tuple", none, .seq #[.int 30 rt5, rv5] re5, #[]⟩), (r4, ⟨.type "tuple", none, .seq #[.int 30 rt4, rv4] re4, #[]⟩), (r3, ⟨.type "tuple", none, .seq #[.int 20 rt3, rv3] re3, #[]⟩), (r2, ⟨.type "tuple", none, .seq #[.int 20 rt2, rv2] re2, #[]⟩), (r1, ⟨.type "tuple", none, .seq #[.int 10 rt1, rv1] re1, #[]⟩), (r0, ⟨.type "tuple", none, .seq #[.int 10 rt0, rv0] re0, #[]⟩), (places, ⟨.type "dict", none, .dict #[⟨ph0, .int 10 pt0, .int 0 pu0⟩, ⟨ph1, .int 20 pt1, .int 2 pu1⟩, ⟨ph2, .int 30 pt2, .int 4 pu2⟩] pep, #[]⟩), (rowsL, ⟨.type "list", none, .seq #[.ref r0, .ref r1, .ref r2, .ref r3, .ref r4, .ref r5] rowse, #[]⟩), (flat, ⟨.ref 145, some flatD, .plain, #[]⟩), (flatD, ⟨.type "dict", none, .dict #[⟨fh0, .str ⟨#[114, 111, 119, 115]⟩ ft0, .ref rowsL⟩, ⟨fh1, .str ⟨#[112, 108, 97, 99, 101, 115]⟩ ft1, .ref places⟩, ⟨fh2, .str ⟨#[100, 97, 116, 97]⟩ ft2, fv2⟩, ⟨fh3, .str ⟨#[112, 97, 105, 114, 115]⟩ ft3, fv3⟩, ⟨fh4, .str ⟨#[108, 111, 111, 112, 115]⟩ ft4, fv4⟩, ⟨fh5, .str ⟨#[102, 110, 115]⟩ ft5, fv5⟩] fep, #[]⟩), (world, ⟨.ref 237, some worldD, .plain, #[]⟩), (worldD, ⟨.type "dict", none, .dict #[⟨wh0, .str ⟨#[98, 105, 116, 115]⟩ wt0, wv0⟩, ⟨wh1, .str ⟨#[100, 105, 103, 105, 116, 115]⟩ wt1, wv1⟩, ⟨wh2, .str ⟨#[109, 111, 115, 116, 95, 115, 116, 101, 112, 115]⟩ wt2, .int ms mst⟩, ⟨wh3, .str ⟨#[109, 111, 115, 116, 95, 100, 101, 112, 116, 104]⟩ wt3, wv3⟩, ⟨wh4, .str ⟨#[114, 111, 111, 109]⟩ wt4, wv4⟩, ⟨wh5, .str ⟨#[110, 97, 109, 101, 115]⟩ wt5, wv5⟩, ⟨wh6, .str ⟨#[97, 114, 114, 97, 121, 115]⟩ wt6, wv6⟩, ⟨wh7, .str ⟨#[107, 105, 110, 100, 115]⟩ wt7, wv7⟩, ⟨wh8, .str ⟨#[102, 110, 115]⟩ wt8, wv8⟩, ⟨wh9, .str ⟨#[111, 117, 116]⟩ wt9, wv9⟩, ⟨wh10, .str ⟨#[114, 111, 119]⟩ wt10, wv10⟩, ⟨wh11, .str ⟨#[105, 110, 112, 117, 116, 115]⟩ wt11, wv11⟩, ⟨wh12, .str ⟨#[102, 105, 108, 101, 115]⟩ wt12, wv12⟩, ⟨wh13, .str ⟨#[111, 112, 101, 110]⟩ wt13, wv13⟩, ⟨wh14, .str ⟨#[102, 105, 101, 108, 100, 115]⟩ wt14, wv14⟩, ⟨wh15, .str ⟨#[100, 97, 116, 97]⟩ wt15, wv15⟩, ⟨wh16, .str ⟨#[115, 112, 111, 116]⟩ wt16, wv16⟩, ⟨wh17, .str ⟨#[98, 97, 115, 101]⟩ wt17, wv17⟩, ⟨wh18, .str ⟨#[115, 101, 101, 100]⟩ wt18, wv18⟩, ⟨wh19, .str ⟨#[115, 116, 101, 112, 115]⟩ wt19, .int st stt⟩, ⟨wh20, .str ⟨#[100, 101, 112, 116, 104]⟩ wt20, wv20⟩, ⟨wh21, .str ⟨#[104, 97, 110, 100, 108, 101, 114]⟩ wt21, .int hdl hdt⟩, ⟨wh22, .str ⟨#[105, 115, 95, 104, 97, 110, 100, 108, 105, 110, 103]⟩ wt22, .bool on⟩, ⟨wh23, .str ⟨#[101, 114, 114, 111, 114, 95, 108, 105, 110, 101]⟩ wt23, .int el elt⟩, ⟨wh24, .str ⟨#[101, 114, 114, 111, 114, 95, 99, 111, 100, 101]⟩ wt24, .str ec ect⟩, ⟨wh25, .str ⟨#[105, 115, 95, 116, 114, 97, 99, 101, 100]⟩ wt25, wv25⟩, ⟨wh26, .str ⟨#[116, 114, 97, 99, 101, 115]⟩ wt26, wv26⟩, ⟨wh27, .str ⟨#[99, 111, 109, 109, 111, 110]⟩ wt27, wv27⟩] wep, #[]⟩), (L, ⟨.type "frame", none, .dict les lep, lsl'⟩)] → R (.ok (.ret (.ref tp))) ⟨h', g, d, t', os⟩) :
    codeAny (model PR w) { handled := none, depth := 340, frames := some [⟨⟨.function, enm, false, false, emo⟩, L, egl, [], equ, efn, ecd, some L, ebi⟩], units := 3000 } (.call (.ref 402) ⟨[.ref run, .int at' ta, .int kd tk, nv], []⟩) R ⟨h, g, d, t, os⟩ := by
  subst ph0e ph1e ph2e hkd
  subst hof
  all_goals run_tac do
    let t0 ← IO.monoMsNow
    driveMain 8000 (fun k => match k with
      | "65" => some (useCtr ``c_coe)
      | "58" => some (useCtr ``c_noe1)
      | "212" => some (useCtr ``c_line)
      | "205" => some (useCtr ``c_place)
      | "41" => some (fun b st g => do
          let n := (listItemsE (← instantiateMVars (← g.getType)).consumeMData.getAppArgs[2]!.appArg!.getAppArgs[0]!).length
          if n == 1 then useCtr ``c_exc1 b st g else useCtr ``c_exc2 b st g)
      | k => hooks2 k) (endBys [`hL, `hO])
    let t1 ← IO.monoMsNow
    Lean.logInfo m!"ms {t1 - t0}"
end Mine
end
section
open PySem PySem.W PySem.W.X PyProof.Rows
namespace Mine
set_option maxRecDepth 5000
set_option maxHeartbeats 0

open Lean Meta Elab Tactic PySem.W.XRun in
theorem heard4at (w : PySem.World) (h₀ h : Heap) (g : Array GenState) (d : Drawn) (t : Nat) (os : OsState) (mk : Addr) (omk : Obj) (ctl ctlD run runD world worldD L : Addr) (r0 r1 r2 r3 r4 r5 places rowsL flat flatD : Addr) (rt0 rt1 rt2 rt3 rt4 rt5 pt0 pt1 pt2 pu0 pu1 pu2 : Tok) (ph0 ph1 ph2 : Int) (rv0 rv1 rv2 rv3 rv4 rv5 : Value) (re0 re1 re2 re3 re4 re5 pep rowse : Nat) (fh0 fh1 fh2 fh3 fh4 fh5 : Int) (ft0 ft1 ft2 ft3 ft4 ft5 : Tok) (fv2 fv3 fv4 fv5 : Value) (fep : Nat) (ch0 ch1 ch2 : Int) (ct0 ct1 ct2 : Tok) (cv0 cv1 : Value) (cep : Nat) (nh0 nh1 nh2 nh3 nh4 nh5 nh6 : Int) (nt0 nt1 nt2 nt3 nt4 nt5 nt6 : Tok) (nv2 nv3 nv4 nv6 : Value) (nep : Nat) (wh0 wh1 wh2 wh3 wh4 wh5 wh6 wh7 wh8 wh9 wh10 wh11 wh12 wh13 wh14 wh15 wh16 wh17 wh18 wh19 wh20 wh21 wh22 wh23 wh24 wh25 wh26 wh27 : Int) (wt0 wt1 wt2 wt3 wt4 wt5 wt6 wt7 wt8 wt9 wt10 wt11 wt12 wt13 wt14 wt15 wt16 wt17 wt18 wt19 wt20 wt21 wt22 wt23 wt24 wt25 wt26 wt27 : Tok) (wv0 wv1 wv3 wv4 wv5 wv6 wv7 wv8 wv9 wv10 wv11 wv12 wv13 wv14 wv15 wv16 wv17 wv18 wv20 wv25 wv26 wv27 : Value) (wep : Nat) (les : Array DictEntry) (lep : Nat) (ms st hdl el fa : Int) (on : Bool) (ec : Str) (mst stt hdt elt ect fat : Tok) (enm : List (Str × NameKind)) (emo : List (Str × Const)) (egl ebi : Addr) (equ : Str) (efn : Option Addr) (ecd : Value) (at' kd : Int) (ta tk : Tok) (n : Int) (tn : Tok) (lsl : Array (Option Value)) (ph0e : ph0 = 10) (ph1e : ph1 = 20) (ph2e : ph2 = 30)
    (KX : (KH w.params).In h₀) (D : Mem h₀ h [] [(mk, omk), (ctl, ⟨.ref 82, some ctlD, .plain, #[]⟩), (ctlD, ⟨.type "dict", none, .dict #[⟨ch0, .str ⟨#[112, 105, 108, 101]⟩ ct0, cv0⟩, ⟨ch1, .str ⟨#[109, 111, 115, 116]⟩ ct1, cv1⟩, ⟨ch2, .str ⟨#[102, 97, 105, 108, 101, 100, 95, 97, 116]⟩ ct2, .int fa fat⟩] cep, #[]⟩), (run, ⟨.ref 363, some runD, .plain, #[]⟩), (runD, ⟨.type "dict", none, .dict #[⟨nh0, .str ⟨#[119, 111, 114, 108, 100]⟩ nt0, .ref world⟩, ⟨nh1, .str ⟨#[102, 108, 97, 116]⟩ nt1, .ref flat⟩, ⟨nh2, .str ⟨#[97, 110, 115, 119, 101, 114, 115]⟩ nt2, nv2⟩, ⟨nh3, .str ⟨#[98, 105, 116, 115]⟩ nt3, nv3⟩, ⟨nh4, .str ⟨#[100, 105, 103, 105, 116, 115]⟩ nt4, nv4⟩, ⟨nh5, .str ⟨#[99, 111, 110, 116, 114, 111, 108]⟩ nt5, .ref ctl⟩, ⟨nh6, .str ⟨#[97, 115, 107, 101, 100]⟩ nt6, nv6⟩] nep, #[]⟩), (r5, ⟨.type "tuple", none, .seq #[.int 30 rt5, rv5] re5, #[]⟩), (r4, ⟨.type "tuple", none, .seq #[.int 30 rt4, rv4] re4, #[]⟩), (r3, ⟨.type "tuple", none, .seq #[.int 20 rt3, rv3] re3, #[]⟩), (r2, ⟨.type "tuple", none, .seq #[.int 20 rt2, rv2] re2, #[]⟩), (r1, ⟨.type "tuple", none, .seq #[.int 10 rt1, rv1] re1, #[]⟩), (r0, ⟨.type "tuple", none, .seq #[.int 10 rt0, rv0] re0, #[]⟩), (places, ⟨.type "dict", none, .dict #[⟨ph0, .int 10 pt0, .int 0 pu0⟩, ⟨ph1, .int 20 pt1, .int 2 pu1⟩, ⟨ph2, .int 30 pt2, .int 4 pu2⟩] pep, #[]⟩), (rowsL, ⟨.type "list", none, .seq #[.ref r0, .ref r1, .ref r2, .ref r3, .ref r4, .ref r5] rowse, #[]⟩), (flat, ⟨.ref 145, some flatD, .plain, #[]⟩), (flatD, ⟨.type "dict", none, .dict #[⟨fh0, .str ⟨#[114, 111, 119, 115]⟩ ft0, .ref rowsL⟩, ⟨fh1, .str ⟨#[112, 108, 97, 99, 101, 115]⟩ ft1, .ref places⟩, ⟨fh2, .str ⟨#[100, 97, 116, 97]⟩ ft2, fv2⟩, ⟨fh3, .str ⟨#[112, 97, 105, 114, 115]⟩ ft3, fv3⟩, ⟨fh4, .str ⟨#[108, 111, 111, 112, 115]⟩ ft4, fv4⟩, ⟨fh5, .str ⟨#[102, 110, 115]⟩ ft5, fv5⟩] fep, #[]⟩), (world, ⟨.ref 237, some worldD, .plain, #[]⟩), (worldD, ⟨.type "dict", none, .dict #[⟨wh0, .str ⟨#[98, 105, 116, 115]⟩ wt0, wv0⟩, ⟨wh1, .str ⟨#[100, 105, 103, 105, 116, 115]⟩ wt1, wv1⟩, ⟨wh2, .str ⟨#[109, 111, 115, 116, 95, 115, 116, 101, 112, 115]⟩ wt2, .int ms mst⟩, ⟨wh3, .str ⟨#[109, 111, 115, 116, 95, 100, 101, 112, 116, 104]⟩ wt3, wv3⟩, ⟨wh4, .str ⟨#[114, 111, 111, 109]⟩ wt4, wv4⟩, ⟨wh5, .str ⟨#[110, 97, 109, 101, 115]⟩ wt5, wv5⟩, ⟨wh6, .str ⟨#[97, 114, 114, 97, 121, 115]⟩ wt6, wv6⟩, ⟨wh7, .str ⟨#[107, 105, 110, 100, 115]⟩ wt7, wv7⟩, ⟨wh8, .str ⟨#[102, 110, 115]⟩ wt8, wv8⟩, ⟨wh9, .str ⟨#[111, 117, 116]⟩ wt9, wv9⟩, ⟨wh10, .str ⟨#[114, 111, 119]⟩ wt10, wv10⟩, ⟨wh11, .str ⟨#[105, 110, 112, 117, 116, 115]⟩ wt11, wv11⟩, ⟨wh12, .str ⟨#[102, 105, 108, 101, 115]⟩ wt12, wv12⟩, ⟨wh13, .str ⟨#[111, 112, 101, 110]⟩ wt13, wv13⟩, ⟨wh14, .str ⟨#[102, 105, 101, 108, 100, 115]⟩ wt14, wv14⟩, ⟨wh15, .str ⟨#[100, 97, 116, 97]⟩ wt15, wv15⟩, ⟨wh16, .str ⟨#[115, 112, 111, 116]⟩ wt16, wv16⟩, ⟨wh17, .str ⟨#[98, 97, 115, 101]⟩ wt17, wv17⟩, ⟨wh18, .str ⟨#[115, 101, 101, 100]⟩ wt18, wv18⟩, ⟨wh19, .str ⟨#[115, 116, 101, 112, 115]⟩ wt19, .int st stt⟩, ⟨wh20, .str ⟨#[100, 101, 112, 116, 104]⟩ wt20, wv20⟩, ⟨wh21, .str ⟨#[104, 97, 110, 100, 108, 101, 114]⟩ wt21, .int hdl hdt⟩, ⟨wh22, .str ⟨#[105, 115, 95, 104, 97, 110, 100, 108, 105, 110, 103]⟩ wt22, .bool on⟩, ⟨wh23, .str ⟨#[101, 114, 114, 111, 114, 95, 108, 105, 110, 101]⟩ wt23, .int el elt⟩, ⟨wh24, .str ⟨#[101, 114, 114, 111, 114, 95, 99, 111, 100, 101]⟩ wt24, .str ec ect⟩, ⟨wh25, .str ⟨#[105, 115, 95, 116, 114, 97, 99, 101, 100]⟩ wt25, wv25⟩, ⟨wh26, .str ⟨#[116, 114, 97, 99, 101, 115]⟩ wt26, wv26⟩, ⟨wh27, .str ⟨#[99, 111, 109, 109, 111, 110]⟩ wt27, wv27⟩] wep, #[]⟩), (L, ⟨.type "frame", none, .dict les lep, lsl⟩)])
    (hkd : kd = 4) (hat : 0 ≤ at') (hat' : at' < 6) (hh : hdl = 0 ∨ hdl = 10 ∨ hdl = 20 ∨ hdl = 30)  (hn : n = 30) (hfa : 0 ≤ fa) (hon : on = true)
    (R : Result → Shared → Prop)
    (hP : ∀ tp tq v tv lsl' wep' h' t', v = 30 → lsl' = lsl → Mem h₀ h' [] [(tp, ⟨.type "tuple", none, .seq #[.str ⟨#[108, 105, 110, 101]⟩ tq, .int v tv] 0, #[]⟩), (mk, omk), (ctl, ⟨.ref 82, some ctlD, .plain, #[]⟩), (ctlD, ⟨.type "dict", none, .dict #[⟨ch0, .str ⟨#[112, 105, 108, 101]⟩ ct0, cv0⟩, ⟨ch1, .str ⟨#[109, 111, 115, 116]⟩ ct1, cv1⟩, ⟨ch2, .str ⟨#[102, 97, 105, 108, 101, 100, 95, 97, 116]⟩ ct2, .int fa fat⟩] cep, #[]⟩), (run, ⟨.ref 363, some runD, .plain, #[]⟩), (runD, ⟨.type "dict", none, .dict #[⟨nh0, .str ⟨#[119, 111, 114, 108, 100]⟩ nt0, .ref world⟩, ⟨nh1, .str ⟨#[102, 108, 97, 116]⟩ nt1, .ref flat⟩, ⟨nh2, .str ⟨#[97, 110, 115, 119, 101, 114, 115]⟩ nt2, nv2⟩, ⟨nh3, .str ⟨#[98, 105, 116, 115]⟩ nt3, nv3⟩, ⟨nh4, .str ⟨#[100, 105, 103, 105, 116, 115]⟩ nt4, nv4⟩, ⟨nh5, .str ⟨#[99, 111, 110, 116, 114, 111, 108]⟩ nt5, .ref ctl⟩, ⟨nh6, .str ⟨#[97, 115, 107, 101, 100]⟩ nt6, nv6⟩] nep, #[]⟩), (r5, ⟨.type "tuple", none, .seq #[.int 30 rt5, rv5] re5, #[]⟩), (r4, ⟨.type "tuple", none, .seq #[.int 30 rt4, rv4] re4, #[]⟩), (r3, ⟨.type "tuple", none, .seq #[.int 20 rt3, rv3] re3, #[]⟩), (r2, ⟨.type "tuple", none, .seq #[.int 20 rt2, rv2] re2, #[]⟩), (r1, ⟨.type "tuple", none, .seq #[.int 10 rt1, rv1] re1, #[]⟩), (r0, ⟨.type "tuple", none, .seq #[.int 10 rt0, rv0] re0, #[]⟩), (places, ⟨.type "dict", none, .dict #[⟨ph0, .int 10 pt0, .int 0 pu0⟩, ⟨ph1, .int 20 pt1, .int 2 pu1⟩, ⟨ph2, .int 30 pt2, .int 4 pu2⟩] pep, #[]⟩), (rowsL, ⟨.type "list", none, .seq #[.ref r0, .ref r1, .ref r2, .ref r3, .ref r4, .ref r5] rowse, #[]⟩), (flat, ⟨.ref 145, some flatD, .plain, #[]⟩), (flatD, ⟨.type "dict", none, .dict #[⟨fh0, .str ⟨#[114, 111, 119, 115]⟩ ft0, .ref rowsL⟩, ⟨fh1, .str ⟨#[112, 108, 97, 99, 101, 115]⟩ ft1, .ref places⟩, ⟨fh2, .str ⟨#[100, 97, 116, 97]⟩ ft2, fv2⟩, ⟨fh3, .str ⟨#[112, 97, 105, 114, 115]⟩ ft3, fv3⟩, ⟨fh4, .str ⟨#[108, 111, 111, 112, 115]⟩ ft4, fv4⟩, ⟨fh5, .str ⟨#[102, 110, 115]⟩ ft5, fv5⟩] fep, #[]⟩), (world, ⟨.ref 237, some worldD, .plain, #[]⟩), (worldD, ⟨.type "dict", none, .dict #[⟨wh0, .str ⟨#[98, 105, 116, 115]⟩ wt0, wv0⟩, ⟨wh1, .str ⟨#[100, 105, 103, 105, 116, 115]⟩ wt1, wv1⟩, ⟨wh2, .str ⟨#[109, 111, 115, 116, 95, 115, 116, 101, 112, 115]⟩ wt2, .int ms mst⟩, ⟨wh3, .str ⟨#[109, 111, 115, 116, 95, 100, 101, 112, 116, 104]⟩ wt3, wv3⟩, ⟨wh4, .str ⟨#[114, 111, 111, 109]⟩ wt4, wv4⟩, ⟨wh5, .str ⟨#[110, 97, 109, 101, 115]⟩ wt5, wv5⟩, ⟨wh6, .str ⟨#[97, 114, 114, 97, 121, 115]⟩ wt6, wv6⟩, ⟨wh7, .str ⟨#[107, 105, 110, 100, 115]⟩ wt7, wv7⟩, ⟨wh8, .str ⟨#[102, 110, 115]⟩ wt8, wv8⟩, ⟨wh9, .str ⟨#[111, 117, 116]⟩ wt9, wv9⟩, ⟨wh10, .str ⟨#[114, 111, 119]⟩ wt10, wv10⟩, ⟨wh11, .str ⟨#[105, 110, 112, 117, 116, 115]⟩ wt11, wv11⟩, ⟨wh12, .str ⟨#[102, 105, 108, 101, 115]⟩ wt12, wv12⟩, ⟨wh13, .str ⟨#[111, 112, 101, 110]⟩ wt13, wv13⟩, ⟨wh14, .str ⟨#[102, 105, 101, 108, 100, 115]⟩ wt14, wv14⟩, ⟨wh15, .str ⟨#[100, 97, 116, 97]⟩ wt15, wv15⟩, ⟨wh16, .str ⟨#[115, 112, 111, 116]⟩ wt16, wv16⟩, ⟨wh17, .str ⟨#[98, 97, 115, 101]⟩ wt17, wv17⟩, ⟨wh18, .str ⟨#[115, 101, 101, 100]⟩ wt18, wv18⟩, ⟨wh19, .str ⟨#[115, 116, 101, 112, 115]⟩ wt19, .int st stt⟩, ⟨wh20, .str ⟨#[100, 101, 112, 116, 104]⟩ wt20, wv20⟩, ⟨wh21, .str ⟨#[104, 97, 110, 100, 108, 101, 114]⟩ wt21, .int hdl hdt⟩, ⟨wh22, .str ⟨#[105, 115, 95, 104, 97, 110, 100, 108, 105, 110, 103]⟩ wt22, .bool false⟩, ⟨wh23, .str ⟨#[101, 114, 114, 111, 114, 95, 108, 105, 110, 101]⟩ wt23, .int el elt⟩, ⟨wh24, .str ⟨#[101, 114, 114, 111, 114, 95, 99, 111, 100, 101]⟩ wt24, .str ec ect⟩, ⟨wh25, .str ⟨#[105, 115, 95, 116, 114, 97, 99, 101, 100]⟩ wt25, wv25⟩, ⟨wh26, .str ⟨#[116, 114, 97, 99, 101, 115]⟩ wt26, wv26⟩, ⟨wh27, .str ⟨#[99, 111, 109, 109, 111, 110]⟩ wt27, wv27⟩] wep', #[]⟩), (L, ⟨.type "frame", none, .dict les lep, lsl'⟩)] → R (.ok (.ret (.ref tp))) ⟨h', g, d, t', os⟩) :
    codeAny (model PR w) { handled := none, depth := 340, frames := some [⟨⟨.function, enm, false, false, emo⟩, L, egl, [], equ, efn, ecd, some L, ebi⟩], units := 3000 } (.call (.ref 402) ⟨[.ref run, .int at' ta, .int kd tk, .int n tn], []⟩) R ⟨h, g, d, t, os⟩ := by
  subst ph0e ph1e ph2e hkd
  subst hon
  all_goals run_tac do
    let t0 ← IO.monoMsNow
    driveMain 8000 (fun k => match k with
      | "65" => some (useCtr ``c_coe)
      | "58" => some (useCtr ``c_noe1)
      | "212" => some (useCtr ``c_line)
      | "205" => some (useCtr ``c_place)
      | "41" => some (fun b st g => do
          let n := (listItemsE (← instantiateMVars (← g.getType)).consumeMData.getAppArgs[2]!.appArg!.getAppArgs[0]!).length
          if n == 1 then useCtr ``c_exc1 b st g else useCtr ``c_exc2 b st g)
      | k => hooks2 k) (endBys [`hP])
    let t1 ← IO.monoMsNow
    Lean.logInfo m!"ms {t1 - t0}"

open Lean Meta Elab Tactic PySem.W.XRun in
theorem heard4bt (w : PySem.World) (h₀ h : Heap) (g : Array GenState) (d : Drawn) (t : Nat) (os : OsState) (mk : Addr) (omk : Obj) (ctl ctlD run runD world worldD L : Addr) (r0 r1 r2 r3 r4 r5 places rowsL flat flatD : Addr) (rt0 rt1 rt2 rt3 rt4 rt5 pt0 pt1 pt2 pu0 pu1 pu2 : Tok) (ph0 ph1 ph2 : Int) (rv0 rv1 rv2 rv3 rv4 rv5 : Value) (re0 re1 re2 re3 re4 re5 pep rowse : Nat) (fh0 fh1 fh2 fh3 fh4 fh5 : Int) (ft0 ft1 ft2 ft3 ft4 ft5 : Tok) (fv2 fv3 fv4 fv5 : Value) (fep : Nat) (ch0 ch1 ch2 : Int) (ct0 ct1 ct2 : Tok) (cv0 cv1 : Value) (cep : Nat) (nh0 nh1 nh2 nh3 nh4 nh5 nh6 : Int) (nt0 nt1 nt2 nt3 nt4 nt5 nt6 : Tok) (nv2 nv3 nv4 nv6 : Value) (nep : Nat) (wh0 wh1 wh2 wh3 wh4 wh5 wh6 wh7 wh8 wh9 wh10 wh11 wh12 wh13 wh14 wh15 wh16 wh17 wh18 wh19 wh20 wh21 wh22 wh23 wh24 wh25 wh26 wh27 : Int) (wt0 wt1 wt2 wt3 wt4 wt5 wt6 wt7 wt8 wt9 wt10 wt11 wt12 wt13 wt14 wt15 wt16 wt17 wt18 wt19 wt20 wt21 wt22 wt23 wt24 wt25 wt26 wt27 : Tok) (wv0 wv1 wv3 wv4 wv5 wv6 wv7 wv8 wv9 wv10 wv11 wv12 wv13 wv14 wv15 wv16 wv17 wv18 wv20 wv25 wv26 wv27 : Value) (wep : Nat) (les : Array DictEntry) (lep : Nat) (ms st hdl el fa : Int) (on : Bool) (ec : Str) (mst stt hdt elt ect fat : Tok) (enm : List (Str × NameKind)) (emo : List (Str × Const)) (egl ebi : Addr) (equ : Str) (efn : Option Addr) (ecd : Value) (at' kd : Int) (ta tk : Tok)  (lsl : Array (Option Value)) (ph0e : ph0 = 10) (ph1e : ph1 = 20) (ph2e : ph2 = 30)
    (KX : (KH w.params).In h₀) (D : Mem h₀ h [] [(mk, omk), (ctl, ⟨.ref 82, some ctlD, .plain, #[]⟩), (ctlD, ⟨.type "dict", none, .dict #[⟨ch0, .str ⟨#[112, 105, 108, 101]⟩ ct0, cv0⟩, ⟨ch1, .str ⟨#[109, 111, 115, 116]⟩ ct1, cv1⟩, ⟨ch2, .str ⟨#[102, 97, 105, 108, 101, 100, 95, 97, 116]⟩ ct2, .int fa fat⟩] cep, #[]⟩), (run, ⟨.ref 363, some runD, .plain, #[]⟩), (runD, ⟨.type "dict", none, .dict #[⟨nh0, .str ⟨#[119, 111, 114, 108, 100]⟩ nt0, .ref world⟩, ⟨nh1, .str ⟨#[102, 108, 97, 116]⟩ nt1, .ref flat⟩, ⟨nh2, .str ⟨#[97, 110, 115, 119, 101, 114, 115]⟩ nt2, nv2⟩, ⟨nh3, .str ⟨#[98, 105, 116, 115]⟩ nt3, nv3⟩, ⟨nh4, .str ⟨#[100, 105, 103, 105, 116, 115]⟩ nt4, nv4⟩, ⟨nh5, .str ⟨#[99, 111, 110, 116, 114, 111, 108]⟩ nt5, .ref ctl⟩, ⟨nh6, .str ⟨#[97, 115, 107, 101, 100]⟩ nt6, nv6⟩] nep, #[]⟩), (r5, ⟨.type "tuple", none, .seq #[.int 30 rt5, rv5] re5, #[]⟩), (r4, ⟨.type "tuple", none, .seq #[.int 30 rt4, rv4] re4, #[]⟩), (r3, ⟨.type "tuple", none, .seq #[.int 20 rt3, rv3] re3, #[]⟩), (r2, ⟨.type "tuple", none, .seq #[.int 20 rt2, rv2] re2, #[]⟩), (r1, ⟨.type "tuple", none, .seq #[.int 10 rt1, rv1] re1, #[]⟩), (r0, ⟨.type "tuple", none, .seq #[.int 10 rt0, rv0] re0, #[]⟩), (places, ⟨.type "dict", none, .dict #[⟨ph0, .int 10 pt0, .int 0 pu0⟩, ⟨ph1, .int 20 pt1, .int 2 pu1⟩, ⟨ph2, .int 30 pt2, .int 4 pu2⟩] pep, #[]⟩), (rowsL, ⟨.type "list", none, .seq #[.ref r0, .ref r1, .ref r2, .ref r3, .ref r4, .ref r5] rowse, #[]⟩), (flat, ⟨.ref 145, some flatD, .plain, #[]⟩), (flatD, ⟨.type "dict", none, .dict #[⟨fh0, .str ⟨#[114, 111, 119, 115]⟩ ft0, .ref rowsL⟩, ⟨fh1, .str ⟨#[112, 108, 97, 99, 101, 115]⟩ ft1, .ref places⟩, ⟨fh2, .str ⟨#[100, 97, 116, 97]⟩ ft2, fv2⟩, ⟨fh3, .str ⟨#[112, 97, 105, 114, 115]⟩ ft3, fv3⟩, ⟨fh4, .str ⟨#[108, 111, 111, 112, 115]⟩ ft4, fv4⟩, ⟨fh5, .str ⟨#[102, 110, 115]⟩ ft5, fv5⟩] fep, #[]⟩), (world, ⟨.ref 237, some worldD, .plain, #[]⟩), (worldD, ⟨.type "dict", none, .dict #[⟨wh0, .str ⟨#[98, 105, 116, 115]⟩ wt0, wv0⟩, ⟨wh1, .str ⟨#[100, 105, 103, 105, 116, 115]⟩ wt1, wv1⟩, ⟨wh2, .str ⟨#[109, 111, 115, 116, 95, 115, 116, 101, 112, 115]⟩ wt2, .int ms mst⟩, ⟨wh3, .str ⟨#[109, 111, 115, 116, 95, 100, 101, 112, 116, 104]⟩ wt3, wv3⟩, ⟨wh4, .str ⟨#[114, 111, 111, 109]⟩ wt4, wv4⟩, ⟨wh5, .str ⟨#[110, 97, 109, 101, 115]⟩ wt5, wv5⟩, ⟨wh6, .str ⟨#[97, 114, 114, 97, 121, 115]⟩ wt6, wv6⟩, ⟨wh7, .str ⟨#[107, 105, 110, 100, 115]⟩ wt7, wv7⟩, ⟨wh8, .str ⟨#[102, 110, 115]⟩ wt8, wv8⟩, ⟨wh9, .str ⟨#[111, 117, 116]⟩ wt9, wv9⟩, ⟨wh10, .str ⟨#[114, 111, 119]⟩ wt10, wv10⟩, ⟨wh11, .str ⟨#[105, 110, 112, 117, 116, 115]⟩ wt11, wv11⟩, ⟨wh12, .str ⟨#[102, 105, 108, 101, 115]⟩ wt12, wv12⟩, ⟨wh13, .str ⟨#[111, 112, 101, 110]⟩ wt13, wv13⟩, ⟨wh14, .str ⟨#[102, 105, 101, 108, 100, 115]⟩ wt14, wv14⟩, ⟨wh15, .str ⟨#[100, 97, 116, 97]⟩ wt15, wv15⟩, ⟨wh16, .str ⟨#[115, 112, 111, 116]⟩ wt16, wv16⟩, ⟨wh17, .str ⟨#[98, 97, 115, 101]⟩ wt17, wv17⟩, ⟨wh18, .str ⟨#[115, 101, 101, 100]⟩ wt18, wv18⟩, ⟨wh19, .str ⟨#[115, 116, 101, 112, 115]⟩ wt19, .int st stt⟩, ⟨wh20, .str ⟨#[100, 101, 112, 116, 104]⟩ wt20, wv20⟩, ⟨wh21, .str ⟨#[104, 97, 110, 100, 108, 101, 114]⟩ wt21, .int hdl hdt⟩, ⟨wh22, .str ⟨#[105, 115, 95, 104, 97, 110, 100, 108, 105, 110, 103]⟩ wt22, .bool on⟩, ⟨wh23, .str ⟨#[101, 114, 114, 111, 114, 95, 108, 105, 110, 101]⟩ wt23, .int el elt⟩, ⟨wh24, .str ⟨#[101, 114, 114, 111, 114, 95, 99, 111, 100, 101]⟩ wt24, .str ec ect⟩, ⟨wh25, .str ⟨#[105, 115, 95, 116, 114, 97, 99, 101, 100]⟩ wt25, wv25⟩, ⟨wh26, .str ⟨#[116, 114, 97, 99, 101, 115]⟩ wt26, wv26⟩, ⟨wh27, .str ⟨#[99, 111, 109, 109, 111, 110]⟩ wt27, wv27⟩] wep, #[]⟩), (L, ⟨.type "frame", none, .dict les lep, lsl⟩)])
    (hkd : kd = 4) (hat : 0 ≤ at') (hat' : at' < 6) (hh : hdl = 0 ∨ hdl = 10 ∨ hdl = 20 ∨ hdl = 30)  (hfa : 0 ≤ fa) (hon : on = true)
    (R : Result → Shared → Prop)
    (hP : ∀ tp tq v tv lsl' wep' h' t', v = fa → lsl' = lsl → Mem h₀ h' [] [(tp, ⟨.type "tuple", none, .seq #[.str ⟨#[112, 108, 97, 99, 101]⟩ tq, .int v tv] 0, #[]⟩), (mk, omk), (ctl, ⟨.ref 82, some ctlD, .plain, #[]⟩), (ctlD, ⟨.type "dict", none, .dict #[⟨ch0, .str ⟨#[112, 105, 108, 101]⟩ ct0, cv0⟩, ⟨ch1, .str ⟨#[109, 111, 115, 116]⟩ ct1, cv1⟩, ⟨ch2, .str ⟨#[102, 97, 105, 108, 101, 100, 95, 97, 116]⟩ ct2, .int fa fat⟩] cep, #[]⟩), (run, ⟨.ref 363, some runD, .plain, #[]⟩), (runD, ⟨.type "dict", none, .dict #[⟨nh0, .str ⟨#[119, 111, 114, 108, 100]⟩ nt0, .ref world⟩, ⟨nh1, .str ⟨#[102, 108, 97, 116]⟩ nt1, .ref flat⟩, ⟨nh2, .str ⟨#[97, 110, 115, 119, 101, 114, 115]⟩ nt2, nv2⟩, ⟨nh3, .str ⟨#[98, 105, 116, 115]⟩ nt3, nv3⟩, ⟨nh4, .str ⟨#[100, 105, 103, 105, 116, 115]⟩ nt4, nv4⟩, ⟨nh5, .str ⟨#[99, 111, 110, 116, 114, 111, 108]⟩ nt5, .ref ctl⟩, ⟨nh6, .str ⟨#[97, 115, 107, 101, 100]⟩ nt6, nv6⟩] nep, #[]⟩), (r5, ⟨.type "tuple", none, .seq #[.int 30 rt5, rv5] re5, #[]⟩), (r4, ⟨.type "tuple", none, .seq #[.int 30 rt4, rv4] re4, #[]⟩), (r3, ⟨.type "tuple", none, .seq #[.int 20 rt3, rv3] re3, #[]⟩), (r2, ⟨.type "tuple", none, .seq #[.int 20 rt2, rv2] re2, #[]⟩), (r1, ⟨.type "tuple", none, .seq #[.int 10 rt1, rv1] re1, #[]⟩), (r0, ⟨.type "tuple", none, .seq #[.int 10 rt0, rv0] re0, #[]⟩), (places, ⟨.type "dict", none, .dict #[⟨ph0, .int 10 pt0, .int 0 pu0⟩, ⟨ph1, .int 20 pt1, .int 2 pu1⟩, ⟨ph2, .int 30 pt2, .int 4 pu2⟩] pep, #[]⟩), (rowsL, ⟨.type "list", none, .seq #[.ref r0, .ref r1, .ref r2, .ref r3, .ref r4, .ref r5] rowse, #[]⟩), (flat, ⟨.ref 145, some flatD, .plain, #[]⟩), (flatD, ⟨.type "dict", none, .dict #[⟨fh0, .str ⟨#[114, 111, 119, 115]⟩ ft0, .ref rowsL⟩, ⟨fh1, .str ⟨#[112, 108, 97, 99, 101, 115]⟩ ft1, .ref places⟩, ⟨fh2, .str ⟨#[100, 97, 116, 97]⟩ ft2, fv2⟩, ⟨fh3, .str ⟨#[112, 97, 105, 114, 115]⟩ ft3, fv3⟩, ⟨fh4, .str ⟨#[108, 111, 111, 112, 115]⟩ ft4, fv4⟩, ⟨fh5, .str ⟨#[102, 110, 115]⟩ ft5, fv5⟩] fep, #[]⟩), (world, ⟨.ref 237, some worldD, .plain, #[]⟩), (worldD, ⟨.type "dict", none, .dict #[⟨wh0, .str ⟨#[98, 105, 116, 115]⟩ wt0, wv0⟩, ⟨wh1, .str ⟨#[100, 105, 103, 105, 116, 115]⟩ wt1, wv1⟩, ⟨wh2, .str ⟨#[109, 111, 115, 116, 95, 115, 116, 101, 112, 115]⟩ wt2, .int ms mst⟩, ⟨wh3, .str ⟨#[109, 111, 115, 116, 95, 100, 101, 112, 116, 104]⟩ wt3, wv3⟩, ⟨wh4, .str ⟨#[114, 111, 111, 109]⟩ wt4, wv4⟩, ⟨wh5, .str ⟨#[110, 97, 109, 101, 115]⟩ wt5, wv5⟩, ⟨wh6, .str ⟨#[97, 114, 114, 97, 121, 115]⟩ wt6, wv6⟩, ⟨wh7, .str ⟨#[107, 105, 110, 100, 115]⟩ wt7, wv7⟩, ⟨wh8, .str ⟨#[102, 110, 115]⟩ wt8, wv8⟩, ⟨wh9, .str ⟨#[111, 117, 116]⟩ wt9, wv9⟩, ⟨wh10, .str ⟨#[114, 111, 119]⟩ wt10, wv10⟩, ⟨wh11, .str ⟨#[105, 110, 112, 117, 116, 115]⟩ wt11, wv11⟩, ⟨wh12, .str ⟨#[102, 105, 108, 101, 115]⟩ wt12, wv12⟩, ⟨wh13, .str ⟨#[111, 112, 101, 110]⟩ wt13, wv13⟩, ⟨wh14, .str ⟨#[102, 105, 101, 108, 100, 115]⟩ wt14, wv14⟩, ⟨wh15, .str ⟨#[100, 97, 116, 97]⟩ wt15, wv15⟩, ⟨wh16, .str ⟨#[115, 112, 111, 116]⟩ wt16, wv16⟩, ⟨wh17, .str ⟨#[98, 97, 115, 101]⟩ wt17, wv17⟩, ⟨wh18, .str ⟨#[115, 101, 101, 100]⟩ wt18, wv18⟩, ⟨wh19, .str ⟨#[115, 116, 101, 112, 115]⟩ wt19, .int st stt⟩, ⟨wh20, .str ⟨#[100, 101, 112, 116, 104]⟩ wt20, wv20⟩, ⟨wh21, .str ⟨#[104, 97, 110, 100, 108, 101, 114]⟩ wt21, .int hdl hdt⟩, ⟨wh22, .str ⟨#[105, 115, 95, 104, 97, 110, 100, 108, 105, 110, 103]⟩ wt22, .bool false⟩, ⟨wh23, .str ⟨#[101, 114, 114, 111, 114, 95, 108, 105, 110, 101]⟩ wt23, .int el elt⟩, ⟨wh24, .str ⟨#[101, 114, 114, 111, 114, 95, 99, 111, 100, 101]⟩ wt24, .str ec ect⟩, ⟨wh25, .str ⟨#[105, 115, 95, 116, 114, 97, 99, 101, 100]⟩ wt25, wv25⟩, ⟨wh26, .str ⟨#[116, 114, 97, 99, 101, 115]⟩ wt26, wv26⟩, ⟨wh27, .str ⟨#[99, 111, 109, 109, 111, 110]⟩ wt27, wv27⟩] wep', #[]⟩), (L, ⟨.type "frame", none, .dict les lep, lsl'⟩)] → R (.ok (.ret (.ref tp))) ⟨h', g, d, t', os⟩) :
    codeAny (model PR w) { handled := none, depth := 340, frames := some [⟨⟨.function, enm, false, false, emo⟩, L, egl, [], equ, efn, ecd, some L, ebi⟩], units := 3000 } (.call (.ref 402) ⟨[.ref run, .int at' ta, .int kd tk, .none], []⟩) R ⟨h, g, d, t, os⟩ := by
  subst ph0e ph1e ph2e hkd
  subst hon
  all_goals run_tac do
    let t0 ← IO.monoMsNow
    driveMain 8000 (fun k => match k with
      | "65" => some (useCtr ``c_coe)
      | "58" => some (useCtr ``c_noe1)
      | "212" => some (useCtr ``c_line)
      | "205" => some (useCtr ``c_place)
      | "41" => some (fun b st g => do
          let n := (listItemsE (← instantiateMVars (← g.getType)).consumeMData.getAppArgs[2]!.appArg!.getAppArgs[0]!).length
          if n == 1 then useCtr ``c_exc1 b st g else useCtr ``c_exc2 b st g)
      | k => hooks2 k) (endBys [`hP])
    let t1 ← IO.monoMsNow
    Lean.logInfo m!"ms {t1 - t0}"

open Lean Meta Elab Tactic PySem.W.XRun in
theorem heard4ct (w : PySem.World) (h₀ h : Heap) (g : Array GenState) (d : Drawn) (t : Nat) (os : OsState) (mk : Addr) (omk : Obj) (ctl ctlD run runD world worldD L : Addr) (r0 r1 r2 r3 r4 r5 places rowsL flat flatD : Addr) (rt0 rt1 rt2 rt3 rt4 rt5 pt0 pt1 pt2 pu0 pu1 pu2 : Tok) (ph0 ph1 ph2 : Int) (rv0 rv1 rv2 rv3 rv4 rv5 : Value) (re0 re1 re2 re3 re4 re5 pep rowse : Nat) (fh0 fh1 fh2 fh3 fh4 fh5 : Int) (ft0 ft1 ft2 ft3 ft4 ft5 : Tok) (fv2 fv3 fv4 fv5 : Value) (fep : Nat) (ch0 ch1 ch2 : Int) (ct0 ct1 ct2 : Tok) (cv0 cv1 : Value) (cep : Nat) (nh0 nh1 nh2 nh3 nh4 nh5 nh6 : Int) (nt0 nt1 nt2 nt3 nt4 nt5 nt6 : Tok) (nv2 nv3 nv4 nv6 : Value) (nep : Nat) (wh0 wh1 wh2 wh3 wh4 wh5 wh6 wh7 wh8 wh9 wh10 wh11 wh12 wh13 wh14 wh15 wh16 wh17 wh18 wh19 wh20 wh21 wh22 wh23 wh24 wh25 wh26 wh27 : Int) (wt0 wt1 wt2 wt3 wt4 wt5 wt6 wt7 wt8 wt9 wt10 wt11 wt12 wt13 wt14 wt15 wt16 wt17 wt18 wt19 wt20 wt21 wt22 wt23 wt24 wt25 wt26 wt27 : Tok) (wv0 wv1 wv3 wv4 wv5 wv6 wv7 wv8 wv9 wv10 wv11 wv12 wv13 wv14 wv15 wv16 wv17 wv18 wv20 wv25 wv26 wv27 : Value) (wep : Nat) (les : Array DictEntry) (lep : Nat) (ms st hdl el fa : Int) (on : Bool) (ec : Str) (mst stt hdt elt ect fat : Tok) (enm : List (Str × NameKind)) (emo : List (Str × Const)) (egl ebi : Addr) (equ : Str) (efn : Option Addr) (ecd : Value) (at' kd : Int) (ta tk : Tok) (tn : Tok) (lsl : Array (Option Value)) (ph0e : ph0 = 10) (ph1e : ph1 = 20) (ph2e : ph2 = 30)
    (KX : (KH w.params).In h₀) (D : Mem h₀ h [] [(mk, omk), (ctl, ⟨.ref 82, some ctlD, .plain, #[]⟩), (ctlD, ⟨.type "dict", none, .dict #[⟨ch0, .str ⟨#[112, 105, 108, 101]⟩ ct0, cv0⟩, ⟨ch1, .str ⟨#[109, 111, 115, 116]⟩ ct1, cv1⟩, ⟨ch2, .str ⟨#[102, 97, 105, 108, 101, 100, 95, 97, 116]⟩ ct2, .int fa fat⟩] cep, #[]⟩), (run, ⟨.ref 363, some runD, .plain, #[]⟩), (runD, ⟨.type "dict", none, .dict #[⟨nh0, .str ⟨#[119, 111, 114, 108, 100]⟩ nt0, .ref world⟩, ⟨nh1, .str ⟨#[102, 108, 97, 116]⟩ nt1, .ref flat⟩, ⟨nh2, .str ⟨#[97, 110, 115, 119, 101, 114, 115]⟩ nt2, nv2⟩, ⟨nh3, .str ⟨#[98, 105, 116, 115]⟩ nt3, nv3⟩, ⟨nh4, .str ⟨#[100, 105, 103, 105, 116, 115]⟩ nt4, nv4⟩, ⟨nh5, .str ⟨#[99, 111, 110, 116, 114, 111, 108]⟩ nt5, .ref ctl⟩, ⟨nh6, .str ⟨#[97, 115, 107, 101, 100]⟩ nt6, nv6⟩] nep, #[]⟩), (r5, ⟨.type "tuple", none, .seq #[.int 30 rt5, rv5] re5, #[]⟩), (r4, ⟨.type "tuple", none, .seq #[.int 30 rt4, rv4] re4, #[]⟩), (r3, ⟨.type "tuple", none, .seq #[.int 20 rt3, rv3] re3, #[]⟩), (r2, ⟨.type "tuple", none, .seq #[.int 20 rt2, rv2] re2, #[]⟩), (r1, ⟨.type "tuple", none, .seq #[.int 10 rt1, rv1] re1, #[]⟩), (r0, ⟨.type "tuple", none, .seq #[.int 10 rt0, rv0] re0, #[]⟩), (places, ⟨.type "dict", none, .dict #[⟨ph0, .int 10 pt0, .int 0 pu0⟩, ⟨ph1, .int 20 pt1, .int 2 pu1⟩, ⟨ph2, .int 30 pt2, .int 4 pu2⟩] pep, #[]⟩), (rowsL, ⟨.type "list", none, .seq #[.ref r0, .ref r1, .ref r2, .ref r3, .ref r4, .ref r5] rowse, #[]⟩), (flat, ⟨.ref 145, some flatD, .plain, #[]⟩), (flatD, ⟨.type "dict", none, .dict #[⟨fh0, .str ⟨#[114, 111, 119, 115]⟩ ft0, .ref rowsL⟩, ⟨fh1, .str ⟨#[112, 108, 97, 99, 101, 115]⟩ ft1, .ref places⟩, ⟨fh2, .str ⟨#[100, 97, 116, 97]⟩ ft2, fv2⟩, ⟨fh3, .str ⟨#[112, 97, 105, 114, 115]⟩ ft3, fv3⟩, ⟨fh4, .str ⟨#[108, 111, 111, 112, 115]⟩ ft4, fv4⟩, ⟨fh5, .str ⟨#[102, 110, 115]⟩ ft5, fv5⟩] fep, #[]⟩), (world, ⟨.ref 237, some worldD, .plain, #[]⟩), (worldD, ⟨.type "dict", none, .dict #[⟨wh0, .str ⟨#[98, 105, 116, 115]⟩ wt0, wv0⟩, ⟨wh1, .str ⟨#[100, 105, 103, 105, 116, 115]⟩ wt1, wv1⟩, ⟨wh2, .str ⟨#[109, 111, 115, 116, 95, 115, 116, 101, 112, 115]⟩ wt2, .int ms mst⟩, ⟨wh3, .str ⟨#[109, 111, 115, 116, 95, 100, 101, 112, 116, 104]⟩ wt3, wv3⟩, ⟨wh4, .str ⟨#[114, 111, 111, 109]⟩ wt4, wv4⟩, ⟨wh5, .str ⟨#[110, 97, 109, 101, 115]⟩ wt5, wv5⟩, ⟨wh6, .str ⟨#[97, 114, 114, 97, 121, 115]⟩ wt6, wv6⟩, ⟨wh7, .str ⟨#[107, 105, 110, 100, 115]⟩ wt7, wv7⟩, ⟨wh8, .str ⟨#[102, 110, 115]⟩ wt8, wv8⟩, ⟨wh9, .str ⟨#[111, 117, 116]⟩ wt9, wv9⟩, ⟨wh10, .str ⟨#[114, 111, 119]⟩ wt10, wv10⟩, ⟨wh11, .str ⟨#[105, 110, 112, 117, 116, 115]⟩ wt11, wv11⟩, ⟨wh12, .str ⟨#[102, 105, 108, 101, 115]⟩ wt12, wv12⟩, ⟨wh13, .str ⟨#[111, 112, 101, 110]⟩ wt13, wv13⟩, ⟨wh14, .str ⟨#[102, 105, 101, 108, 100, 115]⟩ wt14, wv14⟩, ⟨wh15, .str ⟨#[100, 97, 116, 97]⟩ wt15, wv15⟩, ⟨wh16, .str ⟨#[115, 112, 111, 116]⟩ wt16, wv16⟩, ⟨wh17, .str ⟨#[98, 97, 115, 101]⟩ wt17, wv17⟩, ⟨wh18, .str ⟨#[115, 101, 101, 100]⟩ wt18, wv18⟩, ⟨wh19, .str ⟨#[115, 116, 101, 112, 115]⟩ wt19, .int st stt⟩, ⟨wh20, .str ⟨#[100, 101, 112, 116, 104]⟩ wt20, wv20⟩, ⟨wh21, .str ⟨#[104, 97, 110, 100, 108, 101, 114]⟩ wt21, .int hdl hdt⟩, ⟨wh22, .str ⟨#[105, 115, 95, 104, 97, 110, 100, 108, 105, 110, 103]⟩ wt22, .bool on⟩, ⟨wh23, .str ⟨#[101, 114, 114, 111, 114, 95, 108, 105, 110, 101]⟩ wt23, .int el elt⟩, ⟨wh24, .str ⟨#[101, 114, 114, 111, 114, 95, 99, 111, 100, 101]⟩ wt24, .str ec ect⟩, ⟨wh25, .str ⟨#[105, 115, 95, 116, 114, 97, 99, 101, 100]⟩ wt25, wv25⟩, ⟨wh26, .str ⟨#[116, 114, 97, 99, 101, 115]⟩ wt26, wv26⟩, ⟨wh27, .str ⟨#[99, 111, 109, 109, 111, 110]⟩ wt27, wv27⟩] wep, #[]⟩), (L, ⟨.type "frame", none, .dict les lep, lsl⟩)])
    (hkd : kd = 4) (hat : 0 ≤ at') (hat' : at' < 6) (hh : hdl = 0 ∨ hdl = 10 ∨ hdl = 20 ∨ hdl = 30)  (hfa : 0 ≤ fa) (hon : on = true)
    (R : Result → Shared → Prop)
    (hP : ∀ tp tq v tv lsl' wep' h' t', v = fa + 1 → lsl' = lsl → Mem h₀ h' [] [(tp, ⟨.type "tuple", none, .seq #[.str ⟨#[112, 108, 97, 99, 101]⟩ tq, .int v tv] 0, #[]⟩), (mk, omk), (ctl, ⟨.ref 82, some ctlD, .plain, #[]⟩), (ctlD, ⟨.type "dict", none, .dict #[⟨ch0, .str ⟨#[112, 105, 108, 101]⟩ ct0, cv0⟩, ⟨ch1, .str ⟨#[109, 111, 115, 116]⟩ ct1, cv1⟩, ⟨ch2, .str ⟨#[102, 97, 105, 108, 101, 100, 95, 97, 116]⟩ ct2, .int fa fat⟩] cep, #[]⟩), (run, ⟨.ref 363, some runD, .plain, #[]⟩), (runD, ⟨.type "dict", none, .dict #[⟨nh0, .str ⟨#[119, 111, 114, 108, 100]⟩ nt0, .ref world⟩, ⟨nh1, .str ⟨#[102, 108, 97, 116]⟩ nt1, .ref flat⟩, ⟨nh2, .str ⟨#[97, 110, 115, 119, 101, 114, 115]⟩ nt2, nv2⟩, ⟨nh3, .str ⟨#[98, 105, 116, 115]⟩ nt3, nv3⟩, ⟨nh4, .str ⟨#[100, 105, 103, 105, 116, 115]⟩ nt4, nv4⟩, ⟨nh5, .str ⟨#[99, 111, 110, 116, 114, 111, 108]⟩ nt5, .ref ctl⟩, ⟨nh6, .str ⟨#[97, 115, 107, 101, 100]⟩ nt6, nv6⟩] nep, #[]⟩), (r5, ⟨.type "tuple", none, .seq #[.int 30 rt5, rv5] re5, #[]⟩), (r4, ⟨.type "tuple", none, .seq #[.int 30 rt4, rv4] re4, #[]⟩), (r3, ⟨.type "tuple", none, .seq #[.int 20 rt3, rv3] re3, #[]⟩), (r2, ⟨.type "tuple", none, .seq #[.int 20 rt2, rv2] re2, #[]⟩), (r1, ⟨.type "tuple", none, .seq #[.int 10 rt1, rv1] re1, #[]⟩), (r0, ⟨.type "tuple", none, .seq #[.int 10 rt0, rv0] re0, #[]⟩), (places, ⟨.type "dict", none, .dict #[⟨ph0, .int 10 pt0, .int 0 pu0⟩, ⟨ph1, .int 20 pt1, .int 2 pu1⟩, ⟨ph2, .int 30 pt2, .int 4 pu2⟩] pep, #[]⟩), (rowsL, ⟨.type "list", none, .seq #[.ref r0, .ref r1, .ref r2, .ref r3, .ref r4, .ref r5] rowse, #[]⟩), (flat, ⟨.ref 145, some flatD, .plain, #[]⟩), (flatD, ⟨.type "dict", none, .dict #[⟨fh0, .str ⟨#[114, 111, 119, 115]⟩ ft0, .ref rowsL⟩, ⟨fh1, .str ⟨#[112, 108, 97, 99, 101, 115]⟩ ft1, .ref places⟩, ⟨fh2, .str ⟨#[100, 97, 116, 97]⟩ ft2, fv2⟩, ⟨fh3, .str ⟨#[112, 97, 105, 114, 115]⟩ ft3, fv3⟩, ⟨fh4, .str ⟨#[108, 111, 111, 112, 115]⟩ ft4, fv4⟩, ⟨fh5, .str ⟨#[102, 110, 115]⟩ ft5, fv5⟩] fep, #[]⟩), (world, ⟨.ref 237, some worldD, .plain, #[]⟩), (worldD, ⟨.type "dict", none, .dict #[⟨wh0, .str ⟨#[98, 105, 116, 115]⟩ wt0, wv0⟩, ⟨wh1, .str ⟨#[100, 105, 103, 105, 116, 115]⟩ wt1, wv1⟩, ⟨wh2, .str ⟨#[109, 111, 115, 116, 95, 115, 116, 101, 112, 115]⟩ wt2, .int ms mst⟩, ⟨wh3, .str ⟨#[109, 111, 115, 116, 95, 100, 101, 112, 116, 104]⟩ wt3, wv3⟩, ⟨wh4, .str ⟨#[114, 111, 111, 109]⟩ wt4, wv4⟩, ⟨wh5, .str ⟨#[110, 97, 109, 101, 115]⟩ wt5, wv5⟩, ⟨wh6, .str ⟨#[97, 114, 114, 97, 121, 115]⟩ wt6, wv6⟩, ⟨wh7, .str ⟨#[107, 105, 110, 100, 115]⟩ wt7, wv7⟩, ⟨wh8, .str ⟨#[102, 110, 115]⟩ wt8, wv8⟩, ⟨wh9, .str ⟨#[111, 117, 116]⟩ wt9, wv9⟩, ⟨wh10, .str ⟨#[114, 111, 119]⟩ wt10, wv10⟩, ⟨wh11, .str ⟨#[105, 110, 112, 117, 116, 115]⟩ wt11, wv11⟩, ⟨wh12, .str ⟨#[102, 105, 108, 101, 115]⟩ wt12, wv12⟩, ⟨wh13, .str ⟨#[111, 112, 101, 110]⟩ wt13, wv13⟩, ⟨wh14, .str ⟨#[102, 105, 101, 108, 100, 115]⟩ wt14, wv14⟩, ⟨wh15, .str ⟨#[100, 97, 116, 97]⟩ wt15, wv15⟩, ⟨wh16, .str ⟨#[115, 112, 111, 116]⟩ wt16, wv16⟩, ⟨wh17, .str ⟨#[98, 97, 115, 101]⟩ wt17, wv17⟩, ⟨wh18, .str ⟨#[115, 101, 101, 100]⟩ wt18, wv18⟩, ⟨wh19, .str ⟨#[115, 116, 101, 112, 115]⟩ wt19, .int st stt⟩, ⟨wh20, .str ⟨#[100, 101, 112, 116, 104]⟩ wt20, wv20⟩, ⟨wh21, .str ⟨#[104, 97, 110, 100, 108, 101, 114]⟩ wt21, .int hdl hdt⟩, ⟨wh22, .str ⟨#[105, 115, 95, 104, 97, 110, 100, 108, 105, 110, 103]⟩ wt22, .bool false⟩, ⟨wh23, .str ⟨#[101, 114, 114, 111, 114, 95, 108, 105, 110, 101]⟩ wt23, .int el elt⟩, ⟨wh24, .str ⟨#[101, 114, 114, 111, 114, 95, 99, 111, 100, 101]⟩ wt24, .str ec ect⟩, ⟨wh25, .str ⟨#[105, 115, 95, 116, 114, 97, 99, 101, 100]⟩ wt25, wv25⟩, ⟨wh26, .str ⟨#[116, 114, 97, 99, 101, 115]⟩ wt26, wv26⟩, ⟨wh27, .str ⟨#[99, 111, 109, 109, 111, 110]⟩ wt27, wv27⟩] wep', #[]⟩), (L, ⟨.type "frame", none, .dict les lep, lsl'⟩)] → R (.ok (.ret (.ref tp))) ⟨h', g, d, t', os⟩) :
    codeAny (model PR w) { handled := none, depth := 340, frames := some [⟨⟨.function, enm, false, false, emo⟩, L, egl, [], equ, efn, ecd, some L, ebi⟩], units := 3000 } (.call (.ref 402) ⟨[.ref run, .int at' ta, .int kd tk, .str ⟨#[78, 69, 88, 84]⟩ tn], []⟩) R ⟨h, g, d, t, os⟩ := by
  subst ph0e ph1e ph2e hkd
  subst hon
  all_goals run_tac do
    let t0 ← IO.monoMsNow
    driveMain 8000 (fun k => match k with
      | "65" => some (useCtr ``c_coe)
      | "58" => some (useCtr ``c_noe1)
      | "212" => some (useCtr ``c_line)
      | "205" => some (useCtr ``c_place)
      | "41" => some (fun b st g => do
          let n := (listItemsE (← instantiateMVars (← g.getType)).consumeMData.getAppArgs[2]!.appArg!.getAppArgs[0]!).length
          if n == 1 then useCtr ``c_exc1 b st g else useCtr ``c_exc2 b st g)
      | k => hooks2 k) (endBys [`hP])
    let t1 ← IO.monoMsNow
    Lean.logInfo m!"ms {t1 - t0}"
end Mine
end
section
open PySem PySem.W PySem.W.X PyProof.Rows
namespace Mine
set_option maxRecDepth 5000
set_option maxHeartbeats 0

theorem heardAll (w : PySem.World) (h₀ h : Heap) (g : Array GenState) (d : Drawn) (t : Nat) (os : OsState) (mk : Addr) (omk : Obj) (ctl ctlD run runD world worldD L : Addr) (r0 r1 r2 r3 r4 r5 places rowsL flat flatD : Addr) (rt0 rt1 rt2 rt3 rt4 rt5 pt0 pt1 pt2 pu0 pu1 pu2 : Tok) (ph0 ph1 ph2 : Int) (rv0 rv1 rv2 rv3 rv4 rv5 : Value) (re0 re1 re2 re3 re4 re5 pep rowse : Nat) (fh0 fh1 fh2 fh3 fh4 fh5 : Int) (ft0 ft1 ft2 ft3 ft4 ft5 : Tok) (fv2 fv3 fv4 fv5 : Value) (fep : Nat) (ch0 ch1 ch2 : Int) (ct0 ct1 ct2 : Tok) (cv0 cv1 : Value) (cep : Nat) (nh0 nh1 nh2 nh3 nh4 nh5 nh6 : Int) (nt0 nt1 nt2 nt3 nt4 nt5 nt6 : Tok) (nv2 nv3 nv4 nv6 : Value) (nep : Nat) (wh0 wh1 wh2 wh3 wh4 wh5 wh6 wh7 wh8 wh9 wh10 wh11 wh12 wh13 wh14 wh15 wh16 wh17 wh18 wh19 wh20 wh21 wh22 wh23 wh24 wh25 wh26 wh27 : Int) (wt0 wt1 wt2 wt3 wt4 wt5 wt6 wt7 wt8 wt9 wt10 wt11 wt12 wt13 wt14 wt15 wt16 wt17 wt18 wt19 wt20 wt21 wt22 wt23 wt24 wt25 wt26 wt27 : Tok) (wv0 wv1 wv3 wv4 wv5 wv6 wv7 wv8 wv9 wv10 wv11 wv12 wv13 wv14 wv15 wv16 wv17 wv18 wv20 wv25 wv26 wv27 : Value) (wep : Nat) (les : Array DictEntry) (lep : Nat) (ms st hdl el fa : Int) (on : Bool) (ec : Str) (mst stt hdt elt ect fat : Tok) (enm : List (Str × NameKind)) (emo : List (Str × Const)) (egl ebi : Addr) (equ : Str) (efn : Option Addr) (ecd : Value) (at' kd num : Int) (ta tk : Tok) (nu : Nu) (nv : Value) (lsl : Array (Option Value)) (ph0e : ph0 = 10) (ph1e : ph1 = 20) (ph2e : ph2 = 30)
    (KX : (KH w.params).In h₀) (D : Mem h₀ h [] [(mk, omk), (ctl, ⟨.ref 82, some ctlD, .plain, #[]⟩), (ctlD, ⟨.type "dict", none, .dict #[⟨ch0, .str ⟨#[112, 105, 108, 101]⟩ ct0, cv0⟩, ⟨ch1, .str ⟨#[109, 111, 115, 116]⟩ ct1, cv1⟩, ⟨ch2, .str ⟨#[102, 97, 105, 108, 101, 100, 95, 97, 116]⟩ ct2, .int fa fat⟩] cep, #[]⟩), (run, ⟨.ref 363, some runD, .plain, #[]⟩), (runD, ⟨.type "dict", none, .dict #[⟨nh0, .str ⟨#[119, 111, 114, 108, 100]⟩ nt0, .ref world⟩, ⟨nh1, .str ⟨#[102, 108, 97, 116]⟩ nt1, .ref flat⟩, ⟨nh2, .str ⟨#[97, 110, 115, 119, 101, 114, 115]⟩ nt2, nv2⟩, ⟨nh3, .str ⟨#[98, 105, 116, 115]⟩ nt3, nv3⟩, ⟨nh4, .str ⟨#[100, 105, 103, 105, 116, 115]⟩ nt4, nv4⟩, ⟨nh5, .str ⟨#[99, 111, 110, 116, 114, 111, 108]⟩ nt5, .ref ctl⟩, ⟨nh6, .str ⟨#[97, 115, 107, 101, 100]⟩ nt6, nv6⟩] nep, #[]⟩), (r5, ⟨.type "tuple", none, .seq #[.int 30 rt5, rv5] re5, #[]⟩), (r4, ⟨.type "tuple", none, .seq #[.int 30 rt4, rv4] re4, #[]⟩), (r3, ⟨.type "tuple", none, .seq #[.int 20 rt3, rv3] re3, #[]⟩), (r2, ⟨.type "tuple", none, .seq #[.int 20 rt2, rv2] re2, #[]⟩), (r1, ⟨.type "tuple", none, .seq #[.int 10 rt1, rv1] re1, #[]⟩), (r0, ⟨.type "tuple", none, .seq #[.int 10 rt0, rv0] re0, #[]⟩), (places, ⟨.type "dict", none, .dict #[⟨ph0, .int 10 pt0, .int 0 pu0⟩, ⟨ph1, .int 20 pt1, .int 2 pu1⟩, ⟨ph2, .int 30 pt2, .int 4 pu2⟩] pep, #[]⟩), (rowsL, ⟨.type "list", none, .seq #[.ref r0, .ref r1, .ref r2, .ref r3, .ref r4, .ref r5] rowse, #[]⟩), (flat, ⟨.ref 145, some flatD, .plain, #[]⟩), (flatD, ⟨.type "dict", none, .dict #[⟨fh0, .str ⟨#[114, 111, 119, 115]⟩ ft0, .ref rowsL⟩, ⟨fh1, .str ⟨#[112, 108, 97, 99, 101, 115]⟩ ft1, .ref places⟩, ⟨fh2, .str ⟨#[100, 97, 116, 97]⟩ ft2, fv2⟩, ⟨fh3, .str ⟨#[112, 97, 105, 114, 115]⟩ ft3, fv3⟩, ⟨fh4, .str ⟨#[108, 111, 111, 112, 115]⟩ ft4, fv4⟩, ⟨fh5, .str ⟨#[102, 110, 115]⟩ ft5, fv5⟩] fep, #[]⟩), (world, ⟨.ref 237, some worldD, .plain, #[]⟩), (worldD, ⟨.type "dict", none, .dict #[⟨wh0, .str ⟨#[98, 105, 116, 115]⟩ wt0, wv0⟩, ⟨wh1, .str ⟨#[100, 105, 103, 105, 116, 115]⟩ wt1, wv1⟩, ⟨wh2, .str ⟨#[109, 111, 115, 116, 95, 115, 116, 101, 112, 115]⟩ wt2, .int ms mst⟩, ⟨wh3, .str ⟨#[109, 111, 115, 116, 95, 100, 101, 112, 116, 104]⟩ wt3, wv3⟩, ⟨wh4, .str ⟨#[114, 111, 111, 109]⟩ wt4, wv4⟩, ⟨wh5, .str ⟨#[110, 97, 109, 101, 115]⟩ wt5, wv5⟩, ⟨wh6, .str ⟨#[97, 114, 114, 97, 121, 115]⟩ wt6, wv6⟩, ⟨wh7, .str ⟨#[107, 105, 110, 100, 115]⟩ wt7, wv7⟩, ⟨wh8, .str ⟨#[102, 110, 115]⟩ wt8, wv8⟩, ⟨wh9, .str ⟨#[111, 117, 116]⟩ wt9, wv9⟩, ⟨wh10, .str ⟨#[114, 111, 119]⟩ wt10, wv10⟩, ⟨wh11, .str ⟨#[105, 110, 112, 117, 116, 115]⟩ wt11, wv11⟩, ⟨wh12, .str ⟨#[102, 105, 108, 101, 115]⟩ wt12, wv12⟩, ⟨wh13, .str ⟨#[111, 112, 101, 110]⟩ wt13, wv13⟩, ⟨wh14, .str ⟨#[102, 105, 101, 108, 100, 115]⟩ wt14, wv14⟩, ⟨wh15, .str ⟨#[100, 97, 116, 97]⟩ wt15, wv15⟩, ⟨wh16, .str ⟨#[115, 112, 111, 116]⟩ wt16, wv16⟩, ⟨wh17, .str ⟨#[98, 97, 115, 101]⟩ wt17, wv17⟩, ⟨wh18, .str ⟨#[115, 101, 101, 100]⟩ wt18, wv18⟩, ⟨wh19, .str ⟨#[115, 116, 101, 112, 115]⟩ wt19, .int st stt⟩, ⟨wh20, .str ⟨#[100, 101, 112, 116, 104]⟩ wt20, wv20⟩, ⟨wh21, .str ⟨#[104, 97, 110, 100, 108, 101, 114]⟩ wt21, .int hdl hdt⟩, ⟨wh22, .str ⟨#[105, 115, 95, 104, 97, 110, 100, 108, 105, 110, 103]⟩ wt22, .bool on⟩, ⟨wh23, .str ⟨#[101, 114, 114, 111, 114, 95, 108, 105, 110, 101]⟩ wt23, .int el elt⟩, ⟨wh24, .str ⟨#[101, 114, 114, 111, 114, 95, 99, 111, 100, 101]⟩ wt24, .str ec ect⟩, ⟨wh25, .str ⟨#[105, 115, 95, 116, 114, 97, 99, 101, 100]⟩ wt25, wv25⟩, ⟨wh26, .str ⟨#[116, 114, 97, 99, 101, 115]⟩ wt26, wv26⟩, ⟨wh27, .str ⟨#[99, 111, 109, 109, 111, 110]⟩ wt27, wv27⟩] wep, #[]⟩), (L, ⟨.type "frame", none, .dict les lep, lsl⟩)])
    (hnv : NuV nu nv) (hdr : Drew kd nu) (hat : 0 ≤ at') (hat' : at' < 6) (hinv : Inv ⟨hdl, on, num, el, fa, st⟩) (hcd : IsCode ec num)
    (R : Result → Shared → Prop)
    (hD : ∀ sv hd' hdt' on' num' el' elt' ec' ect' fa' fat' st' stt' lsl' wep' cep' h' t', spec ms at' ⟨hdl, on, num, el, fa, st⟩ kd nu = (.done, ⟨hd', on', num', el', fa', st'⟩) → Inv ⟨hd', on', num', el', fa', st'⟩ → IsCode ec' num' → Mem h₀ h' [] [(mk, omk), (ctl, ⟨.ref 82, some ctlD, .plain, #[]⟩), (ctlD, ⟨.type "dict", none, .dict #[⟨ch0, .str ⟨#[112, 105, 108, 101]⟩ ct0, cv0⟩, ⟨ch1, .str ⟨#[109, 111, 115, 116]⟩ ct1, cv1⟩, ⟨ch2, .str ⟨#[102, 97, 105, 108, 101, 100, 95, 97, 116]⟩ ct2, .int fa' fat'⟩] cep', #[]⟩), (run, ⟨.ref 363, some runD, .plain, #[]⟩), (runD, ⟨.type "dict", none, .dict #[⟨nh0, .str ⟨#[119, 111, 114, 108, 100]⟩ nt0, .ref world⟩, ⟨nh1, .str ⟨#[102, 108, 97, 116]⟩ nt1, .ref flat⟩, ⟨nh2, .str ⟨#[97, 110, 115, 119, 101, 114, 115]⟩ nt2, nv2⟩, ⟨nh3, .str ⟨#[98, 105, 116, 115]⟩ nt3, nv3⟩, ⟨nh4, .str ⟨#[100, 105, 103, 105, 116, 115]⟩ nt4, nv4⟩, ⟨nh5, .str ⟨#[99, 111, 110, 116, 114, 111, 108]⟩ nt5, .ref ctl⟩, ⟨nh6, .str ⟨#[97, 115, 107, 101, 100]⟩ nt6, nv6⟩] nep, #[]⟩), (r5, ⟨.type "tuple", none, .seq #[.int 30 rt5, rv5] re5, #[]⟩), (r4, ⟨.type "tuple", none, .seq #[.int 30 rt4, rv4] re4, #[]⟩), (r3, ⟨.type "tuple", none, .seq #[.int 20 rt3, rv3] re3, #[]⟩), (r2, ⟨.type "tuple", none, .seq #[.int 20 rt2, rv2] re2, #[]⟩), (r1, ⟨.type "tuple", none, .seq #[.int 10 rt1, rv1] re1, #[]⟩), (r0, ⟨.type "tuple", none, .seq #[.int 10 rt0, rv0] re0, #[]⟩), (places, ⟨.type "dict", none, .dict #[⟨ph0, .int 10 pt0, .int 0 pu0⟩, ⟨ph1, .int 20 pt1, .int 2 pu1⟩, ⟨ph2, .int 30 pt2, .int 4 pu2⟩] pep, #[]⟩), (rowsL, ⟨.type "list", none, .seq #[.ref r0, .ref r1, .ref r2, .ref r3, .ref r4, .ref r5] rowse, #[]⟩), (flat, ⟨.ref 145, some flatD, .plain, #[]⟩), (flatD, ⟨.type "dict", none, .dict #[⟨fh0, .str ⟨#[114, 111, 119, 115]⟩ ft0, .ref rowsL⟩, ⟨fh1, .str ⟨#[112, 108, 97, 99, 101, 115]⟩ ft1, .ref places⟩, ⟨fh2, .str ⟨#[100, 97, 116, 97]⟩ ft2, fv2⟩, ⟨fh3, .str ⟨#[112, 97, 105, 114, 115]⟩ ft3, fv3⟩, ⟨fh4, .str ⟨#[108, 111, 111, 112, 115]⟩ ft4, fv4⟩, ⟨fh5, .str ⟨#[102, 110, 115]⟩ ft5, fv5⟩] fep, #[]⟩), (world, ⟨.ref 237, some worldD, .plain, #[]⟩), (worldD, ⟨.type "dict", none, .dict #[⟨wh0, .str ⟨#[98, 105, 116, 115]⟩ wt0, wv0⟩, ⟨wh1, .str ⟨#[100, 105, 103, 105, 116, 115]⟩ wt1, wv1⟩, ⟨wh2, .str ⟨#[109, 111, 115, 116, 95, 115, 116, 101, 112, 115]⟩ wt2, .int ms mst⟩, ⟨wh3, .str ⟨#[109, 111, 115, 116, 95, 100, 101, 112, 116, 104]⟩ wt3, wv3⟩, ⟨wh4, .str ⟨#[114, 111, 111, 109]⟩ wt4, wv4⟩, ⟨wh5, .str ⟨#[110, 97, 109, 101, 115]⟩ wt5, wv5⟩, ⟨wh6, .str ⟨#[97, 114, 114, 97, 121, 115]⟩ wt6, wv6⟩, ⟨wh7, .str ⟨#[107, 105, 110, 100, 115]⟩ wt7, wv7⟩, ⟨wh8, .str ⟨#[102, 110, 115]⟩ wt8, wv8⟩, ⟨wh9, .str ⟨#[111, 117, 116]⟩ wt9, wv9⟩, ⟨wh10, .str ⟨#[114, 111, 119]⟩ wt10, wv10⟩, ⟨wh11, .str ⟨#[105, 110, 112, 117, 116, 115]⟩ wt11, wv11⟩, ⟨wh12, .str ⟨#[102, 105, 108, 101, 115]⟩ wt12, wv12⟩, ⟨wh13, .str ⟨#[111, 112, 101, 110]⟩ wt13, wv13⟩, ⟨wh14, .str ⟨#[102, 105, 101, 108, 100, 115]⟩ wt14, wv14⟩, ⟨wh15, .str ⟨#[100, 97, 116, 97]⟩ wt15, wv15⟩, ⟨wh16, .str ⟨#[115, 112, 111, 116]⟩ wt16, wv16⟩, ⟨wh17, .str ⟨#[98, 97, 115, 101]⟩ wt17, wv17⟩, ⟨wh18, .str ⟨#[115, 101, 101, 100]⟩ wt18, wv18⟩, ⟨wh19, .str ⟨#[115, 116, 101, 112, 115]⟩ wt19, .int st' stt'⟩, ⟨wh20, .str ⟨#[100, 101, 112, 116, 104]⟩ wt20, wv20⟩, ⟨wh21, .str ⟨#[104, 97, 110, 100, 108, 101, 114]⟩ wt21, .int hd' hdt'⟩, ⟨wh22, .str ⟨#[105, 115, 95, 104, 97, 110, 100, 108, 105, 110, 103]⟩ wt22, .bool on'⟩, ⟨wh23, .str ⟨#[101, 114, 114, 111, 114, 95, 108, 105, 110, 101]⟩ wt23, .int el' elt'⟩, ⟨wh24, .str ⟨#[101, 114, 114, 111, 114, 95, 99, 111, 100, 101]⟩ wt24, .str ec' ect'⟩, ⟨wh25, .str ⟨#[105, 115, 95, 116, 114, 97, 99, 101, 100]⟩ wt25, wv25⟩, ⟨wh26, .str ⟨#[116, 114, 97, 99, 101, 115]⟩ wt26, wv26⟩, ⟨wh27, .str ⟨#[99, 111, 109, 109, 111, 110]⟩ wt27, wv27⟩] wep', #[]⟩), (L, ⟨.type "frame", none, .dict les lep, lsl'⟩)] → R (.ok (.ret (.str ⟨#[100, 111, 110, 101]⟩ sv))) ⟨h', g, d, t', os⟩)
    (hL : ∀ v tv hd' hdt' on' num' el' elt' ec' ect' fa' fat' st' stt' lsl' wep' cep' h' t', spec ms at' ⟨hdl, on, num, el, fa, st⟩ kd nu = (.led v, ⟨hd', on', num', el', fa', st'⟩) → Inv ⟨hd', on', num', el', fa', st'⟩ → IsCode ec' num' → Mem h₀ h' [] [(mk, omk), (ctl, ⟨.ref 82, some ctlD, .plain, #[]⟩), (ctlD, ⟨.type "dict", none, .dict #[⟨ch0, .str ⟨#[112, 105, 108, 101]⟩ ct0, cv0⟩, ⟨ch1, .str ⟨#[109, 111, 115, 116]⟩ ct1, cv1⟩, ⟨ch2, .str ⟨#[102, 97, 105, 108, 101, 100, 95, 97, 116]⟩ ct2, .int fa' fat'⟩] cep', #[]⟩), (run, ⟨.ref 363, some runD, .plain, #[]⟩), (runD, ⟨.type "dict", none, .dict #[⟨nh0, .str ⟨#[119, 111, 114, 108, 100]⟩ nt0, .ref world⟩, ⟨nh1, .str ⟨#[102, 108, 97, 116]⟩ nt1, .ref flat⟩, ⟨nh2, .str ⟨#[97, 110, 115, 119, 101, 114, 115]⟩ nt2, nv2⟩, ⟨nh3, .str ⟨#[98, 105, 116, 115]⟩ nt3, nv3⟩, ⟨nh4, .str ⟨#[100, 105, 103, 105, 116, 115]⟩ nt4, nv4⟩, ⟨nh5, .str ⟨#[99, 111, 110, 116, 114, 111, 108]⟩ nt5, .ref ctl⟩, ⟨nh6, .str ⟨#[97, 115, 107, 101, 100]⟩ nt6, nv6⟩] nep, #[]⟩), (r5, ⟨.type "tuple", none, .seq #[.int 30 rt5, rv5] re5, #[]⟩), (r4, ⟨.type "tuple", none, .seq #[.int 30 rt4, rv4] re4, #[]⟩), (r3, ⟨.type "tuple", none, .seq #[.int 20 rt3, rv3] re3, #[]⟩), (r2, ⟨.type "tuple", none, .seq #[.int 20 rt2, rv2] re2, #[]⟩), (r1, ⟨.type "tuple", none, .seq #[.int 10 rt1, rv1] re1, #[]⟩), (r0, ⟨.type "tuple", none, .seq #[.int 10 rt0, rv0] re0, #[]⟩), (places, ⟨.type "dict", none, .dict #[⟨ph0, .int 10 pt0, .int 0 pu0⟩, ⟨ph1, .int 20 pt1, .int 2 pu1⟩, ⟨ph2, .int 30 pt2, .int 4 pu2⟩] pep, #[]⟩), (rowsL, ⟨.type "list", none, .seq #[.ref r0, .ref r1, .ref r2, .ref r3, .ref r4, .ref r5] rowse, #[]⟩), (flat, ⟨.ref 145, some flatD, .plain, #[]⟩), (flatD, ⟨.type "dict", none, .dict #[⟨fh0, .str ⟨#[114, 111, 119, 115]⟩ ft0, .ref rowsL⟩, ⟨fh1, .str ⟨#[112, 108, 97, 99, 101, 115]⟩ ft1, .ref places⟩, ⟨fh2, .str ⟨#[100, 97, 116, 97]⟩ ft2, fv2⟩, ⟨fh3, .str ⟨#[112, 97, 105, 114, 115]⟩ ft3, fv3⟩, ⟨fh4, .str ⟨#[108, 111, 111, 112, 115]⟩ ft4, fv4⟩, ⟨fh5, .str ⟨#[102, 110, 115]⟩ ft5, fv5⟩] fep, #[]⟩), (world, ⟨.ref 237, some worldD, .plain, #[]⟩), (worldD, ⟨.type "dict", none, .dict #[⟨wh0, .str ⟨#[98, 105, 116, 115]⟩ wt0, wv0⟩, ⟨wh1, .str ⟨#[100, 105, 103, 105, 116, 115]⟩ wt1, wv1⟩, ⟨wh2, .str ⟨#[109, 111, 115, 116, 95, 115, 116, 101, 112, 115]⟩ wt2, .int ms mst⟩, ⟨wh3, .str ⟨#[109, 111, 115, 116, 95, 100, 101, 112, 116, 104]⟩ wt3, wv3⟩, ⟨wh4, .str ⟨#[114, 111, 111, 109]⟩ wt4, wv4⟩, ⟨wh5, .str ⟨#[110, 97, 109, 101, 115]⟩ wt5, wv5⟩, ⟨wh6, .str ⟨#[97, 114, 114, 97, 121, 115]⟩ wt6, wv6⟩, ⟨wh7, .str ⟨#[107, 105, 110, 100, 115]⟩ wt7, wv7⟩, ⟨wh8, .str ⟨#[102, 110, 115]⟩ wt8, wv8⟩, ⟨wh9, .str ⟨#[111, 117, 116]⟩ wt9, wv9⟩, ⟨wh10, .str ⟨#[114, 111, 119]⟩ wt10, wv10⟩, ⟨wh11, .str ⟨#[105, 110, 112, 117, 116, 115]⟩ wt11, wv11⟩, ⟨wh12, .str ⟨#[102, 105, 108, 101, 115]⟩ wt12, wv12⟩, ⟨wh13, .str ⟨#[111, 112, 101, 110]⟩ wt13, wv13⟩, ⟨wh14, .str ⟨#[102, 105, 101, 108, 100, 115]⟩ wt14, wv14⟩, ⟨wh15, .str ⟨#[100, 97, 116, 97]⟩ wt15, wv15⟩, ⟨wh16, .str ⟨#[115, 112, 111, 116]⟩ wt16, wv16⟩, ⟨wh17, .str ⟨#[98, 97, 115, 101]⟩ wt17, wv17⟩, ⟨wh18, .str ⟨#[115, 101, 101, 100]⟩ wt18, wv18⟩, ⟨wh19, .str ⟨#[115, 116, 101, 112, 115]⟩ wt19, .int st' stt'⟩, ⟨wh20, .str ⟨#[100, 101, 112, 116, 104]⟩ wt20, wv20⟩, ⟨wh21, .str ⟨#[104, 97, 110, 100, 108, 101, 114]⟩ wt21, .int hd' hdt'⟩, ⟨wh22, .str ⟨#[105, 115, 95, 104, 97, 110, 100, 108, 105, 110, 103]⟩ wt22, .bool on'⟩, ⟨wh23, .str ⟨#[101, 114, 114, 111, 114, 95, 108, 105, 110, 101]⟩ wt23, .int el' elt'⟩, ⟨wh24, .str ⟨#[101, 114, 114, 111, 114, 95, 99, 111, 100, 101]⟩ wt24, .str ec' ect'⟩, ⟨wh25, .str ⟨#[105, 115, 95, 116, 114, 97, 99, 101, 100]⟩ wt25, wv25⟩, ⟨wh26, .str ⟨#[116, 114, 97, 99, 101, 115]⟩ wt26, wv26⟩, ⟨wh27, .str ⟨#[99, 111, 109, 109, 111, 110]⟩ wt27, wv27⟩] wep', #[]⟩), (L, ⟨.type "frame", none, .dict les lep, lsl'⟩)] → R (.ok (.ret (.int v tv))) ⟨h', g, d, t', os⟩)
    (hO : ∀ tp tq v tv hd' hdt' on' num' el' elt' ec' ect' fa' fat' st' stt' lsl' wep' cep' h' t', spec ms at' ⟨hdl, on, num, el, fa, st⟩ kd nu = (.out v, ⟨hd', on', num', el', fa', st'⟩) → Inv ⟨hd', on', num', el', fa', st'⟩ → IsCode ec' num' → Mem h₀ h' [] [(tp, ⟨.type "tuple", none, .seq #[.str ⟨#[111, 117, 116]⟩ tq, .int v tv] 0, #[]⟩), (mk, omk), (ctl, ⟨.ref 82, some ctlD, .plain, #[]⟩), (ctlD, ⟨.type "dict", none, .dict #[⟨ch0, .str ⟨#[112, 105, 108, 101]⟩ ct0, cv0⟩, ⟨ch1, .str ⟨#[109, 111, 115, 116]⟩ ct1, cv1⟩, ⟨ch2, .str ⟨#[102, 97, 105, 108, 101, 100, 95, 97, 116]⟩ ct2, .int fa' fat'⟩] cep', #[]⟩), (run, ⟨.ref 363, some runD, .plain, #[]⟩), (runD, ⟨.type "dict", none, .dict #[⟨nh0, .str ⟨#[119, 111, 114, 108, 100]⟩ nt0, .ref world⟩, ⟨nh1, .str ⟨#[102, 108, 97, 116]⟩ nt1, .ref flat⟩, ⟨nh2, .str ⟨#[97, 110, 115, 119, 101, 114, 115]⟩ nt2, nv2⟩, ⟨nh3, .str ⟨#[98, 105, 116, 115]⟩ nt3, nv3⟩, ⟨nh4, .str ⟨#[100, 105, 103, 105, 116, 115]⟩ nt4, nv4⟩, ⟨nh5, .str ⟨#[99, 111, 110, 116, 114, 111, 108]⟩ nt5, .ref ctl⟩, ⟨nh6, .str ⟨#[97, 115, 107, 101, 100]⟩ nt6, nv6⟩] nep, #[]⟩), (r5, ⟨.type "tuple", none, .seq #[.int 30 rt5, rv5] re5, #[]⟩), (r4, ⟨.type "tuple", none, .seq #[.int 30 rt4, rv4] re4, #[]⟩), (r3, ⟨.type "tuple", none, .seq #[.int 20 rt3, rv3] re3, #[]⟩), (r2, ⟨.type "tuple", none, .seq #[.int 20 rt2, rv2] re2, #[]⟩), (r1, ⟨.type "tuple", none, .seq #[.int 10 rt1, rv1] re1, #[]⟩), (r0, ⟨.type "tuple", none, .seq #[.int 10 rt0, rv0] re0, #[]⟩), (places, ⟨.type "dict", none, .dict #[⟨ph0, .int 10 pt0, .int 0 pu0⟩, ⟨ph1, .int 20 pt1, .int 2 pu1⟩, ⟨ph2, .int 30 pt2, .int 4 pu2⟩] pep, #[]⟩), (rowsL, ⟨.type "list", none, .seq #[.ref r0, .ref r1, .ref r2, .ref r3, .ref r4, .ref r5] rowse, #[]⟩), (flat, ⟨.ref 145, some flatD, .plain, #[]⟩), (flatD, ⟨.type "dict", none, .dict #[⟨fh0, .str ⟨#[114, 111, 119, 115]⟩ ft0, .ref rowsL⟩, ⟨fh1, .str ⟨#[112, 108, 97, 99, 101, 115]⟩ ft1, .ref places⟩, ⟨fh2, .str ⟨#[100, 97, 116, 97]⟩ ft2, fv2⟩, ⟨fh3, .str ⟨#[112, 97, 105, 114, 115]⟩ ft3, fv3⟩, ⟨fh4, .str ⟨#[108, 111, 111, 112, 115]⟩ ft4, fv4⟩, ⟨fh5, .str ⟨#[102, 110, 115]⟩ ft5, fv5⟩] fep, #[]⟩), (world, ⟨.ref 237, some worldD, .plain, #[]⟩), (worldD, ⟨.type "dict", none, .dict #[⟨wh0, .str ⟨#[98, 105, 116, 115]⟩ wt0, wv0⟩, ⟨wh1, .str ⟨#[100, 105, 103, 105, 116, 115]⟩ wt1, wv1⟩, ⟨wh2, .str ⟨#[109, 111, 115, 116, 95, 115, 116, 101, 112, 115]⟩ wt2, .int ms mst⟩, ⟨wh3, .str ⟨#[109, 111, 115, 116, 95, 100, 101, 112, 116, 104]⟩ wt3, wv3⟩, ⟨wh4, .str ⟨#[114, 111, 111, 109]⟩ wt4, wv4⟩, ⟨wh5, .str ⟨#[110, 97, 109, 101, 115]⟩ wt5, wv5⟩, ⟨wh6, .str ⟨#[97, 114, 114, 97, 121, 115]⟩ wt6, wv6⟩, ⟨wh7, .str ⟨#[107, 105, 110, 100, 115]⟩ wt7, wv7⟩, ⟨wh8, .str ⟨#[102, 110, 115]⟩ wt8, wv8⟩, ⟨wh9, .str ⟨#[111, 117, 116]⟩ wt9, wv9⟩, ⟨wh10, .str ⟨#[114, 111, 119]⟩ wt10, wv10⟩, ⟨wh11, .str ⟨#[105, 110, 112, 117, 116, 115]⟩ wt11, wv11⟩, ⟨wh12, .str ⟨#[102, 105, 108, 101, 115]⟩ wt12, wv12⟩, ⟨wh13, .str ⟨#[111, 112, 101, 110]⟩ wt13, wv13⟩, ⟨wh14, .str ⟨#[102, 105, 101, 108, 100, 115]⟩ wt14, wv14⟩, ⟨wh15, .str ⟨#[100, 97, 116, 97]⟩ wt15, wv15⟩, ⟨wh16, .str ⟨#[115, 112, 111, 116]⟩ wt16, wv16⟩, ⟨wh17, .str ⟨#[98, 97, 115, 101]⟩ wt17, wv17⟩, ⟨wh18, .str ⟨#[115, 101, 101, 100]⟩ wt18, wv18⟩, ⟨wh19, .str ⟨#[115, 116, 101, 112, 115]⟩ wt19, .int st' stt'⟩, ⟨wh20, .str ⟨#[100, 101, 112, 116, 104]⟩ wt20, wv20⟩, ⟨wh21, .str ⟨#[104, 97, 110, 100, 108, 101, 114]⟩ wt21, .int hd' hdt'⟩, ⟨wh22, .str ⟨#[105, 115, 95, 104, 97, 110, 100, 108, 105, 110, 103]⟩ wt22, .bool on'⟩, ⟨wh23, .str ⟨#[101, 114, 114, 111, 114, 95, 108, 105, 110, 101]⟩ wt23, .int el' elt'⟩, ⟨wh24, .str ⟨#[101, 114, 114, 111, 114, 95, 99, 111, 100, 101]⟩ wt24, .str ec' ect'⟩, ⟨wh25, .str ⟨#[105, 115, 95, 116, 114, 97, 99, 101, 100]⟩ wt25, wv25⟩, ⟨wh26, .str ⟨#[116, 114, 97, 99, 101, 115]⟩ wt26, wv26⟩, ⟨wh27, .str ⟨#[99, 111, 109, 109, 111, 110]⟩ wt27, wv27⟩] wep', #[]⟩), (L, ⟨.type "frame", none, .dict les lep, lsl'⟩)] → R (.ok (.ret (.ref tp))) ⟨h', g, d, t', os⟩)
    (hN : ∀ tp tq v tv hd' hdt' on' num' el' elt' ec' ect' fa' fat' st' stt' lsl' wep' cep' h' t', spec ms at' ⟨hdl, on, num, el, fa, st⟩ kd nu = (.line v, ⟨hd', on', num', el', fa', st'⟩) → Inv ⟨hd', on', num', el', fa', st'⟩ → IsCode ec' num' → Mem h₀ h' [] [(tp, ⟨.type "tuple", none, .seq #[.str ⟨#[108, 105, 110, 101]⟩ tq, .int v tv] 0, #[]⟩), (mk, omk), (ctl, ⟨.ref 82, some ctlD, .plain, #[]⟩), (ctlD, ⟨.type "dict", none, .dict #[⟨ch0, .str ⟨#[112, 105, 108, 101]⟩ ct0, cv0⟩, ⟨ch1, .str ⟨#[109, 111, 115, 116]⟩ ct1, cv1⟩, ⟨ch2, .str ⟨#[102, 97, 105, 108, 101, 100, 95, 97, 116]⟩ ct2, .int fa' fat'⟩] cep', #[]⟩), (run, ⟨.ref 363, some runD, .plain, #[]⟩), (runD, ⟨.type "dict", none, .dict #[⟨nh0, .str ⟨#[119, 111, 114, 108, 100]⟩ nt0, .ref world⟩, ⟨nh1, .str ⟨#[102, 108, 97, 116]⟩ nt1, .ref flat⟩, ⟨nh2, .str ⟨#[97, 110, 115, 119, 101, 114, 115]⟩ nt2, nv2⟩, ⟨nh3, .str ⟨#[98, 105, 116, 115]⟩ nt3, nv3⟩, ⟨nh4, .str ⟨#[100, 105, 103, 105, 116, 115]⟩ nt4, nv4⟩, ⟨nh5, .str ⟨#[99, 111, 110, 116, 114, 111, 108]⟩ nt5, .ref ctl⟩, ⟨nh6, .str ⟨#[97, 115, 107, 101, 100]⟩ nt6, nv6⟩] nep, #[]⟩), (r5, ⟨.type "tuple", none, .seq #[.int 30 rt5, rv5] re5, #[]⟩), (r4, ⟨.type "tuple", none, .seq #[.int 30 rt4, rv4] re4, #[]⟩), (r3, ⟨.type "tuple", none, .seq #[.int 20 rt3, rv3] re3, #[]⟩), (r2, ⟨.type "tuple", none, .seq #[.int 20 rt2, rv2] re2, #[]⟩), (r1, ⟨.type "tuple", none, .seq #[.int 10 rt1, rv1] re1, #[]⟩), (r0, ⟨.type "tuple", none, .seq #[.int 10 rt0, rv0] re0, #[]⟩), (places, ⟨.type "dict", none, .dict #[⟨ph0, .int 10 pt0, .int 0 pu0⟩, ⟨ph1, .int 20 pt1, .int 2 pu1⟩, ⟨ph2, .int 30 pt2, .int 4 pu2⟩] pep, #[]⟩), (rowsL, ⟨.type "list", none, .seq #[.ref r0, .ref r1, .ref r2, .ref r3, .ref r4, .ref r5] rowse, #[]⟩), (flat, ⟨.ref 145, some flatD, .plain, #[]⟩), (flatD, ⟨.type "dict", none, .dict #[⟨fh0, .str ⟨#[114, 111, 119, 115]⟩ ft0, .ref rowsL⟩, ⟨fh1, .str ⟨#[112, 108, 97, 99, 101, 115]⟩ ft1, .ref places⟩, ⟨fh2, .str ⟨#[100, 97, 116, 97]⟩ ft2, fv2⟩, ⟨fh3, .str ⟨#[112, 97, 105, 114, 115]⟩ ft3, fv3⟩, ⟨fh4, .str ⟨#[108, 111, 111, 112, 115]⟩ ft4, fv4⟩, ⟨fh5, .str ⟨#[102, 110, 115]⟩ ft5, fv5⟩] fep, #[]⟩), (world, ⟨.ref 237, some worldD, .plain, #[]⟩), (worldD, ⟨.type "dict", none, .dict #[⟨wh0, .str ⟨#[98, 105, 116, 115]⟩ wt0, wv0⟩, ⟨wh1, .str ⟨#[100, 105, 103, 105, 116, 115]⟩ wt1, wv1⟩, ⟨wh2, .str ⟨#[109, 111, 115, 116, 95, 115, 116, 101, 112, 115]⟩ wt2, .int ms mst⟩, ⟨wh3, .str ⟨#[109, 111, 115, 116, 95, 100, 101, 112, 116, 104]⟩ wt3, wv3⟩, ⟨wh4, .str ⟨#[114, 111, 111, 109]⟩ wt4, wv4⟩, ⟨wh5, .str ⟨#[110, 97, 109, 101, 115]⟩ wt5, wv5⟩, ⟨wh6, .str ⟨#[97, 114, 114, 97, 121, 115]⟩ wt6, wv6⟩, ⟨wh7, .str ⟨#[107, 105, 110, 100, 115]⟩ wt7, wv7⟩, ⟨wh8, .str ⟨#[102, 110, 115]⟩ wt8, wv8⟩, ⟨wh9, .str ⟨#[111, 117, 116]⟩ wt9, wv9⟩, ⟨wh10, .str ⟨#[114, 111, 119]⟩ wt10, wv10⟩, ⟨wh11, .str ⟨#[105, 110, 112, 117, 116, 115]⟩ wt11, wv11⟩, ⟨wh12, .str ⟨#[102, 105, 108, 101, 115]⟩ wt12, wv12⟩, ⟨wh13, .str ⟨#[111, 112, 101, 110]⟩ wt13, wv13⟩, ⟨wh14, .str ⟨#[102, 105, 101, 108, 100, 115]⟩ wt14, wv14⟩, ⟨wh15, .str ⟨#[100, 97, 116, 97]⟩ wt15, wv15⟩, ⟨wh16, .str ⟨#[115, 112, 111, 116]⟩ wt16, wv16⟩, ⟨wh17, .str ⟨#[98, 97, 115, 101]⟩ wt17, wv17⟩, ⟨wh18, .str ⟨#[115, 101, 101, 100]⟩ wt18, wv18⟩, ⟨wh19, .str ⟨#[115, 116, 101, 112, 115]⟩ wt19, .int st' stt'⟩, ⟨wh20, .str ⟨#[100, 101, 112, 116, 104]⟩ wt20, wv20⟩, ⟨wh21, .str ⟨#[104, 97, 110, 100, 108, 101, 114]⟩ wt21, .int hd' hdt'⟩, ⟨wh22, .str ⟨#[105, 115, 95, 104, 97, 110, 100, 108, 105, 110, 103]⟩ wt22, .bool on'⟩, ⟨wh23, .str ⟨#[101, 114, 114, 111, 114, 95, 108, 105, 110, 101]⟩ wt23, .int el' elt'⟩, ⟨wh24, .str ⟨#[101, 114, 114, 111, 114, 95, 99, 111, 100, 101]⟩ wt24, .str ec' ect'⟩, ⟨wh25, .str ⟨#[105, 115, 95, 116, 114, 97, 99, 101, 100]⟩ wt25, wv25⟩, ⟨wh26, .str ⟨#[116, 114, 97, 99, 101, 115]⟩ wt26, wv26⟩, ⟨wh27, .str ⟨#[99, 111, 109, 109, 111, 110]⟩ wt27, wv27⟩] wep', #[]⟩), (L, ⟨.type "frame", none, .dict les lep, lsl'⟩)] → R (.ok (.ret (.ref tp))) ⟨h', g, d, t', os⟩)
    (hP : ∀ tp tq v tv hd' hdt' on' num' el' elt' ec' ect' fa' fat' st' stt' lsl' wep' cep' h' t', spec ms at' ⟨hdl, on, num, el, fa, st⟩ kd nu = (.place v, ⟨hd', on', num', el', fa', st'⟩) → Inv ⟨hd', on', num', el', fa', st'⟩ → IsCode ec' num' → Mem h₀ h' [] [(tp, ⟨.type "tuple", none, .seq #[.str ⟨#[112, 108, 97, 99, 101]⟩ tq, .int v tv] 0, #[]⟩), (mk, omk), (ctl, ⟨.ref 82, some ctlD, .plain, #[]⟩), (ctlD, ⟨.type "dict", none, .dict #[⟨ch0, .str ⟨#[112, 105, 108, 101]⟩ ct0, cv0⟩, ⟨ch1, .str ⟨#[109, 111, 115, 116]⟩ ct1, cv1⟩, ⟨ch2, .str ⟨#[102, 97, 105, 108, 101, 100, 95, 97, 116]⟩ ct2, .int fa' fat'⟩] cep', #[]⟩), (run, ⟨.ref 363, some runD, .plain, #[]⟩), (runD, ⟨.type "dict", none, .dict #[⟨nh0, .str ⟨#[119, 111, 114, 108, 100]⟩ nt0, .ref world⟩, ⟨nh1, .str ⟨#[102, 108, 97, 116]⟩ nt1, .ref flat⟩, ⟨nh2, .str ⟨#[97, 110, 115, 119, 101, 114, 115]⟩ nt2, nv2⟩, ⟨nh3, .str ⟨#[98, 105, 116, 115]⟩ nt3, nv3⟩, ⟨nh4, .str ⟨#[100, 105, 103, 105, 116, 115]⟩ nt4, nv4⟩, ⟨nh5, .str ⟨#[99, 111, 110, 116, 114, 111, 108]⟩ nt5, .ref ctl⟩, ⟨nh6, .str ⟨#[97, 115, 107, 101, 100]⟩ nt6, nv6⟩] nep, #[]⟩), (r5, ⟨.type "tuple", none, .seq #[.int 30 rt5, rv5] re5, #[]⟩), (r4, ⟨.type "tuple", none, .seq #[.int 30 rt4, rv4] re4, #[]⟩), (r3, ⟨.type "tuple", none, .seq #[.int 20 rt3, rv3] re3, #[]⟩), (r2, ⟨.type "tuple", none, .seq #[.int 20 rt2, rv2] re2, #[]⟩), (r1, ⟨.type "tuple", none, .seq #[.int 10 rt1, rv1] re1, #[]⟩), (r0, ⟨.type "tuple", none, .seq #[.int 10 rt0, rv0] re0, #[]⟩), (places, ⟨.type "dict", none, .dict #[⟨ph0, .int 10 pt0, .int 0 pu0⟩, ⟨ph1, .int 20 pt1, .int 2 pu1⟩, ⟨ph2, .int 30 pt2, .int 4 pu2⟩] pep, #[]⟩), (rowsL, ⟨.type "list", none, .seq #[.ref r0, .ref r1, .ref r2, .ref r3, .ref r4, .ref r5] rowse, #[]⟩), (flat, ⟨.ref 145, some flatD, .plain, #[]⟩), (flatD, ⟨.type "dict", none, .dict #[⟨fh0, .str ⟨#[114, 111, 119, 115]⟩ ft0, .ref rowsL⟩, ⟨fh1, .str ⟨#[112, 108, 97, 99, 101, 115]⟩ ft1, .ref places⟩, ⟨fh2, .str ⟨#[100, 97, 116, 97]⟩ ft2, fv2⟩, ⟨fh3, .str ⟨#[112, 97, 105, 114, 115]⟩ ft3, fv3⟩, ⟨fh4, .str ⟨#[108, 111, 111, 112, 115]⟩ ft4, fv4⟩, ⟨fh5, .str ⟨#[102, 110, 115]⟩ ft5, fv5⟩] fep, #[]⟩), (world, ⟨.ref 237, some worldD, .plain, #[]⟩), (worldD, ⟨.type "dict", none, .dict #[⟨wh0, .str ⟨#[98, 105, 116, 115]⟩ wt0, wv0⟩, ⟨wh1, .str ⟨#[100, 105, 103, 105, 116, 115]⟩ wt1, wv1⟩, ⟨wh2, .str ⟨#[109, 111, 115, 116, 95, 115, 116, 101, 112, 115]⟩ wt2, .int ms mst⟩, ⟨wh3, .str ⟨#[109, 111, 115, 116, 95, 100, 101, 112, 116, 104]⟩ wt3, wv3⟩, ⟨wh4, .str ⟨#[114, 111, 111, 109]⟩ wt4, wv4⟩, ⟨wh5, .str ⟨#[110, 97, 109, 101, 115]⟩ wt5, wv5⟩, ⟨wh6, .str ⟨#[97, 114, 114, 97, 121, 115]⟩ wt6, wv6⟩, ⟨wh7, .str ⟨#[107, 105, 110, 100, 115]⟩ wt7, wv7⟩, ⟨wh8, .str ⟨#[102, 110, 115]⟩ wt8, wv8⟩, ⟨wh9, .str ⟨#[111, 117, 116]⟩ wt9, wv9⟩, ⟨wh10, .str ⟨#[114, 111, 119]⟩ wt10, wv10⟩, ⟨wh11, .str ⟨#[105, 110, 112, 117, 116, 115]⟩ wt11, wv11⟩, ⟨wh12, .str ⟨#[102, 105, 108, 101, 115]⟩ wt12, wv12⟩, ⟨wh13, .str ⟨#[111, 112, 101, 110]⟩ wt13, wv13⟩, ⟨wh14, .str ⟨#[102, 105, 101, 108, 100, 115]⟩ wt14, wv14⟩, ⟨wh15, .str ⟨#[100, 97, 116, 97]⟩ wt15, wv15⟩, ⟨wh16, .str ⟨#[115, 112, 111, 116]⟩ wt16, wv16⟩, ⟨wh17, .str ⟨#[98, 97, 115, 101]⟩ wt17, wv17⟩, ⟨wh18, .str ⟨#[115, 101, 101, 100]⟩ wt18, wv18⟩, ⟨wh19, .str ⟨#[115, 116, 101, 112, 115]⟩ wt19, .int st' stt'⟩, ⟨wh20, .str ⟨#[100, 101, 112, 116, 104]⟩ wt20, wv20⟩, ⟨wh21, .str ⟨#[104, 97, 110, 100, 108, 101, 114]⟩ wt21, .int hd' hdt'⟩, ⟨wh22, .str ⟨#[105, 115, 95, 104, 97, 110, 100, 108, 105, 110, 103]⟩ wt22, .bool on'⟩, ⟨wh23, .str ⟨#[101, 114, 114, 111, 114, 95, 108, 105, 110, 101]⟩ wt23, .int el' elt'⟩, ⟨wh24, .str ⟨#[101, 114, 114, 111, 114, 95, 99, 111, 100, 101]⟩ wt24, .str ec' ect'⟩, ⟨wh25, .str ⟨#[105, 115, 95, 116, 114, 97, 99, 101, 100]⟩ wt25, wv25⟩, ⟨wh26, .str ⟨#[116, 114, 97, 99, 101, 115]⟩ wt26, wv26⟩, ⟨wh27, .str ⟨#[99, 111, 109, 109, 111, 110]⟩ wt27, wv27⟩] wep', #[]⟩), (L, ⟨.type "frame", none, .dict les lep, lsl'⟩)] → R (.ok (.ret (.ref tp))) ⟨h', g, d, t', os⟩) :
    codeAny (model PR w) { handled := none, depth := 340, frames := some [⟨⟨.function, enm, false, false, emo⟩, L, egl, [], equ, efn, ecd, some L, ebi⟩], units := 3000 } (.call (.ref 402) ⟨[.ref run, .int at' ta, .int kd tk, nv], []⟩) R ⟨h, g, d, t, os⟩ := by
  have hh : hdl = 0 ∨ hdl = 10 ∨ hdl = 20 ∨ hdl = 30 := hinv.1
  have hof : on = true → 0 ≤ fa ∧ 1 ≤ num := hinv.2
  rcases hdr with ⟨hkd, n, hnu⟩ | ⟨hkd, n, hnu, hn⟩ | ⟨hkd, n, hnu⟩ | ⟨hkd, hx⟩
  · rw [hnu] at hnv; obtain ⟨tn, rfl⟩ := hnv
    obtain ⟨f, hf, hf1⟩ := faultOf n
    exact heard0 w h₀ h g d t os mk omk ctl ctlD run runD world worldD L r0 r1 r2 r3 r4 r5 places rowsL flat flatD rt0 rt1 rt2 rt3 rt4 rt5 pt0 pt1 pt2 pu0 pu1 pu2 ph0 ph1 ph2 rv0 rv1 rv2 rv3 rv4 rv5 re0 re1 re2 re3 re4 re5 pep rowse fh0 fh1 fh2 fh3 fh4 fh5 ft0 ft1 ft2 ft3 ft4 ft5 fv2 fv3 fv4 fv5 fep ch0 ch1 ch2 ct0 ct1 ct2 cv0 cv1 cep nh0 nh1 nh2 nh3 nh4 nh5 nh6 nt0 nt1 nt2 nt3 nt4 nt5 nt6 nv2 nv3 nv4 nv6 nep wh0 wh1 wh2 wh3 wh4 wh5 wh6 wh7 wh8 wh9 wh10 wh11 wh12 wh13 wh14 wh15 wh16 wh17 wh18 wh19 wh20 wh21 wh22 wh23 wh24 wh25 wh26 wh27 wt0 wt1 wt2 wt3 wt4 wt5 wt6 wt7 wt8 wt9 wt10 wt11 wt12 wt13 wt14 wt15 wt16 wt17 wt18 wt19 wt20 wt21 wt22 wt23 wt24 wt25 wt26 wt27 wv0 wv1 wv3 wv4 wv5 wv6 wv7 wv8 wv9 wv10 wv11 wv12 wv13 wv14 wv15 wv16 wv17 wv18 wv20 wv25 wv26 wv27 wep les lep ms st hdl el fa on ec mst stt hdt elt ect fat enm emo egl ebi equ efn ecd at' kd ta tk n f tn lsl ph0e ph1e ph2e KX D hkd hat hat' hh hf R
        (fun v tv el' elt' ec' ect' fa' fat' lsl' wep' cep' h' t' hon hne hv hel hc' hfa' =>
        hL v tv _ _ _ _ _ _ _ _ _ _ _ _ _ _ _ _ _ (eqT (by rw [hkd, hnu]; exact s0L hf hon hne) (congrArg An.led hv) (show TS.mk hdl true f el' fa' st = TS.mk hdl true f (10 + 10 * (at' / 2)) at' st by rw [hel, hfa'])) ⟨hh, fun q => ⟨hfa'.symm ▸ hat, hf1⟩⟩ hc')
        (fun tp tq v tv lsl' h' t' ho hv =>
        hO tp tq v tv _ _ _ _ _ _ _ _ _ _ _ _ _ _ _ _ _ (eqT (by rw [hkd, hnu]; exact s0O hf ho) (congrArg An.out hv) rfl) hinv hcd)
  · rw [hnu] at hnv; obtain ⟨tn, rfl⟩ := hnv
    by_cases hno : n ≠ 0 ∨ on = false
    · exact heard2d w h₀ h g d t os mk omk ctl ctlD run runD world worldD L r0 r1 r2 r3 r4 r5 places rowsL flat flatD rt0 rt1 rt2 rt3 rt4 rt5 pt0 pt1 pt2 pu0 pu1 pu2 ph0 ph1 ph2 rv0 rv1 rv2 rv3 rv4 rv5 re0 re1 re2 re3 re4 re5 pep rowse fh0 fh1 fh2 fh3 fh4 fh5 ft0 ft1 ft2 ft3 ft4 ft5 fv2 fv3 fv4 fv5 fep ch0 ch1 ch2 ct0 ct1 ct2 cv0 cv1 cep nh0 nh1 nh2 nh3 nh4 nh5 nh6 nt0 nt1 nt2 nt3 nt4 nt5 nt6 nv2 nv3 nv4 nv6 nep wh0 wh1 wh2 wh3 wh4 wh5 wh6 wh7 wh8 wh9 wh10 wh11 wh12 wh13 wh14 wh15 wh16 wh17 wh18 wh19 wh20 wh21 wh22 wh23 wh24 wh25 wh26 wh27 wt0 wt1 wt2 wt3 wt4 wt5 wt6 wt7 wt8 wt9 wt10 wt11 wt12 wt13 wt14 wt15 wt16 wt17 wt18 wt19 wt20 wt21 wt22 wt23 wt24 wt25 wt26 wt27 wv0 wv1 wv3 wv4 wv5 wv6 wv7 wv8 wv9 wv10 wv11 wv12 wv13 wv14 wv15 wv16 wv17 wv18 wv20 wv25 wv26 wv27 wep les lep ms st hdl el fa on ec mst stt hdt elt ect fat enm emo egl ebi equ efn ecd at' kd ta tk n tn lsl ph0e ph1e ph2e KX D hkd hat hat' hh hn hno R
        (fun sv lsl' hd' hdt' wep' h' t' he hl =>
        hD sv _ _ _ _ _ _ _ _ _ _ _ _ _ _ _ _ _ (eqT (by rw [hkd, hnu]; exact s2D hno) rfl (show TS.mk hd' on num el fa st = TS.mk n on num el fa st by rw [he])) ⟨he.symm ▸ hn, hof⟩ hcd)
    · have hn0 : n = 0 := Decidable.byContradiction fun q => hno (.inl q)
      have hon : on = true := eq_true_of_ne_false fun q => hno (.inr q)
      exact heard2o w h₀ h g d t os mk omk ctl ctlD run runD world worldD L r0 r1 r2 r3 r4 r5 places rowsL flat flatD rt0 rt1 rt2 rt3 rt4 rt5 pt0 pt1 pt2 pu0 pu1 pu2 ph0 ph1 ph2 rv0 rv1 rv2 rv3 rv4 rv5 re0 re1 re2 re3 re4 re5 pep rowse fh0 fh1 fh2 fh3 fh4 fh5 ft0 ft1 ft2 ft3 ft4 ft5 fv2 fv3 fv4 fv5 fep ch0 ch1 ch2 ct0 ct1 ct2 cv0 cv1 cep nh0 nh1 nh2 nh3 nh4 nh5 nh6 nt0 nt1 nt2 nt3 nt4 nt5 nt6 nv2 nv3 nv4 nv6 nep wh0 wh1 wh2 wh3 wh4 wh5 wh6 wh7 wh8 wh9 wh10 wh11 wh12 wh13 wh14 wh15 wh16 wh17 wh18 wh19 wh20 wh21 wh22 wh23 wh24 wh25 wh26 wh27 wt0 wt1 wt2 wt3 wt4 wt5 wt6 wt7 wt8 wt9 wt10 wt11 wt12 wt13 wt14 wt15 wt16 wt17 wt18 wt19 wt20 wt21 wt22 wt23 wt24 wt25 wt26 wt27 wv0 wv1 wv3 wv4 wv5 wv6 wv7 wv8 wv9 wv10 wv11 wv12 wv13 wv14 wv15 wv16 wv17 wv18 wv20 wv25 wv26 wv27 wep les lep ms st hdl el fa on ec mst stt hdt elt ect fat enm emo egl ebi equ efn ecd at' kd ta tk n num tn lsl ph0e ph1e ph2e KX D hkd hat hat' hh hn0 hon hcd R
          (fun tp tq v tv lsl' hd' hdt' wep' h' t' he hv =>
          hO tp tq v tv _ _ _ _ _ _ _ _ _ _ _ _ _ _ _ _ _ (eqT (by rw [hkd, hnu]; exact s2O hn0 hon) (congrArg An.out hv) (show TS.mk hd' on num el fa st = TS.mk n on num el fa st by rw [he])) ⟨he.symm ▸ hn, hof⟩ hcd)
  · rw [hnu] at hnv; obtain ⟨tn, rfl⟩ := hnv
    by_cases hms : ms < st + 1
    · exact heard3o w h₀ h g d t os mk omk ctl ctlD run runD world worldD L r0 r1 r2 r3 r4 r5 places rowsL flat flatD rt0 rt1 rt2 rt3 rt4 rt5 pt0 pt1 pt2 pu0 pu1 pu2 ph0 ph1 ph2 rv0 rv1 rv2 rv3 rv4 rv5 re0 re1 re2 re3 re4 re5 pep rowse fh0 fh1 fh2 fh3 fh4 fh5 ft0 ft1 ft2 ft3 ft4 ft5 fv2 fv3 fv4 fv5 fep ch0 ch1 ch2 ct0 ct1 ct2 cv0 cv1 cep nh0 nh1 nh2 nh3 nh4 nh5 nh6 nt0 nt1 nt2 nt3 nt4 nt5 nt6 nv2 nv3 nv4 nv6 nep wh0 wh1 wh2 wh3 wh4 wh5 wh6 wh7 wh8 wh9 wh10 wh11 wh12 wh13 wh14 wh15 wh16 wh17 wh18 wh19 wh20 wh21 wh22 wh23 wh24 wh25 wh26 wh27 wt0 wt1 wt2 wt3 wt4 wt5 wt6 wt7 wt8 wt9 wt10 wt11 wt12 wt13 wt14 wt15 wt16 wt17 wt18 wt19 wt20 wt21 wt22 wt23 wt24 wt25 wt26 wt27 wv0 wv1 wv3 wv4 wv5 wv6 wv7 wv8 wv9 wv10 wv11 wv12 wv13 wv14 wv15 wv16 wv17 wv18 wv20 wv25 wv26 wv27 wep les lep ms st hdl el fa on ec mst stt hdt elt ect fat enm emo egl ebi equ efn ecd at' kd ta tk n tn lsl ph0e ph1e ph2e KX D hkd hat hat' hh hms R
          (fun tp tq v tv lsl' st' stt' wep' h' t' he hv =>
          hO tp tq v tv _ _ _ _ _ _ _ _ _ _ _ _ _ _ _ _ _ (eqT (by rw [hkd, hnu]; exact s3O hms) (congrArg An.out hv) (show TS.mk hdl on num el fa st' = TS.mk hdl on num el fa (st + 1) by rw [he])) ⟨hh, hof⟩ hcd)
    · have hms' : st + 1 ≤ ms := by omega
      exact heard3d w h₀ h g d t os mk omk ctl ctlD run runD world worldD L r0 r1 r2 r3 r4 r5 places rowsL flat flatD rt0 rt1 rt2 rt3 rt4 rt5 pt0 pt1 pt2 pu0 pu1 pu2 ph0 ph1 ph2 rv0 rv1 rv2 rv3 rv4 rv5 re0 re1 re2 re3 re4 re5 pep rowse fh0 fh1 fh2 fh3 fh4 fh5 ft0 ft1 ft2 ft3 ft4 ft5 fv2 fv3 fv4 fv5 fep ch0 ch1 ch2 ct0 ct1 ct2 cv0 cv1 cep nh0 nh1 nh2 nh3 nh4 nh5 nh6 nt0 nt1 nt2 nt3 nt4 nt5 nt6 nv2 nv3 nv4 nv6 nep wh0 wh1 wh2 wh3 wh4 wh5 wh6 wh7 wh8 wh9 wh10 wh11 wh12 wh13 wh14 wh15 wh16 wh17 wh18 wh19 wh20 wh21 wh22 wh23 wh24 wh25 wh26 wh27 wt0 wt1 wt2 wt3 wt4 wt5 wt6 wt7 wt8 wt9 wt10 wt11 wt12 wt13 wt14 wt15 wt16 wt17 wt18 wt19 wt20 wt21 wt22 wt23 wt24 wt25 wt26 wt27 wv0 wv1 wv3 wv4 wv5 wv6 wv7 wv8 wv9 wv10 wv11 wv12 wv13 wv14 wv15 wv16 wv17 wv18 wv20 wv25 wv26 wv27 wep les lep ms st hdl el fa on ec mst stt hdt elt ect fat enm emo egl ebi equ efn ecd at' kd ta tk n tn lsl ph0e ph1e ph2e KX D hkd hat hat' hh hms' R
        (fun sv lsl' st' stt' wep' h' t' he hl =>
        hD sv _ _ _ _ _ _ _ _ _ _ _ _ _ _ _ _ _ (eqT (by rw [hkd, hnu]; exact s3D hms') rfl (show TS.mk hdl on num el fa st' = TS.mk hdl on num el fa (st + 1) by rw [he])) ⟨hh, hof⟩ hcd)
  · by_cases hon : on = true
    · have hfa : 0 ≤ fa := (hof hon).1
      have hinv' : Inv ⟨hdl, false, num, el, fa, st⟩ := ⟨hh, fun q => nomatch q⟩
      rcases hx with hnu | hnu | hnu
      · rw [hnu] at hnv; obtain ⟨tn, rfl⟩ := hnv
        exact heard4at w h₀ h g d t os mk omk ctl ctlD run runD world worldD L r0 r1 r2 r3 r4 r5 places rowsL flat flatD rt0 rt1 rt2 rt3 rt4 rt5 pt0 pt1 pt2 pu0 pu1 pu2 ph0 ph1 ph2 rv0 rv1 rv2 rv3 rv4 rv5 re0 re1 re2 re3 re4 re5 pep rowse fh0 fh1 fh2 fh3 fh4 fh5 ft0 ft1 ft2 ft3 ft4 ft5 fv2 fv3 fv4 fv5 fep ch0 ch1 ch2 ct0 ct1 ct2 cv0 cv1 cep nh0 nh1 nh2 nh3 nh4 nh5 nh6 nt0 nt1 nt2 nt3 nt4 nt5 nt6 nv2 nv3 nv4 nv6 nep wh0 wh1 wh2 wh3 wh4 wh5 wh6 wh7 wh8 wh9 wh10 wh11 wh12 wh13 wh14 wh15 wh16 wh17 wh18 wh19 wh20 wh21 wh22 wh23 wh24 wh25 wh26 wh27 wt0 wt1 wt2 wt3 wt4 wt5 wt6 wt7 wt8 wt9 wt10 wt11 wt12 wt13 wt14 wt15 wt16 wt17 wt18 wt19 wt20 wt21 wt22 wt23 wt24 wt25 wt26 wt27 wv0 wv1 wv3 wv4 wv5 wv6 wv7 wv8 wv9 wv10 wv11 wv12 wv13 wv14 wv15 wv16 wv17 wv18 wv20 wv25 wv26 wv27 wep les lep ms st hdl el fa on ec mst stt hdt elt ect fat enm emo egl ebi equ efn ecd at' kd ta tk 30 tn lsl ph0e ph1e ph2e KX D hkd hat hat' hh rfl hfa hon R
          (fun tp tq v tv lsl' wep' h' t' he hl =>
          hN tp tq v tv _ _ _ _ _ _ _ _ _ _ _ _ _ _ _ _ _ (eqT (by rw [hkd, hnu]; exact s4a hon) (congrArg An.line he) rfl) hinv' hcd)
      · rw [hnu] at hnv; have hnv : nv = .none := hnv; subst hnv
        exact heard4bt w h₀ h g d t os mk omk ctl ctlD run runD world worldD L r0 r1 r2 r3 r4 r5 places rowsL flat flatD rt0 rt1 rt2 rt3 rt4 rt5 pt0 pt1 pt2 pu0 pu1 pu2 ph0 ph1 ph2 rv0 rv1 rv2 rv3 rv4 rv5 re0 re1 re2 re3 re4 re5 pep rowse fh0 fh1 fh2 fh3 fh4 fh5 ft0 ft1 ft2 ft3 ft4 ft5 fv2 fv3 fv4 fv5 fep ch0 ch1 ch2 ct0 ct1 ct2 cv0 cv1 cep nh0 nh1 nh2 nh3 nh4 nh5 nh6 nt0 nt1 nt2 nt3 nt4 nt5 nt6 nv2 nv3 nv4 nv6 nep wh0 wh1 wh2 wh3 wh4 wh5 wh6 wh7 wh8 wh9 wh10 wh11 wh12 wh13 wh14 wh15 wh16 wh17 wh18 wh19 wh20 wh21 wh22 wh23 wh24 wh25 wh26 wh27 wt0 wt1 wt2 wt3 wt4 wt5 wt6 wt7 wt8 wt9 wt10 wt11 wt12 wt13 wt14 wt15 wt16 wt17 wt18 wt19 wt20 wt21 wt22 wt23 wt24 wt25 wt26 wt27 wv0 wv1 wv3 wv4 wv5 wv6 wv7 wv8 wv9 wv10 wv11 wv12 wv13 wv14 wv15 wv16 wv17 wv18 wv20 wv25 wv26 wv27 wep les lep ms st hdl el fa on ec mst stt hdt elt ect fat enm emo egl ebi equ efn ecd at' kd ta tk  lsl ph0e ph1e ph2e KX D hkd hat hat' hh hfa hon R
          (fun tp tq v tv lsl' wep' h' t' he hl =>
          hP tp tq v tv _ _ _ _ _ _ _ _ _ _ _ _ _ _ _ _ _ (eqT (by rw [hkd, hnu]; exact s4b hon) (congrArg An.place he) rfl) hinv' hcd)
      · rw [hnu] at hnv; obtain ⟨tn, rfl⟩ := hnv
        exact heard4ct w h₀ h g d t os mk omk ctl ctlD run runD world worldD L r0 r1 r2 r3 r4 r5 places rowsL flat flatD rt0 rt1 rt2 rt3 rt4 rt5 pt0 pt1 pt2 pu0 pu1 pu2 ph0 ph1 ph2 rv0 rv1 rv2 rv3 rv4 rv5 re0 re1 re2 re3 re4 re5 pep rowse fh0 fh1 fh2 fh3 fh4 fh5 ft0 ft1 ft2 ft3 ft4 ft5 fv2 fv3 fv4 fv5 fep ch0 ch1 ch2 ct0 ct1 ct2 cv0 cv1 cep nh0 nh1 nh2 nh3 nh4 nh5 nh6 nt0 nt1 nt2 nt3 nt4 nt5 nt6 nv2 nv3 nv4 nv6 nep wh0 wh1 wh2 wh3 wh4 wh5 wh6 wh7 wh8 wh9 wh10 wh11 wh12 wh13 wh14 wh15 wh16 wh17 wh18 wh19 wh20 wh21 wh22 wh23 wh24 wh25 wh26 wh27 wt0 wt1 wt2 wt3 wt4 wt5 wt6 wt7 wt8 wt9 wt10 wt11 wt12 wt13 wt14 wt15 wt16 wt17 wt18 wt19 wt20 wt21 wt22 wt23 wt24 wt25 wt26 wt27 wv0 wv1 wv3 wv4 wv5 wv6 wv7 wv8 wv9 wv10 wv11 wv12 wv13 wv14 wv15 wv16 wv17 wv18 wv20 wv25 wv26 wv27 wep les lep ms st hdl el fa on ec mst stt hdt elt ect fat enm emo egl ebi equ efn ecd at' kd ta tk tn lsl ph0e ph1e ph2e KX D hkd hat hat' hh hfa hon R
          (fun tp tq v tv lsl' wep' h' t' he hl =>
          hP tp tq v tv _ _ _ _ _ _ _ _ _ _ _ _ _ _ _ _ _ (eqT (by rw [hkd, hnu]; exact s4c hon) (congrArg An.place he) rfl) hinv' hcd)
    · have hon' : on = false := eq_false_of_ne_true hon
      exact heard4f w h₀ h g d t os mk omk ctl ctlD run runD world worldD L r0 r1 r2 r3 r4 r5 places rowsL flat flatD rt0 rt1 rt2 rt3 rt4 rt5 pt0 pt1 pt2 pu0 pu1 pu2 ph0 ph1 ph2 rv0 rv1 rv2 rv3 rv4 rv5 re0 re1 re2 re3 re4 re5 pep rowse fh0 fh1 fh2 fh3 fh4 fh5 ft0 ft1 ft2 ft3 ft4 ft5 fv2 fv3 fv4 fv5 fep ch0 ch1 ch2 ct0 ct1 ct2 cv0 cv1 cep nh0 nh1 nh2 nh3 nh4 nh5 nh6 nt0 nt1 nt2 nt3 nt4 nt5 nt6 nv2 nv3 nv4 nv6 nep wh0 wh1 wh2 wh3 wh4 wh5 wh6 wh7 wh8 wh9 wh10 wh11 wh12 wh13 wh14 wh15 wh16 wh17 wh18 wh19 wh20 wh21 wh22 wh23 wh24 wh25 wh26 wh27 wt0 wt1 wt2 wt3 wt4 wt5 wt6 wt7 wt8 wt9 wt10 wt11 wt12 wt13 wt14 wt15 wt16 wt17 wt18 wt19 wt20 wt21 wt22 wt23 wt24 wt25 wt26 wt27 wv0 wv1 wv3 wv4 wv5 wv6 wv7 wv8 wv9 wv10 wv11 wv12 wv13 wv14 wv15 wv16 wv17 wv18 wv20 wv25 wv26 wv27 wep les lep ms st hdl el fa on ec mst stt hdt elt ect fat enm emo egl ebi equ efn ecd at' kd ta tk nv lsl ph0e ph1e ph2e KX D hkd hat hat' hh hon' R
          (fun v tv el' elt' ec' ect' fa' fat' lsl' wep' cep' h' t' hne hv hel hc' hfa' =>
          hL v tv _ _ _ _ _ _ _ _ _ _ _ _ _ _ _ _ _ (eqT (by rw [hkd]; exact s4L hon' hne) (congrArg An.led hv) (show TS.mk hdl true 20 el' fa' st = TS.mk hdl true 20 (10 + 10 * (at' / 2)) at' st by rw [hel, hfa'])) ⟨hh, fun q => ⟨hfa'.symm ▸ hat, show (1 : Int) ≤ 20 from by decide⟩⟩ hc')
          (fun tp tq v tv lsl' h' t' ho hv =>
          hO tp tq v tv _ _ _ _ _ _ _ _ _ _ _ _ _ _ _ _ _ (eqT (by rw [hkd]; exact s4O ho hon') (congrArg An.out hv) rfl) hinv hcd)
end Mine
end
section
open PySem PySem.W PySem.W.X PyProof.Rows
namespace Mine
set_option maxRecDepth 5000
set_option maxHeartbeats 0

open Lean Meta Elab Tactic PySem PySem.W PySem.W.X PySem.W.XRun

/-- equations between answers are taken apart; goals where they contradict are gone -/
def partAn (g : MVarId) : TacticM (List MVarId) := g.withContext do
  for d in ← getLCtx do
    if d.isImplementationDetail then continue
    let t ← instantiateMVars d.type
    if let some (T, l, r) := t.eq? then
      if T.isConstOf `Mine.An && l.getAppFn.isConst && r.getAppFn.isConst then
        let gs ← g.cases d.fvarId
        return gs.toList.map (·.mvarId)
  return [g]
def hookDue : Hook := fun b st g => do
  match ← useCtr `Mine.dueAll b st g with
  | none => return none
  | some gs => return some (← gs.mapM partAn).flatten
/-- a goal `codeAny ..` by a hypothesis over the same heap -/
def useHyp (nm : Name) : Hook := fun b st g => g.withContext do
  let T := (← instantiateMVars (← g.getType)).consumeMData
  let some d := (← getLCtx).findFromUserName? nm | throwError "useHyp: no {nm}"
  let (ms, _, concl) ← forallMetaTelescope (← instantiateMVars d.type)
  let (z, y) := (concl.getAppArgs, T.getAppArgs)
  for i in [0, 4, 2, 3] do
    unless ← isDefEq z[i]! y[i]! do
      throwError "useHyp {nm}: part {i}: {((toString (← ppExpr (← instantiateMVars z[i]!))).take 300).toString} against {((toString (← ppExpr y[i]!)).take 300).toString}"
  unless ← isDefEq z[1]! y[1]! do throwError "useHyp {nm}: around"
  let S := y[4]!
  let h := S.getAppArgs[0]!
  let some (D, ma) := (← memsIn).toList.reverse.find? (fun (_, x) => x[1]! == h) | throwError "useHyp: no Mem"
  let news := pairsOf ma[3]!
  for m in ms do
    let t := (← instantiateMVars (← inferType m)).consumeMData
    if t.isAppOfArity ``Mem 4 then
      match ← placeThem (pairsOf t.getAppArgs[3]!) news with
      | .error s =>
        throwError "useHyp: {s}"
      | .ok is =>
        let t ← instantiateMVars t
        m.mvarId!.assign (← mkExpectedTypeHint (mkAppN (mkConst ``dropMem) #[ma[0]!, ma[1]!, ma[3]!, D, maskOf news.length is]) t)
  let mut out := #[]
  for m in ms do
    if ← m.mvarId!.isAssigned then continue
    let t := (← instantiateMVars (← inferType m)).consumeMData
    if ← isProp t then
      m.mvarId!.setType t
      unless ← trySide m.mvarId! do
        out := out.push m.mvarId!
  for m in ms do
    if ← m.mvarId!.isAssigned then continue
    let t := (← instantiateMVars (← inferType m)).consumeMData
    unless ← isProp t do throwError "useHyp: a datum is open: {t}"
  g.assign (← instantiateMVars (mkAppN d.toExpr ms))
  return some out.toList
def hookListNe : Hook := fun b st g => g.withContext do
  let T := (← instantiateMVars (← g.getType)).consumeMData
  match listItemsE T.getAppArgs[2]!.appArg!.getAppArgs[0]! with
  | [x, y] =>
    unless x.isAppOfArity ``Value.ref 1 && y.isAppOfArity ``Value.ref 1 do return none
    let some (ox, hx) ← find b st x.appArg! | return none
    let some (oy, hy) ← find b st y.appArg! | return none
    let h := T.getAppArgs[4]!.getAppArgs[0]!
    let prove (a o pf : Lean.Expr) : TermElabM Term := do
      let o' ← normObj o
      let oT := mkConst ``Obj
      let ty ← mkEq (mkApp2 (mkConst ``Heap.get?) h a) (mkApp2 (mkConst ``Option.some [0]) oT o')
      Term.exprToSyntax (← mkExpectedTypeHint pf ty)
    let sx ← prove x.appArg! ox hx
    let sy ← prove y.appArg! oy hy
    try
      let gs ← runT g (do evalTactic (← `(tactic| first
        | refine code_listne6 $sx $sy (by first | assumption | omega) ?_
        | refine code_tuplene2 $sx $sy (by first | assumption | omega) ?_)))
      return some gs
    catch _ =>
      return none
  | _ => return none
def hooksT : String → Option Hook := fun k => match k with
  | "381" => some (useCtr `Mine.drawnAll)
  | "402" => some (useCtr `Mine.heardAll)
  | "409" => some hookDue
  | "list.__ne__" => some hookListNe
  | "tuple.__ne__" => some hookListNe
  | "58" => some (useCtr `Mine.c_noe0)
  | k => hooks2 k

theorem c_loop (w : PySem.World) (h₀ h : Heap) (g : Array GenState) (d : Drawn) (t : Nat) (os : OsState) (it told feed cells : Addr) (items : Array Value) (en em : Nat) (qh0 qh1 qh2 qh3 qh4 qh5 qh6 : Int) (qt0 qt1 qt2 qt3 qt4 qt5 qt6 : Tok) (ctl ctlD run runD world worldD L : Addr) (r0 r1 r2 r3 r4 r5 places rowsL flat flatD : Addr) (rt0 rt1 rt2 rt3 rt4 rt5 pt0 pt1 pt2 pu0 pu1 pu2 : Tok) (ph0 ph1 ph2 : Int) (rv0 rv1 rv2 rv3 rv4 rv5 : Value) (re0 re1 re2 re3 re4 re5 pep rowse : Nat) (fh0 fh1 fh2 fh3 fh4 fh5 : Int) (ft0 ft1 ft2 ft3 ft4 ft5 : Tok) (fv2 fv3 fv4 fv5 : Value) (fep : Nat) (ch0 ch1 ch2 : Int) (ct0 ct1 ct2 : Tok) (cv0 cv1 : Value) (cep : Nat) (nh0 nh1 nh2 nh3 nh4 nh5 nh6 : Int) (nt0 nt1 nt2 nt3 nt4 nt5 nt6 : Tok) (nv2 nv3 nv4 nv6 : Value) (nep : Nat) (wh0 wh1 wh2 wh3 wh4 wh5 wh6 wh7 wh8 wh9 wh10 wh11 wh12 wh13 wh14 wh15 wh16 wh17 wh18 wh19 wh20 wh21 wh22 wh23 wh24 wh25 wh26 wh27 : Int) (wt0 wt1 wt2 wt3 wt4 wt5 wt6 wt7 wt8 wt9 wt10 wt11 wt12 wt13 wt14 wt15 wt16 wt17 wt18 wt19 wt20 wt21 wt22 wt23 wt24 wt25 wt26 wt27 : Tok) (wv0 wv1 wv3 wv4 wv5 wv6 wv7 wv8 wv9 wv10 wv11 wv12 wv13 wv14 wv15 wv16 wv17 wv18 wv20 wv25 wv26 wv27 : Value) (wep : Nat) (ms : Int) (mst lms : Tok) (lh0 lh1 lh2 lh3 lh4 lh5 lh6 lh7 lh8 lh9 lh10 lh11 lh12 : Int) (lt0 lt1 lt2 lt3 lt4 lt5 lt6 lt7 lt8 lt9 lt10 lt11 lt12 : Tok) (lv0 lv2 lv7 lv8 lv9 lv10 lv11 lv12 : Value) (lep : Nat) (st hdl el fa num turn cur rem : Int) (on : Bool) (ec : Str) (stt hdt elt ect fat tt : Tok) (qu0 qu2 qu3 qu4 qu5 qu6 : Tok) (qep : Nat) (lsl : Array (Option Value)) (it0 it1 it2 : Tok) (left : Nat) (ph0e : ph0 = 10) (ph1e : ph1 = 20) (ph2e : ph2 = 30)
    (KX : (KH w.params).In h₀) (D : Mem h₀ h [] [(it, ⟨.type "range_iterator", none, .fields #[.int cur it0, .int rem it1, .int 1 it2], #[]⟩), (told, ⟨.type "dict", none, .dict #[⟨qh0, .str ⟨#[104, 97, 110, 100, 108, 101, 114]⟩ qt0, .int hdl qu0⟩, ⟨qh1, .str ⟨#[111, 110]⟩ qt1, .bool on⟩, ⟨qh2, .str ⟨#[110, 117, 109, 98, 101, 114]⟩ qt2, .int num qu2⟩, ⟨qh3, .str ⟨#[108, 105, 110, 101]⟩ qt3, .int el qu3⟩, ⟨qh4, .str ⟨#[114, 111, 119]⟩ qt4, .int fa qu4⟩, ⟨qh5, .str ⟨#[115, 116, 101, 112, 115]⟩ qt5, .int st qu5⟩, ⟨qh6, .str ⟨#[109, 111, 115, 116]⟩ qt6, .int ms qu6⟩] qep, #[]⟩), (ctl, ⟨.ref 82, some ctlD, .plain, #[]⟩), (ctlD, ⟨.type "dict", none, .dict #[⟨ch0, .str ⟨#[112, 105, 108, 101]⟩ ct0, cv0⟩, ⟨ch1, .str ⟨#[109, 111, 115, 116]⟩ ct1, cv1⟩, ⟨ch2, .str ⟨#[102, 97, 105, 108, 101, 100, 95, 97, 116]⟩ ct2, .int fa fat⟩] cep, #[]⟩), (run, ⟨.ref 363, some runD, .plain, #[]⟩), (runD, ⟨.type "dict", none, .dict #[⟨nh0, .str ⟨#[119, 111, 114, 108, 100]⟩ nt0, .ref world⟩, ⟨nh1, .str ⟨#[102, 108, 97, 116]⟩ nt1, .ref flat⟩, ⟨nh2, .str ⟨#[97, 110, 115, 119, 101, 114, 115]⟩ nt2, nv2⟩, ⟨nh3, .str ⟨#[98, 105, 116, 115]⟩ nt3, nv3⟩, ⟨nh4, .str ⟨#[100, 105, 103, 105, 116, 115]⟩ nt4, nv4⟩, ⟨nh5, .str ⟨#[99, 111, 110, 116, 114, 111, 108]⟩ nt5, .ref ctl⟩, ⟨nh6, .str ⟨#[97, 115, 107, 101, 100]⟩ nt6, nv6⟩] nep, #[]⟩), (r5, ⟨.type "tuple", none, .seq #[.int 30 rt5, rv5] re5, #[]⟩), (r4, ⟨.type "tuple", none, .seq #[.int 30 rt4, rv4] re4, #[]⟩), (r3, ⟨.type "tuple", none, .seq #[.int 20 rt3, rv3] re3, #[]⟩), (r2, ⟨.type "tuple", none, .seq #[.int 20 rt2, rv2] re2, #[]⟩), (r1, ⟨.type "tuple", none, .seq #[.int 10 rt1, rv1] re1, #[]⟩), (r0, ⟨.type "tuple", none, .seq #[.int 10 rt0, rv0] re0, #[]⟩), (places, ⟨.type "dict", none, .dict #[⟨ph0, .int 10 pt0, .int 0 pu0⟩, ⟨ph1, .int 20 pt1, .int 2 pu1⟩, ⟨ph2, .int 30 pt2, .int 4 pu2⟩] pep, #[]⟩), (rowsL, ⟨.type "list", none, .seq #[.ref r0, .ref r1, .ref r2, .ref r3, .ref r4, .ref r5] rowse, #[]⟩), (flat, ⟨.ref 145, some flatD, .plain, #[]⟩), (flatD, ⟨.type "dict", none, .dict #[⟨fh0, .str ⟨#[114, 111, 119, 115]⟩ ft0, .ref rowsL⟩, ⟨fh1, .str ⟨#[112, 108, 97, 99, 101, 115]⟩ ft1, .ref places⟩, ⟨fh2, .str ⟨#[100, 97, 116, 97]⟩ ft2, fv2⟩, ⟨fh3, .str ⟨#[112, 97, 105, 114, 115]⟩ ft3, fv3⟩, ⟨fh4, .str ⟨#[108, 111, 111, 112, 115]⟩ ft4, fv4⟩, ⟨fh5, .str ⟨#[102, 110, 115]⟩ ft5, fv5⟩] fep, #[]⟩), (world, ⟨.ref 237, some worldD, .plain, #[]⟩), (worldD, ⟨.type "dict", none, .dict #[⟨wh0, .str ⟨#[98, 105, 116, 115]⟩ wt0, wv0⟩, ⟨wh1, .str ⟨#[100, 105, 103, 105, 116, 115]⟩ wt1, wv1⟩, ⟨wh2, .str ⟨#[109, 111, 115, 116, 95, 115, 116, 101, 112, 115]⟩ wt2, .int ms mst⟩, ⟨wh3, .str ⟨#[109, 111, 115, 116, 95, 100, 101, 112, 116, 104]⟩ wt3, wv3⟩, ⟨wh4, .str ⟨#[114, 111, 111, 109]⟩ wt4, wv4⟩, ⟨wh5, .str ⟨#[110, 97, 109, 101, 115]⟩ wt5, wv5⟩, ⟨wh6, .str ⟨#[97, 114, 114, 97, 121, 115]⟩ wt6, wv6⟩, ⟨wh7, .str ⟨#[107, 105, 110, 100, 115]⟩ wt7, wv7⟩, ⟨wh8, .str ⟨#[102, 110, 115]⟩ wt8, wv8⟩, ⟨wh9, .str ⟨#[111, 117, 116]⟩ wt9, wv9⟩, ⟨wh10, .str ⟨#[114, 111, 119]⟩ wt10, wv10⟩, ⟨wh11, .str ⟨#[105, 110, 112, 117, 116, 115]⟩ wt11, wv11⟩, ⟨wh12, .str ⟨#[102, 105, 108, 101, 115]⟩ wt12, wv12⟩, ⟨wh13, .str ⟨#[111, 112, 101, 110]⟩ wt13, wv13⟩, ⟨wh14, .str ⟨#[102, 105, 101, 108, 100, 115]⟩ wt14, wv14⟩, ⟨wh15, .str ⟨#[100, 97, 116, 97]⟩ wt15, wv15⟩, ⟨wh16, .str ⟨#[115, 112, 111, 116]⟩ wt16, wv16⟩, ⟨wh17, .str ⟨#[98, 97, 115, 101]⟩ wt17, wv17⟩, ⟨wh18, .str ⟨#[115, 101, 101, 100]⟩ wt18, wv18⟩, ⟨wh19, .str ⟨#[115, 116, 101, 112, 115]⟩ wt19, .int st stt⟩, ⟨wh20, .str ⟨#[100, 101, 112, 116, 104]⟩ wt20, wv20⟩, ⟨wh21, .str ⟨#[104, 97, 110, 100, 108, 101, 114]⟩ wt21, .int hdl hdt⟩, ⟨wh22, .str ⟨#[105, 115, 95, 104, 97, 110, 100, 108, 105, 110, 103]⟩ wt22, .bool on⟩, ⟨wh23, .str ⟨#[101, 114, 114, 111, 114, 95, 108, 105, 110, 101]⟩ wt23, .int el elt⟩, ⟨wh24, .str ⟨#[101, 114, 114, 111, 114, 95, 99, 111, 100, 101]⟩ wt24, .str ec ect⟩, ⟨wh25, .str ⟨#[105, 115, 95, 116, 114, 97, 99, 101, 100]⟩ wt25, wv25⟩, ⟨wh26, .str ⟨#[116, 114, 97, 99, 101, 115]⟩ wt26, wv26⟩, ⟨wh27, .str ⟨#[99, 111, 109, 109, 111, 110]⟩ wt27, wv27⟩] wep, #[]⟩), (feed, feedO cells turn tt en), (cells, cellsO items em), (L, ⟨.type "frame", none, .dict #[⟨lh0, .str ⟨#[115, 99, 114, 105, 112, 116]⟩ lt0, lv0⟩, ⟨lh1, .str ⟨#[102, 101, 101, 100]⟩ lt1, .ref feed⟩, ⟨lh2, .str ⟨#[114, 111, 119, 115]⟩ lt2, lv2⟩, ⟨lh3, .str ⟨#[109, 111, 115, 116]⟩ lt3, .int ms lms⟩, ⟨lh4, .str ⟨#[119, 111, 114, 108, 100]⟩ lt4, .ref world⟩, ⟨lh5, .str ⟨#[114, 117, 110]⟩ lt5, .ref run⟩, ⟨lh6, .str ⟨#[116, 111, 108, 100]⟩ lt6, .ref told⟩, ⟨lh7, .str ⟨#[116, 117, 114, 110]⟩ lt7, lv7⟩, ⟨lh8, .str ⟨#[107, 105, 110, 100]⟩ lt8, lv8⟩, ⟨lh9, .str ⟨#[97, 116]⟩ lt9, lv9⟩, ⟨lh10, .str ⟨#[110, 117, 109, 98, 101, 114]⟩ lt10, lv10⟩, ⟨lh11, .str ⟨#[104, 101, 97, 114, 100]⟩ lt11, lv11⟩, ⟨lh12, .str ⟨#[102, 111, 117, 110, 100]⟩ lt12, lv12⟩] lep, lsl⟩)])
    (hl : rem = left) (hinv : Inv ⟨hdl, on, num, el, fa, st⟩) (hcd : IsCode ec num) (ht0 : 0 ≤ turn) (hcur : 0 ≤ cur) (hcl : cur + left ≤ 100) (hi : items.size ≤ 63) (hall : ∀ i, i < items.size → ∃ z tk, items[i]? = some (.int z tk)) (htb : turn + 4 * left ≤ 800)
    (R : Result → Shared → Prop)
    (hE : ∀ lep st hdl el fa num turn cur rem on ec stt hdt elt ect fat tt qu0 qu2 qu3 qu4 qu5 qu6 qep lsl it0 it1 it2 lv0 lv2 lv7 lv8 lv9 lv10 lv11 lv12 wep cep h' t', 0 ≤ turn → turn ≤ 800 → Mem h₀ h' [] [(it, ⟨.type "range_iterator", none, .fields #[.int cur it0, .int rem it1, .int 1 it2], #[]⟩), (told, ⟨.type "dict", none, .dict #[⟨qh0, .str ⟨#[104, 97, 110, 100, 108, 101, 114]⟩ qt0, .int hdl qu0⟩, ⟨qh1, .str ⟨#[111, 110]⟩ qt1, .bool on⟩, ⟨qh2, .str ⟨#[110, 117, 109, 98, 101, 114]⟩ qt2, .int num qu2⟩, ⟨qh3, .str ⟨#[108, 105, 110, 101]⟩ qt3, .int el qu3⟩, ⟨qh4, .str ⟨#[114, 111, 119]⟩ qt4, .int fa qu4⟩, ⟨qh5, .str ⟨#[115, 116, 101, 112, 115]⟩ qt5, .int st qu5⟩, ⟨qh6, .str ⟨#[109, 111, 115, 116]⟩ qt6, .int ms qu6⟩] qep, #[]⟩), (ctl, ⟨.ref 82, some ctlD, .plain, #[]⟩), (ctlD, ⟨.type "dict", none, .dict #[⟨ch0, .str ⟨#[112, 105, 108, 101]⟩ ct0, cv0⟩, ⟨ch1, .str ⟨#[109, 111, 115, 116]⟩ ct1, cv1⟩, ⟨ch2, .str ⟨#[102, 97, 105, 108, 101, 100, 95, 97, 116]⟩ ct2, .int fa fat⟩] cep, #[]⟩), (run, ⟨.ref 363, some runD, .plain, #[]⟩), (runD, ⟨.type "dict", none, .dict #[⟨nh0, .str ⟨#[119, 111, 114, 108, 100]⟩ nt0, .ref world⟩, ⟨nh1, .str ⟨#[102, 108, 97, 116]⟩ nt1, .ref flat⟩, ⟨nh2, .str ⟨#[97, 110, 115, 119, 101, 114, 115]⟩ nt2, nv2⟩, ⟨nh3, .str ⟨#[98, 105, 116, 115]⟩ nt3, nv3⟩, ⟨nh4, .str ⟨#[100, 105, 103, 105, 116, 115]⟩ nt4, nv4⟩, ⟨nh5, .str ⟨#[99, 111, 110, 116, 114, 111, 108]⟩ nt5, .ref ctl⟩, ⟨nh6, .str ⟨#[97, 115, 107, 101, 100]⟩ nt6, nv6⟩] nep, #[]⟩), (r5, ⟨.type "tuple", none, .seq #[.int 30 rt5, rv5] re5, #[]⟩), (r4, ⟨.type "tuple", none, .seq #[.int 30 rt4, rv4] re4, #[]⟩), (r3, ⟨.type "tuple", none, .seq #[.int 20 rt3, rv3] re3, #[]⟩), (r2, ⟨.type "tuple", none, .seq #[.int 20 rt2, rv2] re2, #[]⟩), (r1, ⟨.type "tuple", none, .seq #[.int 10 rt1, rv1] re1, #[]⟩), (r0, ⟨.type "tuple", none, .seq #[.int 10 rt0, rv0] re0, #[]⟩), (places, ⟨.type "dict", none, .dict #[⟨ph0, .int 10 pt0, .int 0 pu0⟩, ⟨ph1, .int 20 pt1, .int 2 pu1⟩, ⟨ph2, .int 30 pt2, .int 4 pu2⟩] pep, #[]⟩), (rowsL, ⟨.type "list", none, .seq #[.ref r0, .ref r1, .ref r2, .ref r3, .ref r4, .ref r5] rowse, #[]⟩), (flat, ⟨.ref 145, some flatD, .plain, #[]⟩), (flatD, ⟨.type "dict", none, .dict #[⟨fh0, .str ⟨#[114, 111, 119, 115]⟩ ft0, .ref rowsL⟩, ⟨fh1, .str ⟨#[112, 108, 97, 99, 101, 115]⟩ ft1, .ref places⟩, ⟨fh2, .str ⟨#[100, 97, 116, 97]⟩ ft2, fv2⟩, ⟨fh3, .str ⟨#[112, 97, 105, 114, 115]⟩ ft3, fv3⟩, ⟨fh4, .str ⟨#[108, 111, 111, 112, 115]⟩ ft4, fv4⟩, ⟨fh5, .str ⟨#[102, 110, 115]⟩ ft5, fv5⟩] fep, #[]⟩), (world, ⟨.ref 237, some worldD, .plain, #[]⟩), (worldD, ⟨.type "dict", none, .dict #[⟨wh0, .str ⟨#[98, 105, 116, 115]⟩ wt0, wv0⟩, ⟨wh1, .str ⟨#[100, 105, 103, 105, 116, 115]⟩ wt1, wv1⟩, ⟨wh2, .str ⟨#[109, 111, 115, 116, 95, 115, 116, 101, 112, 115]⟩ wt2, .int ms mst⟩, ⟨wh3, .str ⟨#[109, 111, 115, 116, 95, 100, 101, 112, 116, 104]⟩ wt3, wv3⟩, ⟨wh4, .str ⟨#[114, 111, 111, 109]⟩ wt4, wv4⟩, ⟨wh5, .str ⟨#[110, 97, 109, 101, 115]⟩ wt5, wv5⟩, ⟨wh6, .str ⟨#[97, 114, 114, 97, 121, 115]⟩ wt6, wv6⟩, ⟨wh7, .str ⟨#[107, 105, 110, 100, 115]⟩ wt7, wv7⟩, ⟨wh8, .str ⟨#[102, 110, 115]⟩ wt8, wv8⟩, ⟨wh9, .str ⟨#[111, 117, 116]⟩ wt9, wv9⟩, ⟨wh10, .str ⟨#[114, 111, 119]⟩ wt10, wv10⟩, ⟨wh11, .str ⟨#[105, 110, 112, 117, 116, 115]⟩ wt11, wv11⟩, ⟨wh12, .str ⟨#[102, 105, 108, 101, 115]⟩ wt12, wv12⟩, ⟨wh13, .str ⟨#[111, 112, 101, 110]⟩ wt13, wv13⟩, ⟨wh14, .str ⟨#[102, 105, 101, 108, 100, 115]⟩ wt14, wv14⟩, ⟨wh15, .str ⟨#[100, 97, 116, 97]⟩ wt15, wv15⟩, ⟨wh16, .str ⟨#[115, 112, 111, 116]⟩ wt16, wv16⟩, ⟨wh17, .str ⟨#[98, 97, 115, 101]⟩ wt17, wv17⟩, ⟨wh18, .str ⟨#[115, 101, 101, 100]⟩ wt18, wv18⟩, ⟨wh19, .str ⟨#[115, 116, 101, 112, 115]⟩ wt19, .int st stt⟩, ⟨wh20, .str ⟨#[100, 101, 112, 116, 104]⟩ wt20, wv20⟩, ⟨wh21, .str ⟨#[104, 97, 110, 100, 108, 101, 114]⟩ wt21, .int hdl hdt⟩, ⟨wh22, .str ⟨#[105, 115, 95, 104, 97, 110, 100, 108, 105, 110, 103]⟩ wt22, .bool on⟩, ⟨wh23, .str ⟨#[101, 114, 114, 111, 114, 95, 108, 105, 110, 101]⟩ wt23, .int el elt⟩, ⟨wh24, .str ⟨#[101, 114, 114, 111, 114, 95, 99, 111, 100, 101]⟩ wt24, .str ec ect⟩, ⟨wh25, .str ⟨#[105, 115, 95, 116, 114, 97, 99, 101, 100]⟩ wt25, wv25⟩, ⟨wh26, .str ⟨#[116, 114, 97, 99, 101, 115]⟩ wt26, wv26⟩, ⟨wh27, .str ⟨#[99, 111, 109, 109, 111, 110]⟩ wt27, wv27⟩] wep, #[]⟩), (feed, feedO cells turn tt en), (cells, cellsO items em), (L, ⟨.type "frame", none, .dict #[⟨lh0, .str ⟨#[115, 99, 114, 105, 112, 116]⟩ lt0, lv0⟩, ⟨lh1, .str ⟨#[102, 101, 101, 100]⟩ lt1, .ref feed⟩, ⟨lh2, .str ⟨#[114, 111, 119, 115]⟩ lt2, lv2⟩, ⟨lh3, .str ⟨#[109, 111, 115, 116]⟩ lt3, .int ms lms⟩, ⟨lh4, .str ⟨#[119, 111, 114, 108, 100]⟩ lt4, .ref world⟩, ⟨lh5, .str ⟨#[114, 117, 110]⟩ lt5, .ref run⟩, ⟨lh6, .str ⟨#[116, 111, 108, 100]⟩ lt6, .ref told⟩, ⟨lh7, .str ⟨#[116, 117, 114, 110]⟩ lt7, lv7⟩, ⟨lh8, .str ⟨#[107, 105, 110, 100]⟩ lt8, lv8⟩, ⟨lh9, .str ⟨#[97, 116]⟩ lt9, lv9⟩, ⟨lh10, .str ⟨#[110, 117, 109, 98, 101, 114]⟩ lt10, lv10⟩, ⟨lh11, .str ⟨#[104, 101, 97, 114, 100]⟩ lt11, lv11⟩, ⟨lh12, .str ⟨#[102, 111, 117, 110, 100]⟩ lt12, lv12⟩] lep, lsl⟩)] → R (.ok .next) ⟨h', g, d, t', os⟩) :
    codeAny (model PR w) { handled := none, depth := 320, frames := some [lawEnv L], units := 400 } (.forLoop lawTgt (.ref it) lawBody lawElse (lawEnv L)) R ⟨h, g, d, t, os⟩ := by
  induction left generalizing h t lep st hdl el fa num turn cur rem on ec stt hdt elt ect fat tt qu0 qu2 qu3 qu4 qu5 qu6 qep lsl it0 it1 it2 lv0 lv2 lv7 lv8 lv9 lv10 lv11 lv12 wep cep with
  | zero =>
    run_tac do
      driveMain 300 hooksT (endBys [`hE])
  | succ n ih =>
    run_tac do
      let t0 ← IO.monoMsNow
      driveMain 4000 (fun k => if k == "for turn" then some (useHyp `ih) else hooksT k) (endBys [`hE])
      let t1 ← IO.monoMsNow
      Lean.logInfo m!"ms {t1 - t0}"
end Mine
end
section
open PySem PySem.W PySem.W.X PyProof.Rows
namespace Mine
set_option maxRecDepth 5000
set_option maxHeartbeats 0

open Lean Meta Elab Tactic PySem PySem.W PySem.W.X PySem.W.XRun
/-- nothing is led or gone on with while no handler is set -/
def noLed (g : MVarId) : TacticM (List MVarId) := g.withContext do
  let saved ← saveState
  try
    let gs ← runT g (do evalTactic (← `(tactic| first
      | exact (led0 (by assumption) rfl rfl (by assumption)).elim
      | exact (line0 (by assumption) rfl rfl (by assumption)).elim
      | exact (place0 (by assumption) rfl rfl (by assumption)).elim)))
    if gs.isEmpty then return []
    saved.restore
    return [g]
  catch _ =>
    saved.restore
    return [g]
def hookHeard0 : Hook := fun b st g => do
  match ← useCtr `Mine.heardAll b st g with
  | none => return none
  | some gs => return some (← gs.mapM noLed).flatten
/-- the objects newer than the iterator are dropped -/
def dropNewer (b : Base) (st : XRun.St) (g : MVarId) : TacticM (XRun.St × MVarId) := g.withContext do
  let mut k := 0
  for (a, o) in st.news do
    let o ← kw o
    let c ← kw o.getAppArgs[0]!
    if c.isAppOfArity ``Value.type 1 && (← strOf c.appArg!) == some "range_iterator" then break
    k := k + 1
  let news' := st.news.drop k
  let mask := listE (mkConst ``Bool) ((List.range st.news.length).map fun i => boolE (i ≥ k))
  let pf := mkAppN (mkConst `Mine.dropMem) #[b.h0, st.h, newsE st.news, st.mem, mask]
  let ty := mkApp4 (mkConst ``Mem) b.h0 st.h (newsE []) (newsE news')
  let g ← g.assert `D ty pf
  let (f, g) ← g.intro1P
  return ({ st with mem := mkFVar f, news := news' }, g)
def hookLoop : Hook := fun b st g => do
  let (st, g) ← dropNewer b st g
  useCtr `Mine.c_loop b st g
theorem c_first (w : PySem.World) (h₀ h : Heap) (g : Array GenState) (d : Drawn) (t : Nat) (os : OsState) (it told feed cells : Addr) (items : Array Value) (en em : Nat) (qh0 qh1 qh2 qh3 qh4 qh5 qh6 : Int) (qt0 qt1 qt2 qt3 qt4 qt5 qt6 : Tok) (ctl ctlD run runD world worldD L : Addr) (r0 r1 r2 r3 r4 r5 places rowsL flat flatD : Addr) (rt0 rt1 rt2 rt3 rt4 rt5 pt0 pt1 pt2 pu0 pu1 pu2 : Tok) (ph0 ph1 ph2 : Int) (rv0 rv1 rv2 rv3 rv4 rv5 : Value) (re0 re1 re2 re3 re4 re5 pep rowse : Nat) (fh0 fh1 fh2 fh3 fh4 fh5 : Int) (ft0 ft1 ft2 ft3 ft4 ft5 : Tok) (fv2 fv3 fv4 fv5 : Value) (fep : Nat) (ch0 ch1 ch2 : Int) (ct0 ct1 ct2 : Tok) (cv0 cv1 : Value) (cep : Nat) (nh0 nh1 nh2 nh3 nh4 nh5 nh6 : Int) (nt0 nt1 nt2 nt3 nt4 nt5 nt6 : Tok) (nv2 nv3 nv4 nv6 : Value) (nep : Nat) (wh0 wh1 wh2 wh3 wh4 wh5 wh6 wh7 wh8 wh9 wh10 wh11 wh12 wh13 wh14 wh15 wh16 wh17 wh18 wh19 wh20 wh21 wh22 wh23 wh24 wh25 wh26 wh27 : Int) (wt0 wt1 wt2 wt3 wt4 wt5 wt6 wt7 wt8 wt9 wt10 wt11 wt12 wt13 wt14 wt15 wt16 wt17 wt18 wt19 wt20 wt21 wt22 wt23 wt24 wt25 wt26 wt27 : Tok) (wv0 wv1 wv3 wv4 wv5 wv6 wv7 wv8 wv9 wv10 wv11 wv12 wv13 wv14 wv15 wv16 wv17 wv18 wv20 wv25 wv26 wv27 : Value) (wep : Nat) (ms : Int) (mst lms : Tok) (lh0 lh1 lh2 lh3 lh4 lh5 lh6 : Int) (lt0 lt1 lt2 lt3 lt4 lt5 lt6 : Tok) (lv0 lv2 : Value) (lep : Nat) (fa turn rem : Int) (stt hdt elt ect fat tt : Tok) (qu0 qu2 qu3 qu4 qu5 qu6 : Tok) (qep : Nat) (it0 it1 it2 : Tok) (ph0e : ph0 = 10) (ph1e : ph1 = 20) (ph2e : ph2 = 30)
    (KX : (KH w.params).In h₀) (D : Mem h₀ h [] [(it, ⟨.type "range_iterator", none, .fields #[.int 0 it0, .int rem it1, .int 1 it2], #[]⟩), (told, ⟨.type "dict", none, .dict #[⟨qh0, .str ⟨#[104, 97, 110, 100, 108, 101, 114]⟩ qt0, .int 0 qu0⟩, ⟨qh1, .str ⟨#[111, 110]⟩ qt1, .bool false⟩, ⟨qh2, .str ⟨#[110, 117, 109, 98, 101, 114]⟩ qt2, .int 0 qu2⟩, ⟨qh3, .str ⟨#[108, 105, 110, 101]⟩ qt3, .int 0 qu3⟩, ⟨qh4, .str ⟨#[114, 111, 119]⟩ qt4, .int fa qu4⟩, ⟨qh5, .str ⟨#[115, 116, 101, 112, 115]⟩ qt5, .int 0 qu5⟩, ⟨qh6, .str ⟨#[109, 111, 115, 116]⟩ qt6, .int ms qu6⟩] qep, #[]⟩), (ctl, ⟨.ref 82, some ctlD, .plain, #[]⟩), (ctlD, ⟨.type "dict", none, .dict #[⟨ch0, .str ⟨#[112, 105, 108, 101]⟩ ct0, cv0⟩, ⟨ch1, .str ⟨#[109, 111, 115, 116]⟩ ct1, cv1⟩, ⟨ch2, .str ⟨#[102, 97, 105, 108, 101, 100, 95, 97, 116]⟩ ct2, .int fa fat⟩] cep, #[]⟩), (run, ⟨.ref 363, some runD, .plain, #[]⟩), (runD, ⟨.type "dict", none, .dict #[⟨nh0, .str ⟨#[119, 111, 114, 108, 100]⟩ nt0, .ref world⟩, ⟨nh1, .str ⟨#[102, 108, 97, 116]⟩ nt1, .ref flat⟩, ⟨nh2, .str ⟨#[97, 110, 115, 119, 101, 114, 115]⟩ nt2, nv2⟩, ⟨nh3, .str ⟨#[98, 105, 116, 115]⟩ nt3, nv3⟩, ⟨nh4, .str ⟨#[100, 105, 103, 105, 116, 115]⟩ nt4, nv4⟩, ⟨nh5, .str ⟨#[99, 111, 110, 116, 114, 111, 108]⟩ nt5, .ref ctl⟩, ⟨nh6, .str ⟨#[97, 115, 107, 101, 100]⟩ nt6, nv6⟩] nep, #[]⟩), (r5, ⟨.type "tuple", none, .seq #[.int 30 rt5, rv5] re5, #[]⟩), (r4, ⟨.type "tuple", none, .seq #[.int 30 rt4, rv4] re4, #[]⟩), (r3, ⟨.type "tuple", none, .seq #[.int 20 rt3, rv3] re3, #[]⟩), (r2, ⟨.type "tuple", none, .seq #[.int 20 rt2, rv2] re2, #[]⟩), (r1, ⟨.type "tuple", none, .seq #[.int 10 rt1, rv1] re1, #[]⟩), (r0, ⟨.type "tuple", none, .seq #[.int 10 rt0, rv0] re0, #[]⟩), (places, ⟨.type "dict", none, .dict #[⟨ph0, .int 10 pt0, .int 0 pu0⟩, ⟨ph1, .int 20 pt1, .int 2 pu1⟩, ⟨ph2, .int 30 pt2, .int 4 pu2⟩] pep, #[]⟩), (rowsL, ⟨.type "list", none, .seq #[.ref r0, .ref r1, .ref r2, .ref r3, .ref r4, .ref r5] rowse, #[]⟩), (flat, ⟨.ref 145, some flatD, .plain, #[]⟩), (flatD, ⟨.type "dict", none, .dict #[⟨fh0, .str ⟨#[114, 111, 119, 115]⟩ ft0, .ref rowsL⟩, ⟨fh1, .str ⟨#[112, 108, 97, 99, 101, 115]⟩ ft1, .ref places⟩, ⟨fh2, .str ⟨#[100, 97, 116, 97]⟩ ft2, fv2⟩, ⟨fh3, .str ⟨#[112, 97, 105, 114, 115]⟩ ft3, fv3⟩, ⟨fh4, .str ⟨#[108, 111, 111, 112, 115]⟩ ft4, fv4⟩, ⟨fh5, .str ⟨#[102, 110, 115]⟩ ft5, fv5⟩] fep, #[]⟩), (world, ⟨.ref 237, some worldD, .plain, #[]⟩), (worldD, ⟨.type "dict", none, .dict #[⟨wh0, .str ⟨#[98, 105, 116, 115]⟩ wt0, wv0⟩, ⟨wh1, .str ⟨#[100, 105, 103, 105, 116, 115]⟩ wt1, wv1⟩, ⟨wh2, .str ⟨#[109, 111, 115, 116, 95, 115, 116, 101, 112, 115]⟩ wt2, .int ms mst⟩, ⟨wh3, .str ⟨#[109, 111, 115, 116, 95, 100, 101, 112, 116, 104]⟩ wt3, wv3⟩, ⟨wh4, .str ⟨#[114, 111, 111, 109]⟩ wt4, wv4⟩, ⟨wh5, .str ⟨#[110, 97, 109, 101, 115]⟩ wt5, wv5⟩, ⟨wh6, .str ⟨#[97, 114, 114, 97, 121, 115]⟩ wt6, wv6⟩, ⟨wh7, .str ⟨#[107, 105, 110, 100, 115]⟩ wt7, wv7⟩, ⟨wh8, .str ⟨#[102, 110, 115]⟩ wt8, wv8⟩, ⟨wh9, .str ⟨#[111, 117, 116]⟩ wt9, wv9⟩, ⟨wh10, .str ⟨#[114, 111, 119]⟩ wt10, wv10⟩, ⟨wh11, .str ⟨#[105, 110, 112, 117, 116, 115]⟩ wt11, wv11⟩, ⟨wh12, .str ⟨#[102, 105, 108, 101, 115]⟩ wt12, wv12⟩, ⟨wh13, .str ⟨#[111, 112, 101, 110]⟩ wt13, wv13⟩, ⟨wh14, .str ⟨#[102, 105, 101, 108, 100, 115]⟩ wt14, wv14⟩, ⟨wh15, .str ⟨#[100, 97, 116, 97]⟩ wt15, wv15⟩, ⟨wh16, .str ⟨#[115, 112, 111, 116]⟩ wt16, wv16⟩, ⟨wh17, .str ⟨#[98, 97, 115, 101]⟩ wt17, wv17⟩, ⟨wh18, .str ⟨#[115, 101, 101, 100]⟩ wt18, wv18⟩, ⟨wh19, .str ⟨#[115, 116, 101, 112, 115]⟩ wt19, .int 0 stt⟩, ⟨wh20, .str ⟨#[100, 101, 112, 116, 104]⟩ wt20, wv20⟩, ⟨wh21, .str ⟨#[104, 97, 110, 100, 108, 101, 114]⟩ wt21, .int 0 hdt⟩, ⟨wh22, .str ⟨#[105, 115, 95, 104, 97, 110, 100, 108, 105, 110, 103]⟩ wt22, .bool false⟩, ⟨wh23, .str ⟨#[101, 114, 114, 111, 114, 95, 108, 105, 110, 101]⟩ wt23, .int 0 elt⟩, ⟨wh24, .str ⟨#[101, 114, 114, 111, 114, 95, 99, 111, 100, 101]⟩ wt24, .str ⟨#[]⟩ ect⟩, ⟨wh25, .str ⟨#[105, 115, 95, 116, 114, 97, 99, 101, 100]⟩ wt25, wv25⟩, ⟨wh26, .str ⟨#[116, 114, 97, 99, 101, 115]⟩ wt26, wv26⟩, ⟨wh27, .str ⟨#[99, 111, 109, 109, 111, 110]⟩ wt27, wv27⟩] wep, #[]⟩), (feed, feedO cells turn tt en), (cells, cellsO items em), (L, ⟨.type "frame", none, .dict #[⟨lh0, .str ⟨#[115, 99, 114, 105, 112, 116]⟩ lt0, lv0⟩, ⟨lh1, .str ⟨#[102, 101, 101, 100]⟩ lt1, .ref feed⟩, ⟨lh2, .str ⟨#[114, 111, 119, 115]⟩ lt2, lv2⟩, ⟨lh3, .str ⟨#[109, 111, 115, 116]⟩ lt3, .int ms lms⟩, ⟨lh4, .str ⟨#[119, 111, 114, 108, 100]⟩ lt4, .ref world⟩, ⟨lh5, .str ⟨#[114, 117, 110]⟩ lt5, .ref run⟩, ⟨lh6, .str ⟨#[116, 111, 108, 100]⟩ lt6, .ref told⟩] lep, #[]⟩)])
    (ht0 : 0 ≤ turn) (ht1 : turn ≤ 700) (hr1 : 1 ≤ rem) (hr2 : rem ≤ 10) (hi : items.size ≤ 63) (hall : ∀ i, i < items.size → ∃ z tk, items[i]? = some (.int z tk))
    (R : Result → Shared → Prop)
    (hE : ∀ lh7 lh8 lh9 lh10 lh11 lh12 lt7 lt8 lt9 lt10 lt11 lt12 lep st hdl el fa num turn cur rem on ec stt hdt elt ect fat tt qu0 qu2 qu3 qu4 qu5 qu6 qep lsl it0 it1 it2 lv0 lv2 lv7 lv8 lv9 lv10 lv11 lv12 wep cep h' t', 0 ≤ turn → turn ≤ 800 → Mem h₀ h' [] [(it, ⟨.type "range_iterator", none, .fields #[.int cur it0, .int rem it1, .int 1 it2], #[]⟩), (told, ⟨.type "dict", none, .dict #[⟨qh0, .str ⟨#[104, 97, 110, 100, 108, 101, 114]⟩ qt0, .int hdl qu0⟩, ⟨qh1, .str ⟨#[111, 110]⟩ qt1, .bool on⟩, ⟨qh2, .str ⟨#[110, 117, 109, 98, 101, 114]⟩ qt2, .int num qu2⟩, ⟨qh3, .str ⟨#[108, 105, 110, 101]⟩ qt3, .int el qu3⟩, ⟨qh4, .str ⟨#[114, 111, 119]⟩ qt4, .int fa qu4⟩, ⟨qh5, .str ⟨#[115, 116, 101, 112, 115]⟩ qt5, .int st qu5⟩, ⟨qh6, .str ⟨#[109, 111, 115, 116]⟩ qt6, .int ms qu6⟩] qep, #[]⟩), (ctl, ⟨.ref 82, some ctlD, .plain, #[]⟩), (ctlD, ⟨.type "dict", none, .dict #[⟨ch0, .str ⟨#[112, 105, 108, 101]⟩ ct0, cv0⟩, ⟨ch1, .str ⟨#[109, 111, 115, 116]⟩ ct1, cv1⟩, ⟨ch2, .str ⟨#[102, 97, 105, 108, 101, 100, 95, 97, 116]⟩ ct2, .int fa fat⟩] cep, #[]⟩), (run, ⟨.ref 363, some runD, .plain, #[]⟩), (runD, ⟨.type "dict", none, .dict #[⟨nh0, .str ⟨#[119, 111, 114, 108, 100]⟩ nt0, .ref world⟩, ⟨nh1, .str ⟨#[102, 108, 97, 116]⟩ nt1, .ref flat⟩, ⟨nh2, .str ⟨#[97, 110, 115, 119, 101, 114, 115]⟩ nt2, nv2⟩, ⟨nh3, .str ⟨#[98, 105, 116, 115]⟩ nt3, nv3⟩, ⟨nh4, .str ⟨#[100, 105, 103, 105, 116, 115]⟩ nt4, nv4⟩, ⟨nh5, .str ⟨#[99, 111, 110, 116, 114, 111, 108]⟩ nt5, .ref ctl⟩, ⟨nh6, .str ⟨#[97, 115, 107, 101, 100]⟩ nt6, nv6⟩] nep, #[]⟩), (r5, ⟨.type "tuple", none, .seq #[.int 30 rt5, rv5] re5, #[]⟩), (r4, ⟨.type "tuple", none, .seq #[.int 30 rt4, rv4] re4, #[]⟩), (r3, ⟨.type "tuple", none, .seq #[.int 20 rt3, rv3] re3, #[]⟩), (r2, ⟨.type "tuple", none, .seq #[.int 20 rt2, rv2] re2, #[]⟩), (r1, ⟨.type "tuple", none, .seq #[.int 10 rt1, rv1] re1, #[]⟩), (r0, ⟨.type "tuple", none, .seq #[.int 10 rt0, rv0] re0, #[]⟩), (places, ⟨.type "dict", none, .dict #[⟨ph0, .int 10 pt0, .int 0 pu0⟩, ⟨ph1, .int 20 pt1, .int 2 pu1⟩, ⟨ph2, .int 30 pt2, .int 4 pu2⟩] pep, #[]⟩), (rowsL, ⟨.type "list", none, .seq #[.ref r0, .ref r1, .ref r2, .ref r3, .ref r4, .ref r5] rowse, #[]⟩), (flat, ⟨.ref 145, some flatD, .plain, #[]⟩), (flatD, ⟨.type "dict", none, .dict #[⟨fh0, .str ⟨#[114, 111, 119, 115]⟩ ft0, .ref rowsL⟩, ⟨fh1, .str ⟨#[112, 108, 97, 99, 101, 115]⟩ ft1, .ref places⟩, ⟨fh2, .str ⟨#[100, 97, 116, 97]⟩ ft2, fv2⟩, ⟨fh3, .str ⟨#[112, 97, 105, 114, 115]⟩ ft3, fv3⟩, ⟨fh4, .str ⟨#[108, 111, 111, 112, 115]⟩ ft4, fv4⟩, ⟨fh5, .str ⟨#[102, 110, 115]⟩ ft5, fv5⟩] fep, #[]⟩), (world, ⟨.ref 237, some worldD, .plain, #[]⟩), (worldD, ⟨.type "dict", none, .dict #[⟨wh0, .str ⟨#[98, 105, 116, 115]⟩ wt0, wv0⟩, ⟨wh1, .str ⟨#[100, 105, 103, 105, 116, 115]⟩ wt1, wv1⟩, ⟨wh2, .str ⟨#[109, 111, 115, 116, 95, 115, 116, 101, 112, 115]⟩ wt2, .int ms mst⟩, ⟨wh3, .str ⟨#[109, 111, 115, 116, 95, 100, 101, 112, 116, 104]⟩ wt3, wv3⟩, ⟨wh4, .str ⟨#[114, 111, 111, 109]⟩ wt4, wv4⟩, ⟨wh5, .str ⟨#[110, 97, 109, 101, 115]⟩ wt5, wv5⟩, ⟨wh6, .str ⟨#[97, 114, 114, 97, 121, 115]⟩ wt6, wv6⟩, ⟨wh7, .str ⟨#[107, 105, 110, 100, 115]⟩ wt7, wv7⟩, ⟨wh8, .str ⟨#[102, 110, 115]⟩ wt8, wv8⟩, ⟨wh9, .str ⟨#[111, 117, 116]⟩ wt9, wv9⟩, ⟨wh10, .str ⟨#[114, 111, 119]⟩ wt10, wv10⟩, ⟨wh11, .str ⟨#[105, 110, 112, 117, 116, 115]⟩ wt11, wv11⟩, ⟨wh12, .str ⟨#[102, 105, 108, 101, 115]⟩ wt12, wv12⟩, ⟨wh13, .str ⟨#[111, 112, 101, 110]⟩ wt13, wv13⟩, ⟨wh14, .str ⟨#[102, 105, 101, 108, 100, 115]⟩ wt14, wv14⟩, ⟨wh15, .str ⟨#[100, 97, 116, 97]⟩ wt15, wv15⟩, ⟨wh16, .str ⟨#[115, 112, 111, 116]⟩ wt16, wv16⟩, ⟨wh17, .str ⟨#[98, 97, 115, 101]⟩ wt17, wv17⟩, ⟨wh18, .str ⟨#[115, 101, 101, 100]⟩ wt18, wv18⟩, ⟨wh19, .str ⟨#[115, 116, 101, 112, 115]⟩ wt19, .int st stt⟩, ⟨wh20, .str ⟨#[100, 101, 112, 116, 104]⟩ wt20, wv20⟩, ⟨wh21, .str ⟨#[104, 97, 110, 100, 108, 101, 114]⟩ wt21, .int hdl hdt⟩, ⟨wh22, .str ⟨#[105, 115, 95, 104, 97, 110, 100, 108, 105, 110, 103]⟩ wt22, .bool on⟩, ⟨wh23, .str ⟨#[101, 114, 114, 111, 114, 95, 108, 105, 110, 101]⟩ wt23, .int el elt⟩, ⟨wh24, .str ⟨#[101, 114, 114, 111, 114, 95, 99, 111, 100, 101]⟩ wt24, .str ec ect⟩, ⟨wh25, .str ⟨#[105, 115, 95, 116, 114, 97, 99, 101, 100]⟩ wt25, wv25⟩, ⟨wh26, .str ⟨#[116, 114, 97, 99, 101, 115]⟩ wt26, wv26⟩, ⟨wh27, .str ⟨#[99, 111, 109, 109, 111, 110]⟩ wt27, wv27⟩] wep, #[]⟩), (feed, feedO cells turn tt en), (cells, cellsO items em), (L, ⟨.type "frame", none, .dict #[⟨lh0, .str ⟨#[115, 99, 114, 105, 112, 116]⟩ lt0, lv0⟩, ⟨lh1, .str ⟨#[102, 101, 101, 100]⟩ lt1, .ref feed⟩, ⟨lh2, .str ⟨#[114, 111, 119, 115]⟩ lt2, lv2⟩, ⟨lh3, .str ⟨#[109, 111, 115, 116]⟩ lt3, .int ms lms⟩, ⟨lh4, .str ⟨#[119, 111, 114, 108, 100]⟩ lt4, .ref world⟩, ⟨lh5, .str ⟨#[114, 117, 110]⟩ lt5, .ref run⟩, ⟨lh6, .str ⟨#[116, 111, 108, 100]⟩ lt6, .ref told⟩, ⟨lh7, .str ⟨#[116, 117, 114, 110]⟩ lt7, lv7⟩, ⟨lh8, .str ⟨#[107, 105, 110, 100]⟩ lt8, lv8⟩, ⟨lh9, .str ⟨#[97, 116]⟩ lt9, lv9⟩, ⟨lh10, .str ⟨#[110, 117, 109, 98, 101, 114]⟩ lt10, lv10⟩, ⟨lh11, .str ⟨#[104, 101, 97, 114, 100]⟩ lt11, lv11⟩, ⟨lh12, .str ⟨#[102, 111, 117, 110, 100]⟩ lt12, lv12⟩] lep, lsl⟩)] → R (.ok .next) ⟨h', g, d, t', os⟩) :
    codeAny (model PR w) { handled := none, depth := 310, frames := some [lawEnv L], units := 350 } (.forLoop lawTgt (.ref it) lawBody lawElse (lawEnv L)) R ⟨h, g, d, t, os⟩ := by
  have hinv : Inv ⟨0, false, 0, 0, fa, 0⟩ := ⟨.inl rfl, fun q => nomatch q⟩
  have hcd : IsCode ⟨#[]⟩ 0 := .inr (.inr (.inr ⟨rfl, rfl⟩))
  obtain ⟨left, hl⟩ : ∃ left : Nat, rem = left + 1 := ⟨(rem - 1).toNat, by omega⟩
  have hl' : rem - 1 = (left : Int) := by omega
  run_tac do
    let t0 ← IO.monoMsNow
    driveMain 3000 (fun k => if k == "for turn" then some hookLoop else if k == "402" then some hookHeard0 else hooksT k) (endBys [`hE])
    let t1 ← IO.monoMsNow
    Lean.logInfo m!"ms {t1 - t0}"
  all_goals run_tac endBys [`hE]
end Mine
end
section
open PySem PySem.W PySem.W.X PyProof.Rows
namespace Mine
set_option maxRecDepth 5000
set_option maxHeartbeats 0
open Lean Meta Elab Tactic PySem.W.XRun in
def hookNext : Hook := fun b st g => do
  match ← useCtr ``c_next b st g with
  | some r => return some r
  | none => useCtr ``c_next0 b st g
theorem law_true (w : PySem.World) (h₀ : Heap) (g : Array GenState) (d : Drawn) (t : Nat) (os : OsState) (sc : Addr) (items : Array Value) (em : Nat) (ld : Option Addr) (lsl : Array (Option Value))
    (KX : (KH w.params).In h₀) (hsc : h₀.get? sc = some ⟨.type "list", ld, .seq items em, lsl⟩) (D : Mem h₀ h₀ [] [])
    (hi : items.size ≤ 63) (hall : ∀ i, i < items.size → ∃ z tk, items[i]? = some (.int z tk))
    (R : Result → Shared → Prop) (hR : ∀ b h' t', b = true → Mem h₀ h' [] [] → R (.ok (.ret (.bool b))) ⟨h', g, d, t', os⟩) :
    codeAny (model PR w) { handled := none, depth := 302, frames := some [], units := 300 } (.call (.ref 423) ⟨[.ref sc], []⟩) R ⟨h₀, g, d, t, os⟩ := by
  run_tac do
    let t0 ← IO.monoMsNow
    driveMain 9000 (fun k => if k == "374" then some hookNext else if k == "for turn" then some (useCtr ``c_first) else if k == "416" then some (useCtr ``c_right) else hooks2 k) (endBys [`hR])
    let t1 ← IO.monoMsNow
    Lean.logInfo m!"ms {t1 - t0}"
end Mine
end
section
open PySem PySem.W PySem.W.X PyProof.Rows PySem.Calls PySem.Spec
namespace Mine
theorem ints_at : ∀ {vs : List Value} {ns : List Int}, IntsAre vs ns → ∀ i, i < vs.length → ∃ z tk, vs[i]? = some (.int z tk)
  | _, _, .nil, i, h => absurd h (Nat.not_lt_zero i)
  | _, _, .cons n t r, 0, _ => ⟨n, t, rfl⟩
  | _, _, .cons n t r, i + 1, h => ints_at r i (Nat.lt_of_succ_lt_succ h)
theorem finish (w : PySem.World) (s₁ : Shared) (KX : (KH w.params).In s₁.heap) (hg : s₁.gens = #[]) {l : Addr} {vs : List Value} {ns : List Int} (hL : s₁.heap.IsList l vs.toArray) (hi : IntsAre vs ns) (hlen : vs.length ≤ 63)
    {c : ClaimW} {cl : PySem.Str → Option Addr} {mean : ExcName → Option Value} {args : List WData} (hr : ∀ cls, c.raises args cls = false) (hp : c.post args (.bool true) args = true) :
    wpAny (model PR w) callerA (call (.ref 423) [.ref l]) (fun v s' => GoodWG c cl mean args s₁ (.ok (.ret v)) s') (fun e s' => GoodWG c cl mean args s₁ (.error e) s') s₁ := by
  obtain ⟨d, n, sl, ho⟩ := isList_open hL
  obtain ⟨h, g, dr, t, os⟩ := s₁
  have hg : g = #[] := hg
  subst hg
  refine y_start Value PR w callerA _ _ _ (Code.call (.ref 423) ⟨[.ref l], []⟩) none _ _ _ (by intro h; cases h) ?_
  refine codeAny_le (law_true w h #[] dr t os l vs.toArray n d sl KX ho (Mem.start h) (by simpa using hlen) ?_ _ ?_) rfl rfl (.inr rfl) rfl rfl
  · intro i hi'
    obtain ⟨z, tk, e⟩ := ints_at hi i (by simpa using hi')
    exact ⟨z, tk, by simpa using e⟩
  · intro b h' t' hb D'
    subst hb
    exact y_endOk _ _ _ _ _ _ _ _ _ _ rfl (x_endG (s₁ := ⟨h, #[], dr, t, os⟩) D' hr hp AllBare.empty)
end Mine
end
open PySem PySem.W PySem.W.X PyProof.Rows
namespace Mine
open Lean Meta Elab Tactic PySem PySem.W PySem.W.X PySem.W.XRun
def addrsOf : TacticM Unit := do
  let w ← withLocalDeclD `P (mkConst ``Params) fun P => do
    let mut l ← kw (mkApp (mkConst ``KH) P)
    let mut out := #[]
    for _ in [0:5000] do
      if l.isAppOfArity ``List.cons 3 then
        let p ← kw l.getAppArgs[1]!
        out := out.push (← addrOf p.getAppArgs[2]!)
        l ← kw l.getAppArgs[2]!
      else break
    return listE (mkConst ``Nat) out.toList
  closeMainGoal `addrsOf w
set_option maxRecDepth 100000 in
def KHas : List Addr := by run_tac addrsOf
set_option maxRecDepth 100000 in
theorem KHas_eq : ∀ P, KHas = (KH P).map (·.1) := fun _ => by kernel_rfl
/-- a tactic's new declarations are laid anew: those alone that its proof reaches; a twin's equation by computation -/
def slim (tac : TacticM Unit) : TacticM Unit := do
  let env0 ← getEnv
  let g ← getMainGoal
  tac
  let env1 ← getEnv
  let mut used : Array Name := (← instantiateMVars (mkMVar g)).getUsedConstants
  for m in ← getGoals do
    used := used ++ (← instantiateMVars (← m.getType)).getUsedConstants
    for d in (← m.getDecl).lctx do
      used := used ++ (← instantiateMVars d.type).getUsedConstants
  used := (← getMCtx).eAssignment.foldl (fun u _ e => u ++ e.getUsedConstants) used
  setEnv env0
  -- the order: what a declaration names comes first
  let mut todo : Array (Name × Bool) := (used.toList.eraseDups.toArray.map fun n => (n, false)).reverse
  let mut seen : NameSet := {}
  let mut cnt : Nat := 0
  for _ in [0:10000000] do
    match todo.back? with
    | none => break
    | some (n, ready) =>
      todo := todo.pop
      if (← getEnv).contains n then continue
      let some ci := env1.find? n | throwError "slim: no {n}"
      if ready then
        cnt := cnt + 1
        match ci with
        | .thmInfo t =>
          let v ← (do
            match t.type.eq? with
            | some (ty, l, r) =>
              if l.isConst && r.isConst then
                if let .str p s := n then
                  if s.startsWith "te" && p == `PySem.W.Fast then return mkApp2 (mkConst ``Eq.refl [← getLevel ty]) ty l
              return t.value
            | none => return t.value : MetaM Lean.Expr)
          addDecl (.thmDecl { t with value := v })
        | .defnInfo d => addDecl (.defnDecl d)
        | .opaqueInfo o => addDecl (.opaqueDecl o)
        | _ => throwError "slim: {n} is of another kind"
      else
        if seen.contains n then continue
        seen := seen.insert n
        todo := todo.push (n, true)
        let us := match ci with
          | .thmInfo t =>
            let isTe := match n with | .str p s => s.startsWith "te" && p == `PySem.W.Fast && (match t.type.eq? with | some (_, l, r) => l.isConst && r.isConst | none => false) | _ => false
            if isTe then t.type.getUsedConstants else t.type.getUsedConstants ++ t.value.getUsedConstants
          | _ => ci.type.getUsedConstants ++ (match ci.value? with | some v => v.getUsedConstants | none => #[])
        for u in us do
          unless (← getEnv).contains u do todo := todo.push (u, false)
  logInfo m!"slim: {cnt} declarations"
/-- the compiled code of this text's own programs is not kept -/
def forget : TacticM Unit := do
  modifyEnv fun env => PersistentEnvExtension.modifyState Lean.Compiler.LCNF.baseExt env fun _ => default
  modifyEnv fun env => PersistentEnvExtension.modifyState Lean.Compiler.LCNF.monoExt env fun _ => default
  modifyEnv fun env => PersistentEnvExtension.modifyState Lean.Compiler.LCNF.impureSigExt env fun _ => default
  modifyEnv fun env => PersistentEnvExtension.modifyState Lean.IR.declMapExt env fun _ => ([], {})
end Mine
set_option maxRecDepth 100000 in
set_option maxHeartbeats 0 in
theorem PySem.Challenge.cw_pf0021_01_holds : PySem.Challenge.rw_pf0021_01.Holds := by
  run_tac do Mine.slim (do Lean.Elab.Tactic.evalTactic (← `(tactic| (w_on; o_law; o_head (kHook Mine.KH Mine.KHas Mine.KHas_eq)))))
  (case hw => w_witness2)
  k_fill
  intro w s₀ s₁ mg mb G Y fa o pm cd doc dV kV ho hd hcd hD hmg hg args vals as hpre hlay hrd hwl hlo
  have KX := kIn_of Y
  refine Ground.open G ?_
  intro T B D TE TW
  wrow_args hpre hlay hrd hwl hlo
  x_fa T KX hmg
  all_lens
  refine Mine.finish w s₁ KX hg (by assumption) (by assumption) (by omega) (fun _ => rfl) ?_
  run_tac Mine.forget
  first | rfl | wrow_post
