import PyProof.Rows.All
import Wide.All
import OpenK.AllK
import Wide.FinOn
import PySem.Challenge.RW_pf0367_01
set_option Elab.async false
set_option compiler.extract_closed false
section
open PySem PySem.W PyProof.Rows
namespace Mine
theorem left_boot {p q : Program} {loose : List Str} {Xt : Shared → Bool} {α : Type} {Yf : Shared → α} {Ya : World → α} {N : Nat} {g0 : Bool}
    (e : opening p = plainProg p.main.scope.names) (hN : Nat.ble 600 N = true) (f : ∀ s, fenceModules? p s = some s)
    (h : ∀ w : World, (fun os : OsState => (topFrom treeTable p w N ⟨boot_heap w.params, Array.mk [], boot_drawn, boot_toks, os⟩).map (fun s => openSeen q loose (importedModules p.main.body) Xt g0 s)) = fun _ => some (openGood q loose))
    (h2 : ∀ w : World, (fun os : OsState => (topFrom treeTable p w N ⟨boot_heap w.params, Array.mk [], boot_drawn, boot_toks, os⟩).map (fun s => Yf s)) = fun _ => some (Ya w)) : LeftO p q loose Xt Yf Ya N g0 := fun w => by
  obtain ⟨⟨h1, gs, d, k, os⟩, e1, e2⟩ := Option.map_eq_some_iff.mp (boot_open e hN f w)
  obtain ⟨rfl, rfl, rfl, rfl⟩ : h1 = boot_heap w.params ∧ gs = Array.mk [] ∧ d = boot_drawn ∧ k = boot_toks := by simpa using e2
  unfold openEnds
  rw [e1]
  have a1 := congrFun (h w) os
  have a2 := congrFun (h2 w) os
  show (topFrom treeTable p w N _).map _ = _
  revert a1 a2
  cases topFrom treeTable p w N ⟨boot_heap w.params, Array.mk [], boot_drawn, boot_toks, os⟩ with
  | none => intro a1; cases a1
  | some s =>
    intro a1 a2
    exact congrArg some (Prod.ext (Option.some.inj a1) (Option.some.inj a2))
structure Bx (P : Prop) : Prop where
  out : P
theorem both {A B C : Prop} (f : Bx A → Bx B → C) (h : A ∧ B) : C := f ⟨h.1⟩ ⟨h.2⟩
section
local macro_rules | `(tactic| refine $t:term) => do
  let isHole := fun (n : Lean.Name) (s : Lean.Syntax) => s.isOfKind ``Lean.Parser.Term.syntheticHole && s[1].getId.eraseMacroScopes == n
  if (t.raw.find? (isHole `hl)).isNone then Lean.Macro.throwUnsupported
  let a := Lean.mkIdent `a9
  let b := Lean.mkIdent `b9
  let c := Lean.mkIdent `hc
  let a1 ← `((Bx.out $a))
  let b1 ← `((Bx.out $b))
  let t' ← t.raw.replaceM fun s => pure (if isHole `hl s then some a1.raw else if isHole `hc s then some b1.raw else none)
  `(tactic| refine both (fun $a $b => $(⟨t'⟩):term) ?$c)
set_option maxRecDepth 100000 in
set_option maxHeartbeats 8000000 in
open_top hd for PySem.Challenge.rw_pf0367_01
end
def LeftP {p q : Program} {loose : List Str} {Xt : Shared → Bool} {α : Type} {Yf : Shared → α} {Ya : World → α} {N : Nat} {g0 : Bool} {B C : Prop} (_ : LeftO p q loose Xt Yf Ya N g0 ∧ B → C) : Prop := LeftO p q loose Xt Yf Ya N g0
def Look1 {p q : Program} {loose : List Str} {Xt : Shared → Bool} {α : Type} {Yf : Shared → α} {Ya : World → α} {N : Nat} {g0 : Bool} {B C : Prop} (_ : LeftO p q loose Xt Yf Ya N g0 ∧ B → C) : Prop :=
  ∀ w : World, (fun os : OsState => (topFrom treeTable p w N ⟨boot_heap w.params, Array.mk [], boot_drawn, boot_toks, os⟩).map (fun s => openSeen q loose (importedModules p.main.body) Xt g0 s)) = fun _ => some (openGood q loose)
def Look2 {p q : Program} {loose : List Str} {Xt : Shared → Bool} {α : Type} {Yf : Shared → α} {Ya : World → α} {N : Nat} {g0 : Bool} {B C : Prop} (_ : LeftO p q loose Xt Yf Ya N g0 ∧ B → C) : Prop :=
  ∀ w : World, (fun os : OsState => (topFrom treeTable p w N ⟨boot_heap w.params, Array.mk [], boot_drawn, boot_toks, os⟩).map (fun s => Yf s)) = fun _ => some (Ya w)
set_option maxRecDepth 100000 in
theorem look1 : Look1 hd := by
  unfold Look1
  intro w
  unfold topFrom
  rw [PySem.W.Fast.te4187177175401517315, PySem.W.Fast.te5923862056798008813, PySem.W.Fast.te14082659384304107361, PySem.W.Fast.te14364793385576792824, PySem.W.Fast.te8920871248978507458, PySem.W.Fast.te2368527892694137696, PySem.W.Fast.te5453956838874993817]
  kernel_rfl
set_option maxRecDepth 100000 in
theorem look2 : Look2 hd := by
  unfold Look2
  intro w
  unfold topFrom
  rw [PySem.W.Fast.te5923862056798008813, PySem.W.Fast.te14082659384304107361, PySem.W.Fast.te14364793385576792824, PySem.W.Fast.te8920871248978507458, PySem.W.Fast.te2368527892694137696, PySem.W.Fast.te5453956838874993817]
  kernel_rfl
set_option maxRecDepth 100000 in
theorem left_all : LeftP hd := by
  unfold LeftP
  refine' left_boot ?e1 ?e2 ?e3 look1 look2
  case e1 => kernel_rfl
  case e2 => decide
  case e3 => intro s; kernel_rfl
end Mine
end
section
open PySem PySem.W PySem.Calls PyProof.Rows
namespace Mine

def S (l : List Nat) : Str := ⟨l.toArray⟩
def lc (x : Str) : List Nat := x.cps.toList
theorem S_lc (x : Str) : S (lc x) = x := by cases x; rfl
theorem lc_S (l : List Nat) : lc (S l) = l := rfl
theorem lc_append (a b : Str) : lc (a ++ b) = lc a ++ lc b := by
  show (a ++ b).cps.toList = _
  rw [Str.cps_append, Array.toList_append]; rfl
theorem S_append (a b : List Nat) : S (a ++ b) = S a ++ S b := by
  rw [← S_lc (S a ++ S b), lc_append, lc_S, lc_S]
theorem lc_length (x : Str) : (lc x).length = x.length := Array.length_toList
theorem S_length (l : List Nat) : (S l).length = l.length := by show l.toArray.size = _; simp
theorem lc_inj {a b : Str} (h : lc a = lc b) : a = b := by rw [← S_lc a, ← S_lc b, h]

def splitL (c : Nat) : List Nat → List (List Nat)
  | [] => [[]]
  | a :: r => if a = c then [] :: splitL c r else match splitL c r with
    | [] => [[a]]
    | p :: ps => (a :: p) :: ps
def jl (sep : List Nat) : List (List Nat) → List Nat
  | [] => []
  | [p] => p
  | p :: q :: r => p ++ sep ++ jl sep (q :: r)
theorem splitL_ne (c : Nat) : ∀ l, splitL c l ≠ []
  | [] => by simp [splitL]
  | a :: r => by
    unfold splitL
    split
    · simp
    · split <;> simp
theorem lc_join (sep : Str) : ∀ P : List Str, lc (Str.join sep P) = jl (lc sep) (P.map lc)
  | [] => rfl
  | [p] => rfl
  | p :: q :: r => by
    show lc (p ++ sep ++ Str.join sep (q :: r)) = _
    rw [lc_append, lc_append, lc_join sep (q :: r)]
    rfl
theorem lc_Join (sep : Str) (P : List Str) : lc (Txt.join sep P) = jl (lc sep) (P.map lc) := by
  show lc (Builtin.Str.glued sep P) = _
  rw [StrLaws.glued_eq_join, lc_join]
theorem splitL_free {c : Nat} : ∀ {p : List Nat}, c ∉ p → splitL c p = [p]
  | [], _ => rfl
  | a :: r, h => by
    have h1 : a ≠ c := fun e => h (e ▸ List.mem_cons_self)
    have h2 : c ∉ r := fun e => h (List.mem_cons_of_mem _ e)
    unfold splitL
    rw [if_neg h1, splitL_free h2]
theorem splitL_step {c : Nat} (r : List Nat) : ∀ {p : List Nat}, c ∉ p → splitL c (p ++ [c] ++ r) = p :: splitL c r
  | [], _ => by
    show splitL c (c :: r) = _
    rw [splitL, if_pos rfl]
  | a :: p, h => by
    have h1 : a ≠ c := fun e => h (e ▸ List.mem_cons_self)
    have h2 : c ∉ p := fun e => h (List.mem_cons_of_mem _ e)
    show splitL c (a :: (p ++ [c] ++ r)) = _
    rw [splitL, if_neg h1, splitL_step r h2]
theorem splitL_jl {c : Nat} : ∀ {P : List (List Nat)}, P ≠ [] → (∀ p ∈ P, c ∉ p) → splitL c (jl [c] P) = P
  | [], h, _ => absurd rfl h
  | [p], _, h => splitL_free (h p (by simp))
  | p :: q :: r, _, h => by
    show splitL c (p ++ [c] ++ jl [c] (q :: r)) = _
    rw [splitL_step _ (h p (by simp)), splitL_jl (by simp) (fun x hx => h x (List.mem_cons_of_mem _ hx))]
theorem jl_splitL (c : Nat) : ∀ l, jl [c] (splitL c l) = l
  | [] => rfl
  | a :: r => by
    have ih := jl_splitL c r
    unfold splitL
    split
    · rename_i e
      subst e
      cases hq : splitL a r with
      | nil => exact absurd hq (splitL_ne a r)
      | cons p ps =>
        rw [hq] at ih
        show [] ++ [a] ++ jl [a] (p :: ps) = _
        rw [ih]; rfl
    · cases hq : splitL c r with
      | nil => exact absurd hq (splitL_ne c r)
      | cons p ps =>
        rw [hq] at ih
        show jl [c] ((a :: p) :: ps) = _
        cases ps with
        | nil => show a :: p = _; rw [show r = p from ih.symm]
        | cons q qs =>
          show a :: p ++ [c] ++ jl [c] (q :: qs) = _
          have : p ++ [c] ++ jl [c] (q :: qs) = r := ih
          rw [← this]; simp
theorem splitL_mem (c : Nat) : ∀ l, ∀ p ∈ splitL c l, c ∉ p
  | [] => by intro p hp; simp [splitL] at hp; subst hp; simp
  | a :: r => by
    have ih := splitL_mem c r
    intro p hp
    unfold splitL at hp
    split at hp
    · rcases List.mem_cons.mp hp with rfl | hp
      · simp
      · exact ih p hp
    · rename_i hne
      split at hp
      · simp at hp; subst hp; simp; exact fun e => hne e.symm
      · rename_i q qs hq
        rcases List.mem_cons.mp hp with rfl | hp
        · have := ih q (by rw [hq]; simp)
          simp only [List.mem_cons, not_or]
          exact ⟨fun e => hne e.symm, this⟩
        · exact ih p (by rw [hq]; exact List.mem_cons_of_mem _ hp)
theorem split_ne (x : Str) (c : Nat) : Txt.split x ⟨#[c]⟩ ≠ [] := by
  unfold Txt.split
  split
  · simp
  · split
    · simp
    · rw [StrLaws.partsBetween_eq]
      generalize Builtin.Str.occurrences x ⟨#[c]⟩ 0 x.length (x.length + 1) = cuts
      cases cuts with
      | nil => simp [StrLaws.partsFrom]
      | cons a r => simp [StrLaws.partsFrom]
theorem split_lc (x : Str) (c : Nat) : (Txt.split x ⟨#[c]⟩).map lc = splitL c (lc x) := by
  have h1 : jl [c] ((Txt.split x ⟨#[c]⟩).map lc) = lc x := by
    have := lc_join ⟨#[c]⟩ (Txt.split x ⟨#[c]⟩)
    rw [StrLaws.join_split] at this
    exact this.symm
  rw [← h1, splitL_jl]
  · intro h
    exact split_ne x c (by simpa using h)
  · intro p hp
    obtain ⟨q, hq, rfl⟩ := List.mem_map.mp hp
    exact StrLaws.split_free x c q hq
theorem split_S (x : Str) (c : Nat) : Txt.split x ⟨#[c]⟩ = (splitL c (lc x)).map S := by
  rw [← split_lc, List.map_map]
  conv => lhs; rw [← List.map_id (Txt.split x ⟨#[c]⟩)]
  exact List.map_congr_left fun p _ => (S_lc p).symm
theorem splitL_length (c : Nat) : ∀ l, (splitL c l).length ≤ l.length + 1
  | [] => by simp [splitL]
  | a :: r => by
    have ih := splitL_length c r
    unfold splitL
    split
    · simp; exact ih
    · split
      · simp
      · rename_i q qs hq
        rw [hq] at ih
        simp at ih ⊢
        omega
theorem q1_is : Str.ofString "'" = ⟨#[39]⟩ := by decide
theorem q2_is : Str.ofString "\"" = ⟨#[34]⟩ := by decide
theorem sep_is : Str.ofString " \"'\" " = ⟨#[32, 34, 39, 34, 32]⟩ := by decide
theorem len_q1 : (Str.ofString "'").length = 1 := by decide
theorem len_q2 : (Str.ofString "\"").length = 1 := by decide
theorem split_len (x : Str) : (Txt.split x (Str.ofString "'")).length ≤ x.length + 1 := by
  rw [q1_is, split_S, List.length_map]
  have := splitL_length 39 (lc x)
  rw [lc_length] at this
  exact this

def quote (a : Str) : Str := Str.ofString "'" ++ a ++ Str.ofString "'"
def noQ (q x : Str) : Bool := (Builtin.Str.occurrences x q 0 x.length 1).isEmpty
def shownText (x : Str) : Str :=
  if noQ (Str.ofString "'") x then Str.ofString "'" ++ x ++ Str.ofString "'"
  else if noQ (Str.ofString "\"") x then Str.ofString "\"" ++ x ++ Str.ofString "\""
  else Txt.join (Str.ofString " \"'\" ") ((Txt.split x (Str.ofString "'")).map quote)

def qstep (st : List Str × Str) (c : Int) : List Str × Str := if c = 39 then (st.1 ++ [quote st.2], Str.ofString "") else (st.1, st.2 ++ ⟨#[c.toNat]⟩)
def qfold (l : List Int) : List Str × Str := l.foldl qstep ([], Str.ofString "")
theorem qfold_snoc (l : List Int) (c : Int) : qfold (l ++ [c]) = qstep (qfold l) c := by
  unfold qfold; rw [List.foldl_append]; rfl
theorem len_quote (a : Str) : (quote a).length = a.length + 2 := by
  unfold quote; rw [Str.length_append, Str.length_append, len_q1]; omega
theorem len_empty : (Str.ofString "").length = 0 := by decide
theorem qfold_len' (l : List Int) : ∀ st : List Str × Str, (((l.foldl qstep st).1.map (·.length)).sum + (l.foldl qstep st).2.length ≤ (st.1.map (·.length)).sum + st.2.length + 3 * l.length) ∧ (l.foldl qstep st).2.length ≤ st.2.length + l.length ∧ (l.foldl qstep st).1.length ≤ st.1.length + l.length := by
  induction l with
  | nil => intro st; simp
  | cons c l ih =>
    intro st
    obtain ⟨h1, h2, h3⟩ := ih (qstep st c)
    rw [List.foldl_cons]
    have k1 : ((qstep st c).1.map (·.length)).sum + (qstep st c).2.length ≤ (st.1.map (·.length)).sum + st.2.length + 3 ∧ (qstep st c).2.length ≤ st.2.length + 1 ∧ (qstep st c).1.length ≤ st.1.length + 1 := by
      unfold qstep
      split
      · simp only [List.map_append, List.map_cons, List.map_nil, List.sum_append, List.sum_cons, List.sum_nil, len_quote, len_empty, List.length_append, List.length_cons, List.length_nil]
        omega
      · have : (⟨#[c.toNat]⟩ : Str).length = 1 := rfl
        simp only [Str.length_append, this]
        omega
    simp only [List.length_cons]
    omega
theorem qfold_len (l : List Int) : (((qfold l).1.map (·.length)).sum + (qfold l).2.length ≤ 3 * l.length) ∧ (qfold l).2.length ≤ l.length ∧ (qfold l).1.length ≤ l.length := by
  have := qfold_len' l ([], Str.ofString "")
  unfold qfold; simpa [len_empty] using this

def mapPre (part : Str) : List (List Nat) → List Str
  | [] => []
  | p :: r => (part ++ S p) :: r.map S
theorem S_nil : S [] = Str.ofString "" := by decide
theorem app_Snil (a : Str) : a ++ S [] = a := Str.append_empty a
theorem nil_app (a : Str) : Str.ofString "" ++ a = a := by rw [← S_nil]; exact Str.empty_append a
theorem mapPre_nil (L : List (List Nat)) : mapPre (Str.ofString "") L = L.map S := by
  cases L with
  | nil => rfl
  | cons p r => show (Str.ofString "" ++ S p) :: r.map S = _; rw [nil_app]; rfl
theorem qfold_split (l : List Nat) : ∀ (ps : List Str) (part : Str), ((l.map (fun (c : Nat) => (c : Int)) ++ [39]).foldl qstep (ps, part)).1 = ps ++ (mapPre part (splitL 39 l)).map quote := by
  induction l with
  | nil =>
    intro ps part
    show ps ++ [quote part] = ps ++ [quote (part ++ S [])]
    rw [app_Snil]
  | cons a r ih =>
    intro ps part
    rw [List.map_cons, List.cons_append, List.foldl_cons]
    by_cases h : a = 39
    · subst h
      have e1 : qstep (ps, part) ((39 : Nat) : Int) = (ps ++ [quote part], Str.ofString "") := by unfold qstep; rw [if_pos (by rfl)]
      rw [e1, ih, mapPre_nil, splitL, if_pos rfl]
      show _ = ps ++ (quote (part ++ S []) :: _)
      rw [app_Snil]; simp
    · have e1 : qstep (ps, part) (a : Int) = (ps, part ++ S [a]) := by
        unfold qstep
        rw [if_neg (by omega)]
        rfl
      rw [e1, ih, splitL, if_neg h]
      cases hq : splitL 39 r with
      | nil => exact absurd hq (splitL_ne 39 r)
      | cons p qs =>
        show ps ++ (quote (part ++ S [a] ++ S p) :: _) = ps ++ (quote (part ++ S (a :: p)) :: _)
        have : S (a :: p) = S [a] ++ S p := by rw [← S_append]; rfl
        rw [this, Str.append_assoc]
theorem quoted_pieces (x : Str) : (qfold (KStt.codes (x ++ Str.ofString "'"))).1 = (Txt.split x (Str.ofString "'")).map quote := by
  have e : KStt.codes (x ++ Str.ofString "'") = (lc x).map (fun (c : Nat) => (c : Int)) ++ [39] := by
    show (x ++ Str.ofString "'").cps.toList.map _ = _
    rw [Str.cps_append, Array.toList_append, List.map_append]
    rfl
  rw [e]
  unfold qfold
  rw [qfold_split, mapPre_nil, q1_is, split_S]; rfl

/-! the tokens of a shown text -/
def tok (q : Nat × List Nat) : List Nat := q.1 :: q.2 ++ [q.1]
def enc (ts : List (Nat × List Nat)) : List Nat := jl [32] (ts.map tok)
def bodies (ts : List (Nat × List Nat)) : List Nat := ts.flatMap (·.2)
def okTok (q : Nat × List Nat) : Prop := (q.1 = 39 ∨ q.1 = 34) ∧ q.1 ∉ q.2
def between : List (List Nat) → List (Nat × List Nat)
  | [] => []
  | [p] => [(39, p)]
  | p :: q :: r => (39, p) :: (34, [39]) :: between (q :: r)
theorem between_ne : ∀ {P : List (List Nat)}, P ≠ [] → between P ≠ []
  | [], h => absurd rfl h
  | [p], _ => by simp [between]
  | p :: q :: r, _ => by simp [between]
theorem between_ok : ∀ {P : List (List Nat)}, (∀ p ∈ P, 39 ∉ p) → ∀ t ∈ between P, okTok t
  | [], _ => by intro t ht; simp [between] at ht
  | [p], h => by intro t ht; simp [between] at ht; subst ht; exact ⟨.inl rfl, h p (by simp)⟩
  | p :: q :: r, h => by
    intro t ht
    simp only [between, List.mem_cons] at ht
    rcases ht with rfl | rfl | ht
    · exact ⟨.inl rfl, h p (by simp)⟩
    · exact ⟨.inr rfl, by simp⟩
    · exact between_ok (fun x hx => h x (List.mem_cons_of_mem _ hx)) t ht
theorem between_bodies : ∀ {P : List (List Nat)}, P ≠ [] → bodies (between P) = jl [39] P
  | [], h => absurd rfl h
  | [p], _ => by simp [between, bodies, jl]
  | p :: q :: r, _ => by
    show p ++ ([39] ++ bodies (between (q :: r))) = p ++ [39] ++ jl [39] (q :: r)
    rw [between_bodies (by simp)]; simp
theorem jl_cons2 (sep p : List Nat) {r : List (List Nat)} (h : r ≠ []) : jl sep (p :: r) = p ++ sep ++ jl sep r := by
  cases r with
  | nil => exact absurd rfl h
  | cons q r => rfl
theorem between_enc : ∀ {P : List (List Nat)}, P ≠ [] → enc (between P) = jl [32, 34, 39, 34, 32] (P.map fun p => 39 :: p ++ [39])
  | [], h => absurd rfl h
  | [p], _ => rfl
  | p :: q :: r, _ => by
    have ih := between_enc (P := q :: r) (by simp)
    have hne : (between (q :: r)).map tok ≠ [] := by
      intro h
      exact between_ne (P := q :: r) (by simp) (by simpa using h)
    show jl [32] (tok (39, p) :: tok (34, [39]) :: (between (q :: r)).map tok) = (39 :: p ++ [39]) ++ [32, 34, 39, 34, 32] ++ jl [32, 34, 39, 34, 32] ((q :: r).map fun p => 39 :: p ++ [39])
    rw [← ih, jl_cons2 _ _ (by simp), jl_cons2 _ _ hne]
    show _ = _ ++ _ ++ jl [32] ((between (q :: r)).map tok)
    simp [tok]
def toks (x : Str) : List (Nat × List Nat) :=
  if noQ (Str.ofString "'") x then [(39, lc x)] else if noQ (Str.ofString "\"") x then [(34, lc x)] else between (splitL 39 (lc x))
theorem noQ_mem (c : Nat) (x : Str) : noQ ⟨#[c]⟩ x = !decide (c ∈ lc x) := by
  unfold noQ
  have := StrLaws.found_one x c
  rw [← Bool.not_not (Builtin.Str.occurrences x ⟨#[c]⟩ 0 x.length 1).isEmpty, this]; rfl
theorem toks_ne (x : Str) : toks x ≠ [] := by
  unfold toks
  split
  · simp
  · split
    · simp
    · exact between_ne (splitL_ne 39 _)
theorem toks_ok (x : Str) : ∀ t ∈ toks x, okTok t := by
  unfold toks
  rw [q1_is, q2_is, noQ_mem, noQ_mem]
  split
  · rename_i h
    intro t ht
    simp only [List.mem_cons, List.not_mem_nil, or_false] at ht
    subst ht
    exact ⟨.inl rfl, by simpa using h⟩
  · split
    · rename_i h
      intro t ht
      simp only [List.mem_cons, List.not_mem_nil, or_false] at ht
      subst ht
      exact ⟨.inr rfl, by simpa using h⟩
    · exact between_ok (splitL_mem 39 _)
theorem toks_bodies (x : Str) : bodies (toks x) = lc x := by
  unfold toks
  split
  · simp [bodies]
  · split
    · simp [bodies]
    · rw [between_bodies (splitL_ne 39 _), jl_splitL]
theorem lc_quote (a : Str) : lc (quote a) = 39 :: lc a ++ [39] := by
  unfold quote
  rw [lc_append, lc_append]; rfl
theorem toks_enc (x : Str) : lc (shownText x) = enc (toks x) := by
  unfold toks shownText
  split
  · rw [lc_append, lc_append]; rfl
  · split
    · rw [lc_append, lc_append]; rfl
    · rw [lc_Join, between_enc (splitL_ne 39 _), q1_is, split_S, List.map_map, List.map_map]
      refine congrArg (jl [32, 34, 39, 34, 32]) (List.map_congr_left fun p _ => ?_)
      show lc (quote (S p)) = _
      rw [lc_quote]; rfl
theorem shown_len (x : Str) (h : x.length ≤ 5) : (shownText x).length ≤ 50 := by
  unfold shownText
  split
  · rw [Str.length_append, Str.length_append, len_q1]; omega
  · split
    · rw [Str.length_append, Str.length_append, len_q2]; omega
    · have h1 := StrLaws.join_length_le (Str.ofString " \"'\" ") ((Txt.split x (Str.ofString "'")).map quote)
      have h2 := split_len x
      have h3 := qfold_len (KStt.codes (x ++ Str.ofString "'"))
      rw [quoted_pieces, KStt.codes_length, Str.length_append, len_q1] at h3
      have h4 : (Str.ofString " \"'\" ").length = 5 := by decide
      show (Builtin.Str.glued _ _).length ≤ _
      rw [StrLaws.glued_eq_join]
      rw [h4] at h1
      have h5 := h3.2.2
      omega
end Mine
end
section
open PySem PySem.W PySem.Calls PyProof.Rows
namespace Mine
theorem item_at {wr : Str} {k c : Nat} (h : (lc wr)[k]? = some c) : Txt.item wr (k : Int) = S [c] := by
  have hk : k < wr.length := by
    have := (List.getElem?_eq_some_iff.mp h).1
    rw [lc_length] at this; exact this
  have e1 : wr.cps[k]? = some c := by rw [← Array.getElem?_toList]; exact h
  have e2 : Txt.charAt wr (k : Int) = some c := by
    unfold Txt.charAt
    have : seqIndex? (k : Int) wr.length = some k := by
      unfold seqIndex?
      simp
      omega
    rw [this]
    exact e1
  unfold Txt.item
  rw [e2]; rfl
theorem find_at {wr : Str} {k e c : Nat} (hk : k + 1 ≤ e) (he : (lc wr)[e]? = some c) (hno : ∀ i, k + 1 ≤ i → i < e → (lc wr)[i]? ≠ some c) : Txt.find3 wr (S [c]) ((k : Int) + 1) = (e : Int) := by
  have hat : ∀ i, StrLaws.At wr ⟨#[c]⟩ wr.length i ↔ (lc wr)[i]? = some c := fun i => StrLaws.subAt_one wr c i
  have hf : fromIndex wr.length ((k : Int) + 1) = k + 1 := by
    unfold fromIndex
    rw [if_neg (by omega)]
    omega
  unfold Txt.find3
  rw [hf]
  show (match Builtin.Str.occurrences wr ⟨#[c]⟩ (k + 1) wr.length 1 with | k :: _ => (k : Int) | [] => -1) = _
  rcases StrLaws.occ_head_from wr ⟨#[c]⟩ (k + 1) 1 (Nat.le_refl 1) with ⟨h0, hn⟩ | ⟨i, r, h0, hlo, hi, hn⟩
  · exact absurd ((hat e).mpr he) (hn e hk)
  · rw [h0]
    have hi' := (hat i).mp hi
    have : i = e := by
      rcases Nat.lt_trichotomy i e with h | h | h
      · exact absurd hi' (hno i hlo h)
      · exact h
      · exact absurd ((hat e).mpr he) (hn e hk h)
    rw [this]
theorem slice_at {wr : Str} {i j : Nat} (hij : i ≤ j) (hj : j ≤ wr.length) : Txt.slice wr (some (i : Int)) (some (j : Int)) = S (((lc wr).drop i).take (j - i)) := by
  have h := slice_closes (x := wr) (i := (i : Int)) (j := (j : Int)) ⟨by omega, by omega, by rw [show wr.cps.toList.length = wr.length from lc_length wr]; omega⟩
  have h2 := beq_iff_eq.mp h
  rw [h2]
  have e1 : (i : Int).toNat = i := Int.toNat_natCast i
  have e2 : ((j : Int) - (i : Int)).toNat = j - i := by omega
  rw [e1, e2]; rfl
def tail32 : List (Nat × List Nat) → List Nat
  | [] => []
  | t :: r => 32 :: enc (t :: r)
theorem enc_cons (t : Nat × List Nat) (r : List (Nat × List Nat)) : enc (t :: r) = tok t ++ tail32 r := by
  cases r with
  | nil => simp [enc, jl, tail32]
  | cons u v =>
    show jl [32] (tok t :: (u :: v).map tok) = _
    rw [jl_cons2 _ _ (by simp)]
    simp [tail32, enc]
theorem enc_ne {t : Nat × List Nat} {r : List (Nat × List Nat)} : 0 < (enc (t :: r)).length := by
  rw [enc_cons]; simp [tok]
theorem step_facts {wr : Str} {k q : Nat} {b : List Nat} {r : List (Nat × List Nat)} (hd : (lc wr).drop k = enc ((q, b) :: r)) (hok : okTok (q, b)) :
    Txt.item wr (k : Int) = S [q] ∧ Txt.find3 wr (S [q]) ((k : Int) + 1) = ((k + 1 + b.length : Nat) : Int) ∧ Txt.slice wr (some ((k : Int) + 1)) (some ((k + 1 + b.length : Nat) : Int)) = S b ∧ k + 1 + b.length + 1 ≤ wr.length ∧ (lc wr).drop (k + 1 + b.length + 1) = tail32 r := by
  rw [enc_cons] at hd
  have hd' : (lc wr).drop k = q :: b ++ [q] ++ tail32 r := hd
  have hat : ∀ i, (lc wr)[k + i]? = (q :: b ++ [q] ++ tail32 r)[i]? := fun i => by rw [← hd', List.getElem?_drop]
  have hq : (lc wr)[k]? = some q := by have := hat 0; simpa using this
  have he : (lc wr)[k + 1 + b.length]? = some q := by
    have := hat (1 + b.length)
    rw [← Nat.add_assoc] at this
    rw [this]
    simp [Nat.add_comm 1]
  have hlen := congrArg List.length hd'
  rw [List.length_drop, lc_length] at hlen
  simp only [List.length_append, List.length_cons, List.length_nil] at hlen
  refine ⟨item_at hq, find_at (by omega) he ?_, ?_, by omega, ?_⟩
  · intro i h1 h2 h3
    have h4 := hat (i - k)
    rw [show k + (i - k) = i by omega, h3] at h4
    have h5 : (q :: b ++ [q] ++ tail32 r)[i - k]? = b[i - k - 1]? := by
      have : i - k = (i - k - 1) + 1 := by omega
      rw [this]
      simp only [List.cons_append, List.getElem?_cons_succ]
      rw [List.append_assoc, List.getElem?_append_left (by omega)]
      congr 1
    rw [h5] at h4
    exact hok.2 (List.mem_of_getElem? h4.symm)
  · have := slice_at (wr := wr) (i := k + 1) (j := k + 1 + b.length) (by omega) (by omega)
    rw [show ((k : Int) + 1) = ((k + 1 : Nat) : Int) by omega, this]
    have e1 : (lc wr).drop (k + 1) = b ++ [q] ++ tail32 r := by
      rw [← List.drop_drop, hd']; rfl
    rw [e1, show k + 1 + b.length - (k + 1) = b.length by omega, List.append_assoc, List.take_left]
  · have e1 : (lc wr).drop (k + 1 + b.length + 1) = ((lc wr).drop k).drop (1 + b.length + 1) := by
      rw [List.drop_drop]; congr 1; omega
    rw [e1, hd']
    have : (q :: b ++ [q]).length = 1 + b.length + 1 := by simp; omega
    rw [← this, List.drop_left]
theorem quote_in (q : Nat) (h : q = 39 ∨ q = 34) : (Builtin.Str.occurrences (Str.ofString "'\"") (S [q]) 0 (Str.ofString "'\"").length 1).isEmpty = false := by
  rcases h with rfl | rfl <;> decide +kernel
theorem blank_is : Str.ofString " " = S [32] := by decide
theorem turn_facts {wr : Str} {k : Nat} {rem : List (Nat × List Nat)} (hd : (lc wr).drop k = enc rem) (hok : ∀ t ∈ rem, okTok t) (hk : (k : Int) < (wr.length : Int)) :
    ∃ q b r, rem = (q, b) :: r ∧ (q = 39 ∨ q = 34) ∧ Txt.item wr (k : Int) = S [q] ∧ Txt.find3 wr (Txt.item wr (k : Int)) ((k : Int) + 1) = ((k + 1 + b.length : Nat) : Int) ∧ Txt.slice wr (some ((k : Int) + 1)) (some (Txt.find3 wr (Txt.item wr (k : Int)) ((k : Int) + 1))) = S b ∧ k + 1 + b.length + 1 ≤ wr.length ∧ (lc wr).drop (k + 1 + b.length + 1) = tail32 r := by
  cases rem with
  | nil =>
    exfalso
    have := congrArg List.length hd
    rw [List.length_drop, lc_length] at this
    simp [enc, jl] at this
    omega
  | cons t r =>
    obtain ⟨q, b⟩ := t
    have ho := hok (q, b) (by simp)
    obtain ⟨h1, h2, h3, h4, h5⟩ := step_facts hd ho
    refine ⟨q, b, r, rfl, ho.1, h1, ?_, ?_, h4, h5⟩
    · rw [h1]; exact h2
    · rw [h1, h2]; exact h3
theorem more_facts {wr : Str} {e : Nat} {r : List (Nat × List Nat)} (hd : (lc wr).drop (e + 1) = tail32 r) (hl : (e : Int) + 1 < (wr.length : Int)) :
    Txt.item wr ((e : Int) + 1) = S [32] ∧ (lc wr).drop (e + 2) = enc r ∧ e + 2 < wr.length := by
  cases r with
  | nil =>
    exfalso
    have := congrArg List.length hd
    rw [List.length_drop, lc_length] at this
    simp [tail32] at this
    omega
  | cons t r =>
    have hd' : (lc wr).drop (e + 1) = 32 :: enc (t :: r) := hd
    have h1 : (lc wr)[e + 1]? = some 32 := by
      have : ((lc wr).drop (e + 1))[0]? = some 32 := by rw [hd']; rfl
      rw [List.getElem?_drop] at this
      exact this
    refine ⟨item_at h1, ?_, ?_⟩
    · have : (lc wr).drop (e + 2) = ((lc wr).drop (e + 1)).drop 1 := by rw [List.drop_drop]
      rw [this, hd']; rfl
    · have := congrArg List.length hd'
      rw [List.length_drop, lc_length] at this
      have h2 := enc_ne (t := t) (r := r)
      simp only [List.length_cons] at this
      omega
theorem last_facts {wr : Str} {e : Nat} {r : List (Nat × List Nat)} (hd : (lc wr).drop (e + 1) = tail32 r) (hl : ¬ (e : Int) + 1 < (wr.length : Int)) : r = [] := by
  cases r with
  | nil => rfl
  | cons t r =>
    exfalso
    have := congrArg List.length hd
    rw [List.length_drop, lc_length] at this
    simp only [tail32, List.length_cons] at this
    omega
theorem end_facts {wr : Str} {k : Nat} {rem : List (Nat × List Nat)} (hd : (lc wr).drop k = enc rem) (hk : ¬ (k : Int) < (wr.length : Int)) : rem = [] := by
  cases rem with
  | nil => rfl
  | cons t r =>
    exfalso
    have := congrArg List.length hd
    have h2 := enc_ne (t := t) (r := r)
    rw [List.length_drop, lc_length] at this
    omega
theorem bodies_snoc (dn : List (Nat × List Nat)) (q : Nat) (b : List Nat) : S (bodies (dn ++ [(q, b)])) = S (bodies dn) ++ S b := by
  rw [← S_append]
  simp [bodies]
end Mine
end
section
open PySem PySem.W PySem.Calls PyProof.Rows
namespace Mine
noncomputable abbrev LL : List Str := looseW hd.view_39 [Str.ofString "SnobolError"] ++ List.map (fun x => x.name) (recsOf hd.view_39) ++ List.map (fun x => x.fst) (litsOf hd.view_39) ++ List.map (fun x => x.name) (clssOf hd.view_39 (looseW hd.view_39 [Str.ofString "SnobolError"]))
end Mine
end
section
open PySem PySem.W PySem.Calls PyProof.Rows
namespace Mine
inductive Take (a : Addr × Obj) : List (Addr × Obj) → List (Addr × Obj) → Prop
  | head {l} : Take a (a :: l) l
  | tail {x l l'} : Take a l l' → Take a (x :: l) (x :: l')
theorem Take.mem {a : Addr × Obj} {l l' : List (Addr × Obj)} (t : Take a l l') : a ∈ l ∧ ∀ p ∈ l', p ∈ l := by
  induction t with
  | head => exact ⟨.head _, fun p hp => .tail _ hp⟩
  | tail _ ih => exact ⟨.tail _ ih.1, fun p hp => by
      cases hp with
      | head => exact .head _
      | tail _ hp => exact .tail _ (ih.2 p hp)⟩

theorem take_news {h₀ h : Heap} {L : Addr} {news r1 rest : List (Addr × Obj)} {x y : Addr × Obj} (N : News h₀ L h news) (t1 : Take x news r1) (t2 : Take y r1 rest) : News h₀ L h (x :: y :: rest) := fun p hp => N p (by
  rcases List.mem_cons.mp hp with rfl | hp
  · exact t1.mem.1
  · rcases List.mem_cons.mp hp with rfl | hp
    · exact t1.mem.2 _ t2.mem.1
    · exact t1.mem.2 _ (t2.mem.2 _ hp))
section
local macro_rules | `(tactic| k_all) => `(tactic| assumption)
set_option maxRecDepth 100000 in
set_option maxHeartbeats 8000000 in
theorem next_core : ∀ {w : World} {mean : ExcName → Option Value} {mg mb : Str → Option Value} {dp un : Nat} {gd : Option (List Code)} {cn : Str} {cs : Scope} {a : Addr} {ccd : Value} {cl : List (Str × Addr)} {outer : List Env} {A₀ : Around} {base h₀ : Heap} {L : Addr} {m : Str → Option Value} {s : Shared}
    {Q E : Value → Shared → Prop} {th b : Addr} {t : Int} {tk tkm : Tok} {n n2 : Nat} {vs : List Value} {ns : List Int} {rest : List (Addr × Obj)} {many : Int},
    Below A₀ base outer h₀ → Fr h₀ L s.heap m → (hd.heap_39 w.params).In h₀ → News h₀ L s.heap ((th, listOf #[.int t tk, .ref b] n) :: (b, listOf vs.toArray n2) :: rest) → Top topProg LL mean mg mb h₀ → cs.kind = .function →
    b ≠ th → (∀ p ∈ rest, p.1 ≠ th) → IntsAre vs ns → ns.length ≤ 63 → 0 ≤ t → t ≤ 100 → 0 < many → many ≤ 1000 → dp < 950 → un < 1200 →
    (∀ r tk1 tk2 h' tk', 0 ≤ r → r < many → Fr h₀ L h' m → News h₀ L h' ((th, listOf #[.int (t+1) tk2, .ref b] n) :: (b, listOf vs.toArray n2) :: rest) → Q (.int r tk1) { s with heap := h', toks := tk' }) →
    wpAny (model PySem.Challenge.rw_pf0367_01.row.prog w) (ktrTop dp un gd cn cs L a ccd cl outer) (call (.ref 220) [.ref th, .int many tkm]) Q E s := by
  k_fill
  w_top off
  intro w mean mg mb dp un gd cn cs a ccd cl outer A₀ base h₀ L m s Q E th b t tk tkm n n2 vs ns rest many B F X N T hk hne hrest hI hlen ht0 ht1 hm0 hm1 hdp hun ret
  refine wpAny_call ?_
  k_dflt ktr_enter
  k_steps
  all_goals (try k_data)
  all_goals exact ret _ _ _ _ _ (fmod_lo _ hm0) (fmod_hi _ hm0) (by k_asm) (by k_asm)
end
theorem next_use {w : World} {mean : ExcName → Option Value} {mg mb : Str → Option Value} {dp un : Nat} {gd : Option (List Code)} {cn : Str} {cs : Scope} {a : Addr} {ccd : Value} {cl : List (Str × Addr)} {outer : List Env} {A₀ : Around} {base h₀ : Heap} {L : Addr} {m : Str → Option Value} {s : Shared}
    {Q E : Value → Shared → Prop} {th b : Addr} {t : Int} {tk tkm : Tok} {n n2 : Nat} {vs : List Value} {ns : List Int} {news r1 rest : List (Addr × Obj)} {many : Int}
    (B : Below A₀ base outer h₀) (F : Fr h₀ L s.heap m) (X : (hd.heap_39 w.params).In h₀) (N : News h₀ L s.heap news) (T : Top topProg LL mean mg mb h₀) (hk : cs.kind = .function)
    (t1 : Take (th, listOf #[.int t tk, .ref b] n) news r1) (t2 : Take (b, listOf vs.toArray n2) r1 rest)
    (hne : b ≠ th) (hrest : ∀ p ∈ rest, p.1 ≠ th) (hI : IntsAre vs ns) (hlen : ns.length ≤ 63) (ht0 : 0 ≤ t) (ht1 : t ≤ 100) (hm0 : 0 < many) (hm1 : many ≤ 1000) (hdp : dp < 950) (hun : un < 1200)
    (ret : ∀ r tk1 tk2 h' tk', 0 ≤ r → r < many → Fr h₀ L h' m → News h₀ L h' ((th, listOf #[.int (t+1) tk2, .ref b] n) :: (b, listOf vs.toArray n2) :: rest) → Q (.int r tk1) { s with heap := h', toks := tk' }) :
    wpAny (model PySem.Challenge.rw_pf0367_01.row.prog w) (ktrTop dp un gd cn cs L a ccd cl outer) (call (.ref 220) [.ref th, .int many tkm]) Q E s := by
  have N2 : News h₀ L s.heap ((th, listOf #[.int t tk, .ref b] n) :: (b, listOf vs.toArray n2) :: rest) := take_news N t1 t2
  exact next_core B F X N2 T hk hne hrest hI hlen ht0 ht1 hm0 hm1 hdp hun ret
end Mine
end
section
open PySem PySem.W PySem.Calls PyProof.Rows
namespace Mine
theorem strs_snoc {us : List Value} {ws : List Str} {x : Str} {t : Tok} (h : StrsAre us ws) : StrsAre (us ++ [.str x t]) (ws ++ [x]) := KStt.strs_snoc h
section
variable {prog : Program} {w : World} {A : Around} {h₀ : Heap} {L : Addr} {m : Str → Option Value} {env : Env} {elt : Expr} {x : Str} {scope : Scope} {cl : List (Str × Addr)} {s : Shared} {P : Nat → Value → Prop} {Fin : List Value → List (Addr × Obj) → Prop}
theorem comp_text {n : Nat} {t0 : Int} (T : Int → Tok → List (Addr × Obj))
    (turn : ∀ (i : Nat) (t : Int) (tk : Tok) v I oI C oC D m₂ ys h tkk (E' : Value → Shared → Prop), t0 ≤ t → t < t0 + (n : Int) → P i v → LCg.NsObj oC m₂ → m₂ x = some v → Fr h₀ L h m → News h₀ L h ((I, oI) :: (C, oC) :: (D, LCg.lst ys) :: T t tk) → LCg.Off3 I C D (T t tk) → ((@Ne Nat I C) ∧ (@Ne Nat I D) ∧ (@Ne Nat C D)) →
      wpAny (model prog w) A (eval elt (compEnvC scope cl C env)) (LCg.CompEnd h₀ L m { s with heap := h, toks := tkk } I oI C oC D (LCg.lst ys) (fun _ => True) (fun y news' => ∃ (ch : Str) (tk' tk2 : Tok), y = .str ch tk' ∧ ch.length = 1 ∧ news' = T (t + 1) tk2)) E' { s with heap := h, toks := tkk })
    (fin : ∀ ys txts tk, StrsAre ys txts → (∀ a ∈ txts, Str.length a = 1) → txts.length = n → Fin ys (T (t0 + (n : Int)) tk)) (tk : Tok) :
    LCg.CompRest prog w A h₀ L m env elt x scope cl s (fun _ => True) P Fin n 0 [] (T t0 tk) := by
  have key : ∀ (j i : Nat) (ys : List Value) (txts : List Str) (tk : Tok), i + j = n → StrsAre ys txts → (∀ a ∈ txts, Str.length a = 1) → txts.length = i → LCg.CompRest prog w A h₀ L m env elt x scope cl s (fun _ => True) P Fin j i ys (T (t0 + (i : Int)) tk) := by
    intro j
    induction j with
    | zero =>
      intro i ys txts tk hi hS h1 hl
      have : i = n := by omega
      subst this
      exact LCg.CompRest.zero (fin ys txts tk hS h1 hl)
    | succ j ih =>
      intro i ys txts tk hi hS h1 hl
      refine LCg.CompRest.succ ?_
      intro v I oI C oC D m₂ h tkk E' hv hC hx F N off ne
      refine wpAny_mono (turn i _ tk v I oI C oC D m₂ ys h tkk E' (by omega) (by omega) hv hC hx F N off ne) (fun y s₂ hq => ?_) fun _ _ e => e
      obtain ⟨h', tk', nw, e, F', N', off', hS', ch, tk1, tk2, rfl, hc, rfl⟩ := hq
      refine ⟨h', tk', _, e, F', N', off', hS', ?_⟩
      have e9 : t0 + ((i + 1 : Nat) : Int) = t0 + (i : Int) + 1 := by omega
      rw [← e9]
      refine ih (i + 1) _ (txts ++ [ch]) _ (by omega) (strs_snoc hS) ?_ (by simp [hl])
      intro a ha
      rcases List.mem_append.mp ha with h | h
      · exact h1 a h
      · rw [List.mem_singleton.mp h]; exact hc
  have := key n 0 [] [] tk (by omega) .nil (fun a ha => nomatch ha) rfl
  simpa using this
end
theorem ones_tot {l : List Str} (h : ∀ a ∈ l, Str.length a = 1) (hl : l.length ≤ 4) : (l.map (·.length)).sum + l.length * (Str.ofString "").length ≤ 16777216 := by
  rw [sumLen_of_ones l h, len_empty]; omega
theorem join_len {l : List Str} (h : ∀ a ∈ l, Str.length a = 1) (hl : l.length ≤ 4) : (Txt.join (Str.ofString "") l).length ≤ 4 := by
  rw [KT.join_ones l h]; exact hl
section
local macro_rules | `(tactic| ktd_sub) => `(tactic| ((repeat (refine List.forall_mem_cons.mpr ⟨by k_mem, ?_⟩)); first | exact List.forall_mem_nil _ | (intro p9 h9; (repeat (first | exact h9 | refine List.Mem.tail _ ?_)))))
local macro_rules | `(tactic| k_all) => `(tactic| assumption)

set_option maxRecDepth 100000 in
set_option maxHeartbeats 8000000 in
theorem text_core : ∀ {w : World} {mean : ExcName → Option Value} {mg mb : Str → Option Value} {dp un : Nat} {gd : Option (List Code)} {cn : Str} {cs : Scope} {a : Addr} {ccd : Value} {cl : List (Str × Addr)} {outer : List Env} {A₀ : Around} {base h₀ : Heap} {L : Addr} {m : Str → Option Value} {s : Shared}
    {Q E : Value → Shared → Prop} {th b : Addr} {t : Int} {tk : Tok} {n n2 : Nat} {vs : List Value} {ns : List Int} {rest : List (Addr × Obj)},
    Below A₀ base outer h₀ → Fr h₀ L s.heap m → (hd.heap_39 w.params).In h₀ → News h₀ L s.heap ((th, listOf #[.int t tk, .ref b] n) :: (b, listOf vs.toArray n2) :: rest) → Top topProg LL mean mg mb h₀ → cs.kind = .function →
    b ≠ th → (∀ p ∈ rest, p.1 ≠ th) → IntsAre vs ns → ns.length ≤ 63 → 0 ≤ t → t ≤ 90 → dp < 900 → un < 1000 →
    (∀ x t' tk1 tk2 h' tk', Str.length x ≤ 4 → t ≤ t' → t' ≤ t + 5 → Fr h₀ L h' m → News h₀ L h' ((th, listOf #[.int t' tk2, .ref b] n) :: (b, listOf vs.toArray n2) :: rest) → Q (.str x tk1) { s with heap := h', toks := tk' }) →
    wpAny (model PySem.Challenge.rw_pf0367_01.row.prog w) (ktrTop dp un gd cn cs L a ccd cl outer) (call (.ref 225) [.ref th]) Q E s := by
  k_fill
  w_top off
  intro w mean mg mb dp un gd cn cs a ccd cl outer A₀ base h₀ L m s Q E th b t tk n n2 vs ns rest B F X N T hk hne hrest hI hlen ht0 ht1 hdp hun ret
  refine wpAny_call ?_
  k_dflt (refine' code_defC ?k1 ?k2 ?k3 ?k4 ?k5 ?kA ?kF ?kK ?k6 ?k7 ?k8 ?k9 ?kB ?kD ?_ ?c2 ?c3 ?c4; (case kA => exact rfl); (case kF => exact rfl); (case kK => assumption); (case k1 => k_asm); (case k2 => k_asm); (case k3 => k_asm); (case k4 => k_asm); (case k5 => k_asm); (case k6 => k_is); (case k7 => k_is); (case k8 => ktr_room); (case k9 => exact BindsTo.of_eq rfl); (case kB => exact rfl); (case kD => decide +kernel); (case c2 => exact rfl); (case c3 => exact rfl); (case c4 => exact rfl); k_whole; intro g' L' h' tk' cells' FG' F' N' Y' B' X' T' l1; (try k_lt l1); k_cells Y'; (try simp only [List.cons_append, List.nil_append] at N'); (try dsimp only); (try k_lift B'); (try k_fold))
  repeat' (first | (fail_if_success (with_reducible show LCg.CompSrc _ _ _ _ _ _ _ _ _ _ _ _ _ _)); (first | (k_here; (with_reducible show wpAny _ _ (call (Value.ref 220) [_, _]) _ _ _); k_dflt (refine' next_use ?kB ?kF ?kX ?kN ?kT ?kK ?t1 ?t2 ?hb ?hr ?hI ?hl ?h0 ?h1 ?m0 ?m1 ?kd ?ku ?_; (case kB => k_asm); (case kF => k_asm); (case kX => k_asm); (case kN => k_asm); (case kT => k_asm); (case kK => first | exact rfl | assumption); (case t1 => (repeat' (first | exact Take.head | refine' Take.tail ?_))); (case t2 => (repeat' (first | exact Take.head | refine' Take.tail ?_))); (case hb => assumption); (case hr => k_all); (case hI => assumption); (case hl => assumption); (case h0 => omega); (case h1 => omega); (case m0 => decide); (case m1 => decide); (case kd => ktr_room); (case ku => ktr_units)); intro _ _ _ _ _ _ _ _ _; (try dsimp only); (try k_fold)) | (k_here; (with_reducible show wpAny _ _ (call (Value.builtin "str.join") [Value.str _ _, Value.ref _]) _ _ _); (with_reducible rename StrsAre _ _ => hS9); (refine join_list (by first | assumption | is_list | exact News.isList (by k_asm) (by k_mem)) hS9 (ones_tot (by assumption) (by assumption)) ?_); intro _ _) | (k_unfold; (try dsimp only)) | (k_end; wrow_close) | walk1 | (dsimp only; walk1) | (leave1; walk_say "STEP leave1"; try dsimp only) | fail "no step"))
  (try k_fmods)
  k_dflt (refine' LCg.CompSrc.range (by rfl) (by k_asm) (by k_asm) (by assumption) (by first | decide | exact small_one (by l_bnd) (by l_bnd) (by l_bnd) (by l_bnd)) (by first | exact rangeSize_nat _ _ | rfl) (by (rw [PySem.sizeLine_eq]; omega)) ?_)
  intro g9
  k_dflt (refine' comp_text (t0 := t + 1) (fun t tk => (th, listOf #[.int t tk, .ref b] n) :: (b, listOf vs.toArray n2) :: _) (fun i' t' tk' v' I' oI' C' oC' D' m' ys' h' tkk' E' hlo' hhi' hv' hC' hx' F' N' off' ne' => ?_) (fun ys' txts' tk' hS' h1' hn' => ?_) _)
  all_goals (try k_data)
  · have off2 := off'
    simp only [LCg.Off3, and_true] at off2
    repeat' (first | (k_here; (with_reducible show wpAny _ _ (call (Value.ref 220) [_, _]) _ _ _); k_dflt (refine' next_use ?kB ?kF ?kX ?kN ?kT ?kK ?t1 ?t2 ?hb ?hr ?hI ?hl ?h0 ?h1 ?m0 ?m1 ?kd ?ku ?_; (case kB => k_asm); (case kF => k_asm); (case kX => k_asm); (case kN => k_asm); (case kT => k_asm); (case kK => first | exact rfl | assumption); (case t1 => (repeat' (first | exact Take.head | refine' Take.tail ?_))); (case t2 => (repeat' (first | exact Take.head | refine' Take.tail ?_))); (case hb => assumption); (case hr => k_all); (case hI => assumption); (case hl => assumption); (case h0 => omega); (case h1 => omega); (case m0 => decide); (case m1 => decide); (case kd => ktr_room); (case ku => ktr_units)); intro _ _ _ _ _ _ _ _ _; (try dsimp only); (try k_fold)) | (k_here; (with_reducible show wpAny _ _ (call (Value.builtin "str.join") [Value.str _ _, Value.ref _]) _ _ _); (with_reducible rename StrsAre _ _ => hS9); (refine join_list (by first | assumption | is_list | exact News.isList (by k_asm) (by k_mem)) hS9 (ones_tot (by assumption) (by assumption)) ?_); intro _ _) | (k_unfold; (try dsimp only)) | (k_end; wrow_close) | walk1 | (dsimp only; walk1) | (leave1; walk_say "STEP leave1"; try dsimp only) | fail "no step")
    all_goals (try k_data)
    rename News _ _ _ _ => N9
    rename Fr _ _ _ _ => F9
    rename (Str.length (Txt.item _ _) = 1) => hL9
    refine' LCg.CompEnd.intro F9 N9 ((th, listOf #[.int (t' + 1) _, .ref b] n) :: (b, listOf vs.toArray n2) :: _) ?sub ?off trivial ⟨_, _, _, rfl, hL9, rfl⟩
    case off => exact off'
    case sub => ktd_sub
  · have htx : txts'.length ≤ 4 := by omega
    repeat' (first | (k_here; (with_reducible show wpAny _ _ (call (Value.ref 220) [_, _]) _ _ _); k_dflt (refine' next_use ?kB ?kF ?kX ?kN ?kT ?kK ?t1 ?t2 ?hb ?hr ?hI ?hl ?h0 ?h1 ?m0 ?m1 ?kd ?ku ?_; (case kB => k_asm); (case kF => k_asm); (case kX => k_asm); (case kN => k_asm); (case kT => k_asm); (case kK => first | exact rfl | assumption); (case t1 => (repeat' (first | exact Take.head | refine' Take.tail ?_))); (case t2 => (repeat' (first | exact Take.head | refine' Take.tail ?_))); (case hb => assumption); (case hr => k_all); (case hI => assumption); (case hl => assumption); (case h0 => omega); (case h1 => omega); (case m0 => decide); (case m1 => decide); (case kd => ktr_room); (case ku => ktr_units)); intro _ _ _ _ _ _ _ _ _; (try dsimp only); (try k_fold)) | (k_here; (with_reducible show wpAny _ _ (call (Value.builtin "str.join") [Value.str _ _, Value.ref _]) _ _ _); (with_reducible rename StrsAre _ _ => hS9); (refine join_list (by first | assumption | is_list | exact News.isList (by k_asm) (by k_mem)) hS9 (ones_tot (by assumption) (by assumption)) ?_); intro _ _) | (k_unfold; (try dsimp only)) | (k_end; wrow_close) | walk1 | (dsimp only; walk1) | (leave1; walk_say "STEP leave1"; try dsimp only) | fail "no step")
    all_goals (try k_data)
    rename News h₀ L _ _ => N9
    refine ret _ _ _ _ _ _ (join_len h1' htx) ?_ ?_ (by k_asm) (KStt.news_of N9 (by ktd_sub))
    · omega
    · omega
end
theorem text_use {w : World} {mean : ExcName → Option Value} {mg mb : Str → Option Value} {dp un : Nat} {gd : Option (List Code)} {cn : Str} {cs : Scope} {a : Addr} {ccd : Value} {cl : List (Str × Addr)} {outer : List Env} {A₀ : Around} {base h₀ : Heap} {L : Addr} {m : Str → Option Value} {s : Shared}
    {Q E : Value → Shared → Prop} {th b : Addr} {t : Int} {tk : Tok} {n n2 : Nat} {vs : List Value} {ns : List Int} {news r1 rest : List (Addr × Obj)}
    (B : Below A₀ base outer h₀) (F : Fr h₀ L s.heap m) (X : (hd.heap_39 w.params).In h₀) (N : News h₀ L s.heap news) (T : Top topProg LL mean mg mb h₀) (hk : cs.kind = .function)
    (t1 : Take (th, listOf #[.int t tk, .ref b] n) news r1) (t2 : Take (b, listOf vs.toArray n2) r1 rest)
    (hne : b ≠ th) (hrest : ∀ p ∈ rest, p.1 ≠ th) (hI : IntsAre vs ns) (hlen : ns.length ≤ 63) (ht0 : 0 ≤ t) (ht1 : t ≤ 90) (hdp : dp < 900) (hun : un < 1000)
    (ret : ∀ x t' tk1 tk2 h' tk', Str.length x ≤ 4 → t ≤ t' → t' ≤ t + 5 → Fr h₀ L h' m → News h₀ L h' ((th, listOf #[.int t' tk2, .ref b] n) :: (b, listOf vs.toArray n2) :: rest) → Q (.str x tk1) { s with heap := h', toks := tk' }) :
    wpAny (model PySem.Challenge.rw_pf0367_01.row.prog w) (ktrTop dp un gd cn cs L a ccd cl outer) (call (.ref 225) [.ref th]) Q E s :=
  text_core B F X (take_news N t1 t2) T hk hne hrest hI hlen ht0 ht1 hdp hun ret
end Mine
end
section
open PySem PySem.W PySem.Calls PyProof.Rows
namespace Mine
theorem piece_item {l : List (Str × Tok)} {text : Str} (hs : ∀ a ∈ l.map (·.1), a.length ≤ text.length) (ht : text.length ≤ 5) : ∀ a ∈ l.map (·.1), (Str.ofString "'" ++ a ++ Str.ofString "'").length ≤ 7 := by
  intro a ha
  have := hs a ha
  rw [Str.length_append, Str.length_append, len_q1]; omega
theorem piece_count {l : List (Str × Tok)} {text : Str} (e : l.map (·.1) = Txt.split text (Str.ofString "'")) (ht : text.length ≤ 5) : (l.map (·.1)).length ≤ 1048576 := by
  have := split_len text
  rw [e]; omega

section
local macro_rules | `(tactic| kln_le) => `(tactic| ((with_reducible rename (∀ a, a ∈ _ → Str.length a ≤ _) => hs9); exact Nat.le_trans (hs9 _ (by assumption)) (by assumption)))

set_option maxRecDepth 100000 in
set_option maxHeartbeats 8000000 in
theorem shown_text_ok : ∀ {w : World} {mean : ExcName → Option Value} {mg mb : Str → Option Value} {dp un : Nat} {gd : Option (List Code)} {cn : Str} {cs : Scope} {a : Addr} {ccd : Value} {cl : List (Str × Addr)} {outer : List Env} {A₀ : Around} {base h₀ : Heap} {L : Addr} {m : Str → Option Value} {s : Shared}
    {Q E : Value → Shared → Prop} {news : List (Addr × Obj)} {text : Str} {tk : Tok},
    Below A₀ base outer h₀ → Fr h₀ L s.heap m → (hd.heap_39 w.params).In h₀ → News h₀ L s.heap news → Top topProg LL mean mg mb h₀ → cs.kind = .function →
    text.length ≤ 5 → dp < 900 → un < 900 →
    (∀ tk1 h' tk', Fr h₀ L h' m → News h₀ L h' news → Q (.str (shownText text) tk1) { s with heap := h', toks := tk' }) →
    wpAny (model PySem.Challenge.rw_pf0367_01.row.prog w) (ktrTop dp un gd cn cs L a ccd cl outer) (call (.ref 199) [.str text tk]) Q E s := by
  k_fill
  w_top off
  intro w mean mg mb dp un gd cn cs a ccd cl outer A₀ base h₀ L m s Q E news text tk B F X N T hk hlen hdp hun ret
  refine wpAny_call ?_
  k_dflt ktr_enter
  repeat' (first | (k_here; (with_reducible show wpAny _ _ (call (Value.builtin "str.join") [Value.str _ _, Value.ref _]) _ _ _); (with_reducible rename CarriedAll _ _ => ktC); (try simp only [filter_true'] at ktC); (refine KT.join_B 7 (by first | assumption | is_list) ktC (piece_item (by assumption) (by assumption)) (piece_count (by assumption) (by assumption)) (by decide) ?_); intro _ _) | (k_unfold; (try dsimp only)) | (k_end; wrow_close) | walk1 | (dsimp only; walk1) | (leave1; walk_say "STEP leave1"; try dsimp only) | fail "no step")
  all_goals (try k_data)
  · rename (Builtin.Str.occurrences text (Str.ofString "'") 0 text.length 1).isEmpty = true => o1
    have e : shownText text = Str.ofString "'" ++ text ++ Str.ofString "'" := if_pos o1
    rw [e] at ret
    exact ret _ _ _ (by k_asm) (by k_asm)
  · rename (Builtin.Str.occurrences text (Str.ofString "'") 0 text.length 1).isEmpty = false => o1
    rename (Builtin.Str.occurrences text (Str.ofString "\"") 0 text.length 1).isEmpty = true => o2
    have e : shownText text = Str.ofString "\"" ++ text ++ Str.ofString "\"" := (if_neg (by unfold noQ; rw [o1]; exact Bool.false_ne_true)).trans (if_pos o2)
    rw [e] at ret
    exact ret _ _ _ (by k_asm) (by k_asm)
  · rename (Builtin.Str.occurrences text (Str.ofString "'") 0 text.length 1).isEmpty = false => o1
    rename (Builtin.Str.occurrences text (Str.ofString "\"") 0 text.length 1).isEmpty = false => o2
    rename List.map _ _ = Txt.split _ _ => e3
    have e : shownText text = Txt.join (Str.ofString " \"'\" ") ((Txt.split text (Str.ofString "'")).map quote) := (if_neg (by unfold noQ; rw [o1]; exact Bool.false_ne_true)).trans (if_neg (by unfold noQ; rw [o2]; exact Bool.false_ne_true))
    rw [e, ← e3] at ret
    exact ret _ _ _ (by k_asm) (by first | k_asm | exact KStt.news_of (by assumption) (fun p hp => List.Mem.tail _ hp) | exact KStt.news_of (by assumption) (fun p hp => List.Mem.tail _ (List.Mem.tail _ hp)))
end
theorem shown_text_use {w : World} {mean : ExcName → Option Value} {mg mb : Str → Option Value} {dp un : Nat} {gd : Option (List Code)} {cn : Str} {cs : Scope} {a : Addr} {ccd : Value} {cl : List (Str × Addr)} {outer : List Env} {A₀ : Around} {base h₀ : Heap} {L : Addr} {m : Str → Option Value} {s : Shared}
    {Q E : Value → Shared → Prop} {news : List (Addr × Obj)} {text : Str} {tk : Tok}
    (B : Below A₀ base outer h₀) (F : Fr h₀ L s.heap m) (X : (hd.heap_39 w.params).In h₀) (N : News h₀ L s.heap news) (T : Top topProg LL mean mg mb h₀) (hk : cs.kind = .function)
    (hl : text.length ≤ 5) (hdp : dp < 900) (hun : un < 900)
    (ret : ∀ tk1 h' tk', (shownText text).length ≤ 50 → Fr h₀ L h' m → News h₀ L h' news → Q (.str (shownText text) tk1) { s with heap := h', toks := tk' }) :
    wpAny (model PySem.Challenge.rw_pf0367_01.row.prog w) (ktrTop dp un gd cn cs L a ccd cl outer) (call (.ref 199) [.str text tk]) Q E s :=
  shown_text_ok B F X N T hk hl hdp hun fun tk1 h' tk' F' N' => ret tk1 h' tk' (shown_len text hl) F' N'
end Mine
end
section
open PySem PySem.W PySem.Calls PyProof.Rows
namespace Mine
theorem len_sep : (Str.ofString " \"'\" ").length = 5 := by decide
section
local macro_rules | `(tactic| size_fits) => `(tactic| (simp only [List.size_toArray, sizeLine_eq]; omega))
local macro_rules | `(tactic| k_all) => `(tactic| assumption)
local macro_rules | `(tactic| walk_at "exec For Name BinOp cons nil") => `(tactic| (k_here; (rename Fr _ _ _ _ => lF'); (with_unfolding_all refine' For_invVF lF' ?k1 ?k2 ?_; (case k1 => exact rfl); (case k2 => exact rfl); k_whole)))

set_option maxRecDepth 100000 in
set_option maxHeartbeats 8000000 in
theorem quoted_ok : ∀ {w : World} {mean : ExcName → Option Value} {mg mb : Str → Option Value} {dp un : Nat} {gd : Option (List Code)} {cn : Str} {cs : Scope} {a : Addr} {ccd : Value} {cl : List (Str × Addr)} {outer : List Env} {A₀ : Around} {base h₀ : Heap} {L : Addr} {m : Str → Option Value} {s : Shared}
    {Q E : Value → Shared → Prop} {news : List (Addr × Obj)} {text : Str} {tk : Tok},
    Below A₀ base outer h₀ → Fr h₀ L s.heap m → (hd.heap_39 w.params).In h₀ → News h₀ L s.heap news → Top topProg LL mean mg mb h₀ → cs.kind = .function →
    text.length ≤ 5 → dp < 900 → un < 900 →
    (∀ tk1 h' tk', Fr h₀ L h' m → News h₀ L h' news → Q (.str (shownText text) tk1) { s with heap := h', toks := tk' }) →
    wpAny (model PySem.Challenge.rw_pf0367_01.row.prog w) (ktrTop dp un gd cn cs L a ccd cl outer) (call (.ref 232) [.str text tk]) Q E s := by
  k_fill
  w_top off
  intro w mean mg mb dp un gd cn cs a ccd cl outer A₀ base h₀ L m s Q E news text tk B F X N T hk hlen hdp hun ret
  refine wpAny_call ?_
  k_dflt ktr_enter
  repeat' (first | (fail_if_success (with_reducible show wpAny _ _ (pyIter (Value.str _ _)) _ _ _)); (first | (k_here; (with_reducible show wpAny _ _ (call (Value.builtin "str.join") [Value.str _ _, Value.ref _]) _ _ _); (with_reducible rename StrsAre _ _ => hS9); (refine join_list (by first | assumption | is_list | exact News.isList (by k_asm) (by k_mem)) hS9 (by rw [len_sep]; omega) ?_); intro _ _) | (k_unfold; (try dsimp only)) | (k_end; wrow_close) | walk1 | (dsimp only; walk1) | (leave1; walk_say "STEP leave1"; try dsimp only) | fail "no step"))
  all_goals (try k_data)
  · rename (Builtin.Str.occurrences text (Str.ofString "'") 0 text.length 1).isEmpty = true => o1
    have e : shownText text = Str.ofString "'" ++ text ++ Str.ofString "'" := if_pos o1
    rw [e] at ret
    exact ret _ _ _ (by k_asm) (by k_asm)
  · rename (Builtin.Str.occurrences text (Str.ofString "'") 0 text.length 1).isEmpty = false => o1
    rename (Builtin.Str.occurrences text (Str.ofString "\"") 0 text.length 1).isEmpty = true => o2
    have e : shownText text = Str.ofString "\"" ++ text ++ Str.ofString "\"" := (if_neg (by unfold noQ; rw [o1]; exact Bool.false_ne_true)).trans (if_pos o2)
    rw [e] at ret
    exact ret _ _ _ (by k_asm) (by k_asm)
  · rename_i g2 L2 h5 FG B2 X2 T2 tk2 o1 tk1 o2 tk0 lp h4 l1 D h3 l2 h2 h1 h lF N2 t2 k2 a0
    have e : shownText text = Txt.join (Str.ofString " \"'\" ") (qfold (KStt.codes (text ++ Str.ofString "'"))).1 := by
      rw [quoted_pieces]
      exact (if_neg (by unfold noQ; rw [o1]; exact Bool.false_ne_true)).trans (if_neg (by unfold noQ; rw [o2]; exact Bool.false_ne_true))
    rw [e] at ret
    clear e
    with_unfolding_all refine' KStt.kst_text (σ := List Value × Str × Tok × Nat) (fun c => (lp, listOf c.1.toArray c.2.2.2) :: news) (fun c => [(Str.ofString "part", .str c.2.1 c.2.2.1)]) (fun _ => True) [] (fun pre c => StrsAre c.1 (qfold pre).1 ∧ c.2.1 = (qfold pre).2) ([], Str.ofString "", _, 0) (by rfl) lF ?kn trivial ?kk ?kp ?turn ?done
    case kn => exact KStt.news_of N2 (by intro p hp; exact List.Mem.tail _ hp)
    case kk => intro p hp; cases hp with | head => rfl | tail _ h => cases h
    case kp => exact ⟨.nil, rfl⟩
    case turn =>
      rintro ⟨vs, part, tk5, n5⟩ pre post n t u h tk own e hoff - ⟨hps, hp2⟩ F5 N5
      dsimp only at *
      have hpart : part.length ≤ 6 := by
        have h9 := (qfold_len pre).2.1
        have h8 := congrArg List.length e
        rw [KStt.codes_length, Str.length_append, len_q1, List.length_append] at h8
        rw [hp2]; omega
      have hvs : vs.length ≤ 6 := by
        have h9 := (qfold_len pre).2.2
        have h8 := congrArg List.length e
        rw [KStt.codes_length, Str.length_append, len_q1, List.length_append] at h8
        rw [hps.length]; omega
      have hsign : (Str.mk #[n]).length ≤ 1 := Nat.le_refl 1
      have hne : ∀ p ∈ news ++ own, p.1 ≠ lp := fun p hp => (List.mem_append.mp hp).elim (fun h => Nat.ne_of_lt (l1 p h)) (fun h => hoff p h lp (by simp))
      simp only [List.cons_append] at N5
      (try k_fold)
      repeat' (first | (k_here; (with_reducible show wpAny _ _ (call (Value.builtin "str.join") [Value.str _ _, Value.ref _]) _ _ _); (with_reducible rename StrsAre _ _ => hS9); (refine join_list (by first | assumption | is_list | exact News.isList (by k_asm) (by k_mem)) hS9 (by rw [len_sep]; omega) ?_); intro _ _) | (k_unfold; (try dsimp only)) | (k_end; wrow_close) | walk1 | (dsimp only; walk1) | (leave1; walk_say "STEP leave1"; try dsimp only) | fail "no step")
      all_goals (try k_data)
      · rename (Str.mk #[n] == Str.ofString "'") = true => hc
        rename News _ _ _ _ => N9
        simp only [List.push_toArray] at N9
        refine' kst_end (vs ++ [Value.str (Str.ofString "'" ++ part ++ Str.ofString "'") _], Str.ofString "", _, n5 + 1) (by assumption) N9 ?k1 ?k2 (by rfl) trivial ?kk ?k4 ?k3
        case k1 =>
          dsimp only
          refine List.forall_mem_cons.mpr ⟨?_, fun p hp => ?_⟩
          · exact List.Mem.head _
          · exact List.Mem.tail _ (List.mem_append_left _ hp)
        case kk => kst_all
        case k2 => exact fun p hp => List.Mem.tail _ (List.mem_append_right _ hp)
        case k4 => intro z h1 h2 h3; have h4 := h2 _ (List.Mem.head _); dsimp only at h4; simp only [h1, h4, kstB, if_false]; rfl
        case k3 =>
          have en : n = 39 := by
            have := beq_iff_eq.mp hc
            rw [q1_is] at this
            simpa using this
          subst en
          rw [qfold_snoc]
          unfold qstep
          rw [if_pos (by rfl)]
          refine ⟨?_, rfl⟩
          rw [← hp2]
          exact KStt.strs_snoc hps
      · rename (Str.mk #[n] == Str.ofString "'") = false => hc
        rename News _ _ _ _ => N9
        refine' kst_end (vs, part ++ Str.mk #[n], _, n5) (by assumption) N9 ?j1 ?j2 (by rfl) trivial ?jk ?j4 ?j3
        case j1 =>
          dsimp only
          refine List.forall_mem_cons.mpr ⟨?_, fun p hp => ?_⟩
          · exact List.Mem.head _
          · exact List.Mem.tail _ (List.mem_append_left _ hp)
        case jk => kst_all
        case j2 => exact fun p hp => List.Mem.tail _ (List.mem_append_right _ hp)
        case j4 => intro z h1 h2 h3; have h4 := h2 _ (List.Mem.head _); dsimp only at h4; simp only [h1, h4, kstB, if_false]; rfl
        case j3 =>
          have en : n ≠ 39 := by
            intro e9
            subst e9
            rw [q1_is] at hc
            exact absurd (beq_self_eq_true _) (by rw [hc]; exact Bool.false_ne_true)
          rw [qfold_snoc]
          unfold qstep
          rw [if_neg (by omega)]
          exact ⟨hps, by rw [hp2]; rfl⟩
    case done =>
      rintro ⟨vs, part, tk5, n5⟩ u h tk - ⟨hps, hp2⟩ F5 N5
      dsimp only at *
      have hlen2 := qfold_len (KStt.codes (text ++ Str.ofString "'"))
      rw [KStt.codes_length, Str.length_append, len_q1] at hlen2
      (try k_fold)
      repeat' (first | (k_here; (with_reducible show wpAny _ _ (call (Value.builtin "str.join") [Value.str _ _, Value.ref _]) _ _ _); (with_reducible rename StrsAre _ _ => hS9); (refine join_list (by first | assumption | is_list | exact News.isList (by k_asm) (by k_mem)) hS9 (by rw [len_sep]; omega) ?_); intro _ _) | (k_unfold; (try dsimp only)) | (k_end; wrow_close) | walk1 | (dsimp only; walk1) | (leave1; walk_say "STEP leave1"; try dsimp only) | fail "no step")
      all_goals (try k_data)
      exact ret _ _ _ (by k_asm) (by first | k_asm | exact KStt.news_of (by assumption) (fun p hp => List.Mem.tail _ hp))
end
theorem quoted_use {w : World} {mean : ExcName → Option Value} {mg mb : Str → Option Value} {dp un : Nat} {gd : Option (List Code)} {cn : Str} {cs : Scope} {a : Addr} {ccd : Value} {cl : List (Str × Addr)} {outer : List Env} {A₀ : Around} {base h₀ : Heap} {L : Addr} {m : Str → Option Value} {s : Shared}
    {Q E : Value → Shared → Prop} {news : List (Addr × Obj)} {text : Str} {tk : Tok}
    (B : Below A₀ base outer h₀) (F : Fr h₀ L s.heap m) (X : (hd.heap_39 w.params).In h₀) (N : News h₀ L s.heap news) (T : Top topProg LL mean mg mb h₀) (hk : cs.kind = .function)
    (hl : text.length ≤ 5) (hdp : dp < 900) (hun : un < 900)
    (ret : ∀ tk1 h' tk', (shownText text).length ≤ 50 → Fr h₀ L h' m → News h₀ L h' news → Q (.str (shownText text) tk1) { s with heap := h', toks := tk' }) :
    wpAny (model PySem.Challenge.rw_pf0367_01.row.prog w) (ktrTop dp un gd cn cs L a ccd cl outer) (call (.ref 232) [.str text tk]) Q E s :=
  quoted_ok B F X N T hk hl hdp hun fun tk1 h' tk' F' N' => ret tk1 h' tk' (shown_len text hl) F' N'
end Mine
end
section
open PySem PySem.W PySem.Calls PyProof.Rows
namespace Mine
def JInv (wr : Str) (ts : List (Nat × List Nat)) (found : Str) (at' : Int) : Prop :=
  ∃ (k : Nat) (dn rem : List (Nat × List Nat)), at' = (k : Int) ∧ ts = dn ++ rem ∧ found = S (bodies dn) ∧ (lc wr).drop k = enc rem ∧ k ≤ wr.length ∧ found.length ≤ k
section
set_option maxRecDepth 100000 in
set_option maxHeartbeats 8000000 in
theorem joined_ok : ∀ {w : World} {mean : ExcName → Option Value} {mg mb : Str → Option Value} {dp un : Nat} {gd : Option (List Code)} {cn : Str} {cs : Scope} {a : Addr} {ccd : Value} {cl : List (Str × Addr)} {outer : List Env} {A₀ : Around} {base h₀ : Heap} {L : Addr} {m : Str → Option Value} {s : Shared}
    {Q E : Value → Shared → Prop} {news : List (Addr × Obj)} {wr : Str} {tk : Tok} {ts : List (Nat × List Nat)},
    Below A₀ base outer h₀ → Fr h₀ L s.heap m → (hd.heap_39 w.params).In h₀ → News h₀ L s.heap news → Top topProg LL mean mg mb h₀ → cs.kind = .function →
    ts ≠ [] → (∀ t ∈ ts, okTok t) → lc wr = enc ts → wr.length ≤ 60 → dp < 900 → un < 900 →
    (∀ tk1 h' tk', Fr h₀ L h' m → News h₀ L h' news → Q (.str (S (bodies ts)) tk1) { s with heap := h', toks := tk' }) →
    wpAny (model PySem.Challenge.rw_pf0367_01.row.prog w) (ktrTop dp un gd cn cs L a ccd cl outer) (call (.ref 239) [.str wr tk]) Q E s := by
  k_fill
  w_top off
  intro w mean mg mb dp un gd cn cs a ccd cl outer A₀ base h₀ L m s Q E news wr tk ts B F X N T hk hne hok hwr hlen hdp hun ret
  refine wpAny_call ?_
  k_dflt ktr_enter
  repeat' (first | (fail_if_success (with_reducible show wpAny _ _ (exec (Stmt.While _ _ _ _) _) _ _ _)); (first | (k_unfold; (try dsimp only)) | (k_end; wrow_close) | walk1 | (dsimp only; walk1) | (leave1; walk_say "STEP leave1"; try dsimp only) | fail "no step"))
  all_goals (try k_data)
  rename Fr _ _ _ _ => lF
  rename News _ _ _ _ => N2
  with_unfolding_all refine' ksw_while (σ := Str × Tok × Int × Tok) (fun _ => news) (fun c => [(Str.ofString "found", .str c.1 c.2.1), (Str.ofString "at", .int c.2.2.1 c.2.2.2)]) (fun _ => True) [Str.ofString "end"] (fun c => JInv wr ts c.1 c.2.2.1) (fun c => wr.length - c.2.2.1.toNat) (Str.ofString "", _, 0, _) lF ?kn trivial ?kk ?kp ?turn
  case kn => exact KStt.news_of N2 (fun p hp => List.Mem.tail _ hp)
  case kk => kst_all
  case kp => exact ⟨0, [], ts, rfl, rfl, S_nil.symm, hwr, Nat.zero_le _, by show (Str.ofString "").length ≤ 0; rw [len_empty]; omega⟩
  case turn =>
    rintro ⟨found, tkf, at9, tka⟩ u h tk - ⟨k, dn, rem, hat, hts, hfd, hdr, hkl, hfl⟩ F5 N5
    dsimp only at *
    subst hat
    have hfl2 : found.length ≤ 60 := by omega
    have hrok : ∀ t ∈ rem, okTok t := fun t ht => hok t (by rw [hts]; exact List.mem_append_right _ ht)
    (try k_fold)
    k_steps
    all_goals (try k_data)
    · rename (k : Int) < (wr.length : Int) => hk1
      obtain ⟨q, b, r, rfl, hq, hi, hf, hs, he, hd⟩ := turn_facts hdr hrok hk1
      rename (Builtin.Str.occurrences (Str.ofString "'\"") (Txt.item wr (k : Int)) 0 _ 1).isEmpty = true => ho
      rw [hi, quote_in q hq] at ho
      cases ho
    · rename (k : Int) < (wr.length : Int) => hk1
      obtain ⟨q, b, r, rfl, hq, hi, hf, hs, he, hd⟩ := turn_facts hdr hrok hk1
      rename Txt.find3 _ _ _ < 0 => ho
      rw [hf] at ho
      omega
    · rename (k : Int) < (wr.length : Int) => hk1
      obtain ⟨q, b, r, rfl, hq, hi, hf, hs, he, hd⟩ := turn_facts hdr hrok hk1
      rename Txt.find3 _ _ _ + 1 < _ => hl
      rename (_ != Str.ofString " ") = true => ho
      rw [hf] at hl ho
      rw [(more_facts hd hl).1, blank_is] at ho
      simp at ho
    · rename (k : Int) < (wr.length : Int) => hk1
      obtain ⟨q, b, r, rfl, hq, hi, hf, hs, he, hd⟩ := turn_facts hdr hrok hk1
      rename Txt.find3 _ _ _ + 1 < _ => hl
      rename Txt.find3 _ _ _ + 1 + 1 = _ => ho
      rw [hf] at hl ho
      have := (more_facts hd hl).2.2
      omega
    · rename (k : Int) < (wr.length : Int) => hk1
      obtain ⟨q, b, r, rfl, hq, hi, hf, hs, he, hd⟩ := turn_facts hdr hrok hk1
      rename Txt.find3 _ _ _ + 1 < _ => hl
      rw [hf] at hl
      obtain ⟨hm1, hm2, hm3⟩ := more_facts hd hl
      rename News _ _ _ _ => N9
      rename Fr _ _ _ _ => F9
      rw [hs, hf] at F9
      refine' ksw_end (found ++ S b, _, ((k + 1 + b.length : Nat) : Int) + 1 + 1, _) F9 N9 ?k1 trivial ?k2 ?k3 ?k4 ?k5
      case k1 => exact fun p hp => List.Mem.tail _ hp
      case k2 => kst_all
      case k3 => (intro z h2 h3; (simp only [List.forall_mem_cons, List.not_mem_nil, false_implies, implies_true, and_true, ne_eq] at h2); (simp only [List.contains_cons, List.contains_nil, Bool.or_false, beq_eq_false_iff_ne, ne_eq] at h3); simp [h2, h3, kstB])
      case k4 => exact ⟨k + 1 + b.length + 2, dn ++ [(q, b)], r, by dsimp only; omega, by rw [hts]; simp, by rw [bodies_snoc, ← hfd], hm2, by omega, by rw [Str.length_append, S_length]; omega⟩
      case k5 => dsimp only; omega
    · rename (k : Int) < (wr.length : Int) => hk1
      obtain ⟨q, b, r, rfl, hq, hi, hf, hs, he, hd⟩ := turn_facts hdr hrok hk1
      rename ¬ (Txt.find3 _ _ _ + 1 < _) => hl
      rw [hf] at hl
      have hr := last_facts hd hl
      subst hr
      rename News _ _ _ _ => N9
      rename Fr _ _ _ _ => F9
      rw [hs, hf] at F9
      refine' ksw_end (found ++ S b, _, ((k + 1 + b.length : Nat) : Int) + 1, _) F9 N9 ?j1 trivial ?j2 ?j3 ?j4 ?j5
      case j1 => exact fun p hp => List.Mem.tail _ hp
      case j2 => kst_all
      case j3 => (intro z h2 h3; (simp only [List.forall_mem_cons, List.not_mem_nil, false_implies, implies_true, and_true, ne_eq] at h2); (simp only [List.contains_cons, List.contains_nil, Bool.or_false, beq_eq_false_iff_ne, ne_eq] at h3); simp [h2, h3, kstB])
      case j4 => exact ⟨k + 1 + b.length + 1, dn ++ [(q, b)], [], by dsimp only; omega, by rw [hts]; simp, by rw [bodies_snoc, ← hfd], hd, by omega, by rw [Str.length_append, S_length]; omega⟩
      case j5 => dsimp only; omega
    · rename ¬ ((k : Int) < (wr.length : Int)) => hk1
      have hr := end_facts hdr hk1
      subst hr
      rw [List.append_nil] at hts
      subst hts
      rw [hfd]
      exact ret _ _ _ (by k_asm) (by k_asm)
end
end Mine
end
section
open PySem PySem.W PySem.Calls PyProof.Rows
namespace Mine
def num (n : Int) : Str := Str.ofString (toString n)
def digitOk (l : Nat) : Bool := decide (num (l : Int) = (if l / 10 = 0 then Str.ofString "" else num ((l / 10 : Nat) : Int)) ++ ⟨#[48 + l % 10]⟩)
theorem digits_all : (List.range 200).all digitOk = true := by decide +kernel
theorem digits (l : Nat) (h : l < 200) : num (l : Int) = (if l / 10 = 0 then Str.ofString "" else num ((l / 10 : Nat) : Int)) ++ ⟨#[48 + l % 10]⟩ :=
  of_decide_eq_true (List.all_eq_true.mp digits_all l (List.mem_range.mpr h))
def WInv (n : Nat) (found : Str) (left : Int) : Prop :=
  ∃ l : Nat, left = (l : Int) ∧ l ≤ n ∧ ((found = Str.ofString "" ∧ l = n) ∨ (found ≠ Str.ofString "" ∧ num (n : Int) = (if l = 0 then Str.ofString "" else num (l : Int)) ++ found)) ∧ found.length + l ≤ n + 1
theorem one_len (c : Nat) (f : Str) : ((⟨#[c]⟩ : Str) ++ f).length = 1 + f.length := by rw [Str.length_append]; rfl
theorem one_ne (c : Nat) (f : Str) : (⟨#[c]⟩ : Str) ++ f ≠ Str.ofString "" := by
  intro h
  have := congrArg Str.length h
  rw [one_len, len_empty] at this; omega
theorem winv_step {n l : Nat} {found : Str} (hn : n < 200) (hln : l ≤ n) (hor : (found = Str.ofString "" ∧ l = n) ∨ (found ≠ Str.ofString "" ∧ num (n : Int) = (if l = 0 then Str.ofString "" else num (l : Int)) ++ found)) (hfl : found.length + l ≤ n + 1) (hc : 0 < l ∨ found = Str.ofString "") :
    WInv n (⟨#[(48 + (l : Int).fmod 10).toNat]⟩ ++ found) ((l : Int).fdiv 10) ∧ ((l : Int).fdiv 10).toNat + (if (⟨#[(48 + (l : Int).fmod 10).toNat]⟩ : Str) ++ found = Str.ofString "" then 1 else 0) < (l : Int).toNat + (if found = Str.ofString "" then 1 else 0) := by
  have e1 : (l : Int).fdiv 10 = ((l / 10 : Nat) : Int) := by rw [Int.fdiv_eq_ediv_of_nonneg _ (by decide)]; omega
  have e2 : (48 + (l : Int).fmod 10).toNat = 48 + l % 10 := by rw [Int.fmod_eq_emod_of_nonneg _ (by decide)]; omega
  rw [e1, e2]
  have hd := digits l (by omega)
  refine ⟨⟨l / 10, rfl, by omega, .inr ⟨one_ne _ _, ?_⟩, ?_⟩, ?_⟩
  · rcases hor with ⟨h1, h2⟩ | ⟨h1, h2⟩
    · subst h2
      rw [hd, h1]
      have : (⟨#[48 + l % 10]⟩ : Str) ++ Str.ofString "" = ⟨#[48 + l % 10]⟩ := by rw [← S_nil]; exact app_Snil _
      rw [this]
    · have hl : l ≠ 0 := by rcases hc with h | h; omega; exact absurd h h1
      rw [h2, if_neg hl, hd, Str.append_assoc]
  · rw [one_len]
    rcases hc with h | h
    · omega
    · subst h
      rw [len_empty] at hfl ⊢
      omega
  · rw [if_neg (one_ne _ _)]
    rcases hc with h | h
    · omega
    · subst h
      rw [if_pos rfl]; omega
section
set_option maxRecDepth 100000 in
set_option maxHeartbeats 8000000 in
theorem whole_ok : ∀ {w : World} {mean : ExcName → Option Value} {mg mb : Str → Option Value} {dp un : Nat} {gd : Option (List Code)} {cn : Str} {cs : Scope} {a : Addr} {ccd : Value} {cl : List (Str × Addr)} {outer : List Env} {A₀ : Around} {base h₀ : Heap} {L : Addr} {m : Str → Option Value} {s : Shared}
    {Q E : Value → Shared → Prop} {news : List (Addr × Obj)} {n : Int} {tk : Tok},
    Below A₀ base outer h₀ → Fr h₀ L s.heap m → (hd.heap_39 w.params).In h₀ → News h₀ L s.heap news → Top topProg LL mean mg mb h₀ → cs.kind = .function →
    0 ≤ n → n < 200 → dp < 900 → un < 1200 →
    (∀ tk1 h' tk', Fr h₀ L h' m → News h₀ L h' news → Q (.str (num n) tk1) { s with heap := h', toks := tk' }) →
    wpAny (model PySem.Challenge.rw_pf0367_01.row.prog w) (ktrTop dp un gd cn cs L a ccd cl outer) (call (.ref 121) [.int n tk]) Q E s := by
  k_fill
  w_top off
  intro w mean mg mb dp un gd cn cs a ccd cl outer A₀ base h₀ L m s Q E news n tk B F X N T hk h0 h1 hdp hun ret
  obtain ⟨n, rfl⟩ := Int.eq_ofNat_of_zero_le h0
  refine wpAny_call ?_
  k_dflt ktr_enter
  repeat' (first | (fail_if_success (with_reducible show wpAny _ _ (exec (Stmt.While _ _ _ _) _) _ _ _)); (first | (k_unfold; (try dsimp only)) | (k_end; wrow_close) | walk1 | (dsimp only; walk1) | (leave1; walk_say "STEP leave1"; try dsimp only) | fail "no step"))
  all_goals (try k_data)
  rename Fr _ _ _ _ => lF
  rename News _ _ _ _ => N2
  with_unfolding_all refine' ksw_while (σ := Str × Tok × Int × Tok) (fun _ => news) (fun c => [(Str.ofString "found", .str c.1 c.2.1), (Str.ofString "left", .int c.2.2.1 c.2.2.2)]) (fun _ => True) [] (fun c => WInv n c.1 c.2.2.1) (fun c => c.2.2.1.toNat + (if c.1 = Str.ofString "" then 1 else 0)) (Str.ofString "", _, _, _) lF ?kn trivial ?kk ?kp ?turn
  case kn => exact KStt.news_of N2 (fun p hp => List.Mem.tail _ hp)
  case kk => kst_all
  case kp =>
    refine ⟨n, ?_, Nat.le_refl _, .inl ⟨rfl, rfl⟩, ?_⟩
    · dsimp only
      rw [if_neg (by omega)]
    · show (Str.ofString "").length + n ≤ n + 1
      rw [len_empty]; omega
  case turn =>
    rintro ⟨found, tkf, left, tka⟩ u h tk - ⟨l, hl, hln, hor, hfl⟩ F5 N5
    dsimp only at *
    subst hl
    have hn2 : n < 200 := by omega
    (try k_fold)
    k_steps
    all_goals (try k_data)
    · rename 0 < (l : Int) => hl0
      rename News _ _ _ _ => N9
      rename Fr _ _ _ _ => F9
      have hw := winv_step hn2 hln hor hfl (.inl (by omega))
      refine' ksw_end (Str.mk #[(48 + (l : Int).fmod 10).toNat] ++ found, _, (l : Int).fdiv 10, _) F9 N9 ?k1 trivial ?k2 ?k3 hw.1 hw.2
      case k1 => exact fun p hp => hp
      case k2 => kst_all
      case k3 => (intro z h2 h3; (simp only [List.forall_mem_cons, List.not_mem_nil, false_implies, implies_true, and_true, ne_eq] at h2); simp [h2, kstB])
    · rename (found == Str.ofString "") = true => hf0
      rename News _ _ _ _ => N9
      rename Fr _ _ _ _ => F9
      have hw := winv_step hn2 hln hor hfl (.inr (beq_iff_eq.mp hf0))
      refine' ksw_end (Str.mk #[(48 + (l : Int).fmod 10).toNat] ++ found, _, (l : Int).fdiv 10, _) F9 N9 ?j1 trivial ?j2 ?j3 hw.1 hw.2
      case j1 => exact fun p hp => hp
      case j2 => kst_all
      case j3 => (intro z h2 h3; (simp only [List.forall_mem_cons, List.not_mem_nil, false_implies, implies_true, and_true, ne_eq] at h2); simp [h2, kstB])
    · rename ¬ 0 < (l : Int) => hl0
      rename (found == Str.ofString "") = false => hf0
      have hl : l = 0 := by omega
      have he : found = num (n : Int) := by
        rcases hor with ⟨h1, _⟩ | ⟨_, h2⟩
        · rw [h1] at hf0; exact absurd hf0 (by decide)
        · rw [h2, if_pos hl]; exact (nil_app found).symm
      rw [he]
      exact ret _ _ _ (by k_asm) (by k_asm)
end
theorem num_len_all : (List.range 200).all (fun l => decide ((num ((l : Nat) : Int)).length ≤ 3)) = true := by decide +kernel
theorem num_len {n : Int} (h0 : 0 ≤ n) (h1 : n < 200) : (num n).length ≤ 3 := by
  obtain ⟨n, rfl⟩ := Int.eq_ofNat_of_zero_le h0
  exact of_decide_eq_true (List.all_eq_true.mp num_len_all n (List.mem_range.mpr (by omega)))
theorem whole_use {w : World} {mean : ExcName → Option Value} {mg mb : Str → Option Value} {dp un : Nat} {gd : Option (List Code)} {cn : Str} {cs : Scope} {a : Addr} {ccd : Value} {cl : List (Str × Addr)} {outer : List Env} {A₀ : Around} {base h₀ : Heap} {L : Addr} {m : Str → Option Value} {s : Shared}
    {Q E : Value → Shared → Prop} {news : List (Addr × Obj)} {n : Int} {tk : Tok}
    (B : Below A₀ base outer h₀) (F : Fr h₀ L s.heap m) (X : (hd.heap_39 w.params).In h₀) (N : News h₀ L s.heap news) (T : Top topProg LL mean mg mb h₀) (hk : cs.kind = .function)
    (h0 : 0 ≤ n) (h1 : n < 200) (hdp : dp < 900) (hun : un < 1200)
    (ret : ∀ tk1 h' tk', (num n).length ≤ 3 → Fr h₀ L h' m → News h₀ L h' news → Q (.str (num n) tk1) { s with heap := h', toks := tk' }) :
    wpAny (model PySem.Challenge.rw_pf0367_01.row.prog w) (ktrTop dp un gd cn cs L a ccd cl outer) (call (.ref 121) [.int n tk]) Q E s :=
  whole_ok B F X N T hk h0 h1 hdp hun fun tk1 h' tk' F' N' => ret tk1 h' tk' (num_len h0 h1) F' N'
end Mine
end
section
open PySem PySem.W PySem.Calls PyProof.Rows
namespace Mine
/-- a drawn pattern -/
inductive Pat where
  | chars (t : Str)
  | count (k : Str) (n : Int)
  | signs (k t : Str)
  | alone (k : Str)
  | delay
  | lenDelay
  | cursor
  | arbno (p : Pat)
  | later (p : Pat)
  | now (p : Pat)
  | cat (p q : Pat)
  | alt (p q : Pat)
def caps (x : Str) : Str := S ((lc x).map fun c => if 97 ≤ c ∧ c ≤ 122 then c - 32 else c)
def lit (s : String) : Str := Str.ofString s
def treeText : Str := Str.ofString "('name', 'N')"
def counts : List Str := [Str.ofString "len", Str.ofString "pos", Str.ofString "rpos", Str.ofString "tab", Str.ofString "rtab"]
def signss : List Str := [Str.ofString "any", Str.ofString "notany", Str.ofString "span", Str.ofString "break"]
def alones : List Str := [Str.ofString "rem", Str.ofString "arb", Str.ofString "bal", Str.ofString "fence", Str.ofString "fail", Str.ofString "abort", Str.ofString "succeed"]
def charsText (t : Str) : Str := if noQ (Str.ofString "'") t = false ∧ noQ (Str.ofString "\"") t = false then Str.ofString "(" ++ shownText t ++ Str.ofString ")" else shownText t
/-- how it is shown -/
def Pat.show : Pat → Str
  | .chars t => charsText t
  | .count k n => caps k ++ Str.ofString "(" ++ num n ++ Str.ofString ")"
  | .signs k t => caps k ++ Str.ofString "(" ++ shownText t ++ Str.ofString ")"
  | .alone k => caps k
  | .delay => Str.ofString "*" ++ treeText
  | .lenDelay => Str.ofString "LEN(*" ++ treeText ++ Str.ofString ")"
  | .cursor => Str.ofString "@P"
  | .arbno p => Str.ofString "ARBNO(" ++ p.show ++ Str.ofString ")"
  | .later p => Str.ofString "(" ++ p.show ++ Str.ofString " . " ++ Str.ofString "V" ++ Str.ofString ")"
  | .now p => Str.ofString "(" ++ p.show ++ Str.ofString " $ " ++ Str.ofString "V" ++ Str.ofString ")"
  | .cat p q => Str.ofString "(" ++ p.show ++ Str.ofString " " ++ q.show ++ Str.ofString ")"
  | .alt p q => Str.ofString "(" ++ p.show ++ Str.ofString " | " ++ q.show ++ Str.ofString ")"
def Pat.size : Pat → Nat
  | .arbno p => p.size + 1
  | .later p => p.size + 1
  | .now p => p.size + 1
  | .cat p q => p.size + q.size + 1
  | .alt p q => p.size + q.size + 1
  | _ => 0
abbrev tupO (its : Array Value) (n : Nat) : Obj := { cls := .type "tuple", data := .seq its n }
abbrev refDict (key : Str) (h1 h2 h3 : Int) (t1 t2 t3 t4 t5 : Tok) : Obj := dictOf [⟨h1, .str (Str.ofString "kind") t1, .str (Str.ofString "var") t2⟩, ⟨h2, .str (Str.ofString "owner") t3, .none⟩, ⟨h3, .str (Str.ofString "key") t4, .str key t5⟩] 3
/-- the ledger bears the pattern at v -/
inductive PatIn (news : List (Addr × Obj)) : Value → Pat → Prop where
  | chars {a n t tk tk2} : (a, tupO #[.str (Str.ofString "chars") tk, .str t tk2] n) ∈ news → t.length ≤ 5 → PatIn news (.ref a) (.chars t)
  | count {a n k i tk tk2} : (a, tupO #[.str k tk, .int i tk2] n) ∈ news → k ∈ counts → 0 ≤ i → i < 200 → PatIn news (.ref a) (.count k i)
  | signs {a n k t tk tk2} : (a, tupO #[.str k tk, .str t tk2] n) ∈ news → k ∈ signss → t.length ≤ 5 → PatIn news (.ref a) (.signs k t)
  | alone {a n k tk} : (a, tupO #[.str k tk] n) ∈ news → k ∈ alones → PatIn news (.ref a) (.alone k)
  | delay {a b n m tk t1 t2} : (a, tupO #[.str (Str.ofString "delay") tk, .ref b] n) ∈ news → (b, tupO #[.str (Str.ofString "name") t1, .str (Str.ofString "N") t2] m) ∈ news → PatIn news (.ref a) .delay
  | lenDelay {a b c n m o tk t1 t2 t3} : (a, tupO #[.str (Str.ofString "len") tk, .ref c] n) ∈ news → (c, tupO #[.str (Str.ofString "delay") t3, .ref b] o) ∈ news → (b, tupO #[.str (Str.ofString "name") t1, .str (Str.ofString "N") t2] m) ∈ news → PatIn news (.ref a) .lenDelay
  | cursor {a x dx n tk h1 h2 h3 t1 t2 t3 t4 t5} : (a, tupO #[.str (Str.ofString "cursor") tk, .ref x] n) ∈ news → (x, instObj 96 dx) ∈ news → (dx, refDict (Str.ofString "P") h1 h2 h3 t1 t2 t3 t4 t5) ∈ news → PatIn news (.ref a) .cursor
  | arbno {a n tk v p} : (a, tupO #[.str (Str.ofString "arbno") tk, v] n) ∈ news → PatIn news v p → PatIn news (.ref a) (.arbno p)
  | later {a x dx n tk v p h1 h2 h3 t1 t2 t3 t4 t5} : (a, tupO #[.str (Str.ofString "later") tk, v, .ref x] n) ∈ news → (x, instObj 96 dx) ∈ news → (dx, refDict (Str.ofString "V") h1 h2 h3 t1 t2 t3 t4 t5) ∈ news → PatIn news v p → PatIn news (.ref a) (.later p)
  | now {a x dx n tk v p h1 h2 h3 t1 t2 t3 t4 t5} : (a, tupO #[.str (Str.ofString "now") tk, v, .ref x] n) ∈ news → (x, instObj 96 dx) ∈ news → (dx, refDict (Str.ofString "V") h1 h2 h3 t1 t2 t3 t4 t5) ∈ news → PatIn news v p → PatIn news (.ref a) (.now p)
  | cat {a n tk v p u q} : (a, tupO #[.str (Str.ofString "cat") tk, v, u] n) ∈ news → PatIn news v p → PatIn news u q → PatIn news (.ref a) (.cat p q)
  | alt {a n tk v p u q} : (a, tupO #[.str (Str.ofString "alt") tk, v, u] n) ∈ news → PatIn news v p → PatIn news u q → PatIn news (.ref a) (.alt p q)
theorem PatIn.mono {l l' : List (Addr × Obj)} {v : Value} {p : Pat} (h : PatIn l v p) (hs : ∀ x ∈ l, x ∈ l') : PatIn l' v p := by
  induction h with
  | chars h1 h2 => exact .chars (hs _ h1) h2
  | count h1 h2 h3 h4 => exact .count (hs _ h1) h2 h3 h4
  | signs h1 h2 h3 => exact .signs (hs _ h1) h2 h3
  | alone h1 h2 => exact .alone (hs _ h1) h2
  | delay h1 h2 => exact .delay (hs _ h1) (hs _ h2)
  | lenDelay h1 h2 h3 => exact .lenDelay (hs _ h1) (hs _ h2) (hs _ h3)
  | cursor h1 h2 h3 => exact .cursor (hs _ h1) (hs _ h2) (hs _ h3)
  | arbno h1 _ ih => exact .arbno (hs _ h1) ih
  | later h1 h2 h3 _ ih => exact .later (hs _ h1) (hs _ h2) (hs _ h3) ih
  | now h1 h2 h3 _ ih => exact .now (hs _ h1) (hs _ h2) (hs _ h3) ih
  | cat h1 _ _ ih1 ih2 => exact .cat (hs _ h1) ih1 ih2
  | alt h1 _ _ ih1 ih2 => exact .alt (hs _ h1) ih1 ih2
/-- what show_node is to do of one pattern -/
def ShowSpec (p : Pat) : Prop := ∀ {w : World} {mean : ExcName → Option Value} {mg mb : Str → Option Value} {dp un : Nat} {cn : Str} {cs : Scope} {a : Addr} {ccd : Value} {cl : List (Str × Addr)} {outer : List Env} {A₀ : Around} {base h₀ : Heap} {L : Addr} {m : Str → Option Value} {s : Shared}
    {Q E : Value → Shared → Prop} {news : List (Addr × Obj)} {v : Value},
    Below A₀ base outer h₀ → Fr h₀ L s.heap m → (hd.heap_39 w.params).In h₀ → News h₀ L s.heap news → Top topProg LL mean mg mb h₀ → cs.kind = .function →
    PatIn news v p → p.show.length ≤ 1000 → dp + 5 * p.size < 700 → un + 40 * p.size < 700 →
    (∀ tk1 h' tk', Fr h₀ L h' m → News h₀ L h' news → Q (.str p.show tk1) { s with heap := h', toks := tk' }) →
    wpAny (model PySem.Challenge.rw_pf0367_01.row.prog w) (ktrTop dp un (some []) cn cs L a ccd cl outer) (call (.ref 213) [v]) Q E s
end Mine
end
section
open PySem PySem.W PySem.Calls PyProof.Rows PyProof.V
namespace Mine
def ShapeV : List (Value × Value) → List (Str × Str) → Prop
  | [], [] => True
  | (k, v) :: r, (x, y) :: l => (∃ t u, k = .str x t ∧ v = .str y u) ∧ ShapeV r l
  | _, _ => False
section
variable {prog : Program} {w : World} {A : Around} {E : Value → Shared → Prop} {env : Env} {pos : Pos} {h₀ : Heap} {L : Addr} {m : Str → Option Value} {news : List (Addr × Obj)}
theorem news_tail {h₀ h : Heap} {L : Addr} {x : Addr × Obj} {l : List (Addr × Obj)} (N : News h₀ L h (x :: l)) : News h₀ L h l := fun p hp => N p (.tail _ hp)
theorem const_str {x : Str} {p : Pos} {s : Shared} {Q : Value → Shared → Prop} (h : ∀ t k, Q (.str x t) { s with toks := k }) : wpAny (model prog w) A (eval (.Constant (.str x) 0 p) env) Q E s := by
  walk1
  exact h _ _
theorem pairs_const : ∀ (l : List ((Str × Pos) × (Str × Pos))) {s : Shared} {Q : List (Value × Value) → Shared → Prop},
    (∀ vs k, ShapeV vs (l.map fun x => (x.1.1, x.2.1)) → Q vs { s with toks := k }) →
    wpAny (model prog w) A (evalPairs (pairTrees (l.map fun x => some (.Constant (.str x.1.1) 0 x.1.2)) (l.map fun x => .Constant (.str x.2.1) 0 x.2.2) env pos)) Q E s
  | [], s, Q, h => wpAny_pure (h [] s.toks trivial)
  | x :: l, s, Q, h => by
    show wpAny _ _ (evalPairs ((eval (.Constant (.str x.1.1) 0 x.1.2) env, do let y ← eval (.Constant (.str x.2.1) 0 x.2.2) env; standAt pos; pure y) :: pairTrees _ _ env pos)) _ _ _
    refine wpAny_bind (const_str fun t k => ?_)
    refine wpAny_bind (wpAny_holding (wpAny_bind (const_str fun u k2 => wpAny_bind (wpAny_standAt (wpAny_pure ?_)))))
    refine wpAny_bind (wpAny_holding (pairs_const l fun vs k3 hs => wpAny_pure ?_))
    exact h _ _ ⟨⟨t, u, rfl, rfl⟩, hs⟩
theorem shape_cons {x y : Str} {l : List (Str × Str)} : ∀ {vs : List (Value × Value)}, ShapeV vs ((x, y) :: l) → ∃ v r, vs = v :: r ∧ ∃ t u, v = (.str x t, .str y u) ∧ ShapeV r l
  | [], h => h.elim
  | v :: r, ⟨⟨t, u, h1, h2⟩, h3⟩ => ⟨v, r, rfl, t, u, by rw [← h1, ← h2], h3⟩
theorem shape_nil {vs : List (Value × Value)} (h : ShapeV vs []) : vs = [] := by
  cases vs with
  | nil => rfl
  | cons v r => cases h
def signPairs (p1 p2 p3 p4 p5 p6 p7 p8 : Pos) : List ((Str × Pos) × (Str × Pos)) :=
  [((Str.ofString "cat", p1), (Str.ofString " ", p2)), ((Str.ofString "alt", p3), (Str.ofString " | ", p4)), ((Str.ofString "later", p5), (Str.ofString " . ", p6)), ((Str.ofString "now", p7), (Str.ofString " $ ", p8))]
def SignTab (D : List (PyData × PyData)) : Prop :=
  Spec.lookup (.str (Str.ofString "cat")) D = some (.str (Str.ofString " ")) ∧ Spec.lookup (.str (Str.ofString "alt")) D = some (.str (Str.ofString " | ")) ∧
  Spec.lookup (.str (Str.ofString "later")) D = some (.str (Str.ofString " . ")) ∧ Spec.lookup (.str (Str.ofString "now")) D = some (.str (Str.ofString " $ "))
def signD : List (PyData × PyData) := [(.str (Str.ofString "cat"), .str (Str.ofString " ")), (.str (Str.ofString "alt"), .str (Str.ofString " | ")), (.str (Str.ofString "later"), .str (Str.ofString " . ")), (.str (Str.ofString "now"), .str (Str.ofString " $ "))]
theorem sign_tab : SignTab signD := ⟨rfl, rfl, rfl, rfl⟩
theorem sign_nodup : [Str.ofString "cat", Str.ofString "alt", Str.ofString "later", Str.ofString "now"].Nodup := by decide +kernel
theorem sign_dict {p1 p2 p3 p4 p5 p6 p7 p8 : Pos} {s : Shared} {Q : Value → Shared → Prop} (F : Fr h₀ L s.heap m) (N : News h₀ L s.heap news) (hbig : h₀.NoLimit)
    (h : ∀ d h' tk' D, Fr h₀ L h' m → News h₀ L h' news → StrTab prog w h' d D → SignTab D → Q (.ref d) { s with heap := h', toks := tk' }) :
    wpAny (model prog w) A (eval (.Dict [some (.Constant (.str (Str.ofString "cat")) 0 p1), some (.Constant (.str (Str.ofString "alt")) 0 p3), some (.Constant (.str (Str.ofString "later")) 0 p5), some (.Constant (.str (Str.ofString "now")) 0 p7)]
      [.Constant (.str (Str.ofString " ")) 0 p2, .Constant (.str (Str.ofString " | ")) 0 p4, .Constant (.str (Str.ofString " . ")) 0 p6, .Constant (.str (Str.ofString " $ ")) 0 p8] pos) env) Q E s := by
  refine Dict_made_str rfl F rfl rfl (List.cons_ne_nil _ _) (Nat.le_of_ble_eq_true rfl) fun F1 => ?_
  refine pairs_const (signPairs p1 p2 p3 p4 p5 p6 p7 p8) fun vs k hs => ?_
  obtain ⟨a, r1, e1, t1, u1, f1, k1⟩ := shape_cons hs
  obtain ⟨b, r2, e2, t2, u2, f2, k2⟩ := shape_cons k1
  obtain ⟨c, r3, e3, t3, u3, f3, k3⟩ := shape_cons k2
  obtain ⟨e, r4, e4, t4, u4, f4, k4⟩ := shape_cons k3
  have e5 := shape_nil k4
  clear hs k1 k2 k3 k4
  subst e5 e4 e3 e2 e1 f1 f2 f3 f4
  exact madeTab_str F N (modules_low hbig) rfl sign_nodup rfl fun h' o F' N' lo hd hf => h _ h' _ _ F' (fun p hp => N' p (.tail _ hp)) ⟨lo, _, Heap.dictOf_iff.mpr ⟨o, (N' _ (.head _)).1, hd⟩, hf⟩ sign_tab
theorem sign_item {value : Expr} {n : Str} {p : Pos} {x z : Str} {t : Tok} {d : Addr} {D : List (PyData × PyData)} {s : Shared} {Q : Value → Shared → Prop} (T : StrTab prog w s.heap d D) (hl : Spec.lookup (.str x) D = some (.str z)) (h : ∀ u tk, Q (.str z u) { s with toks := tk }) :
    wpAny (model prog w) A (subscriptTail value (.Name n p) (.ref d) (.str x t)) Q E s :=
  kba_turn (value' := PySem.Expr.Name (PySem.Str.ofString "_") ⟨0, 0, 0, 0⟩) (fun _ => rfl) (item_strTab T hl (fun v hv => by obtain ⟨u, rfl⟩ := hv.str_inv; exact h u _))
end
end Mine
end
section
open PySem PySem.W PySem.Calls PyProof.Rows
namespace Mine
theorem tup_K {K : Frag} {h : Heap} {a : Addr} {od : Option Addr} {its : Array Value} {n : Nat} {sl : Array (Option Value)} (X : K.In h) (e : K.lookup a = some ⟨.type "tuple", od, .seq its n, sl⟩) : IsTup h a its := ⟨_, X _ _ e, rfl, n, rfl⟩
section
variable {prog : Program} {w : World} {A : Around} {E : Value → Shared → Prop} {s : Shared} {Q : Value → Shared → Prop} {ks : List Str} {k c : Str} {t u : Tok}
theorem eq_mem (hk : k ∈ ks) (hb : (ks.all fun y => !(y == c)) = true) (h : Q (.bool false) s) : wpAny (model prog w) A (compareOp .Eq (.str k t) (.str c u)) Q E s := by
  have : (k == c) = false := by have := List.all_eq_true.mp hb k hk; simpa using this
  exact eq_str (by rw [this]; exact h)
theorem in_mem (b : Bool) {a : Addr} {its : Array Value} {ys : List Str} (hk : k ∈ ks) (ht : IsTup s.heap a its) (hi : StrsAre its.toList ys) (hb : (ks.all fun y => (ys.any (· == y)) == b) = true) (h : Q (.bool b) s) : wpAny (model prog w) A (compareOp .In (.str k t) (.ref a)) Q E s := by
  have : (ys.any (· == k)) = b := by have := List.all_eq_true.mp hb k hk; simpa using this
  exact in_tuple_strs ht hi (by rw [this]; exact h)
theorem upper_mem (hk : k ∈ ks) (hb : (ks.all fun y => decide (Txt.upper y = caps y) && (decide ((caps y).length ≤ 10) && !(Builtin.Str.tooLong (Txt.upper y).length))) = true) (h : ∀ t' k', (caps k).length ≤ 10 → Q (.str (caps k) t') { s with toks := k' }) : wpAny (model prog w) A (call (.builtin "str.upper") [.str k t]) Q E s := by
  have h1 := List.all_eq_true.mp hb k hk
  simp only [Bool.and_eq_true, decide_eq_true_eq, Bool.not_eq_true'] at h1
  exact KXw.upper h1.1 h1.2.2 fun t' k' => h t' k' h1.2.1
end
section
variable {prog : Program} {w : World} {A : Around} {E : Value → Shared → Prop} {s : Shared} {Q : Value → Shared → Prop} {h₀ : Heap} {L : Addr} {m : Str → Option Value} {news : List (Addr × Obj)}
theorem tree_len : treeText.length ≤ 20 := by decide
theorem str_tree {b : Addr} {n : Nat} {t1 t2 : Tok} (F : Fr h₀ L s.heap m) (N : News h₀ L s.heap news) (hm : (b, tupO #[.str (Str.ofString "name") t1, .str (Str.ofString "N") t2] n) ∈ news) (hg : A.guards = some []) (hu : A.units + 10 < 9900)
    (h : ∀ h' u tk, treeText.length ≤ 20 → Fr h₀ L h' m → News h₀ L h' news → Q (.str treeText u) { s with heap := h', toks := tk }) : wpAny (model prog w) A (call (.type "str") [.ref b]) Q E s := by
  have e : (PyData.tuple [.str (Str.ofString "name"), .str (Str.ofString "N")]).shown = treeText := by decide +kernel
  refine str_HN (d := .tuple [.str (Str.ofString "name"), .str (Str.ofString "N")]) F N (.tuple (N _ hm).1 rfl rfl (.cons (.str _ _) (.cons (.str _ _) .nil))) rfl (by decide +kernel) hg ?_ (fun h' u tk F' N' => by rw [e]; exact h h' u tk tree_len F' N') ?_
  · rw [cLine_is]
    have : (PyData.tuple [.str (Str.ofString "name"), .str (Str.ofString "N")]).depth ≤ 5 := by decide +kernel
    omega
  · rw [e, sizeLine_eq]; have := tree_len; omega
end
theorem show_use {p : Pat} {w : World} {mean : ExcName → Option Value} {mg mb : Str → Option Value} {dp un : Nat} {cn : Str} {cs : Scope} {a : Addr} {ccd : Value} {cl : List (Str × Addr)} {outer : List Env} {A₀ : Around} {base h₀ : Heap} {L : Addr} {m : Str → Option Value} {s : Shared}
    {Q E : Value → Shared → Prop} {news : List (Addr × Obj)} {v : Value} (C : ShowSpec p) (B : Below A₀ base outer h₀) (F : Fr h₀ L s.heap m) (X : (hd.heap_39 w.params).In h₀) (N : News h₀ L s.heap news) (T : Top topProg LL mean mg mb h₀) (hk : cs.kind = .function)
    (R : PatIn news v p) (hl : p.show.length ≤ 1000) (hdp : dp + 5 * p.size < 700) (hun : un + 40 * p.size < 700)
    (ret : ∀ tk1 h' tk', Fr h₀ L h' m → News h₀ L h' news → Q (.str p.show tk1) { s with heap := h', toks := tk' }) :
    wpAny (model PySem.Challenge.rw_pf0367_01.row.prog w) (ktrTop dp un (some []) cn cs L a ccd cl outer) (call (.ref 213) [v]) Q E s := C B F X N T hk R hl hdp hun ret
section
local macro_rules | `(tactic| ktd_sub) => `(tactic| ((repeat (refine List.forall_mem_cons.mpr ⟨by k_mem, ?_⟩)); first | exact List.forall_mem_nil _ | (intro p9 h9; (repeat (first | exact h9 | refine List.Mem.tail _ ?_)))))
local macro_rules | `(tactic| k_room) => `(tactic| ktr_room)
local macro_rules | `(tactic| walk_at "ite") => `(tactic| (k_here; with_reducible first | refine ite_tt ?_ | refine ite_ff ?_ | refine ite_pos (by decide +kernel) ?_ | refine ite_neg (by decide +kernel) ?_))

set_option maxRecDepth 100000 in
set_option maxHeartbeats 8000000 in
theorem show_chars (t : Str) : ShowSpec (.chars t) := by
  unfold ShowSpec
  k_fill
  w_top off
  intro w mean mg mb dp un cn cs a ccd cl outer A₀ base h₀ L m s Q E news v B F X N T hk hR hlen hdp hun ret
  cases hR
  refine wpAny_call ?_
  k_dflt ktr_enter
  repeat' (first | ((with_reducible show wpAny _ _ (call (Value.ref _) _) _ _ _); first | (k_here; (with_reducible show wpAny _ _ (call (Value.ref 121) [_]) _ _ _); k_dflt (refine' whole_use ?kB ?kF ?kX ?kN ?kT ?kK ?hl ?hm ?kd ?ku ?_; (case kB => k_asm); (case kF => k_asm); (case kX => k_asm); (case kN => k_asm); (case kT => k_asm); (case kK => first | exact rfl | assumption); (case hl => assumption); (case hm => assumption); (case kd => ktr_room); (case ku => ktr_units)); intro _ _ _ _ _ _; (try dsimp only); (try k_fold)) | (k_here; (with_reducible show wpAny _ _ (call (Value.ref 199) [_]) _ _ _); k_dflt (refine' shown_text_use ?kB ?kF ?kX ?kN ?kT ?kK ?hl ?kd ?ku ?_; (case kB => k_asm); (case kF => k_asm); (case kX => k_asm); (case kN => k_asm); (case kT => k_asm); (case kK => first | exact rfl | assumption); (case hl => assumption); (case kd => ktr_room); (case ku => ktr_units)); intro _ _ _ _ _ _; (try dsimp only); (try k_fold)) | (k_here; (with_reducible show wpAny _ _ (call (Value.ref 213) [_]) _ _ _); k_dflt (refine' show_use ?kC ?kB ?kF ?kX ?kN ?kT ?kK ?R ?hl ?kd ?ku ?_; (case R => assumption); (case kC => assumption); (case kB => k_asm); (case kF => k_asm); (case kX => k_asm); (case kN => exact KStt.news_of (by assumption) (by ktd_sub)); (case kT => k_asm); (case kK => first | exact rfl | assumption); (case hl => assumption); (case kd => ktr_room); (case ku => ktr_units)); intro _ _ _ _ _; (try dsimp only); (try k_fold))) | (k_here; (with_reducible show wpAny _ _ (compareOp CmpOp.In (Value.str _ _) (Value.ref _)) _ _ _); (rename News _ _ _ (_ :: _) => N9; (with_unfolding_all refine' in_tuple_strs (News.isTup N9 (List.Mem.head _)) ?k2 ?_; (case k2 => kde_strs); k_whole); replace N9 := news_tail N9)) | (k_here; (with_reducible show wpAny _ _ (subscriptTail _ _ (Value.ref _) (Value.int _ _)) _ _ _); k_dflt (refine' item_tupleT ?t ?a ?b ?c ?d ?_; (case t => exact News.isTup (by k_asm) (by repeat (first | assumption | refine List.Mem.tail _ ?_))); (case a => decide); (case b => decide); (case c => rfl); (case d => rfl); k_whole)) | (k_here; (with_reducible show wpAny _ _ (subscriptTail (Expr.Dict _ _ _) _ (Value.ref _) (Value.str _ _)) _ _ _); k_dflt (refine' sign_item ?T ?L ?_; (case T => assumption); (case L => first | exact (‹SignTab _›).1 | exact (‹SignTab _›).2.1 | exact (‹SignTab _›).2.2.1 | exact (‹SignTab _›).2.2.2)); intro _ _; (try dsimp only); (try k_fold)) | (k_here; (with_reducible show wpAny _ _ (eval (Expr.Dict _ _ _) _) _ _ _); k_dflt (refine' sign_dict ?F ?N ?b ?_; (case F => k_asm); (case N => k_asm); (case b => exact Top.nolimit (by k_asm))); intro _ _ _ _ _ _ _ _; (try dsimp only); (try k_fold)) | (k_here; (with_reducible show wpAny _ _ (call (Value.builtin "str.upper") [Value.str _ _]) _ _ _); (refine upper_mem (by with_reducible assumption) (by decide +kernel) ?_); intro _ _ _) | (k_here; (with_reducible show wpAny _ _ (compareOp CmpOp.Eq (Value.str _ _) (Value.str _ _)) _ _ _); (refine eq_mem (by with_reducible assumption) (by decide +kernel) ?_)) | (k_here; (with_reducible show wpAny _ _ (compareOp CmpOp.In (Value.str _ _) (Value.ref _)) _ _ _); (with_unfolding_all first | (refine' in_mem false ?m (tup_K ?X ?e) ?k2 ?b ?_; (case m => with_reducible assumption); (case X => k_in); (case e => k_is); (case k2 => kde_strs); (case b => decide +kernel); k_whole) | (refine' in_mem true ?m (tup_K ?X ?e) ?k2 ?b ?_; (case m => with_reducible assumption); (case X => k_in); (case e => k_is); (case k2 => kde_strs); (case b => decide +kernel); k_whole))) | (k_here; (with_reducible show wpAny _ _ (compareOp CmpOp.In (Value.str _ _) (Value.ref _)) _ _ _); (with_unfolding_all refine' in_tuple_strs (tup_K ?X ?e) ?k2 ?_; (case X => k_in); (case e => k_is); (case k2 => kde_strs); k_whole)) | (k_here; (with_reducible show wpAny _ _ (call (Value.type "str") [Value.ref _]) _ _ _); k_dflt (refine' str_tree ?F ?N ?m ?g ?u ?_; (case F => k_asm); (case N => k_asm); (case m => k_mem); (case g => rfl); (case u => ktr_units)); intro _ _ _ _ _ _; (try dsimp only); (try k_fold)) | (k_unfold; (try dsimp only)) | (k_end; wrow_close) | walk1 | (dsimp only; walk1) | (leave1; walk_say "STEP leave1"; try dsimp only) | fail "no step")
  all_goals (try k_data)
  · rename (Builtin.Str.occurrences t (Str.ofString "'") 0 t.length 1).isEmpty = true => o1
    have e : (Pat.chars t).show = shownText t := if_neg (fun h => by have := h.1; unfold noQ at this; rw [o1] at this; cases this)
    rw [e] at ret
    exact ret _ _ _ (by k_asm) (by k_asm)
  · rename (Builtin.Str.occurrences t (Str.ofString "\"") 0 t.length 1).isEmpty = true => o1
    have e : (Pat.chars t).show = shownText t := if_neg (fun h => by have := h.2; unfold noQ at this; rw [o1] at this; cases this)
    rw [e] at ret
    exact ret _ _ _ (by k_asm) (by k_asm)
  · rename (Builtin.Str.occurrences t (Str.ofString "'") 0 t.length 1).isEmpty = false => o1
    rename (Builtin.Str.occurrences t (Str.ofString "\"") 0 t.length 1).isEmpty = false => o2
    have e : (Pat.chars t).show = Str.ofString "(" ++ shownText t ++ Str.ofString ")" := if_pos ⟨o1, o2⟩
    rw [e] at ret
    exact ret _ _ _ (by k_asm) (by k_asm)
set_option maxRecDepth 100000 in
set_option maxHeartbeats 8000000 in
theorem show_count (k : Str) (i : Int) : ShowSpec (.count k i) := by
  unfold ShowSpec
  k_fill
  w_top off
  intro w mean mg mb dp un cn cs a ccd cl outer A₀ base h₀ L m s Q E news v B F X N T hk hR hlen hdp hun ret
  cases hR
  refine wpAny_call ?_
  k_dflt ktr_enter
  repeat' (first | ((with_reducible show wpAny _ _ (call (Value.ref _) _) _ _ _); first | (k_here; (with_reducible show wpAny _ _ (call (Value.ref 121) [_]) _ _ _); k_dflt (refine' whole_use ?kB ?kF ?kX ?kN ?kT ?kK ?hl ?hm ?kd ?ku ?_; (case kB => k_asm); (case kF => k_asm); (case kX => k_asm); (case kN => k_asm); (case kT => k_asm); (case kK => first | exact rfl | assumption); (case hl => assumption); (case hm => assumption); (case kd => ktr_room); (case ku => ktr_units)); intro _ _ _ _ _ _; (try dsimp only); (try k_fold)) | (k_here; (with_reducible show wpAny _ _ (call (Value.ref 199) [_]) _ _ _); k_dflt (refine' shown_text_use ?kB ?kF ?kX ?kN ?kT ?kK ?hl ?kd ?ku ?_; (case kB => k_asm); (case kF => k_asm); (case kX => k_asm); (case kN => k_asm); (case kT => k_asm); (case kK => first | exact rfl | assumption); (case hl => assumption); (case kd => ktr_room); (case ku => ktr_units)); intro _ _ _ _ _ _; (try dsimp only); (try k_fold)) | (k_here; (with_reducible show wpAny _ _ (call (Value.ref 213) [_]) _ _ _); k_dflt (refine' show_use ?kC ?kB ?kF ?kX ?kN ?kT ?kK ?R ?hl ?kd ?ku ?_; (case R => assumption); (case kC => assumption); (case kB => k_asm); (case kF => k_asm); (case kX => k_asm); (case kN => exact KStt.news_of (by assumption) (by ktd_sub)); (case kT => k_asm); (case kK => first | exact rfl | assumption); (case hl => assumption); (case kd => ktr_room); (case ku => ktr_units)); intro _ _ _ _ _; (try dsimp only); (try k_fold))) | (k_here; (with_reducible show wpAny _ _ (compareOp CmpOp.In (Value.str _ _) (Value.ref _)) _ _ _); (rename News _ _ _ (_ :: _) => N9; (with_unfolding_all refine' in_tuple_strs (News.isTup N9 (List.Mem.head _)) ?k2 ?_; (case k2 => kde_strs); k_whole); replace N9 := news_tail N9)) | (k_here; (with_reducible show wpAny _ _ (subscriptTail _ _ (Value.ref _) (Value.int _ _)) _ _ _); k_dflt (refine' item_tupleT ?t ?a ?b ?c ?d ?_; (case t => exact News.isTup (by k_asm) (by repeat (first | assumption | refine List.Mem.tail _ ?_))); (case a => decide); (case b => decide); (case c => rfl); (case d => rfl); k_whole)) | (k_here; (with_reducible show wpAny _ _ (subscriptTail (Expr.Dict _ _ _) _ (Value.ref _) (Value.str _ _)) _ _ _); k_dflt (refine' sign_item ?T ?L ?_; (case T => assumption); (case L => first | exact (‹SignTab _›).1 | exact (‹SignTab _›).2.1 | exact (‹SignTab _›).2.2.1 | exact (‹SignTab _›).2.2.2)); intro _ _; (try dsimp only); (try k_fold)) | (k_here; (with_reducible show wpAny _ _ (eval (Expr.Dict _ _ _) _) _ _ _); k_dflt (refine' sign_dict ?F ?N ?b ?_; (case F => k_asm); (case N => k_asm); (case b => exact Top.nolimit (by k_asm))); intro _ _ _ _ _ _ _ _; (try dsimp only); (try k_fold)) | (k_here; (with_reducible show wpAny _ _ (call (Value.builtin "str.upper") [Value.str _ _]) _ _ _); (refine upper_mem (by with_reducible assumption) (by decide +kernel) ?_); intro _ _ _) | (k_here; (with_reducible show wpAny _ _ (compareOp CmpOp.Eq (Value.str _ _) (Value.str _ _)) _ _ _); (refine eq_mem (by with_reducible assumption) (by decide +kernel) ?_)) | (k_here; (with_reducible show wpAny _ _ (compareOp CmpOp.In (Value.str _ _) (Value.ref _)) _ _ _); (with_unfolding_all first | (refine' in_mem false ?m (tup_K ?X ?e) ?k2 ?b ?_; (case m => with_reducible assumption); (case X => k_in); (case e => k_is); (case k2 => kde_strs); (case b => decide +kernel); k_whole) | (refine' in_mem true ?m (tup_K ?X ?e) ?k2 ?b ?_; (case m => with_reducible assumption); (case X => k_in); (case e => k_is); (case k2 => kde_strs); (case b => decide +kernel); k_whole))) | (k_here; (with_reducible show wpAny _ _ (compareOp CmpOp.In (Value.str _ _) (Value.ref _)) _ _ _); (with_unfolding_all refine' in_tuple_strs (tup_K ?X ?e) ?k2 ?_; (case X => k_in); (case e => k_is); (case k2 => kde_strs); k_whole)) | (k_here; (with_reducible show wpAny _ _ (call (Value.type "str") [Value.ref _]) _ _ _); k_dflt (refine' str_tree ?F ?N ?m ?g ?u ?_; (case F => k_asm); (case N => k_asm); (case m => k_mem); (case g => rfl); (case u => ktr_units)); intro _ _ _ _ _ _; (try dsimp only); (try k_fold)) | (k_unfold; (try dsimp only)) | (k_end; wrow_close) | walk1 | (dsimp only; walk1) | (leave1; walk_say "STEP leave1"; try dsimp only) | fail "no step")
  all_goals (try k_data)
  exact ret _ _ _ (by k_asm) (by k_asm)
set_option maxRecDepth 100000 in
set_option maxHeartbeats 8000000 in
theorem show_signs (k t : Str) : ShowSpec (.signs k t) := by
  unfold ShowSpec
  k_fill
  w_top off
  intro w mean mg mb dp un cn cs a ccd cl outer A₀ base h₀ L m s Q E news v B F X N T hk hR hlen hdp hun ret
  cases hR
  refine wpAny_call ?_
  k_dflt ktr_enter
  repeat' (first | ((with_reducible show wpAny _ _ (call (Value.ref _) _) _ _ _); first | (k_here; (with_reducible show wpAny _ _ (call (Value.ref 121) [_]) _ _ _); k_dflt (refine' whole_use ?kB ?kF ?kX ?kN ?kT ?kK ?hl ?hm ?kd ?ku ?_; (case kB => k_asm); (case kF => k_asm); (case kX => k_asm); (case kN => k_asm); (case kT => k_asm); (case kK => first | exact rfl | assumption); (case hl => assumption); (case hm => assumption); (case kd => ktr_room); (case ku => ktr_units)); intro _ _ _ _ _ _; (try dsimp only); (try k_fold)) | (k_here; (with_reducible show wpAny _ _ (call (Value.ref 199) [_]) _ _ _); k_dflt (refine' shown_text_use ?kB ?kF ?kX ?kN ?kT ?kK ?hl ?kd ?ku ?_; (case kB => k_asm); (case kF => k_asm); (case kX => k_asm); (case kN => k_asm); (case kT => k_asm); (case kK => first | exact rfl | assumption); (case hl => assumption); (case kd => ktr_room); (case ku => ktr_units)); intro _ _ _ _ _ _; (try dsimp only); (try k_fold)) | (k_here; (with_reducible show wpAny _ _ (call (Value.ref 213) [_]) _ _ _); k_dflt (refine' show_use ?kC ?kB ?kF ?kX ?kN ?kT ?kK ?R ?hl ?kd ?ku ?_; (case R => assumption); (case kC => assumption); (case kB => k_asm); (case kF => k_asm); (case kX => k_asm); (case kN => exact KStt.news_of (by assumption) (by ktd_sub)); (case kT => k_asm); (case kK => first | exact rfl | assumption); (case hl => assumption); (case kd => ktr_room); (case ku => ktr_units)); intro _ _ _ _ _; (try dsimp only); (try k_fold))) | (k_here; (with_reducible show wpAny _ _ (compareOp CmpOp.In (Value.str _ _) (Value.ref _)) _ _ _); (rename News _ _ _ (_ :: _) => N9; (with_unfolding_all refine' in_tuple_strs (News.isTup N9 (List.Mem.head _)) ?k2 ?_; (case k2 => kde_strs); k_whole); replace N9 := news_tail N9)) | (k_here; (with_reducible show wpAny _ _ (subscriptTail _ _ (Value.ref _) (Value.int _ _)) _ _ _); k_dflt (refine' item_tupleT ?t ?a ?b ?c ?d ?_; (case t => exact News.isTup (by k_asm) (by repeat (first | assumption | refine List.Mem.tail _ ?_))); (case a => decide); (case b => decide); (case c => rfl); (case d => rfl); k_whole)) | (k_here; (with_reducible show wpAny _ _ (subscriptTail (Expr.Dict _ _ _) _ (Value.ref _) (Value.str _ _)) _ _ _); k_dflt (refine' sign_item ?T ?L ?_; (case T => assumption); (case L => first | exact (‹SignTab _›).1 | exact (‹SignTab _›).2.1 | exact (‹SignTab _›).2.2.1 | exact (‹SignTab _›).2.2.2)); intro _ _; (try dsimp only); (try k_fold)) | (k_here; (with_reducible show wpAny _ _ (eval (Expr.Dict _ _ _) _) _ _ _); k_dflt (refine' sign_dict ?F ?N ?b ?_; (case F => k_asm); (case N => k_asm); (case b => exact Top.nolimit (by k_asm))); intro _ _ _ _ _ _ _ _; (try dsimp only); (try k_fold)) | (k_here; (with_reducible show wpAny _ _ (call (Value.builtin "str.upper") [Value.str _ _]) _ _ _); (refine upper_mem (by with_reducible assumption) (by decide +kernel) ?_); intro _ _ _) | (k_here; (with_reducible show wpAny _ _ (compareOp CmpOp.Eq (Value.str _ _) (Value.str _ _)) _ _ _); (refine eq_mem (by with_reducible assumption) (by decide +kernel) ?_)) | (k_here; (with_reducible show wpAny _ _ (compareOp CmpOp.In (Value.str _ _) (Value.ref _)) _ _ _); (with_unfolding_all first | (refine' in_mem false ?m (tup_K ?X ?e) ?k2 ?b ?_; (case m => with_reducible assumption); (case X => k_in); (case e => k_is); (case k2 => kde_strs); (case b => decide +kernel); k_whole) | (refine' in_mem true ?m (tup_K ?X ?e) ?k2 ?b ?_; (case m => with_reducible assumption); (case X => k_in); (case e => k_is); (case k2 => kde_strs); (case b => decide +kernel); k_whole))) | (k_here; (with_reducible show wpAny _ _ (compareOp CmpOp.In (Value.str _ _) (Value.ref _)) _ _ _); (with_unfolding_all refine' in_tuple_strs (tup_K ?X ?e) ?k2 ?_; (case X => k_in); (case e => k_is); (case k2 => kde_strs); k_whole)) | (k_here; (with_reducible show wpAny _ _ (call (Value.type "str") [Value.ref _]) _ _ _); k_dflt (refine' str_tree ?F ?N ?m ?g ?u ?_; (case F => k_asm); (case N => k_asm); (case m => k_mem); (case g => rfl); (case u => ktr_units)); intro _ _ _ _ _ _; (try dsimp only); (try k_fold)) | (k_unfold; (try dsimp only)) | (k_end; wrow_close) | walk1 | (dsimp only; walk1) | (leave1; walk_say "STEP leave1"; try dsimp only) | fail "no step")
  all_goals (try k_data)
  exact ret _ _ _ (by k_asm) (by k_asm)
set_option maxRecDepth 100000 in
set_option maxHeartbeats 8000000 in
theorem show_alone (k : Str) : ShowSpec (.alone k) := by
  unfold ShowSpec
  k_fill
  w_top off
  intro w mean mg mb dp un cn cs a ccd cl outer A₀ base h₀ L m s Q E news v B F X N T hk hR hlen hdp hun ret
  cases hR
  refine wpAny_call ?_
  k_dflt ktr_enter
  repeat' (first | ((with_reducible show wpAny _ _ (call (Value.ref _) _) _ _ _); first | (k_here; (with_reducible show wpAny _ _ (call (Value.ref 121) [_]) _ _ _); k_dflt (refine' whole_use ?kB ?kF ?kX ?kN ?kT ?kK ?hl ?hm ?kd ?ku ?_; (case kB => k_asm); (case kF => k_asm); (case kX => k_asm); (case kN => k_asm); (case kT => k_asm); (case kK => first | exact rfl | assumption); (case hl => assumption); (case hm => assumption); (case kd => ktr_room); (case ku => ktr_units)); intro _ _ _ _ _ _; (try dsimp only); (try k_fold)) | (k_here; (with_reducible show wpAny _ _ (call (Value.ref 199) [_]) _ _ _); k_dflt (refine' shown_text_use ?kB ?kF ?kX ?kN ?kT ?kK ?hl ?kd ?ku ?_; (case kB => k_asm); (case kF => k_asm); (case kX => k_asm); (case kN => k_asm); (case kT => k_asm); (case kK => first | exact rfl | assumption); (case hl => assumption); (case kd => ktr_room); (case ku => ktr_units)); intro _ _ _ _ _ _; (try dsimp only); (try k_fold)) | (k_here; (with_reducible show wpAny _ _ (call (Value.ref 213) [_]) _ _ _); k_dflt (refine' show_use ?kC ?kB ?kF ?kX ?kN ?kT ?kK ?R ?hl ?kd ?ku ?_; (case R => assumption); (case kC => assumption); (case kB => k_asm); (case kF => k_asm); (case kX => k_asm); (case kN => exact KStt.news_of (by assumption) (by ktd_sub)); (case kT => k_asm); (case kK => first | exact rfl | assumption); (case hl => assumption); (case kd => ktr_room); (case ku => ktr_units)); intro _ _ _ _ _; (try dsimp only); (try k_fold))) | (k_here; (with_reducible show wpAny _ _ (compareOp CmpOp.In (Value.str _ _) (Value.ref _)) _ _ _); (rename News _ _ _ (_ :: _) => N9; (with_unfolding_all refine' in_tuple_strs (News.isTup N9 (List.Mem.head _)) ?k2 ?_; (case k2 => kde_strs); k_whole); replace N9 := news_tail N9)) | (k_here; (with_reducible show wpAny _ _ (subscriptTail _ _ (Value.ref _) (Value.int _ _)) _ _ _); k_dflt (refine' item_tupleT ?t ?a ?b ?c ?d ?_; (case t => exact News.isTup (by k_asm) (by repeat (first | assumption | refine List.Mem.tail _ ?_))); (case a => decide); (case b => decide); (case c => rfl); (case d => rfl); k_whole)) | (k_here; (with_reducible show wpAny _ _ (subscriptTail (Expr.Dict _ _ _) _ (Value.ref _) (Value.str _ _)) _ _ _); k_dflt (refine' sign_item ?T ?L ?_; (case T => assumption); (case L => first | exact (‹SignTab _›).1 | exact (‹SignTab _›).2.1 | exact (‹SignTab _›).2.2.1 | exact (‹SignTab _›).2.2.2)); intro _ _; (try dsimp only); (try k_fold)) | (k_here; (with_reducible show wpAny _ _ (eval (Expr.Dict _ _ _) _) _ _ _); k_dflt (refine' sign_dict ?F ?N ?b ?_; (case F => k_asm); (case N => k_asm); (case b => exact Top.nolimit (by k_asm))); intro _ _ _ _ _ _ _ _; (try dsimp only); (try k_fold)) | (k_here; (with_reducible show wpAny _ _ (call (Value.builtin "str.upper") [Value.str _ _]) _ _ _); (refine upper_mem (by with_reducible assumption) (by decide +kernel) ?_); intro _ _ _) | (k_here; (with_reducible show wpAny _ _ (compareOp CmpOp.Eq (Value.str _ _) (Value.str _ _)) _ _ _); (refine eq_mem (by with_reducible assumption) (by decide +kernel) ?_)) | (k_here; (with_reducible show wpAny _ _ (compareOp CmpOp.In (Value.str _ _) (Value.ref _)) _ _ _); (with_unfolding_all first | (refine' in_mem false ?m (tup_K ?X ?e) ?k2 ?b ?_; (case m => with_reducible assumption); (case X => k_in); (case e => k_is); (case k2 => kde_strs); (case b => decide +kernel); k_whole) | (refine' in_mem true ?m (tup_K ?X ?e) ?k2 ?b ?_; (case m => with_reducible assumption); (case X => k_in); (case e => k_is); (case k2 => kde_strs); (case b => decide +kernel); k_whole))) | (k_here; (with_reducible show wpAny _ _ (compareOp CmpOp.In (Value.str _ _) (Value.ref _)) _ _ _); (with_unfolding_all refine' in_tuple_strs (tup_K ?X ?e) ?k2 ?_; (case X => k_in); (case e => k_is); (case k2 => kde_strs); k_whole)) | (k_here; (with_reducible show wpAny _ _ (call (Value.type "str") [Value.ref _]) _ _ _); k_dflt (refine' str_tree ?F ?N ?m ?g ?u ?_; (case F => k_asm); (case N => k_asm); (case m => k_mem); (case g => rfl); (case u => ktr_units)); intro _ _ _ _ _ _; (try dsimp only); (try k_fold)) | (k_unfold; (try dsimp only)) | (k_end; wrow_close) | walk1 | (dsimp only; walk1) | (leave1; walk_say "STEP leave1"; try dsimp only) | fail "no step")
  all_goals (try k_data)
  exact ret _ _ _ (by k_asm) (by k_asm)
set_option maxRecDepth 100000 in
set_option maxHeartbeats 8000000 in
theorem show_delay  : ShowSpec (.delay) := by
  unfold ShowSpec
  k_fill
  w_top off
  intro w mean mg mb dp un cn cs a ccd cl outer A₀ base h₀ L m s Q E news v B F X N T hk hR hlen hdp hun ret
  cases hR
  refine wpAny_call ?_
  k_dflt ktr_enter
  repeat' (first | ((with_reducible show wpAny _ _ (call (Value.ref _) _) _ _ _); first | (k_here; (with_reducible show wpAny _ _ (call (Value.ref 121) [_]) _ _ _); k_dflt (refine' whole_use ?kB ?kF ?kX ?kN ?kT ?kK ?hl ?hm ?kd ?ku ?_; (case kB => k_asm); (case kF => k_asm); (case kX => k_asm); (case kN => k_asm); (case kT => k_asm); (case kK => first | exact rfl | assumption); (case hl => assumption); (case hm => assumption); (case kd => ktr_room); (case ku => ktr_units)); intro _ _ _ _ _ _; (try dsimp only); (try k_fold)) | (k_here; (with_reducible show wpAny _ _ (call (Value.ref 199) [_]) _ _ _); k_dflt (refine' shown_text_use ?kB ?kF ?kX ?kN ?kT ?kK ?hl ?kd ?ku ?_; (case kB => k_asm); (case kF => k_asm); (case kX => k_asm); (case kN => k_asm); (case kT => k_asm); (case kK => first | exact rfl | assumption); (case hl => assumption); (case kd => ktr_room); (case ku => ktr_units)); intro _ _ _ _ _ _; (try dsimp only); (try k_fold)) | (k_here; (with_reducible show wpAny _ _ (call (Value.ref 213) [_]) _ _ _); k_dflt (refine' show_use ?kC ?kB ?kF ?kX ?kN ?kT ?kK ?R ?hl ?kd ?ku ?_; (case R => assumption); (case kC => assumption); (case kB => k_asm); (case kF => k_asm); (case kX => k_asm); (case kN => exact KStt.news_of (by assumption) (by ktd_sub)); (case kT => k_asm); (case kK => first | exact rfl | assumption); (case hl => assumption); (case kd => ktr_room); (case ku => ktr_units)); intro _ _ _ _ _; (try dsimp only); (try k_fold))) | (k_here; (with_reducible show wpAny _ _ (compareOp CmpOp.In (Value.str _ _) (Value.ref _)) _ _ _); (rename News _ _ _ (_ :: _) => N9; (with_unfolding_all refine' in_tuple_strs (News.isTup N9 (List.Mem.head _)) ?k2 ?_; (case k2 => kde_strs); k_whole); replace N9 := news_tail N9)) | (k_here; (with_reducible show wpAny _ _ (subscriptTail _ _ (Value.ref _) (Value.int _ _)) _ _ _); k_dflt (refine' item_tupleT ?t ?a ?b ?c ?d ?_; (case t => exact News.isTup (by k_asm) (by repeat (first | assumption | refine List.Mem.tail _ ?_))); (case a => decide); (case b => decide); (case c => rfl); (case d => rfl); k_whole)) | (k_here; (with_reducible show wpAny _ _ (subscriptTail (Expr.Dict _ _ _) _ (Value.ref _) (Value.str _ _)) _ _ _); k_dflt (refine' sign_item ?T ?L ?_; (case T => assumption); (case L => first | exact (‹SignTab _›).1 | exact (‹SignTab _›).2.1 | exact (‹SignTab _›).2.2.1 | exact (‹SignTab _›).2.2.2)); intro _ _; (try dsimp only); (try k_fold)) | (k_here; (with_reducible show wpAny _ _ (eval (Expr.Dict _ _ _) _) _ _ _); k_dflt (refine' sign_dict ?F ?N ?b ?_; (case F => k_asm); (case N => k_asm); (case b => exact Top.nolimit (by k_asm))); intro _ _ _ _ _ _ _ _; (try dsimp only); (try k_fold)) | (k_here; (with_reducible show wpAny _ _ (call (Value.builtin "str.upper") [Value.str _ _]) _ _ _); (refine upper_mem (by with_reducible assumption) (by decide +kernel) ?_); intro _ _ _) | (k_here; (with_reducible show wpAny _ _ (compareOp CmpOp.Eq (Value.str _ _) (Value.str _ _)) _ _ _); (refine eq_mem (by with_reducible assumption) (by decide +kernel) ?_)) | (k_here; (with_reducible show wpAny _ _ (compareOp CmpOp.In (Value.str _ _) (Value.ref _)) _ _ _); (with_unfolding_all first | (refine' in_mem false ?m (tup_K ?X ?e) ?k2 ?b ?_; (case m => with_reducible assumption); (case X => k_in); (case e => k_is); (case k2 => kde_strs); (case b => decide +kernel); k_whole) | (refine' in_mem true ?m (tup_K ?X ?e) ?k2 ?b ?_; (case m => with_reducible assumption); (case X => k_in); (case e => k_is); (case k2 => kde_strs); (case b => decide +kernel); k_whole))) | (k_here; (with_reducible show wpAny _ _ (compareOp CmpOp.In (Value.str _ _) (Value.ref _)) _ _ _); (with_unfolding_all refine' in_tuple_strs (tup_K ?X ?e) ?k2 ?_; (case X => k_in); (case e => k_is); (case k2 => kde_strs); k_whole)) | (k_here; (with_reducible show wpAny _ _ (call (Value.type "str") [Value.ref _]) _ _ _); k_dflt (refine' str_tree ?F ?N ?m ?g ?u ?_; (case F => k_asm); (case N => k_asm); (case m => k_mem); (case g => rfl); (case u => ktr_units)); intro _ _ _ _ _ _; (try dsimp only); (try k_fold)) | (k_unfold; (try dsimp only)) | (k_end; wrow_close) | walk1 | (dsimp only; walk1) | (leave1; walk_say "STEP leave1"; try dsimp only) | fail "no step")
  all_goals (try k_data)
  exact ret _ _ _ (by k_asm) (by k_asm)
set_option maxRecDepth 100000 in
set_option maxHeartbeats 8000000 in
theorem show_lenDelay  : ShowSpec (.lenDelay) := by
  unfold ShowSpec
  k_fill
  w_top off
  intro w mean mg mb dp un cn cs a ccd cl outer A₀ base h₀ L m s Q E news v B F X N T hk hR hlen hdp hun ret
  cases hR
  refine wpAny_call ?_
  k_dflt ktr_enter
  repeat' (first | ((with_reducible show wpAny _ _ (call (Value.ref _) _) _ _ _); first | (k_here; (with_reducible show wpAny _ _ (call (Value.ref 121) [_]) _ _ _); k_dflt (refine' whole_use ?kB ?kF ?kX ?kN ?kT ?kK ?hl ?hm ?kd ?ku ?_; (case kB => k_asm); (case kF => k_asm); (case kX => k_asm); (case kN => k_asm); (case kT => k_asm); (case kK => first | exact rfl | assumption); (case hl => assumption); (case hm => assumption); (case kd => ktr_room); (case ku => ktr_units)); intro _ _ _ _ _ _; (try dsimp only); (try k_fold)) | (k_here; (with_reducible show wpAny _ _ (call (Value.ref 199) [_]) _ _ _); k_dflt (refine' shown_text_use ?kB ?kF ?kX ?kN ?kT ?kK ?hl ?kd ?ku ?_; (case kB => k_asm); (case kF => k_asm); (case kX => k_asm); (case kN => k_asm); (case kT => k_asm); (case kK => first | exact rfl | assumption); (case hl => assumption); (case kd => ktr_room); (case ku => ktr_units)); intro _ _ _ _ _ _; (try dsimp only); (try k_fold)) | (k_here; (with_reducible show wpAny _ _ (call (Value.ref 213) [_]) _ _ _); k_dflt (refine' show_use ?kC ?kB ?kF ?kX ?kN ?kT ?kK ?R ?hl ?kd ?ku ?_; (case R => assumption); (case kC => assumption); (case kB => k_asm); (case kF => k_asm); (case kX => k_asm); (case kN => exact KStt.news_of (by assumption) (by ktd_sub)); (case kT => k_asm); (case kK => first | exact rfl | assumption); (case hl => assumption); (case kd => ktr_room); (case ku => ktr_units)); intro _ _ _ _ _; (try dsimp only); (try k_fold))) | (k_here; (with_reducible show wpAny _ _ (compareOp CmpOp.In (Value.str _ _) (Value.ref _)) _ _ _); (rename News _ _ _ (_ :: _) => N9; (with_unfolding_all refine' in_tuple_strs (News.isTup N9 (List.Mem.head _)) ?k2 ?_; (case k2 => kde_strs); k_whole); replace N9 := news_tail N9)) | (k_here; (with_reducible show wpAny _ _ (subscriptTail _ _ (Value.ref _) (Value.int _ _)) _ _ _); k_dflt (refine' item_tupleT ?t ?a ?b ?c ?d ?_; (case t => exact News.isTup (by k_asm) (by repeat (first | assumption | refine List.Mem.tail _ ?_))); (case a => decide); (case b => decide); (case c => rfl); (case d => rfl); k_whole)) | (k_here; (with_reducible show wpAny _ _ (subscriptTail (Expr.Dict _ _ _) _ (Value.ref _) (Value.str _ _)) _ _ _); k_dflt (refine' sign_item ?T ?L ?_; (case T => assumption); (case L => first | exact (‹SignTab _›).1 | exact (‹SignTab _›).2.1 | exact (‹SignTab _›).2.2.1 | exact (‹SignTab _›).2.2.2)); intro _ _; (try dsimp only); (try k_fold)) | (k_here; (with_reducible show wpAny _ _ (eval (Expr.Dict _ _ _) _) _ _ _); k_dflt (refine' sign_dict ?F ?N ?b ?_; (case F => k_asm); (case N => k_asm); (case b => exact Top.nolimit (by k_asm))); intro _ _ _ _ _ _ _ _; (try dsimp only); (try k_fold)) | (k_here; (with_reducible show wpAny _ _ (call (Value.builtin "str.upper") [Value.str _ _]) _ _ _); (refine upper_mem (by with_reducible assumption) (by decide +kernel) ?_); intro _ _ _) | (k_here; (with_reducible show wpAny _ _ (compareOp CmpOp.Eq (Value.str _ _) (Value.str _ _)) _ _ _); (refine eq_mem (by with_reducible assumption) (by decide +kernel) ?_)) | (k_here; (with_reducible show wpAny _ _ (compareOp CmpOp.In (Value.str _ _) (Value.ref _)) _ _ _); (with_unfolding_all first | (refine' in_mem false ?m (tup_K ?X ?e) ?k2 ?b ?_; (case m => with_reducible assumption); (case X => k_in); (case e => k_is); (case k2 => kde_strs); (case b => decide +kernel); k_whole) | (refine' in_mem true ?m (tup_K ?X ?e) ?k2 ?b ?_; (case m => with_reducible assumption); (case X => k_in); (case e => k_is); (case k2 => kde_strs); (case b => decide +kernel); k_whole))) | (k_here; (with_reducible show wpAny _ _ (compareOp CmpOp.In (Value.str _ _) (Value.ref _)) _ _ _); (with_unfolding_all refine' in_tuple_strs (tup_K ?X ?e) ?k2 ?_; (case X => k_in); (case e => k_is); (case k2 => kde_strs); k_whole)) | (k_here; (with_reducible show wpAny _ _ (call (Value.type "str") [Value.ref _]) _ _ _); k_dflt (refine' str_tree ?F ?N ?m ?g ?u ?_; (case F => k_asm); (case N => k_asm); (case m => k_mem); (case g => rfl); (case u => ktr_units)); intro _ _ _ _ _ _; (try dsimp only); (try k_fold)) | (k_unfold; (try dsimp only)) | (k_end; wrow_close) | walk1 | (dsimp only; walk1) | (leave1; walk_say "STEP leave1"; try dsimp only) | fail "no step")
  all_goals (try k_data)
  exact ret _ _ _ (by k_asm) (by k_asm)
set_option maxRecDepth 100000 in
set_option maxHeartbeats 8000000 in
theorem show_cursor  : ShowSpec (.cursor) := by
  unfold ShowSpec
  k_fill
  w_top off
  intro w mean mg mb dp un cn cs a ccd cl outer A₀ base h₀ L m s Q E news v B F X N T hk hR hlen hdp hun ret
  cases hR
  refine wpAny_call ?_
  k_dflt ktr_enter
  repeat' (first | ((with_reducible show wpAny _ _ (call (Value.ref _) _) _ _ _); first | (k_here; (with_reducible show wpAny _ _ (call (Value.ref 121) [_]) _ _ _); k_dflt (refine' whole_use ?kB ?kF ?kX ?kN ?kT ?kK ?hl ?hm ?kd ?ku ?_; (case kB => k_asm); (case kF => k_asm); (case kX => k_asm); (case kN => k_asm); (case kT => k_asm); (case kK => first | exact rfl | assumption); (case hl => assumption); (case hm => assumption); (case kd => ktr_room); (case ku => ktr_units)); intro _ _ _ _ _ _; (try dsimp only); (try k_fold)) | (k_here; (with_reducible show wpAny _ _ (call (Value.ref 199) [_]) _ _ _); k_dflt (refine' shown_text_use ?kB ?kF ?kX ?kN ?kT ?kK ?hl ?kd ?ku ?_; (case kB => k_asm); (case kF => k_asm); (case kX => k_asm); (case kN => k_asm); (case kT => k_asm); (case kK => first | exact rfl | assumption); (case hl => assumption); (case kd => ktr_room); (case ku => ktr_units)); intro _ _ _ _ _ _; (try dsimp only); (try k_fold)) | (k_here; (with_reducible show wpAny _ _ (call (Value.ref 213) [_]) _ _ _); k_dflt (refine' show_use ?kC ?kB ?kF ?kX ?kN ?kT ?kK ?R ?hl ?kd ?ku ?_; (case R => assumption); (case kC => assumption); (case kB => k_asm); (case kF => k_asm); (case kX => k_asm); (case kN => exact KStt.news_of (by assumption) (by ktd_sub)); (case kT => k_asm); (case kK => first | exact rfl | assumption); (case hl => assumption); (case kd => ktr_room); (case ku => ktr_units)); intro _ _ _ _ _; (try dsimp only); (try k_fold))) | (k_here; (with_reducible show wpAny _ _ (compareOp CmpOp.In (Value.str _ _) (Value.ref _)) _ _ _); (rename News _ _ _ (_ :: _) => N9; (with_unfolding_all refine' in_tuple_strs (News.isTup N9 (List.Mem.head _)) ?k2 ?_; (case k2 => kde_strs); k_whole); replace N9 := news_tail N9)) | (k_here; (with_reducible show wpAny _ _ (subscriptTail _ _ (Value.ref _) (Value.int _ _)) _ _ _); k_dflt (refine' item_tupleT ?t ?a ?b ?c ?d ?_; (case t => exact News.isTup (by k_asm) (by repeat (first | assumption | refine List.Mem.tail _ ?_))); (case a => decide); (case b => decide); (case c => rfl); (case d => rfl); k_whole)) | (k_here; (with_reducible show wpAny _ _ (subscriptTail (Expr.Dict _ _ _) _ (Value.ref _) (Value.str _ _)) _ _ _); k_dflt (refine' sign_item ?T ?L ?_; (case T => assumption); (case L => first | exact (‹SignTab _›).1 | exact (‹SignTab _›).2.1 | exact (‹SignTab _›).2.2.1 | exact (‹SignTab _›).2.2.2)); intro _ _; (try dsimp only); (try k_fold)) | (k_here; (with_reducible show wpAny _ _ (eval (Expr.Dict _ _ _) _) _ _ _); k_dflt (refine' sign_dict ?F ?N ?b ?_; (case F => k_asm); (case N => k_asm); (case b => exact Top.nolimit (by k_asm))); intro _ _ _ _ _ _ _ _; (try dsimp only); (try k_fold)) | (k_here; (with_reducible show wpAny _ _ (call (Value.builtin "str.upper") [Value.str _ _]) _ _ _); (refine upper_mem (by with_reducible assumption) (by decide +kernel) ?_); intro _ _ _) | (k_here; (with_reducible show wpAny _ _ (compareOp CmpOp.Eq (Value.str _ _) (Value.str _ _)) _ _ _); (refine eq_mem (by with_reducible assumption) (by decide +kernel) ?_)) | (k_here; (with_reducible show wpAny _ _ (compareOp CmpOp.In (Value.str _ _) (Value.ref _)) _ _ _); (with_unfolding_all first | (refine' in_mem false ?m (tup_K ?X ?e) ?k2 ?b ?_; (case m => with_reducible assumption); (case X => k_in); (case e => k_is); (case k2 => kde_strs); (case b => decide +kernel); k_whole) | (refine' in_mem true ?m (tup_K ?X ?e) ?k2 ?b ?_; (case m => with_reducible assumption); (case X => k_in); (case e => k_is); (case k2 => kde_strs); (case b => decide +kernel); k_whole))) | (k_here; (with_reducible show wpAny _ _ (compareOp CmpOp.In (Value.str _ _) (Value.ref _)) _ _ _); (with_unfolding_all refine' in_tuple_strs (tup_K ?X ?e) ?k2 ?_; (case X => k_in); (case e => k_is); (case k2 => kde_strs); k_whole)) | (k_here; (with_reducible show wpAny _ _ (call (Value.type "str") [Value.ref _]) _ _ _); k_dflt (refine' str_tree ?F ?N ?m ?g ?u ?_; (case F => k_asm); (case N => k_asm); (case m => k_mem); (case g => rfl); (case u => ktr_units)); intro _ _ _ _ _ _; (try dsimp only); (try k_fold)) | (k_unfold; (try dsimp only)) | (k_end; wrow_close) | walk1 | (dsimp only; walk1) | (leave1; walk_say "STEP leave1"; try dsimp only) | fail "no step")
  all_goals (try k_data)
  exact ret _ _ _ (by k_asm) (by k_asm)
set_option maxRecDepth 100000 in
set_option maxHeartbeats 8000000 in
theorem show_arbno (p : Pat) (Cp : ShowSpec p) : ShowSpec (.arbno p) := by
  unfold ShowSpec
  k_fill
  w_top off
  intro w mean mg mb dp un cn cs a ccd cl outer A₀ base h₀ L m s Q E news v B F X N T hk hR hlen hdp hun ret
  have hlp : p.show.length ≤ 1000 := by
    simp only [Pat.show, Str.length_append] at hlen
    omega
  simp only [Pat.size] at hdp hun
  clear hlen
  cases hR
  refine wpAny_call ?_
  k_dflt ktr_enter
  repeat' (first | ((with_reducible show wpAny _ _ (call (Value.ref _) _) _ _ _); first | (k_here; (with_reducible show wpAny _ _ (call (Value.ref 121) [_]) _ _ _); k_dflt (refine' whole_use ?kB ?kF ?kX ?kN ?kT ?kK ?hl ?hm ?kd ?ku ?_; (case kB => k_asm); (case kF => k_asm); (case kX => k_asm); (case kN => k_asm); (case kT => k_asm); (case kK => first | exact rfl | assumption); (case hl => assumption); (case hm => assumption); (case kd => ktr_room); (case ku => ktr_units)); intro _ _ _ _ _ _; (try dsimp only); (try k_fold)) | (k_here; (with_reducible show wpAny _ _ (call (Value.ref 199) [_]) _ _ _); k_dflt (refine' shown_text_use ?kB ?kF ?kX ?kN ?kT ?kK ?hl ?kd ?ku ?_; (case kB => k_asm); (case kF => k_asm); (case kX => k_asm); (case kN => k_asm); (case kT => k_asm); (case kK => first | exact rfl | assumption); (case hl => assumption); (case kd => ktr_room); (case ku => ktr_units)); intro _ _ _ _ _ _; (try dsimp only); (try k_fold)) | (k_here; (with_reducible show wpAny _ _ (call (Value.ref 213) [_]) _ _ _); k_dflt (refine' show_use ?kC ?kB ?kF ?kX ?kN ?kT ?kK ?R ?hl ?kd ?ku ?_; (case R => assumption); (case kC => assumption); (case kB => k_asm); (case kF => k_asm); (case kX => k_asm); (case kN => exact KStt.news_of (by assumption) (by ktd_sub)); (case kT => k_asm); (case kK => first | exact rfl | assumption); (case hl => assumption); (case kd => ktr_room); (case ku => ktr_units)); intro _ _ _ _ _; (try dsimp only); (try k_fold))) | (k_here; (with_reducible show wpAny _ _ (compareOp CmpOp.In (Value.str _ _) (Value.ref _)) _ _ _); (rename News _ _ _ (_ :: _) => N9; (with_unfolding_all refine' in_tuple_strs (News.isTup N9 (List.Mem.head _)) ?k2 ?_; (case k2 => kde_strs); k_whole); replace N9 := news_tail N9)) | (k_here; (with_reducible show wpAny _ _ (subscriptTail _ _ (Value.ref _) (Value.int _ _)) _ _ _); k_dflt (refine' item_tupleT ?t ?a ?b ?c ?d ?_; (case t => exact News.isTup (by k_asm) (by repeat (first | assumption | refine List.Mem.tail _ ?_))); (case a => decide); (case b => decide); (case c => rfl); (case d => rfl); k_whole)) | (k_here; (with_reducible show wpAny _ _ (subscriptTail (Expr.Dict _ _ _) _ (Value.ref _) (Value.str _ _)) _ _ _); k_dflt (refine' sign_item ?T ?L ?_; (case T => assumption); (case L => first | exact (‹SignTab _›).1 | exact (‹SignTab _›).2.1 | exact (‹SignTab _›).2.2.1 | exact (‹SignTab _›).2.2.2)); intro _ _; (try dsimp only); (try k_fold)) | (k_here; (with_reducible show wpAny _ _ (eval (Expr.Dict _ _ _) _) _ _ _); k_dflt (refine' sign_dict ?F ?N ?b ?_; (case F => k_asm); (case N => k_asm); (case b => exact Top.nolimit (by k_asm))); intro _ _ _ _ _ _ _ _; (try dsimp only); (try k_fold)) | (k_here; (with_reducible show wpAny _ _ (call (Value.builtin "str.upper") [Value.str _ _]) _ _ _); (refine upper_mem (by with_reducible assumption) (by decide +kernel) ?_); intro _ _ _) | (k_here; (with_reducible show wpAny _ _ (compareOp CmpOp.Eq (Value.str _ _) (Value.str _ _)) _ _ _); (refine eq_mem (by with_reducible assumption) (by decide +kernel) ?_)) | (k_here; (with_reducible show wpAny _ _ (compareOp CmpOp.In (Value.str _ _) (Value.ref _)) _ _ _); (with_unfolding_all first | (refine' in_mem false ?m (tup_K ?X ?e) ?k2 ?b ?_; (case m => with_reducible assumption); (case X => k_in); (case e => k_is); (case k2 => kde_strs); (case b => decide +kernel); k_whole) | (refine' in_mem true ?m (tup_K ?X ?e) ?k2 ?b ?_; (case m => with_reducible assumption); (case X => k_in); (case e => k_is); (case k2 => kde_strs); (case b => decide +kernel); k_whole))) | (k_here; (with_reducible show wpAny _ _ (compareOp CmpOp.In (Value.str _ _) (Value.ref _)) _ _ _); (with_unfolding_all refine' in_tuple_strs (tup_K ?X ?e) ?k2 ?_; (case X => k_in); (case e => k_is); (case k2 => kde_strs); k_whole)) | (k_here; (with_reducible show wpAny _ _ (call (Value.type "str") [Value.ref _]) _ _ _); k_dflt (refine' str_tree ?F ?N ?m ?g ?u ?_; (case F => k_asm); (case N => k_asm); (case m => k_mem); (case g => rfl); (case u => ktr_units)); intro _ _ _ _ _ _; (try dsimp only); (try k_fold)) | (k_unfold; (try dsimp only)) | (k_end; wrow_close) | walk1 | (dsimp only; walk1) | (leave1; walk_say "STEP leave1"; try dsimp only) | fail "no step")
  all_goals (try k_data)
  exact ret _ _ _ (by k_asm) (by k_asm)
set_option maxRecDepth 100000 in
set_option maxHeartbeats 8000000 in
theorem show_later (p : Pat) (Cp : ShowSpec p) : ShowSpec (.later p) := by
  unfold ShowSpec
  k_fill
  w_top off
  intro w mean mg mb dp un cn cs a ccd cl outer A₀ base h₀ L m s Q E news v B F X N T hk hR hlen hdp hun ret
  have hlp : p.show.length ≤ 1000 := by
    simp only [Pat.show, Str.length_append] at hlen
    omega
  simp only [Pat.size] at hdp hun
  clear hlen
  cases hR
  refine wpAny_call ?_
  k_dflt ktr_enter
  repeat' (first | ((with_reducible show wpAny _ _ (call (Value.ref _) _) _ _ _); first | (k_here; (with_reducible show wpAny _ _ (call (Value.ref 121) [_]) _ _ _); k_dflt (refine' whole_use ?kB ?kF ?kX ?kN ?kT ?kK ?hl ?hm ?kd ?ku ?_; (case kB => k_asm); (case kF => k_asm); (case kX => k_asm); (case kN => k_asm); (case kT => k_asm); (case kK => first | exact rfl | assumption); (case hl => assumption); (case hm => assumption); (case kd => ktr_room); (case ku => ktr_units)); intro _ _ _ _ _ _; (try dsimp only); (try k_fold)) | (k_here; (with_reducible show wpAny _ _ (call (Value.ref 199) [_]) _ _ _); k_dflt (refine' shown_text_use ?kB ?kF ?kX ?kN ?kT ?kK ?hl ?kd ?ku ?_; (case kB => k_asm); (case kF => k_asm); (case kX => k_asm); (case kN => k_asm); (case kT => k_asm); (case kK => first | exact rfl | assumption); (case hl => assumption); (case kd => ktr_room); (case ku => ktr_units)); intro _ _ _ _ _ _; (try dsimp only); (try k_fold)) | (k_here; (with_reducible show wpAny _ _ (call (Value.ref 213) [_]) _ _ _); k_dflt (refine' show_use ?kC ?kB ?kF ?kX ?kN ?kT ?kK ?R ?hl ?kd ?ku ?_; (case R => assumption); (case kC => assumption); (case kB => k_asm); (case kF => k_asm); (case kX => k_asm); (case kN => exact KStt.news_of (by assumption) (by ktd_sub)); (case kT => k_asm); (case kK => first | exact rfl | assumption); (case hl => assumption); (case kd => ktr_room); (case ku => ktr_units)); intro _ _ _ _ _; (try dsimp only); (try k_fold))) | (k_here; (with_reducible show wpAny _ _ (compareOp CmpOp.In (Value.str _ _) (Value.ref _)) _ _ _); (rename News _ _ _ (_ :: _) => N9; (with_unfolding_all refine' in_tuple_strs (News.isTup N9 (List.Mem.head _)) ?k2 ?_; (case k2 => kde_strs); k_whole); replace N9 := news_tail N9)) | (k_here; (with_reducible show wpAny _ _ (subscriptTail _ _ (Value.ref _) (Value.int _ _)) _ _ _); k_dflt (refine' item_tupleT ?t ?a ?b ?c ?d ?_; (case t => exact News.isTup (by k_asm) (by repeat (first | assumption | refine List.Mem.tail _ ?_))); (case a => decide); (case b => decide); (case c => rfl); (case d => rfl); k_whole)) | (k_here; (with_reducible show wpAny _ _ (subscriptTail (Expr.Dict _ _ _) _ (Value.ref _) (Value.str _ _)) _ _ _); k_dflt (refine' sign_item ?T ?L ?_; (case T => assumption); (case L => first | exact (‹SignTab _›).1 | exact (‹SignTab _›).2.1 | exact (‹SignTab _›).2.2.1 | exact (‹SignTab _›).2.2.2)); intro _ _; (try dsimp only); (try k_fold)) | (k_here; (with_reducible show wpAny _ _ (eval (Expr.Dict _ _ _) _) _ _ _); k_dflt (refine' sign_dict ?F ?N ?b ?_; (case F => k_asm); (case N => k_asm); (case b => exact Top.nolimit (by k_asm))); intro _ _ _ _ _ _ _ _; (try dsimp only); (try k_fold)) | (k_here; (with_reducible show wpAny _ _ (call (Value.builtin "str.upper") [Value.str _ _]) _ _ _); (refine upper_mem (by with_reducible assumption) (by decide +kernel) ?_); intro _ _ _) | (k_here; (with_reducible show wpAny _ _ (compareOp CmpOp.Eq (Value.str _ _) (Value.str _ _)) _ _ _); (refine eq_mem (by with_reducible assumption) (by decide +kernel) ?_)) | (k_here; (with_reducible show wpAny _ _ (compareOp CmpOp.In (Value.str _ _) (Value.ref _)) _ _ _); (with_unfolding_all first | (refine' in_mem false ?m (tup_K ?X ?e) ?k2 ?b ?_; (case m => with_reducible assumption); (case X => k_in); (case e => k_is); (case k2 => kde_strs); (case b => decide +kernel); k_whole) | (refine' in_mem true ?m (tup_K ?X ?e) ?k2 ?b ?_; (case m => with_reducible assumption); (case X => k_in); (case e => k_is); (case k2 => kde_strs); (case b => decide +kernel); k_whole))) | (k_here; (with_reducible show wpAny _ _ (compareOp CmpOp.In (Value.str _ _) (Value.ref _)) _ _ _); (with_unfolding_all refine' in_tuple_strs (tup_K ?X ?e) ?k2 ?_; (case X => k_in); (case e => k_is); (case k2 => kde_strs); k_whole)) | (k_here; (with_reducible show wpAny _ _ (call (Value.type "str") [Value.ref _]) _ _ _); k_dflt (refine' str_tree ?F ?N ?m ?g ?u ?_; (case F => k_asm); (case N => k_asm); (case m => k_mem); (case g => rfl); (case u => ktr_units)); intro _ _ _ _ _ _; (try dsimp only); (try k_fold)) | (k_unfold; (try dsimp only)) | (k_end; wrow_close) | walk1 | (dsimp only; walk1) | (leave1; walk_say "STEP leave1"; try dsimp only) | fail "no step")
  all_goals (try k_data)
  exact ret _ _ _ (by k_asm) (by k_asm)
set_option maxRecDepth 100000 in
set_option maxHeartbeats 8000000 in
theorem show_now (p : Pat) (Cp : ShowSpec p) : ShowSpec (.now p) := by
  unfold ShowSpec
  k_fill
  w_top off
  intro w mean mg mb dp un cn cs a ccd cl outer A₀ base h₀ L m s Q E news v B F X N T hk hR hlen hdp hun ret
  have hlp : p.show.length ≤ 1000 := by
    simp only [Pat.show, Str.length_append] at hlen
    omega
  simp only [Pat.size] at hdp hun
  clear hlen
  cases hR
  refine wpAny_call ?_
  k_dflt ktr_enter
  repeat' (first | ((with_reducible show wpAny _ _ (call (Value.ref _) _) _ _ _); first | (k_here; (with_reducible show wpAny _ _ (call (Value.ref 121) [_]) _ _ _); k_dflt (refine' whole_use ?kB ?kF ?kX ?kN ?kT ?kK ?hl ?hm ?kd ?ku ?_; (case kB => k_asm); (case kF => k_asm); (case kX => k_asm); (case kN => k_asm); (case kT => k_asm); (case kK => first | exact rfl | assumption); (case hl => assumption); (case hm => assumption); (case kd => ktr_room); (case ku => ktr_units)); intro _ _ _ _ _ _; (try dsimp only); (try k_fold)) | (k_here; (with_reducible show wpAny _ _ (call (Value.ref 199) [_]) _ _ _); k_dflt (refine' shown_text_use ?kB ?kF ?kX ?kN ?kT ?kK ?hl ?kd ?ku ?_; (case kB => k_asm); (case kF => k_asm); (case kX => k_asm); (case kN => k_asm); (case kT => k_asm); (case kK => first | exact rfl | assumption); (case hl => assumption); (case kd => ktr_room); (case ku => ktr_units)); intro _ _ _ _ _ _; (try dsimp only); (try k_fold)) | (k_here; (with_reducible show wpAny _ _ (call (Value.ref 213) [_]) _ _ _); k_dflt (refine' show_use ?kC ?kB ?kF ?kX ?kN ?kT ?kK ?R ?hl ?kd ?ku ?_; (case R => assumption); (case kC => assumption); (case kB => k_asm); (case kF => k_asm); (case kX => k_asm); (case kN => exact KStt.news_of (by assumption) (by ktd_sub)); (case kT => k_asm); (case kK => first | exact rfl | assumption); (case hl => assumption); (case kd => ktr_room); (case ku => ktr_units)); intro _ _ _ _ _; (try dsimp only); (try k_fold))) | (k_here; (with_reducible show wpAny _ _ (compareOp CmpOp.In (Value.str _ _) (Value.ref _)) _ _ _); (rename News _ _ _ (_ :: _) => N9; (with_unfolding_all refine' in_tuple_strs (News.isTup N9 (List.Mem.head _)) ?k2 ?_; (case k2 => kde_strs); k_whole); replace N9 := news_tail N9)) | (k_here; (with_reducible show wpAny _ _ (subscriptTail _ _ (Value.ref _) (Value.int _ _)) _ _ _); k_dflt (refine' item_tupleT ?t ?a ?b ?c ?d ?_; (case t => exact News.isTup (by k_asm) (by repeat (first | assumption | refine List.Mem.tail _ ?_))); (case a => decide); (case b => decide); (case c => rfl); (case d => rfl); k_whole)) | (k_here; (with_reducible show wpAny _ _ (subscriptTail (Expr.Dict _ _ _) _ (Value.ref _) (Value.str _ _)) _ _ _); k_dflt (refine' sign_item ?T ?L ?_; (case T => assumption); (case L => first | exact (‹SignTab _›).1 | exact (‹SignTab _›).2.1 | exact (‹SignTab _›).2.2.1 | exact (‹SignTab _›).2.2.2)); intro _ _; (try dsimp only); (try k_fold)) | (k_here; (with_reducible show wpAny _ _ (eval (Expr.Dict _ _ _) _) _ _ _); k_dflt (refine' sign_dict ?F ?N ?b ?_; (case F => k_asm); (case N => k_asm); (case b => exact Top.nolimit (by k_asm))); intro _ _ _ _ _ _ _ _; (try dsimp only); (try k_fold)) | (k_here; (with_reducible show wpAny _ _ (call (Value.builtin "str.upper") [Value.str _ _]) _ _ _); (refine upper_mem (by with_reducible assumption) (by decide +kernel) ?_); intro _ _ _) | (k_here; (with_reducible show wpAny _ _ (compareOp CmpOp.Eq (Value.str _ _) (Value.str _ _)) _ _ _); (refine eq_mem (by with_reducible assumption) (by decide +kernel) ?_)) | (k_here; (with_reducible show wpAny _ _ (compareOp CmpOp.In (Value.str _ _) (Value.ref _)) _ _ _); (with_unfolding_all first | (refine' in_mem false ?m (tup_K ?X ?e) ?k2 ?b ?_; (case m => with_reducible assumption); (case X => k_in); (case e => k_is); (case k2 => kde_strs); (case b => decide +kernel); k_whole) | (refine' in_mem true ?m (tup_K ?X ?e) ?k2 ?b ?_; (case m => with_reducible assumption); (case X => k_in); (case e => k_is); (case k2 => kde_strs); (case b => decide +kernel); k_whole))) | (k_here; (with_reducible show wpAny _ _ (compareOp CmpOp.In (Value.str _ _) (Value.ref _)) _ _ _); (with_unfolding_all refine' in_tuple_strs (tup_K ?X ?e) ?k2 ?_; (case X => k_in); (case e => k_is); (case k2 => kde_strs); k_whole)) | (k_here; (with_reducible show wpAny _ _ (call (Value.type "str") [Value.ref _]) _ _ _); k_dflt (refine' str_tree ?F ?N ?m ?g ?u ?_; (case F => k_asm); (case N => k_asm); (case m => k_mem); (case g => rfl); (case u => ktr_units)); intro _ _ _ _ _ _; (try dsimp only); (try k_fold)) | (k_unfold; (try dsimp only)) | (k_end; wrow_close) | walk1 | (dsimp only; walk1) | (leave1; walk_say "STEP leave1"; try dsimp only) | fail "no step")
  all_goals (try k_data)
  exact ret _ _ _ (by k_asm) (by k_asm)
set_option maxRecDepth 100000 in
set_option maxHeartbeats 8000000 in
theorem show_cat (p q : Pat) (Cp : ShowSpec p) (Cq : ShowSpec q) : ShowSpec (.cat p q) := by
  unfold ShowSpec
  k_fill
  w_top off
  intro w mean mg mb dp un cn cs a ccd cl outer A₀ base h₀ L m s Q E news v B F X N T hk hR hlen hdp hun ret
  have hlp : p.show.length ≤ 1000 := by
    simp only [Pat.show, Str.length_append] at hlen
    omega
  have hlq : q.show.length ≤ 1000 := by
    simp only [Pat.show, Str.length_append] at hlen
    omega
  simp only [Pat.size] at hdp hun
  clear hlen
  cases hR
  refine wpAny_call ?_
  k_dflt ktr_enter
  repeat' (first | ((with_reducible show wpAny _ _ (call (Value.ref _) _) _ _ _); first | (k_here; (with_reducible show wpAny _ _ (call (Value.ref 121) [_]) _ _ _); k_dflt (refine' whole_use ?kB ?kF ?kX ?kN ?kT ?kK ?hl ?hm ?kd ?ku ?_; (case kB => k_asm); (case kF => k_asm); (case kX => k_asm); (case kN => k_asm); (case kT => k_asm); (case kK => first | exact rfl | assumption); (case hl => assumption); (case hm => assumption); (case kd => ktr_room); (case ku => ktr_units)); intro _ _ _ _ _ _; (try dsimp only); (try k_fold)) | (k_here; (with_reducible show wpAny _ _ (call (Value.ref 199) [_]) _ _ _); k_dflt (refine' shown_text_use ?kB ?kF ?kX ?kN ?kT ?kK ?hl ?kd ?ku ?_; (case kB => k_asm); (case kF => k_asm); (case kX => k_asm); (case kN => k_asm); (case kT => k_asm); (case kK => first | exact rfl | assumption); (case hl => assumption); (case kd => ktr_room); (case ku => ktr_units)); intro _ _ _ _ _ _; (try dsimp only); (try k_fold)) | (k_here; (with_reducible show wpAny _ _ (call (Value.ref 213) [_]) _ _ _); k_dflt (refine' show_use ?kC ?kB ?kF ?kX ?kN ?kT ?kK ?R ?hl ?kd ?ku ?_; (case R => assumption); (case kC => assumption); (case kB => k_asm); (case kF => k_asm); (case kX => k_asm); (case kN => exact KStt.news_of (by assumption) (by ktd_sub)); (case kT => k_asm); (case kK => first | exact rfl | assumption); (case hl => assumption); (case kd => ktr_room); (case ku => ktr_units)); intro _ _ _ _ _; (try dsimp only); (try k_fold))) | (k_here; (with_reducible show wpAny _ _ (compareOp CmpOp.In (Value.str _ _) (Value.ref _)) _ _ _); (rename News _ _ _ (_ :: _) => N9; (with_unfolding_all refine' in_tuple_strs (News.isTup N9 (List.Mem.head _)) ?k2 ?_; (case k2 => kde_strs); k_whole); replace N9 := news_tail N9)) | (k_here; (with_reducible show wpAny _ _ (subscriptTail _ _ (Value.ref _) (Value.int _ _)) _ _ _); k_dflt (refine' item_tupleT ?t ?a ?b ?c ?d ?_; (case t => exact News.isTup (by k_asm) (by repeat (first | assumption | refine List.Mem.tail _ ?_))); (case a => decide); (case b => decide); (case c => rfl); (case d => rfl); k_whole)) | (k_here; (with_reducible show wpAny _ _ (subscriptTail (Expr.Dict _ _ _) _ (Value.ref _) (Value.str _ _)) _ _ _); k_dflt (refine' sign_item ?T ?L ?_; (case T => assumption); (case L => first | exact (‹SignTab _›).1 | exact (‹SignTab _›).2.1 | exact (‹SignTab _›).2.2.1 | exact (‹SignTab _›).2.2.2)); intro _ _; (try dsimp only); (try k_fold)) | (k_here; (with_reducible show wpAny _ _ (eval (Expr.Dict _ _ _) _) _ _ _); k_dflt (refine' sign_dict ?F ?N ?b ?_; (case F => k_asm); (case N => k_asm); (case b => exact Top.nolimit (by k_asm))); intro _ _ _ _ _ _ _ _; (try dsimp only); (try k_fold)) | (k_here; (with_reducible show wpAny _ _ (call (Value.builtin "str.upper") [Value.str _ _]) _ _ _); (refine upper_mem (by with_reducible assumption) (by decide +kernel) ?_); intro _ _ _) | (k_here; (with_reducible show wpAny _ _ (compareOp CmpOp.Eq (Value.str _ _) (Value.str _ _)) _ _ _); (refine eq_mem (by with_reducible assumption) (by decide +kernel) ?_)) | (k_here; (with_reducible show wpAny _ _ (compareOp CmpOp.In (Value.str _ _) (Value.ref _)) _ _ _); (with_unfolding_all first | (refine' in_mem false ?m (tup_K ?X ?e) ?k2 ?b ?_; (case m => with_reducible assumption); (case X => k_in); (case e => k_is); (case k2 => kde_strs); (case b => decide +kernel); k_whole) | (refine' in_mem true ?m (tup_K ?X ?e) ?k2 ?b ?_; (case m => with_reducible assumption); (case X => k_in); (case e => k_is); (case k2 => kde_strs); (case b => decide +kernel); k_whole))) | (k_here; (with_reducible show wpAny _ _ (compareOp CmpOp.In (Value.str _ _) (Value.ref _)) _ _ _); (with_unfolding_all refine' in_tuple_strs (tup_K ?X ?e) ?k2 ?_; (case X => k_in); (case e => k_is); (case k2 => kde_strs); k_whole)) | (k_here; (with_reducible show wpAny _ _ (call (Value.type "str") [Value.ref _]) _ _ _); k_dflt (refine' str_tree ?F ?N ?m ?g ?u ?_; (case F => k_asm); (case N => k_asm); (case m => k_mem); (case g => rfl); (case u => ktr_units)); intro _ _ _ _ _ _; (try dsimp only); (try k_fold)) | (k_unfold; (try dsimp only)) | (k_end; wrow_close) | walk1 | (dsimp only; walk1) | (leave1; walk_say "STEP leave1"; try dsimp only) | fail "no step")
  all_goals (try k_data)
  exact ret _ _ _ (by k_asm) (by k_asm)
set_option maxRecDepth 100000 in
set_option maxHeartbeats 8000000 in
theorem show_alt (p q : Pat) (Cp : ShowSpec p) (Cq : ShowSpec q) : ShowSpec (.alt p q) := by
  unfold ShowSpec
  k_fill
  w_top off
  intro w mean mg mb dp un cn cs a ccd cl outer A₀ base h₀ L m s Q E news v B F X N T hk hR hlen hdp hun ret
  have hlp : p.show.length ≤ 1000 := by
    simp only [Pat.show, Str.length_append] at hlen
    omega
  have hlq : q.show.length ≤ 1000 := by
    simp only [Pat.show, Str.length_append] at hlen
    omega
  simp only [Pat.size] at hdp hun
  clear hlen
  cases hR
  refine wpAny_call ?_
  k_dflt ktr_enter
  repeat' (first | ((with_reducible show wpAny _ _ (call (Value.ref _) _) _ _ _); first | (k_here; (with_reducible show wpAny _ _ (call (Value.ref 121) [_]) _ _ _); k_dflt (refine' whole_use ?kB ?kF ?kX ?kN ?kT ?kK ?hl ?hm ?kd ?ku ?_; (case kB => k_asm); (case kF => k_asm); (case kX => k_asm); (case kN => k_asm); (case kT => k_asm); (case kK => first | exact rfl | assumption); (case hl => assumption); (case hm => assumption); (case kd => ktr_room); (case ku => ktr_units)); intro _ _ _ _ _ _; (try dsimp only); (try k_fold)) | (k_here; (with_reducible show wpAny _ _ (call (Value.ref 199) [_]) _ _ _); k_dflt (refine' shown_text_use ?kB ?kF ?kX ?kN ?kT ?kK ?hl ?kd ?ku ?_; (case kB => k_asm); (case kF => k_asm); (case kX => k_asm); (case kN => k_asm); (case kT => k_asm); (case kK => first | exact rfl | assumption); (case hl => assumption); (case kd => ktr_room); (case ku => ktr_units)); intro _ _ _ _ _ _; (try dsimp only); (try k_fold)) | (k_here; (with_reducible show wpAny _ _ (call (Value.ref 213) [_]) _ _ _); k_dflt (refine' show_use ?kC ?kB ?kF ?kX ?kN ?kT ?kK ?R ?hl ?kd ?ku ?_; (case R => assumption); (case kC => assumption); (case kB => k_asm); (case kF => k_asm); (case kX => k_asm); (case kN => exact KStt.news_of (by assumption) (by ktd_sub)); (case kT => k_asm); (case kK => first | exact rfl | assumption); (case hl => assumption); (case kd => ktr_room); (case ku => ktr_units)); intro _ _ _ _ _; (try dsimp only); (try k_fold))) | (k_here; (with_reducible show wpAny _ _ (compareOp CmpOp.In (Value.str _ _) (Value.ref _)) _ _ _); (rename News _ _ _ (_ :: _) => N9; (with_unfolding_all refine' in_tuple_strs (News.isTup N9 (List.Mem.head _)) ?k2 ?_; (case k2 => kde_strs); k_whole); replace N9 := news_tail N9)) | (k_here; (with_reducible show wpAny _ _ (subscriptTail _ _ (Value.ref _) (Value.int _ _)) _ _ _); k_dflt (refine' item_tupleT ?t ?a ?b ?c ?d ?_; (case t => exact News.isTup (by k_asm) (by repeat (first | assumption | refine List.Mem.tail _ ?_))); (case a => decide); (case b => decide); (case c => rfl); (case d => rfl); k_whole)) | (k_here; (with_reducible show wpAny _ _ (subscriptTail (Expr.Dict _ _ _) _ (Value.ref _) (Value.str _ _)) _ _ _); k_dflt (refine' sign_item ?T ?L ?_; (case T => assumption); (case L => first | exact (‹SignTab _›).1 | exact (‹SignTab _›).2.1 | exact (‹SignTab _›).2.2.1 | exact (‹SignTab _›).2.2.2)); intro _ _; (try dsimp only); (try k_fold)) | (k_here; (with_reducible show wpAny _ _ (eval (Expr.Dict _ _ _) _) _ _ _); k_dflt (refine' sign_dict ?F ?N ?b ?_; (case F => k_asm); (case N => k_asm); (case b => exact Top.nolimit (by k_asm))); intro _ _ _ _ _ _ _ _; (try dsimp only); (try k_fold)) | (k_here; (with_reducible show wpAny _ _ (call (Value.builtin "str.upper") [Value.str _ _]) _ _ _); (refine upper_mem (by with_reducible assumption) (by decide +kernel) ?_); intro _ _ _) | (k_here; (with_reducible show wpAny _ _ (compareOp CmpOp.Eq (Value.str _ _) (Value.str _ _)) _ _ _); (refine eq_mem (by with_reducible assumption) (by decide +kernel) ?_)) | (k_here; (with_reducible show wpAny _ _ (compareOp CmpOp.In (Value.str _ _) (Value.ref _)) _ _ _); (with_unfolding_all first | (refine' in_mem false ?m (tup_K ?X ?e) ?k2 ?b ?_; (case m => with_reducible assumption); (case X => k_in); (case e => k_is); (case k2 => kde_strs); (case b => decide +kernel); k_whole) | (refine' in_mem true ?m (tup_K ?X ?e) ?k2 ?b ?_; (case m => with_reducible assumption); (case X => k_in); (case e => k_is); (case k2 => kde_strs); (case b => decide +kernel); k_whole))) | (k_here; (with_reducible show wpAny _ _ (compareOp CmpOp.In (Value.str _ _) (Value.ref _)) _ _ _); (with_unfolding_all refine' in_tuple_strs (tup_K ?X ?e) ?k2 ?_; (case X => k_in); (case e => k_is); (case k2 => kde_strs); k_whole)) | (k_here; (with_reducible show wpAny _ _ (call (Value.type "str") [Value.ref _]) _ _ _); k_dflt (refine' str_tree ?F ?N ?m ?g ?u ?_; (case F => k_asm); (case N => k_asm); (case m => k_mem); (case g => rfl); (case u => ktr_units)); intro _ _ _ _ _ _; (try dsimp only); (try k_fold)) | (k_unfold; (try dsimp only)) | (k_end; wrow_close) | walk1 | (dsimp only; walk1) | (leave1; walk_say "STEP leave1"; try dsimp only) | fail "no step")
  all_goals (try k_data)
  exact ret _ _ _ (by k_asm) (by k_asm)
theorem show_ok : ∀ p : Pat, ShowSpec p
  | .chars t => show_chars t
  | .count k i => show_count k i
  | .signs k t => show_signs k t
  | .alone k => show_alone k
  | .delay => show_delay
  | .lenDelay => show_lenDelay
  | .cursor => show_cursor
  | .arbno p => show_arbno p (show_ok p)
  | .later p => show_later p (show_ok p)
  | .now p => show_now p (show_ok p)
  | .cat p q => show_cat p q (show_ok p) (show_ok q)
  | .alt p q => show_alt p q (show_ok p) (show_ok q)
end
end Mine
end
section
open PySem PySem.W PySem.Calls PyProof.Rows
namespace Mine
theorem len_x : (Str.ofString "x").length = 1 := by decide
theorem xtext_len {x : Str} (h : x.length ≤ 4) : (Str.ofString "x" ++ x).length ≤ 5 := by rw [Str.length_append, len_x]; omega
theorem ne_cons {th c : Addr} {o : Obj} {l : List (Addr × Obj)} (h : @LT.lt Nat instLTNat th c) (hl : ∀ q ∈ l, q.1 ≠ th) : ∀ q ∈ (c, o) :: l, q.1 ≠ th := by
  intro q hq
  rcases List.mem_cons.mp hq with rfl | hq
  · exact (Nat.ne_of_lt h).symm
  · exact hl q hq
section
variable {h₀ h : Heap} {L : Addr} {rest : List (Addr × Obj)} {c x y z u v d e t b : Addr × Obj}
theorem nw3 (N : News h₀ L h (c :: x :: t :: b :: z :: rest)) : News h₀ L h (t :: b :: c :: ([x] ++ rest)) := KStt.news_of N (by intro p hp; simp only [List.cons_append, List.nil_append, List.mem_cons] at hp ⊢; grind)
theorem nw1 (N : News h₀ L h (c :: x :: z :: t :: b :: y :: rest)) : News h₀ L h (t :: b :: c :: ([x] ++ rest)) := KStt.news_of N (by intro p hp; simp only [List.cons_append, List.nil_append, List.mem_cons] at hp ⊢; grind)
theorem nw0 (N : News h₀ L h (c :: x :: t :: b :: rest)) : News h₀ L h (t :: b :: c :: ([x] ++ rest)) := KStt.news_of N (by intro p hp; simp only [List.cons_append, List.nil_append, List.mem_cons] at hp ⊢; grind)
theorem nw4a (N : News h₀ L h (c :: x :: t :: b :: y :: rest)) : News h₀ L h (t :: b :: c :: ([x, y] ++ rest)) := KStt.news_of N (by intro p hp; simp only [List.cons_append, List.nil_append, List.mem_cons] at hp ⊢; grind)
theorem nw4b (N : News h₀ L h (c :: x :: y :: t :: b :: z :: rest)) : News h₀ L h (t :: b :: c :: ([x, y, z] ++ rest)) := KStt.news_of N (by intro p hp; simp only [List.cons_append, List.nil_append, List.mem_cons] at hp ⊢; grind)
theorem nw5 (N : News h₀ L h (c :: x :: y :: z :: t :: b :: rest)) : News h₀ L h (t :: b :: c :: ([x, y, z] ++ rest)) := KStt.news_of N (by intro p hp; simp only [List.cons_append, List.nil_append, List.mem_cons] at hp ⊢; grind)
end
section
variable {h₀ h : Heap} {L : Addr} {rest l l' : List (Addr × Obj)} {c x y z t b g j1 j2 j3 j4 j5 j6 d e f k : Addr × Obj} {th : Addr}
theorem nw6 (N : News h₀ L h (c :: x :: j1 :: j2 :: j3 :: t :: b :: g :: (l ++ rest))) : News h₀ L h (t :: b :: c :: ((x :: l) ++ rest)) := KStt.news_of N (by intro p hp; simp only [List.cons_append, List.mem_cons, List.mem_append] at hp ⊢; grind)
theorem nw7 (N : News h₀ L h (c :: x :: y :: z :: j1 :: j2 :: j3 :: j4 :: j5 :: j6 :: t :: b :: g :: (l ++ rest))) : News h₀ L h (t :: b :: c :: ((x :: y :: z :: l) ++ rest)) := KStt.news_of N (by intro p hp; simp only [List.cons_append, List.mem_cons, List.mem_append] at hp ⊢; grind)
theorem nw9 (N : News h₀ L h (c :: x :: j1 :: j2 :: j3 :: t :: b :: g :: (l ++ (d :: e :: f :: k :: (l' ++ rest))))) : News h₀ L h (t :: b :: c :: ((x :: (l ++ l')) ++ rest)) := KStt.news_of N (by intro p hp; simp only [List.cons_append, List.mem_cons, List.mem_append] at hp ⊢; grind)
theorem ne6 (H : ∀ q ∈ g :: (l ++ rest), q.1 ≠ th) : ∀ q ∈ l ++ rest, q.1 ≠ th := fun q hq => H q (.tail _ hq)
theorem ne9 (H : ∀ q ∈ g :: (l ++ (d :: e :: f :: k :: (l' ++ rest))), q.1 ≠ th) : ∀ q ∈ (l ++ l') ++ rest, q.1 ≠ th := fun q hq => H q (by simp only [List.cons_append, List.mem_cons, List.mem_append] at hq ⊢; grind)
end
theorem size2 {p q : Pat} {zb : Nat} (h : p.size ≤ zb) (h' : q.size ≤ zb) : p.size + q.size + 1 ≤ 2 * zb + 1 := by omega
theorem V_is : Str.ofString "V)" = Str.ofString "V" ++ Str.ofString ")" := by decide +kernel
theorem later_e (p : Pat) : (Pat.later p).show = Str.ofString "(" ++ p.show ++ Str.ofString " . " ++ Str.ofString "V)" := by
  rw [V_is, ← Str.append_assoc]; rfl
theorem now_e (p : Pat) : (Pat.now p).show = Str.ofString "(" ++ p.show ++ Str.ofString " $ " ++ Str.ofString "V)" := by
  rw [V_is, ← Str.append_assoc]; rfl
theorem chars_e1 {x : Str} (o1 : (Builtin.Str.occurrences x (Str.ofString "'") 0 x.length 1).isEmpty = true) : (Pat.chars x).show = shownText x := if_neg (fun h => by have := h.1; unfold noQ at this; rw [o1] at this; cases this)
theorem chars_e2 {x : Str} (o1 : (Builtin.Str.occurrences x (Str.ofString "\"") 0 x.length 1).isEmpty = true) : (Pat.chars x).show = shownText x := if_neg (fun h => by have := h.2; unfold noQ at this; rw [o1] at this; cases this)
theorem chars_e3 {x : Str} (o1 : (Builtin.Str.occurrences x (Str.ofString "'") 0 x.length 1).isEmpty = false) (o2 : (Builtin.Str.occurrences x (Str.ofString "\"") 0 x.length 1).isEmpty = false) : (Pat.chars x).show = Str.ofString "(" ++ shownText x ++ Str.ofString ")" := if_pos ⟨o1, o2⟩
theorem par_len : (Str.ofString "(").length = 1 ∧ (Str.ofString ")").length = 1 := by decide
theorem chars_len {x : Str} (h : x.length ≤ 5) : (Pat.chars x).show.length ≤ 62 := by
  have := shown_len x h
  show (charsText x).length ≤ 62
  unfold charsText
  split
  · rw [Str.length_append, Str.length_append, par_len.1, par_len.2]; omega
  · omega
theorem caps_counts : ∀ k ∈ counts, (caps k).length ≤ 10 := by decide +kernel
theorem caps_signss : ∀ k ∈ signss, (caps k).length ≤ 10 := by decide +kernel
theorem caps_alones : ∀ k ∈ alones, (caps k).length ≤ 10 := by decide +kernel
theorem count_len {k : Str} {i : Int} (hk : k ∈ counts) (h0 : 0 ≤ i) (h1 : i < 200) : (Pat.count k i).show.length ≤ 62 := by
  have := caps_counts k hk
  have := num_len h0 h1
  simp only [Pat.show, Str.length_append, par_len.1, par_len.2]
  omega
theorem signs_len {k t : Str} (hk : k ∈ signss) (h : t.length ≤ 5) : (Pat.signs k t).show.length ≤ 62 := by
  have := caps_signss k hk
  have := shown_len t h
  simp only [Pat.show, Str.length_append, par_len.1, par_len.2]
  omega
theorem alone_len {k : Str} (hk : k ∈ alones) : (Pat.alone k).show.length ≤ 62 := by
  have := caps_alones k hk
  simp only [Pat.show]
  omega
theorem delay_e : (Pat.delay).show = Str.ofString "*('name', 'N')" := by decide +kernel
theorem lenDelay_e : (Pat.lenDelay).show = Str.ofString "LEN(*('name', 'N'))" := by decide +kernel
theorem delay_len : (Pat.delay).show.length ≤ 62 := by decide +kernel
theorem lenDelay_len : (Pat.lenDelay).show.length ≤ 62 := by decide +kernel
theorem cursor_len : (Pat.cursor).show.length ≤ 62 := by decide +kernel
theorem lits_len : (Str.ofString "ARBNO(").length = 6 ∧ (Str.ofString " . ").length = 3 ∧ (Str.ofString " $ ").length = 3 ∧ (Str.ofString " | ").length = 3 ∧ (Str.ofString " ").length = 1 ∧ (Str.ofString "V").length = 1 := by decide +kernel
theorem arbno_len {p : Pat} {lb : Nat} (h : p.show.length ≤ lb) : (Pat.arbno p).show.length ≤ 2 * lb + 62 := by
  simp only [Pat.show, Str.length_append, par_len.1, par_len.2, lits_len.1]; omega
theorem later_len {p : Pat} {lb : Nat} (h : p.show.length ≤ lb) : (Pat.later p).show.length ≤ 2 * lb + 62 := by
  simp only [Pat.show, Str.length_append, par_len.1, par_len.2, lits_len.2.1, lits_len.2.2.2.2.2]; omega
theorem now_len {p : Pat} {lb : Nat} (h : p.show.length ≤ lb) : (Pat.now p).show.length ≤ 2 * lb + 62 := by
  simp only [Pat.show, Str.length_append, par_len.1, par_len.2, lits_len.2.2.1, lits_len.2.2.2.2.2]; omega
theorem cat_len {p q : Pat} {lb : Nat} (h : p.show.length ≤ lb) (h' : q.show.length ≤ lb) : (Pat.cat p q).show.length ≤ 2 * lb + 62 := by
  simp only [Pat.show, Str.length_append, par_len.1, par_len.2, lits_len.2.2.2.2.1]; omega
theorem alt_len {p q : Pat} {lb : Nat} (h : p.show.length ≤ lb) (h' : q.show.length ≤ lb) : (Pat.alt p q).show.length ≤ 2 * lb + 62 := by
  simp only [Pat.show, Str.length_append, par_len.1, par_len.2, lits_len.2.2.2.1]; omega
end Mine
end
section
open PySem PySem.W PySem.Calls PyProof.Rows
namespace Mine
section
variable {prog : Program} {w : World} {A : Around} {E : Value → Shared → Prop} {s : Shared} {Q : Value → Shared → Prop}
theorem kinds_item {value slice : Expr} {a : Addr} {its : Array Value} {ys : List Str} {r : Int} {u : Tok} (hl : s.heap.IsList a its) (hi : StrsAre its.toList ys) (h0 : 0 ≤ r) (h1 : r < ys.length) (hb : ys.length ≤ 100) (h : ∀ k ∈ ys, ∀ t, Q (.str k t) s)
    (hs : subscripted slice false (.ref a) (.int r u) = operate [.ref a, .int r u] (getItem (.ref a) (.int r u)) := by with_unfolding_all rfl) :
    wpAny (model prog w) A (subscriptTail value slice (.ref a) (.int r u)) Q E s := by
  have hlt : r.toNat < ys.length := by omega
  obtain ⟨t, ht⟩ := hi.at (List.getElem?_eq_getElem hlt)
  exact tail_any hl.typeIs slot_list_getitem.lookup (wpAny_getItem_list (x := .str ys[r.toNat] t) hl h0 (by omega) (by simpa using ht) (h _ (List.getElem_mem _) t)) hs
end
/-- the form drawn -/
def FormPost (g : Heap) (L : Addr) (m : Str → Option Value) (s : Shared) (th b : Addr) (t : Int) (n n2 : Nat) (vs : List Value) (rest : List (Addr × Obj)) (deep : Int) (v : Value) (s' : Shared) : Prop :=
  ∃ r tk1 tk2 h' tk', v = .int r tk1 ∧ s' = { s with heap := h', toks := tk' } ∧ 0 ≤ r ∧ r < 11 ∧ (6 ≤ r → 0 < deep) ∧ Fr g L h' m ∧ News g L h' ((th, listOf #[.int (t+1) tk2, .ref b] n) :: (b, listOf vs.toArray n2) :: rest)
theorem form_join {prog : Program} {w : World} {A : Around} {E : Value → Shared → Prop} {s : Shared} {Q : Value → Shared → Prop} {tree : Sem Value} {g : Heap} {L : Addr} {m : Str → Option Value} {th b : Addr} {t : Int} {tk : Tok} {n n2 : Nat} {vs : List Value} {rest : List (Addr × Obj)} {deep : Int}
    (_ : Fr g L s.heap m) (_ : News g L s.heap ((th, listOf #[.int t tk, .ref b] n) :: (b, listOf vs.toArray n2) :: rest)) (_ : deep ≤ 2)
    (h1 : wpAny (model prog w) A tree (FormPost g L m s th b t n n2 vs rest deep) E s)
    (h2 : ∀ r tk1 tk2 h' tk', 0 ≤ r → r < 11 → (6 ≤ r → 0 < deep) → Fr g L h' m → News g L h' ((th, listOf #[.int (t+1) tk2, .ref b] n) :: (b, listOf vs.toArray n2) :: rest) → Q (.int r tk1) { s with heap := h', toks := tk' }) :
    wpAny (model prog w) A tree Q E s :=
  wpAny_mono h1 (fun v s' h => by obtain ⟨r, tk1, tk2, h', tk', rfl, rfl, a, b, c, d, e⟩ := h; exact h2 r tk1 tk2 h' tk' a b c d e) fun _ _ x => x
/-- what a call of _law_pattern is to do -/
def PatSpec (deep nb : Int) (lb zb : Nat) : Prop := ∀ {w : World} {mean : ExcName → Option Value} {mg mb : Str → Option Value} {dp un : Nat} {cn : Str} {cs : Scope} {a : Addr} {ccd : Value} {cl : List (Str × Addr)} {outer : List Env} {A₀ : Around} {base h₀ : Heap} {L : Addr} {m : Str → Option Value} {s : Shared}
    {Q E : Value → Shared → Prop} {th b : Addr} {t : Int} {tk tkd : Tok} {n n2 : Nat} {vs : List Value} {ns : List Int} {rest : List (Addr × Obj)},
    Below A₀ base outer h₀ → Fr h₀ L s.heap m → (hd.heap_39 w.params).In h₀ → News h₀ L s.heap ((th, listOf #[.int t tk, .ref b] n) :: (b, listOf vs.toArray n2) :: rest) → Top topProg LL mean mg mb h₀ → cs.kind = .function →
    b ≠ th → (∀ p ∈ rest, p.1 ≠ th) → IntsAre vs ns → ns.length ≤ 63 → 0 ≤ t → t + nb ≤ 80 → dp + 5 * zb < 700 → un + 40 * zb < 700 →
    (∀ c nv p tk1 tk2 n' t' tl h' tk', t ≤ t' → t' ≤ t + nb → PatIn tl nv p → p.show.length ≤ lb → p.size ≤ zb → (∀ q ∈ ((c, tupO #[nv, .str p.show tk1] n') :: (tl ++ rest)), q.1 ≠ th) → Fr h₀ L h' m →
      News h₀ L h' ((th, listOf #[.int t' tk2, .ref b] n) :: (b, listOf vs.toArray n2) :: (c, tupO #[nv, .str p.show tk1] n') :: (tl ++ rest)) → Q (.ref c) { s with heap := h', toks := tk' }) →
    wpAny (model PySem.Challenge.rw_pf0367_01.row.prog w) (ktrTop dp un (some []) cn cs L a ccd cl outer) (call (.ref 246) [.ref th, .int deep tkd]) Q E s
theorem pat_use {deep nb : Int} {lb zb : Nat} (C : PatSpec deep nb lb zb) {w : World} {mean : ExcName → Option Value} {mg mb : Str → Option Value} {dp un : Nat} {cn : Str} {cs : Scope} {a : Addr} {ccd : Value} {cl : List (Str × Addr)} {outer : List Env} {A₀ : Around} {base h₀ : Heap} {L : Addr} {m : Str → Option Value} {s : Shared}
    {Q E : Value → Shared → Prop} {th b : Addr} {t : Int} {tk tkd : Tok} {n n2 : Nat} {vs : List Value} {ns : List Int} {news r1 rest : List (Addr × Obj)}
    (B : Below A₀ base outer h₀) (F : Fr h₀ L s.heap m) (X : (hd.heap_39 w.params).In h₀) (N : News h₀ L s.heap news) (T : Top topProg LL mean mg mb h₀) (hk : cs.kind = .function)
    (t1 : Take (th, listOf #[.int t tk, .ref b] n) news r1) (t2 : Take (b, listOf vs.toArray n2) r1 rest)
    (hne : b ≠ th) (hrest : ∀ p ∈ rest, p.1 ≠ th) (hI : IntsAre vs ns) (hlen : ns.length ≤ 63) (ht0 : 0 ≤ t) (ht1 : t + nb ≤ 80) (hlb : lb ≤ 200) (hdp : dp + 5 * zb < 700) (hun : un + 40 * zb < 700)
    (ret : ∀ c nv p tk1 tk2 n' t' tl h' tk', t ≤ t' → t' ≤ t + nb → PatIn tl nv p → p.show.length ≤ lb → p.show.length ≤ 200 → p.size ≤ zb → (∀ q ∈ ((c, tupO #[nv, .str p.show tk1] n') :: (tl ++ rest)), q.1 ≠ th) → Fr h₀ L h' m →
      News h₀ L h' ((th, listOf #[.int t' tk2, .ref b] n) :: (b, listOf vs.toArray n2) :: (c, tupO #[nv, .str p.show tk1] n') :: (tl ++ rest)) → Q (.ref c) { s with heap := h', toks := tk' }) :
    wpAny (model PySem.Challenge.rw_pf0367_01.row.prog w) (ktrTop dp un (some []) cn cs L a ccd cl outer) (call (.ref 246) [.ref th, .int deep tkd]) Q E s :=
  C B F X (take_news N t1 t2) T hk hne hrest hI hlen ht0 ht1 hdp hun fun c nv p tk1 tk2 n' t' tl h' tk' a1 a2 a3 a4 a5 a6 a7 a8 => ret c nv p tk1 tk2 n' t' tl h' tk' a1 a2 a3 a4 (Nat.le_trans a4 hlb) a5 a6 a7 a8
section
local macro_rules | `(tactic| k_all) => `(tactic| assumption)
local macro_rules | `(tactic| walk_at "call ref") => `(tactic| (k_here; (with_reducible show wpAny _ _ (call (Value.ref 220) [_, _]) _ _ _); k_dflt (refine' next_use ?kB ?kF ?kX ?kN ?kT ?kK ?t1 ?t2 ?hb ?hr ?hI ?hl ?h0 ?h1 ?m0 ?m1 ?kd ?ku ?_; (case kB => k_asm); (case kF => k_asm); (case kX => k_asm); (case kN => k_asm); (case kT => k_asm); (case kK => first | exact rfl | assumption); (case t1 => (repeat' (first | exact Take.head | refine' Take.tail ?_))); (case t2 => (repeat' (first | exact Take.head | refine' Take.tail ?_))); (case hb => assumption); (case hr => k_all); (case hI => assumption); (case hl => assumption); (case h0 => omega); (case h1 => omega); (case m0 => decide); (case m1 => decide); (case kd => ktr_room); (case ku => ktr_units)); intro r9 tk1 tk2 h9 tk9 hr0 hr1 F9 N9; (try dsimp only); (try k_fold)))
local macro_rules | `(tactic| walk_at "call ref") => `(tactic| (k_here; (with_reducible show wpAny _ _ (call (Value.ref 225) [_]) _ _ _); k_dflt (refine' text_use ?kB ?kF ?kX ?kN ?kT ?kK ?t1 ?t2 ?hb ?hr ?hI ?hl ?h0 ?h1 ?kd ?ku ?_; (case kB => k_asm); (case kF => k_asm); (case kX => k_asm); (case kN => k_asm); (case kT => k_asm); (case kK => first | exact rfl | assumption); (case t1 => (repeat' (first | exact Take.head | refine' Take.tail ?_))); (case t2 => (repeat' (first | exact Take.head | refine' Take.tail ?_))); (case hb => assumption); (case hr => k_all); (case hI => assumption); (case hl => assumption); (case h0 => omega); (case h1 => omega); (case kd => ktr_room); (case ku => ktr_units)); intro x9 t9 tk1 tk2 h9 tk9 hx9 ht9 ht10 F9 N9; (try dsimp only); (try k_fold)))
local macro_rules | `(tactic| walk_at "call ref") => `(tactic| (k_here; (with_reducible show wpAny _ _ (call (Value.ref 232) [_]) _ _ _); k_dflt (refine' quoted_use ?kB ?kF ?kX ?kN ?kT ?kK ?hl ?kd ?ku ?_; (case kB => k_asm); (case kF => k_asm); (case kX => k_asm); (case kN => k_asm); (case kT => k_asm); (case kK => first | exact rfl | assumption); (case hl => (first | omega | exact xtext_len (by assumption))); (case kd => ktr_room); (case ku => ktr_units)); intro tk1 h9 tk9 hL9 F9 N9; (try dsimp only); (try k_fold)))
local macro_rules | `(tactic| walk_at "call type:str") => `(tactic| (k_here; (with_reducible show wpAny _ _ (call (Value.type "str") [Value.ref _]) _ _ _); k_dflt (refine' str_tree ?F ?N ?m ?g ?u ?_; (case F => k_asm); (case N => k_asm); (case m => k_mem); (case g => rfl); (case u => ktr_units)); intro h9 tk1 tk9 hL9 F9 N9; (try dsimp only); (try k_fold)))
local macro_rules | `(tactic| k_room) => `(tactic| ktr_room)
local macro_rules | `(tactic| walk_at "call builtin:str.upper") => `(tactic| (k_here; (with_reducible show wpAny _ _ (call (Value.builtin "str.upper") [Value.str _ _]) _ _ _); (refine upper_mem (by with_reducible assumption) (by decide +kernel) ?_); intro _ _ _))
local macro_rules | `(tactic| walk_at "ite") => `(tactic| (k_here; with_reducible first | refine ite_tt ?_ | refine ite_ff ?_))
local macro_rules | `(tactic| walk_at "subscriptTail") => `(tactic| (k_here; (with_reducible show wpAny _ _ (subscriptTail _ (Expr.Call _ _ _ _) (Value.ref _) (Value.int _ _)) _ _ _); k_dflt (refine' kinds_item ?l ?i ?a ?b ?c ?_ ?f; (case l => is_list); (case i => kde_strs); (case a => with_reducible assumption); (case b => first | with_reducible assumption | (simp; omega)); (case c => decide); (case f => with_unfolding_all rfl)); intro k9 hk9 t9))
local macro_rules | `(tactic| walk_at "call ref") => `(tactic| (k_here; (with_reducible show wpAny _ _ (call (Value.ref 246) [_, _]) _ _ _); k_dflt (refine' pat_use ?kC ?kB ?kF ?kX ?kN ?kT ?kK ?t1 ?t2 ?hb ?hr ?hI ?hl ?h0 ?h1 ?h2 ?kd ?ku ?_; (case kC => with_reducible assumption); (case kB => k_asm); (case kF => k_asm); (case kX => k_asm); (case kN => k_asm); (case kT => k_asm); (case kK => first | exact rfl | assumption); (case t1 => (repeat' (first | exact Take.head | refine' Take.tail ?_))); (case t2 => (repeat' (first | exact Take.head | refine' Take.tail ?_))); (case hb => assumption); (case hr => k_all); (case hI => assumption); (case hl => assumption); (case h0 => omega); (case h1 => omega); (case h2 => assumption); (case kd => ktr_room); (case ku => ktr_units)); intro c9 v9 p9 tk1 tk2 n9 t9 tl9 h9 tk9 ht9 ht10 R9 hlb9 hl9 hz9 hr9 F9 N9; (try dsimp only); (try k_fold)))

local macro_rules | `(tactic| walk_at "subscriptTail") => `(tactic| (k_here; (with_reducible show wpAny _ _ (subscriptTail (Expr.Name _ _) (Expr.Constant _ _ _) (Value.ref _) (Value.int _ _)) _ _ _); k_dflt (refine' item_tupleT ?t ?a ?b ?c ?d ?_; (case t => exact News.isTup (by k_asm) (by repeat' (first | exact List.Mem.head _ | refine List.Mem.tail _ ?_ | refine List.mem_append_right _ ?_))); (case a => decide); (case b => decide); (case c => rfl); (case d => rfl); k_whole)))

set_option maxRecDepth 100000 in
set_option maxHeartbeats 8000000 in
theorem pat_any (deep nb : Int) (lb zb : Nat) (h0 : 0 ≤ deep) (h2 : deep ≤ 2) (hnb : 0 ≤ nb) (hlb : lb ≤ 200) (C : 0 < deep → PatSpec (deep - 1) nb lb zb) : PatSpec deep (2 * nb + 9) (2 * lb + 62) (2 * zb + 1) := by
  unfold PatSpec
  k_fill
  w_top off
  intro w mean mg mb dp un cn cs a ccd cl outer A₀ base h₀ L m s Q E th b t tk tkd n n2 vs ns rest B F X N T hk hne hrest hI hlen ht0 ht1 hdp hun ret
  refine wpAny_call ?_
  k_dflt ktr_enter
  repeat' (first | (fail_if_success (with_reducible show wpAny _ _ (eval (Expr.IfExp _ _ _ _) _) _ _ _)); (first | (k_unfold; (try dsimp only)) | (k_end; wrow_close) | walk1 | (dsimp only; walk1) | (leave1; walk_say "STEP leave1"; try dsimp only) | fail "no step"))
  refine' form_join ?f1 ?f2 ?f3 ?f4 ?f5
  case f1 => k_asm
  case f2 => k_asm
  case f3 => assumption
  case f4 =>
    k_steps
    · exact ⟨_, _, _, _, _, rfl, rfl, by assumption, by omega, fun _ => by omega, by k_asm, by k_asm⟩
    · exact ⟨_, _, _, _, _, rfl, rfl, by assumption, by omega, fun _ => by omega, by k_asm, by k_asm⟩
  intro rf tkf1 tkf2 hf tkf hrf0 hrf1 hrfd FF NF
  have hC : ∀ r : Int, r = rf → 6 ≤ r → PatSpec (deep - 1) nb lb zb := fun r e hr => C (hrfd (by omega))
  clear hrfd C
  try dsimp only
  have hrk : rf = 0 ∨ rf = 1 ∨ rf = 2 ∨ rf = 3 ∨ rf = 4 ∨ rf = 5 ∨ rf = 6 ∨ rf = 7 ∨ rf = 8 ∨ rf = 9 ∨ rf = 10 := by omega
  rcases hrk with hk9 | hk9 | hk9 | hk9 | hk9 | hk9 | hk9 | hk9 | hk9 | hk9 | hk9
  · subst hk9
    k_steps
    all_goals (try k_data)
    · rename (Builtin.Str.occurrences _ (Str.ofString "'") 0 _ 1).isEmpty = true => o1
      rename Str.length _ ≤ 4 => hx9
      rename News h₀ L _ _ => N9
      rename Fr h₀ L _ _ => F9
      rw [← chars_e1 o1] at N9
      exact ret _ _ (.chars _) _ _ _ _ _ _ _ (by omega) (by omega) (.chars (.head _) (by omega)) (Nat.le_trans (chars_len (by omega)) (by omega)) (Nat.zero_le _) (by exact (ne_cons (by omega) (ne_cons (by omega) hrest))) F9 (nw0 N9)
    · rename (Builtin.Str.occurrences _ (Str.ofString "\"") 0 _ 1).isEmpty = true => o1
      rename Str.length _ ≤ 4 => hx9
      rename News h₀ L _ _ => N9
      rename Fr h₀ L _ _ => F9
      rw [← chars_e2 o1] at N9
      exact ret _ _ (.chars _) _ _ _ _ _ _ _ (by omega) (by omega) (.chars (.head _) (by omega)) (Nat.le_trans (chars_len (by omega)) (by omega)) (Nat.zero_le _) (by exact (ne_cons (by omega) (ne_cons (by omega) hrest))) F9 (nw0 N9)
    · rename (Builtin.Str.occurrences _ (Str.ofString "'") 0 _ 1).isEmpty = false => o1
      rename (Builtin.Str.occurrences _ (Str.ofString "\"") 0 _ 1).isEmpty = false => o2
      rename Str.length _ ≤ 4 => hx9
      rename News h₀ L _ _ => N9
      rename Fr h₀ L _ _ => F9
      rw [← chars_e3 o1 o2] at N9
      exact ret _ _ (.chars _) _ _ _ _ _ _ _ (by omega) (by omega) (.chars (.head _) (by omega)) (Nat.le_trans (chars_len (by omega)) (by omega)) (Nat.zero_le _) (by exact (ne_cons (by omega) (ne_cons (by omega) hrest))) F9 (nw0 N9)
  · subst hk9
    k_steps
    all_goals (try k_data)
    · rename News h₀ L _ _ => N9
      rename Fr h₀ L _ _ => F9
      exact ret _ _ (.count _ _) _ _ _ _ _ _ _ (by omega) (by omega) (.count (.head _) (by assumption) (by assumption) (by assumption)) (Nat.le_trans (count_len (by assumption) (by assumption) (by assumption)) (by omega)) (Nat.zero_le _) (by exact (ne_cons (by omega) (ne_cons (by omega) hrest))) F9 (nw1 N9)
  · subst hk9
    k_steps
    all_goals (try k_data)
    · rename News h₀ L _ _ => N9
      rename Fr h₀ L _ _ => F9
      exact ret _ _ (.signs _ _) _ _ _ _ _ _ _ (by omega) (by omega) (.signs (.head _) (by assumption) (xtext_len (by assumption))) (Nat.le_trans (signs_len (by assumption) (xtext_len (by assumption))) (by omega)) (Nat.zero_le _) (by exact (ne_cons (by omega) (ne_cons (by omega) hrest))) F9 (nw1 N9)
  · subst hk9
    k_steps
    all_goals (try k_data)
    · rename News h₀ L _ _ => N9
      rename Fr h₀ L _ _ => F9
      exact ret _ _ (.alone _) _ _ _ _ _ _ _ (by omega) (by omega) (.alone (.head _) (by assumption)) (Nat.le_trans (alone_len (by assumption)) (by omega)) (Nat.zero_le _) (by exact (ne_cons (by omega) (ne_cons (by omega) hrest))) F9 (nw3 N9)
  · subst hk9
    k_steps
    all_goals (try k_data)
    · rename News h₀ L _ _ => N9
      rename Fr h₀ L _ _ => F9
      rw [← delay_e] at N9
      exact ret _ _ .delay _ _ _ _ _ _ _ (by omega) (by omega) (.delay (.head _) (.tail _ (.head _))) (Nat.le_trans delay_len (by omega)) (Nat.zero_le _) (by exact (ne_cons (by omega) (ne_cons (by omega) (ne_cons (by omega) hrest)))) F9 (nw4a N9)
    · rename News h₀ L _ _ => N9
      rename Fr h₀ L _ _ => F9
      rw [← lenDelay_e] at N9
      exact ret _ _ .lenDelay _ _ _ _ _ _ _ (by omega) (by omega) (.lenDelay (.head _) (.tail _ (.head _)) (.tail _ (.tail _ (.head _)))) (Nat.le_trans lenDelay_len (by omega)) (Nat.zero_le _) (by exact (ne_cons (by omega) (ne_cons (by omega) (ne_cons (by omega) (ne_cons (by omega) hrest))))) F9 (nw4b N9)
  · subst hk9
    k_steps
    all_goals (try k_data)
    · rename News h₀ L _ _ => N9
      rename Fr h₀ L _ _ => F9
      exact ret _ _ .cursor _ _ _ _ _ _ _ (by omega) (by omega) (.cursor (.head _) (.tail _ (.head _)) (.tail _ (.tail _ (.head _)))) (Nat.le_trans cursor_len (by omega)) (Nat.zero_le _) (by exact (ne_cons (by omega) (ne_cons (by omega) (ne_cons (by omega) (ne_cons (by omega) hrest))))) F9 (nw5 N9)
  · subst hk9
    have hC9 : PatSpec (deep - 1) nb lb zb := hC _ rfl (by omega)
    clear hC
    k_steps
    all_goals (try k_data)
    · rename PatIn _ _ _ => R9
      rename ∀ q : Addr × Obj, q ∈ _ → q.fst ≠ th => hr9
      rename Pat.size _ ≤ _ => hz9
      rename Str.length (Pat.show _) ≤ lb => hb9
      rename News h₀ L _ _ => N9
      rename Fr h₀ L _ _ => F9
      exact ret _ _ (.arbno _) _ _ _ _ _ _ _ (by omega) (by omega) (.arbno (.head _) (R9.mono (fun _ h => .tail _ h))) (Nat.le_trans (arbno_len hb9) (by omega)) (Nat.succ_le_succ (Nat.le_trans hz9 (by omega))) (by exact (ne_cons (by omega) (ne_cons (by omega) (ne6 hr9)))) F9 (nw6 N9)
  · subst hk9
    have hC9 : PatSpec (deep - 1) nb lb zb := hC _ rfl (by omega)
    clear hC
    k_steps
    all_goals (try k_data)
    · rename PatIn _ _ _ => R9
      rename ∀ q : Addr × Obj, q ∈ _ → q.fst ≠ th => hr9
      rename Pat.size _ ≤ _ => hz9
      rename Str.length (Pat.show _) ≤ lb => hb9
      rename News h₀ L _ _ => N9
      rename Fr h₀ L _ _ => F9
      rw [← later_e] at N9
      exact ret _ _ (.later _) _ _ _ _ _ _ _ (by omega) (by omega) (.later (.head _) (.tail _ (.head _)) (.tail _ (.tail _ (.head _))) (R9.mono (fun _ h => .tail _ (.tail _ (.tail _ h))))) (Nat.le_trans (later_len hb9) (by omega)) (Nat.succ_le_succ (Nat.le_trans hz9 (by omega))) (by exact (ne_cons (by omega) (ne_cons (by omega) (ne_cons (by omega) (ne_cons (by omega) (ne6 hr9)))))) F9 (nw7 N9)
  · subst hk9
    have hC9 : PatSpec (deep - 1) nb lb zb := hC _ rfl (by omega)
    clear hC
    k_steps
    all_goals (try k_data)
    · rename PatIn _ _ _ => R9
      rename ∀ q : Addr × Obj, q ∈ _ → q.fst ≠ th => hr9
      rename Pat.size _ ≤ _ => hz9
      rename Str.length (Pat.show _) ≤ lb => hb9
      rename News h₀ L _ _ => N9
      rename Fr h₀ L _ _ => F9
      rw [← now_e] at N9
      exact ret _ _ (.now _) _ _ _ _ _ _ _ (by omega) (by omega) (.now (.head _) (.tail _ (.head _)) (.tail _ (.tail _ (.head _))) (R9.mono (fun _ h => .tail _ (.tail _ (.tail _ h))))) (Nat.le_trans (now_len hb9) (by omega)) (Nat.succ_le_succ (Nat.le_trans hz9 (by omega))) (by exact (ne_cons (by omega) (ne_cons (by omega) (ne_cons (by omega) (ne_cons (by omega) (ne6 hr9)))))) F9 (nw7 N9)
  · subst hk9
    have hC9 : PatSpec (deep - 1) nb lb zb := hC _ rfl (by omega)
    clear hC
    k_steps
    all_goals (try k_data)
    · rename ∀ q : Addr × Obj, q ∈ _ → q.fst ≠ th => hr9
      rename News h₀ L _ _ => N9
      rename Fr h₀ L _ _ => F9
      exact ret _ _ (.cat _ _) _ _ _ _ _ _ _ (by omega) (by omega) (.cat (.head _) (PatIn.mono (by assumption) (fun _ h => .tail _ (List.mem_append_right _ h))) (PatIn.mono (by assumption) (fun _ h => .tail _ (List.mem_append_left _ h)))) (Nat.le_trans (cat_len (lb := lb) (by assumption) (by assumption)) (by omega)) (size2 (by assumption) (by assumption)) (by exact (ne_cons (by omega) (ne_cons (by omega) (ne9 hr9)))) F9 (nw9 N9)
  · subst hk9
    have hC9 : PatSpec (deep - 1) nb lb zb := hC _ rfl (by omega)
    clear hC
    k_steps
    all_goals (try k_data)
    · rename ∀ q : Addr × Obj, q ∈ _ → q.fst ≠ th => hr9
      rename News h₀ L _ _ => N9
      rename Fr h₀ L _ _ => F9
      exact ret _ _ (.alt _ _) _ _ _ _ _ _ _ (by omega) (by omega) (.alt (.head _) (PatIn.mono (by assumption) (fun _ h => .tail _ (List.mem_append_right _ h))) (PatIn.mono (by assumption) (fun _ h => .tail _ (List.mem_append_left _ h)))) (Nat.le_trans (alt_len (lb := lb) (by assumption) (by assumption)) (by omega)) (size2 (by assumption) (by assumption)) (by exact (ne_cons (by omega) (ne_cons (by omega) (ne9 hr9)))) F9 (nw9 N9)
end
theorem pat_0 : PatSpec 0 9 62 1 := pat_any 0 0 0 0 (by decide) (by decide) (by decide) (by decide) (fun h => absurd h (by decide))
theorem pat_1 : PatSpec 1 27 186 3 := pat_any 1 9 62 1 (by decide) (by decide) (by decide) (by decide) (fun _ => pat_0)
theorem pat_2 : PatSpec 2 63 434 7 := pat_any 2 27 186 3 (by decide) (by decide) (by decide) (by decide) (fun _ => pat_1)
end Mine
end
section
open PySem PySem.W PySem.Calls PyProof.Rows
namespace Mine
theorem bodies_is (x : Str) : S (bodies (toks x)) = x := by rw [toks_bodies, S_lc]
theorem joined_use {w : World} {mean : ExcName → Option Value} {mg mb : Str → Option Value} {dp un : Nat} {gd : Option (List Code)} {cn : Str} {cs : Scope} {a : Addr} {ccd : Value} {cl : List (Str × Addr)} {outer : List Env} {A₀ : Around} {base h₀ : Heap} {L : Addr} {m : Str → Option Value} {s : Shared}
    {Q E : Value → Shared → Prop} {news : List (Addr × Obj)} {x : Str} {tk : Tok}
    (B : Below A₀ base outer h₀) (F : Fr h₀ L s.heap m) (X : (hd.heap_39 w.params).In h₀) (N : News h₀ L s.heap news) (T : Top topProg LL mean mg mb h₀) (hk : cs.kind = .function)
    (hl : x.length ≤ 5) (hdp : dp < 900) (hun : un < 900)
    (ret : ∀ tk1 h' tk', Fr h₀ L h' m → News h₀ L h' news → Q (.str x tk1) { s with heap := h', toks := tk' }) :
    wpAny (model PySem.Challenge.rw_pf0367_01.row.prog w) (ktrTop dp un gd cn cs L a ccd cl outer) (call (.ref 239) [.str (shownText x) tk]) Q E s :=
  joined_ok B F X N T hk (toks_ne x) (toks_ok x) (toks_enc x) (Nat.le_trans (shown_len x hl) (by decide)) hdp hun fun tk1 h' tk' F' N' => by
    rw [bodies_is]; exact ret tk1 h' tk' F' N'
/-- the objects of a pattern are no cells -/
def notCell (o : Obj) : Prop := ∀ v, o.data ≠ .cell v
theorem nc_tup (its : Array Value) (n : Nat) : notCell (tupO its n) := by
  intro v h
  cases h
theorem nc_inst (c d : Addr) : notCell (instObj c d) := by
  intro v h
  cases h
theorem nc_dict (es : List DictEntry) (n : Nat) : notCell (dictOf es n) := by
  intro v h
  cases h
theorem PatIn.part {l : List (Addr × Obj)} {v : Value} {p : Pat} (h : PatIn l v p) : ∃ l', (∀ q ∈ l', q ∈ l) ∧ (∀ q ∈ l', notCell q.2) ∧ PatIn l' v p := by
  induction h with
  | chars h1 h2 => exact ⟨[_], (List.forall_mem_cons.mpr ⟨h1, List.forall_mem_nil _⟩), (List.forall_mem_cons.mpr ⟨nc_tup _ _, List.forall_mem_nil _⟩), .chars (.head _) h2⟩
  | count h1 h2 h3 h4 => exact ⟨[_], (List.forall_mem_cons.mpr ⟨h1, List.forall_mem_nil _⟩), (List.forall_mem_cons.mpr ⟨nc_tup _ _, List.forall_mem_nil _⟩), .count (.head _) h2 h3 h4⟩
  | signs h1 h2 h3 => exact ⟨[_], (List.forall_mem_cons.mpr ⟨h1, List.forall_mem_nil _⟩), (List.forall_mem_cons.mpr ⟨nc_tup _ _, List.forall_mem_nil _⟩), .signs (.head _) h2 h3⟩
  | alone h1 h2 => exact ⟨[_], (List.forall_mem_cons.mpr ⟨h1, List.forall_mem_nil _⟩), (List.forall_mem_cons.mpr ⟨nc_tup _ _, List.forall_mem_nil _⟩), .alone (.head _) h2⟩
  | delay h1 h2 => exact ⟨[_, _], (List.forall_mem_cons.mpr ⟨h1, (List.forall_mem_cons.mpr ⟨h2, List.forall_mem_nil _⟩)⟩), (List.forall_mem_cons.mpr ⟨nc_tup _ _, (List.forall_mem_cons.mpr ⟨nc_tup _ _, List.forall_mem_nil _⟩)⟩), .delay (.head _) (.tail _ (.head _))⟩
  | lenDelay h1 h2 h3 => exact ⟨[_, _, _], (List.forall_mem_cons.mpr ⟨h1, (List.forall_mem_cons.mpr ⟨h2, (List.forall_mem_cons.mpr ⟨h3, List.forall_mem_nil _⟩)⟩)⟩), (List.forall_mem_cons.mpr ⟨nc_tup _ _, (List.forall_mem_cons.mpr ⟨nc_tup _ _, (List.forall_mem_cons.mpr ⟨nc_tup _ _, List.forall_mem_nil _⟩)⟩)⟩), .lenDelay (.head _) (.tail _ (.head _)) (.tail _ (.tail _ (.head _)))⟩
  | cursor h1 h2 h3 => exact ⟨[_, _, _], (List.forall_mem_cons.mpr ⟨h1, (List.forall_mem_cons.mpr ⟨h2, (List.forall_mem_cons.mpr ⟨h3, List.forall_mem_nil _⟩)⟩)⟩), (List.forall_mem_cons.mpr ⟨nc_tup _ _, (List.forall_mem_cons.mpr ⟨nc_inst _ _, (List.forall_mem_cons.mpr ⟨nc_dict _ _, List.forall_mem_nil _⟩)⟩)⟩), .cursor (.head _) (.tail _ (.head _)) (.tail _ (.tail _ (.head _)))⟩
  | arbno h1 _ ih =>
    obtain ⟨l', s1, s2, s3⟩ := ih
    exact ⟨_ :: l', (List.forall_mem_cons.mpr ⟨h1, s1⟩), (List.forall_mem_cons.mpr ⟨nc_tup _ _, s2⟩), .arbno (.head _) (s3.mono fun _ h => .tail _ h)⟩
  | later h1 h2 h3 _ ih =>
    obtain ⟨l', s1, s2, s3⟩ := ih
    exact ⟨_ :: _ :: _ :: l', (List.forall_mem_cons.mpr ⟨h1, (List.forall_mem_cons.mpr ⟨h2, (List.forall_mem_cons.mpr ⟨h3, s1⟩)⟩)⟩), (List.forall_mem_cons.mpr ⟨nc_tup _ _, (List.forall_mem_cons.mpr ⟨nc_inst _ _, (List.forall_mem_cons.mpr ⟨nc_dict _ _, s2⟩)⟩)⟩), .later (.head _) (.tail _ (.head _)) (.tail _ (.tail _ (.head _))) (s3.mono fun _ h => .tail _ (.tail _ (.tail _ h)))⟩
  | now h1 h2 h3 _ ih =>
    obtain ⟨l', s1, s2, s3⟩ := ih
    exact ⟨_ :: _ :: _ :: l', (List.forall_mem_cons.mpr ⟨h1, (List.forall_mem_cons.mpr ⟨h2, (List.forall_mem_cons.mpr ⟨h3, s1⟩)⟩)⟩), (List.forall_mem_cons.mpr ⟨nc_tup _ _, (List.forall_mem_cons.mpr ⟨nc_inst _ _, (List.forall_mem_cons.mpr ⟨nc_dict _ _, s2⟩)⟩)⟩), .now (.head _) (.tail _ (.head _)) (.tail _ (.tail _ (.head _))) (s3.mono fun _ h => .tail _ (.tail _ (.tail _ h)))⟩
  | cat h1 _ _ ih1 ih2 =>
    obtain ⟨l', s1, s2, s3⟩ := ih1
    obtain ⟨l2, r1, r2, r3⟩ := ih2
    exact ⟨_ :: (l' ++ l2), (List.forall_mem_cons.mpr ⟨h1, (fun q hq => (List.mem_append.mp hq).elim (s1 q) (r1 q))⟩), (List.forall_mem_cons.mpr ⟨nc_tup _ _, (fun q hq => (List.mem_append.mp hq).elim (s2 q) (r2 q))⟩), .cat (.head _) (s3.mono fun _ h => .tail _ (List.mem_append_left _ h)) (r3.mono fun _ h => .tail _ (List.mem_append_right _ h))⟩
  | alt h1 _ _ ih1 ih2 =>
    obtain ⟨l', s1, s2, s3⟩ := ih1
    obtain ⟨l2, r1, r2, r3⟩ := ih2
    exact ⟨_ :: (l' ++ l2), (List.forall_mem_cons.mpr ⟨h1, (fun q hq => (List.mem_append.mp hq).elim (s1 q) (r1 q))⟩), (List.forall_mem_cons.mpr ⟨nc_tup _ _, (fun q hq => (List.mem_append.mp hq).elim (s2 q) (r2 q))⟩), .alt (.head _) (s3.mono fun _ h => .tail _ (List.mem_append_left _ h)) (r3.mono fun _ h => .tail _ (List.mem_append_right _ h))⟩
theorem cell_ne {h₀ h : Heap} {L : Addr} {news : List (Addr × Obj)} (N : News h₀ L h news) {q k : Addr × Obj} {u : Option Value} (hq : q ∈ news) (hk : k ∈ news) (n : notCell q.2) (c : k.2.data = .cell u) : q.1 ≠ k.1 := by
  intro e
  have h1 := N.get (a := q.1) (o := q.2) hq
  have h2 := N.get (a := k.1) (o := k.2) hk
  rw [e, h2] at h1
  have h3 : k.2 = q.2 := Option.some.inj h1
  exact n u (by rw [← h3]; exact c)
def CellOff (c : Addr) (tl rest : List (Addr × Obj)) : Prop := ∀ p ∈ rest, ∀ u, p.2.data = .cell u → c ≠ p.1 ∧ ∀ q ∈ tl, q.1 ≠ p.1
theorem CellOff.off {c : Addr} {tl rest : List (Addr × Obj)} (H : CellOff c tl rest) {k : Addr} {ko : Obj} {u : Option Value} (hm : (k, ko) ∈ rest) (hc : ko.data = .cell u) : ∀ q ∈ tl, q.1 ≠ k := (H _ hm _ hc).2
theorem CellOff.one {c : Addr} {tl rest : List (Addr × Obj)} (H : CellOff c tl rest) {k : Addr} {ko : Obj} {u : Option Value} (hm : (k, ko) ∈ rest) (hc : ko.data = .cell u) : c ≠ k := (H _ hm _ hc).1
inductive Drop (tl : List (Addr × Obj)) : List (Addr × Obj) → List (Addr × Obj) → Prop
  | nil : Drop tl tl []
  | cons {x l l'} : Drop tl l l' → Drop tl (x :: l) (x :: l')
  | skip {x l l'} : Drop tl l l' → Drop tl (x :: l) l'
theorem Drop.sub {tl l l' : List (Addr × Obj)} (d : Drop tl l l') : (∀ p ∈ tl, p ∈ l) ∧ (∀ p ∈ l', p ∈ l) := by
  induction d with
  | nil => exact ⟨fun _ h => h, fun _ h => nomatch h⟩
  | cons _ ih => exact ⟨fun p h => .tail _ (ih.1 p h), fun p h => by
      cases h with
      | head => exact .head _
      | tail _ h => exact .tail _ (ih.2 p h)⟩
  | skip _ ih => exact ⟨fun p h => .tail _ (ih.1 p h), fun p h => .tail _ (ih.2 p h)⟩
theorem drawn_use {w : World} {mean : ExcName → Option Value} {mg mb : Str → Option Value} {dp un : Nat} {cn : Str} {cs : Scope} {a : Addr} {ccd : Value} {cl : List (Str × Addr)} {outer : List Env} {A₀ : Around} {base h₀ : Heap} {L : Addr} {m : Str → Option Value} {s : Shared}
    {Q E : Value → Shared → Prop} {th b : Addr} {tk tkd : Tok} {n n2 : Nat} {vs : List Value} {ns : List Int} {news r1 rest : List (Addr × Obj)}
    (B : Below A₀ base outer h₀) (F : Fr h₀ L s.heap m) (X : (hd.heap_39 w.params).In h₀) (N : News h₀ L s.heap news) (T : Top topProg LL mean mg mb h₀) (hk : cs.kind = .function)
    (t1 : Take (th, listOf #[.int 0 tk, .ref b] n) news r1) (t2 : Take (b, listOf vs.toArray n2) r1 rest)
    (hne : b ≠ th) (hrest : ∀ p ∈ rest, p.1 ≠ th) (hI : IntsAre vs ns) (hlen : ns.length ≤ 63) (hdp : dp < 500) (hun : un < 300)
    (ret : ∀ c nv p tk1 tk2 n' t' tl h' tk', 0 ≤ t' → t' ≤ 63 → PatIn tl nv p → p.show.length ≤ 434 → p.size ≤ 7 → CellOff c tl rest → (∀ q ∈ tl, q.1 ≠ th) → @Ne Nat c th → Fr h₀ L h' m →
      News h₀ L h' ((th, listOf #[.int t' tk2, .ref b] n) :: (b, listOf vs.toArray n2) :: (c, tupO #[nv, .str p.show tk1] n') :: (rest ++ tl)) → Q (.ref c) { s with heap := h', toks := tk' }) :
    wpAny (model PySem.Challenge.rw_pf0367_01.row.prog w) (ktrTop dp un (some []) cn cs L a ccd cl outer) (call (.ref 246) [.ref th, .int 2 tkd]) Q E s :=
  pat_2 B F X (take_news N t1 t2) T hk hne hrest hI hlen (Int.le_refl 0) (by omega) (by omega) (by omega) fun c nv p tk1 tk2 n' t' tl h' tk' a1 a2 a3 a4 a5 a6 a7 a8 => by
    obtain ⟨l', s1, s2, s3⟩ := a3.part
    have hin : ∀ q ∈ l', q ∈ ((th, listOf #[.int t' tk2, .ref b] n) :: (b, listOf vs.toArray n2) :: (c, tupO #[nv, .str p.show tk1] n') :: (tl ++ rest)) := fun q hq => .tail _ (.tail _ (.tail _ (List.mem_append_left _ (s1 q hq))))
    refine ret c nv p tk1 tk2 n' t' l' h' tk' a1 (by omega) s3 a4 a5 (fun k hm u hc => ⟨?_, fun q hq => ?_⟩) (fun q hq => a6 q (.tail _ (List.mem_append_left _ (s1 q hq)))) (a6 _ (.head _)) a7 (KStt.news_of a8 ?_)
    · exact cell_ne (q := (c, tupO #[nv, .str p.show tk1] n')) a8 (.tail _ (.tail _ (.head _))) (.tail _ (.tail _ (.tail _ (List.mem_append_right _ hm)))) (nc_tup _ _) hc
    · exact cell_ne a8 (hin q hq) (.tail _ (.tail _ (.tail _ (List.mem_append_right _ hm)))) (s2 q hq) hc
    · intro q hq
      simp only [List.mem_cons, List.mem_append] at hq ⊢
      rcases hq with h | h | h | h | h
      · exact .inl h
      · exact .inr (.inl h)
      · exact .inr (.inr (.inl h))
      · exact .inr (.inr (.inr (.inr h)))
      · exact .inr (.inr (.inr (.inl (s1 q h))))
theorem show_drop {p : Pat} {w : World} {mean : ExcName → Option Value} {mg mb : Str → Option Value} {dp un : Nat} {cn : Str} {cs : Scope} {a : Addr} {ccd : Value} {cl : List (Str × Addr)} {outer : List Env} {A₀ : Around} {base h₀ : Heap} {L : Addr} {m : Str → Option Value} {s : Shared}
    {Q E : Value → Shared → Prop} {news tl pre : List (Addr × Obj)} {v : Value} (R : PatIn tl v p) (B : Below A₀ base outer h₀) (F : Fr h₀ L s.heap m) (X : (hd.heap_39 w.params).In h₀) (N : News h₀ L s.heap news) (T : Top topProg LL mean mg mb h₀) (hk : cs.kind = .function)
    (d : Drop tl news pre) (hl : p.show.length ≤ 434) (hz : p.size ≤ 7) (hdp : dp < 500) (hun : un < 300)
    (ret : ∀ tk1 h' tk', Fr h₀ L h' m → News h₀ L h' pre → Q (.str p.show tk1) { s with heap := h', toks := tk' }) :
    wpAny (model PySem.Challenge.rw_pf0367_01.row.prog w) (ktrTop dp un (some []) cn cs L a ccd cl outer) (call (.ref 213) [v]) Q E s :=
  show_use (show_ok p) B F X N T hk (R.mono d.sub.1) (by omega) (by omega) (by omega) fun tk1 h' tk' F' N' => ret tk1 h' tk' F' (KStt.news_of N' d.sub.2)
end Mine
end
section
open PySem PySem.W PySem.Calls PyProof.Rows
namespace Mine
def Keeps (h h' : Heap) : Prop := ∀ b o, h.get? b = some o → h'.get? b = some o
def CodeEnd (n : Int) (s : Shared) (v : Value) (s' : Shared) : Prop := ∃ tk h' tk', v = .int n tk ∧ s' = { s with heap := h', toks := tk' } ∧ Keeps s.heap h'
theorem code_cut {prog : Program} {w : World} {A : Around} {E : Value → Shared → Prop} {s : Shared} {f : Value} {args : List Value} {Q : Value → Shared → Prop} (n : Int)
    (h1 : wpAny (model prog w) A (call f args) (fun v s' => CodeEnd n s v s') (fun _ _ => False) s)
    (h2 : ∀ tk h' tk', Keeps s.heap h' → Q (.int n tk) { s with heap := h', toks := tk' }) : wpAny (model prog w) A (call f args) Q E s :=
  wpAny_mono h1 (fun v s' ⟨tk, h', tk', e1, e2, k⟩ => by subst e1 e2; exact h2 tk h' tk' k) fun _ _ h => h.elim
theorem code_end {n : Int} {s : Shared} {h : Heap} {d : Drawn} {g : Array GenState} {os : OsState} {t : Nat} {tk : Tok} {news : List (Addr × Obj)} (D : X.Mem s.heap h [] news) (hg : g = s.gens) (hd : d = s.drawn) (ho : os = s.os) : CodeEnd n s (.int n tk) ⟨h, g, d, t, os⟩ :=
  ⟨tk, h, t, rfl, by subst hg hd ho; rfl, fun b o e => D.keep b o e (Bool.or_true _)⟩
theorem cell_open {h : Heap} {a : Addr} {o : Obj} {u : Option Value} (ho : h.get? a = some o) (hd : o.data = .cell u) : ∃ c d sl, h.get? a = some ⟨c, d, .cell u, sl⟩ := by
  obtain ⟨c, d, dt, sl⟩ := o
  dsimp only at hd
  subst hd
  exact ⟨c, d, sl, ho⟩
theorem code_open {h : Heap} {a : Addr} {o : Obj} {vs : Array Value} {q : Str} {t : Tok} (ho : h.get? a = some o) (hd : o.data = .fields vs) (hv : vs[1]? = some (.str q t)) : ∃ c d sl x r, h.get? a = some ⟨c, d, .fields ⟨x :: .str q t :: r⟩, sl⟩ := by
  obtain ⟨c, d, dt, sl⟩ := o
  dsimp only at hd
  subst hd
  obtain ⟨l⟩ := vs
  match l, hv with
  | [], hv => simp at hv
  | [_], hv => simp at hv
  | x :: y :: r, hv =>
    have : y = .str q t := by simpa using hv
    subst this
    exact ⟨c, d, sl, x, r, ho⟩
theorem ns_open {h : Heap} {a : Addr} {m : Str → Option Value} (hn : h.Ns a m) : ∃ c d es ep sl, h.get? a = some ⟨c, d, .dict es ep, sl⟩ := by
  obtain ⟨⟨c, d, dt, sl⟩, es, ep, ho, hd, _⟩ := hn
  dsimp only at hd
  subst hd
  exact ⟨c, d, es, ep, sl, ho⟩
theorem Keeps.fr {h₀ h h' : Heap} {L : Addr} {m : Str → Option Value} (k : Keeps h h') (F : Fr h₀ L h m) : Fr h₀ L h' m := ⟨F.ns.keeps k, fun b o e => k b o (F.keep b o e), F.above⟩
theorem Keeps.news {h₀ h h' : Heap} {L : Addr} {news : List (Addr × Obj)} (k : Keeps h h') (N : News h₀ L h news) : News h₀ L h' news := fun p hp => ⟨k _ _ (N p hp).1, (N p hp).2⟩
end Mine
end
section
open PySem PySem.W PySem.Calls PyProof.Rows
open Sem (wp)
namespace Mine
/-- e has the dict d -/
def HasD (h : Heap) (e d : Addr) : Prop := ∃ o, h.get? e = some o ∧ o.dict = some d
theorem HasD.keeps {h h' : Heap} {e d : Addr} (x : HasD h e d) (k : ∀ b o, h.get? b = some o → h'.get? b = some o) : HasD h' e d := let ⟨o, ho, hd⟩ := x; ⟨o, k _ _ ho, hd⟩
theorem HasD.update {h : Heap} {e d a : Addr} {f : Obj → Obj} (x : HasD h e d) (hf : ∀ o, (f o).dict = o.dict ∧ (o.isFreed = false → (f o).isFreed = false)) : HasD (h.update a f) e d := by
  obtain ⟨o, ho, hd⟩ := x
  by_cases q : a = e
  · subst q
    exact ⟨f o, Heap.get?_update_self f ho ((hf o).2 (Heap.get?_some_iff.mp ho).2), (hf o).1.trans hd⟩
  · exact ⟨o, (Heap.get?_update_other _ f q).trans ho, hd⟩
/-- a tree that keeps every object's dict -/
structure DK {α : Type} (t : Sem α) : Prop where
  out : ∀ (M : Model) (Γ : Ctx) (e d : Addr) (P : α → Pos → Shared → Prop) (Ee : Value → Pos → Shared → Prop) (p : Pos) (s : Shared), HasD s.heap e d → wp M Γ t P Ee p s → wp M Γ t (fun a p' s' => P a p' s' ∧ HasD s'.heap e d) Ee p s
namespace DK
variable {α β : Type}
theorem pure (a : α) : DK (Pure.pure a : Sem α) := ⟨fun M Γ e d P Ee p s hd h => by
  rw [Sem.wp_pure'] at h ⊢
  exact ⟨h, hd⟩⟩
theorem unsupported (w : String) : DK (PySem.unsupported w : Sem α) := ⟨fun _ _ _ _ _ _ _ _ _ h => h.elim⟩
theorem bind {m : Sem α} {f : α → Sem β} (hm : DK m) (hf : ∀ a, DK (f a)) : DK (m >>= f) := ⟨fun M Γ e d P Ee p s hd h => by
  rw [Sem.wp_bind'] at h ⊢
  exact Sem.wp_mono M Γ m (fun a p' s' ⟨h', hd'⟩ => (hf a).out M Γ e d P Ee p' s' hd' h') (fun _ _ _ x => x) p s (hm.out M Γ e d _ Ee p s hd h)⟩
theorem ite {c : Prop} [Decidable c] {t u : Sem α} (ht : DK t) (hu : DK u) : DK (if c then t else u) := by split <;> assumption
theorem load (a : Addr) : DK (PySem.load a) := ⟨fun M Γ e d P Ee p s hd h => by
  unfold PySem.load at h ⊢
  rw [Sem.wp_load] at h ⊢
  obtain ⟨o, ho, h⟩ := h
  rw [Sem.wp_pure] at h
  exact ⟨o, ho, by rw [Sem.wp_pure]; exact ⟨h, hd⟩⟩⟩
theorem update (a : Addr) (f : Obj → Obj) (hf : ∀ o, (f o).dict = o.dict ∧ (o.isFreed = false → (f o).isFreed = false)) : DK (PySem.update a f) := ⟨fun M Γ e d P Ee p s hd h => by
  unfold PySem.update at h ⊢
  rw [Sem.wp_update] at h ⊢
  obtain ⟨ho, h⟩ := h
  rw [Sem.wp_pure] at h
  exact ⟨ho, by rw [Sem.wp_pure]; exact ⟨h, hd.update hf⟩⟩⟩
theorem stack : DK PySem.stack := ⟨fun M Γ e d P Ee p s hd h => by
  unfold PySem.stack at h ⊢
  rw [Sem.wp_stack, Sem.wp_pure] at h ⊢
  exact ⟨h, hd⟩⟩
theorem alloc (o : Obj) : DK (PySem.alloc o) := ⟨fun M Γ e d P Ee p s hd h => by
  unfold PySem.alloc at h ⊢
  rw [Sem.wp_alloc, Sem.wp_pure] at h ⊢
  exact ⟨h, hd.keeps fun b ob e => Heap.get?_push_of_some _ e⟩⟩
theorem field (v : Value) (i : Nat) : DK (PySem.field v i) := ⟨fun M Γ e d P Ee p s hd h => by
  obtain ⟨a, o, vs, x, r1, r2, r3, r4, r5⟩ := (wp_field_iff Γ v i P Ee p s).mp h
  exact (wp_field_iff Γ v i _ Ee p s).mpr ⟨a, o, vs, x, r1, r2, r3, r4, r5, hd⟩⟩
theorem mapf (g : Array Value → Array Value) (o : Obj) : (Obj.mapFields g o).dict = o.dict ∧ (o.isFreed = false → (Obj.mapFields g o).isFreed = false) := by
  obtain ⟨c, d, dt, sl⟩ := o
  cases dt <;> exact ⟨rfl, fun h => h⟩
theorem setField (v : Value) (i : Nat) (x : Value) : DK (PySem.setField v i x) := ⟨fun M Γ e d P Ee p s hd h => by
  obtain ⟨a, o, vs, r1, r2, r3, r4, r5⟩ := (wp_setField_iff Γ v i x P Ee p s).mp h
  exact (wp_setField_iff Γ v i x _ Ee p s).mpr ⟨a, o, vs, r1, r2, r3, r4, r5, hd.update (mapf _)⟩⟩
theorem behindIsImport (env : Env) (outer : List Env) : DK (behindIsImport env outer) := by
  unfold PySem.behindIsImport
  repeat' with_reducible first
    | assumption
    | exact DK.pure _
    | exact DK.unsupported _
    | exact DK.field _ _
    | exact DK.setField _ _ _
    | exact DK.load _
    | exact DK.stack
    | exact DK.alloc _
    | apply DK.ite
    | apply DK.bind
    | intro _
    | split
theorem underTheClaimsCaller : DK underTheClaimsCaller := by
  unfold PySem.underTheClaimsCaller
  repeat' with_reducible first
    | assumption
    | exact DK.pure _
    | exact DK.unsupported _
    | exact DK.field _ _
    | exact DK.setField _ _ _
    | exact DK.load _
    | exact DK.stack
    | exact DK.alloc _
    | apply DK.ite
    | apply DK.bind
    | intro _
    | split
theorem keptBack (env : Env) (i : Bool) (l : List Env) : DK (keptBack env i l) := by
  have := underTheClaimsCaller
  cases l <;> unfold PySem.keptBack
  all_goals repeat' with_reducible first
    | assumption
    | exact DK.pure _
    | exact DK.unsupported _
    | exact DK.field _ _
    | exact DK.setField _ _ _
    | exact DK.load _
    | exact DK.stack
    | exact DK.alloc _
    | apply DK.ite
    | apply DK.bind
    | intro _
    | split
theorem slots (sl : Obj → Array (Option Value)) (o : Obj) : ({ o with slots := sl o } : Obj).dict = o.dict ∧ (o.isFreed = false → ({ o with slots := sl o } : Obj).isFreed = false) := by
  obtain ⟨c, d, dt, s⟩ := o
  cases dt <;> exact ⟨rfl, fun h => h⟩
theorem readyFrames : ∀ l : List Env, DK (readyFrames l)
  | [] => DK.pure _
  | env :: outer => by
    have ih := readyFrames outer
    have h1 := behindIsImport env outer
    have h2 := fun i => keptBack env i outer
    unfold PySem.readyFrames
    repeat' with_reducible first
    | assumption
    | exact DK.pure _
    | exact DK.unsupported _
    | exact DK.field _ _
    | exact DK.setField _ _ _
    | exact DK.load _
    | exact DK.stack
    | exact DK.alloc _
    | apply DK.ite
    | apply DK.bind
    | intro _
    | split
    all_goals first | exact h2 _ | exact DK.update _ _ (slots _) | skip
theorem frameObject (l : List Env) : DK (frameObject l) := by
  cases l with
  | nil => exact DK.pure _
  | cons env outer =>
    have := readyFrames (env :: outer)
    unfold PySem.frameObject
    repeat' with_reducible first
    | assumption
    | exact DK.pure _
    | exact DK.unsupported _
    | exact DK.field _ _
    | exact DK.setField _ _ _
    | exact DK.load _
    | exact DK.stack
    | exact DK.alloc _
    | apply DK.ite
    | apply DK.bind
    | intro _
    | split
theorem frameEnvs : DK frameEnvs := by
  unfold PySem.frameEnvs
  repeat' with_reducible first
    | assumption
    | exact DK.pure _
    | exact DK.unsupported _
    | exact DK.field _ _
    | exact DK.setField _ _ _
    | exact DK.load _
    | exact DK.stack
    | exact DK.alloc _
    | apply DK.ite
    | apply DK.bind
    | intro _
    | split
theorem frameOf (env : Env) : DK (frameOf env) := by
  have h1 := frameEnvs
  have h2 := frameObject
  unfold PySem.frameOf
  repeat' with_reducible first
    | assumption
    | exact DK.pure _
    | exact DK.unsupported _
    | exact DK.field _ _
    | exact DK.setField _ _ _
    | exact DK.load _
    | exact DK.stack
    | exact DK.alloc _
    | apply DK.ite
    | apply DK.bind
    | intro _
    | split
  all_goals first | exact h2 _ | skip
theorem entryPlaceOf (f : Addr) (hadNext : Bool) : DK (entryPlaceOf f hadNext) := by
  unfold PySem.entryPlaceOf
  repeat' with_reducible first
    | assumption
    | exact DK.pure _
    | exact DK.unsupported _
    | exact DK.field _ _
    | exact DK.setField _ _ _
    | exact DK.load _
    | exact DK.stack
    | exact DK.alloc _
    | apply DK.ite
    | apply DK.bind
    | intro _
    | split
theorem newEntry (a b c d e : Value) (l : List Value) : DK (EntryCells.newEntry a b c d e l) := by
  unfold EntryCells.newEntry newFields newObj newObjAsIs
  repeat' with_reducible first
    | assumption
    | exact DK.pure _
    | exact DK.unsupported _
    | exact DK.field _ _
    | exact DK.setField _ _ _
    | exact DK.load _
    | exact DK.stack
    | exact DK.alloc _
    | apply DK.ite
    | apply DK.bind
    | intro _
    | split
theorem setFlight (e : Value) (fr : Option Addr) : DK (setFlight e fr) := by
  unfold PySem.setFlight
  repeat' with_reducible first
    | assumption
    | exact DK.pure _
    | exact DK.unsupported _
    | exact DK.field _ _
    | exact DK.setField _ _ _
    | exact DK.load _
    | exact DK.stack
    | exact DK.alloc _
    | apply DK.ite
    | apply DK.bind
    | intro _
    | split
theorem noteFrame (e : Value) (env : Env) : DK (noteFrame e env) := by
  have h1 := frameOf env
  have h2 := entryPlaceOf
  have h3 := newEntry
  unfold PySem.noteFrame
  repeat' with_reducible first
    | assumption
    | exact DK.pure _
    | exact DK.unsupported _
    | exact DK.field _ _
    | exact DK.setField _ _ _
    | exact DK.load _
    | exact DK.stack
    | exact DK.alloc _
    | apply DK.ite
    | apply DK.bind
    | intro _
    | split
  all_goals first | exact h2 _ _ | exact h3 _ _ _ _ _ _ | skip
theorem leaving (env : Env) (e : Value) : DK (leaving env e) := by
  have h1 := noteFrame e env
  have h2 := setFlight e none
  unfold PySem.leaving
  repeat' with_reducible first
    | assumption
    | exact DK.pure _
    | exact DK.unsupported _
    | exact DK.field _ _
    | exact DK.setField _ _ _
    | exact DK.load _
    | exact DK.stack
    | exact DK.alloc _
    | apply DK.ite
    | apply DK.bind
    | intro _
    | split
/-- so the dict may be had behind the tree -/
theorem any {t : Sem α} (h : DK t) {M : Model} {A : Around} {Q : α → Shared → Prop} {E : Value → Shared → Prop} {s : Shared} {e d : Addr} (hd : HasD s.heap e d) (w : wpAny M A t (fun v s' => HasD s'.heap e d → Q v s') E s) : wpAny M A t Q E s :=
  fun Γ p hΓ => Sem.wp_mono M Γ t (fun _ _ _ ⟨h1, h2⟩ => h1 h2) (fun _ _ _ x => x) p s (h.out M Γ e d _ _ p s hd (w Γ p hΓ))
end DK
end Mine
end
section
open PySem PySem.W PySem.Calls PyProof.Rows
namespace Mine
/-- the instance as it is made -/
abbrev errObj (d t : Addr) : Obj := { cls := .ref 34, dict := some d, data := .fields #[.ref t, .none, .none, .none, .bool false, .none] }
section
variable {M : Model} {A : Around} {E : Value → Shared → Prop} {s' : Shared} {base g g₂ : Heap} {outer : List Env} {L a e d t : Addr} {m : Str → Option Value} {name : Str} {scope : Scope} {cd : Value} {cl : List (Str × Addr)} {Q : Unit → Shared → Prop} {news : List (Addr × Obj)} {vs : List Value}
theorem pushX (K : Below A base outer g) {h : Heap} (F : Fr g L h m) (hk : scope.kind = .function) : Below (A.deeper (envX name scope L a cd cl)) base (envX name scope L a cd cl :: outer) h := by
  have hnew : base.get? L = none := by
    cases hq : base.get? L with
    | none => rfl
    | some o => exact absurd (Nat.lt_of_lt_of_le (Heap.lt_size (K.stays L o hq)) F.above) (Nat.lt_irrefl _)
  refine ⟨Around.frames_deeper K.stack, fun b o e => F.keep b o (K.stays b o e), ?_⟩
  exact .cons (by show scope.kind ≠ .module; rw [hk]; decide) rfl F.ns hnew (K.frames.of_keeps fun b o e _ => ⟨o, F.keep b o e, rfl⟩)
theorem memX {b : Addr} (hm : b ∈ (envX name scope L a cd cl :: outer).filterMap (·.frame)) : b = L ∨ b ∈ outer.filterMap (·.frame) := by
  obtain ⟨env, he, hf⟩ := List.mem_filterMap.mp hm
  rcases List.mem_cons.mp he with rfl | he
  · exact .inl (Option.some.inj hf).symm
  · exact .inr (List.mem_filterMap.mpr ⟨env, he, hf⟩)
theorem leave_first (K : Below A base outer g) (F : Fr g L s'.heap m) (N : News g L s'.heap news) (he : s'.heap.get? e = some (errObj d t)) (ht : s'.heap.TupAt t vs)
    (hne : ∀ q ∈ news, q.1 ≠ e ∧ q.1 ≠ t) (heg : g.get? e = none) (htg : g.get? t = none) (hk : scope.kind = .function)
    (hQ : ∀ h', RaisedS base g outer e (.ref 34) t vs news h' → RaisedK base outer e (.ref 34) t vs news h' → HasD h' e d → g.UpToSlots h' → Q () { s' with heap := h' }) :
    wpAny M (A.deeper (envX name scope L a cd cl)) (leaving (envX name scope L a cd cl) (.ref e)) Q E s' := by
  have K' := pushX (name := name) (a := a) (cd := cd) (cl := cl) K F hk
  generalize hfs : (envX name scope L a cd cl :: outer).filterMap (·.frame) = fs
  have hin : ∀ env ∈ (envX name scope L a cd cl :: outer), ∀ b, env.frame = some b → b ∈ e :: t :: fs := fun env he b hb => .tail _ (.tail _ (by rw [← hfs]; exact List.mem_filterMap.mpr ⟨env, he, hb⟩))
  have hfr : ∀ b, b ∈ fs → b = L ∨ b ∈ outer.filterMap (·.frame) := fun b hb => memX (by rw [hfs]; exact hb)
  have hbn : ∀ b, g.get? b = none → base.get? b = none := fun b hb => fresh_of_stays K.stays hb
  have st : base.StaysIn (hideAll s'.heap (e :: t :: fs)) := fun b o q => hideAll_get _ (K'.stays b o q) fun hm => by
    rcases List.mem_cons.mp hm with rfl | hm
    · rw [hbn _ heg] at q; cases q
    · rcases List.mem_cons.mp hm with rfl | hm
      · rw [hbn _ htg] at q; cases q
      · rw [← hfs] at hm
        rw [(K'.frames.mem hm).1] at q; cases q
  have sg : ∀ b o, g.get? b = some o → b ∉ outer.filterMap (·.frame) → (hideAll s'.heap (e :: t :: fs)).get? b = some o := fun b o q nm => hideAll_get _ (F.keep b o q) fun hm => by
    rcases List.mem_cons.mp hm with rfl | hm
    · rw [heg] at q; cases q
    · rcases List.mem_cons.mp hm with rfl | hm
      · rw [htg] at q; cases q
      · rcases hfr _ hm with z | z
        · rw [z, kts_self F] at q; cases q
        · exact nm z
  have hl : ∀ q ∈ news, (hideAll s'.heap (e :: t :: fs)).get? q.1 = some q.2 ∧ g.get? q.1 = none ∧ base.get? q.1 = none := fun q hq => by
    refine ⟨hideAll_get _ (N q hq).1 fun hm => ?_, (N q hq).2.2, hbn _ (N q hq).2.2⟩
    rcases List.mem_cons.mp hm with z | hm
    · exact (hne q hq).1 z
    · rcases List.mem_cons.mp hm with z | hm
      · exact (hne q hq).2 z
      · rcases hfr _ hm with z | z
        · exact (N q hq).2.1 z
        · obtain ⟨o, ho, _⟩ := (K.frames.mem z).2
          rw [(N q hq).2.2] at ho; cases ho
  refine DK.any (DK.leaving _ _) (e := e) (d := d) ⟨_, he, rfl⟩ ?_
  refine wpAny_leaving_firstW (a0 := .ref t) (base := hideAll s'.heap (e :: t :: fs)) K'.stack (funFrames_hide K'.frames hin) rfl he (fun b o q => of_hideAll _ q) (hideAll_none _ (.head _)) rfl rfl rfl fun h' hL hd => ?_
  obtain ⟨k1, ⟨_, _, k2⟩, k3, k4⟩ := hL
  have R : RaisedS base g outer e (.ref 34) t vs news h' := ⟨⟨_, st, sg, hl, ⟨k1, hideAll_none _ (.head _), k2, k3⟩, hideAll_none _ (.tail _ (.head _))⟩, ht.of_slots k4⟩
  exact hQ h' R R.toK hd ((Heap.UpToSlots.of_keeps F.keep).trans k4)
theorem leave_next (K : Below A base outer g) (F : Fr g L g₂ m) (R : RaisedS base g₂ (envX name scope L a cd cl :: outer) e (.ref 34) t vs news s'.heap) (hd : HasD s'.heap e d) (hsm : g₂.UpToSlots s'.heap)
    (hQ : ∀ h', RaisedS base g outer e (.ref 34) t vs news h' → RaisedK base outer e (.ref 34) t vs news h' → HasD h' e d → g.UpToSlots h' → Q () { s' with heap := h' }) :
    wpAny M (A.deeper (envX name scope L a cd cl)) (leaving (envX name scope L a cd cl) (.ref e)) Q E s' := by
  obtain ⟨⟨B, hB, hBG, hl, hfl, hnew⟩, htup⟩ := R
  refine DK.any (DK.leaving _ _) hd ?_
  refine wpAny_leaves_onW (Around.frames_deeper K.stack) rfl hfl fun h' x1 x2 hd' => ?_
  have R : RaisedS base g outer e (.ref 34) t vs news h' := ⟨⟨B, hB, fun b o q nm => hBG b o (F.keep b o q) (fun hm => by
      rcases memX hm with z | z
      · rw [z, kts_self F] at q
        cases q
      · exact nm z), fun q hq => ⟨(hl q hq).1, kts_none F.keep (hl q hq).2.1, (hl q hq).2.2⟩, x1, hnew⟩, htup.of_slots x2⟩
  exact hQ h' R R.toK hd' ((Heap.UpToSlots.of_keeps F.keep).trans (hsm.trans x2))
end
end Mine
end
section
open PySem PySem.W PySem.Calls PyProof.Rows
namespace Mine
section
variable {prog : Program} {w : World} {A₀ : Around} {E : Value → Shared → Prop} {s' : Shared} {base g g₀ G : Heap} {outer : List Env} {L a e d t : Addr} {m : Str → Option Value} {name : Str} {scope : Scope} {cd : Value}
  {vs : List Value} {n : Str} {b₀ : Stmt} {suite : List Stmt} {pos np : Pos} {rest : List ExceptHandler} {Q : Flow → Shared → Prop} {news : List (Addr × Obj)} {KF : Frag}
  {p : Program} {loose : List Str} {mean : ExcName → Option Value} {mg mb : Str → Option Value} {x : Str}
theorem caught_D (R : RaisedS base G (envOf name scope L a cd :: outer) e (.ref 34) t vs news s'.heap) (hd : HasD s'.heap e d) (F : Fr g L G m) (K : Below A₀ base outer g) (hsm : G.UpToSlots s'.heap) (XB : KF.In base) (TB : Top p loose mean mg mb base)
    (D : KtsDicts (outer.filterMap (·.frame)) g) (T0 : KtsTurn (outer.filterMap (·.frame)) g₀ g)
    (ex : nsIn KF mainGlobals x = some (some (.ref 34))) (q : ktsIn KF 34 "BaseException" = true)
    (k : ∀ h' g' ws sl tk, KtsTurn (outer.filterMap (·.frame)) g₀ g' → Fr g' L h' (fun y => if y = n then some (.ref e) else m y) → News g' L h' ((e, { cls := .ref 34, dict := some d, data := .fields ws, slots := sl }) :: news) → (∀ q ∈ news, q.1 ≠ e) → Below A₀ base outer g' → KF.In g' → Top p loose mean mg mb g' → KtsDicts (outer.filterMap (·.frame)) g' →
      wpAny (model prog w) ((A₀.deeper (envOf name scope L a cd)).mark (some (.ref e))) (execs (b₀ :: suite) (envOf name scope L a cd))
        (fun f s₄ => wpAny (model prog w) (A₀.deeper (envOf name scope L a cd)) (do bindName (envOf name scope L a cd) n .none; unbindBehindTheSuite (envOf name scope L a cd) n pos) (fun _ s₅ => Q f s₅) E s₄)
        (AsSuiteRaised (model prog w) ((A₀.deeper (envOf name scope L a cd)).mark (some (.ref e))) (envOf name scope L a cd) n pos (notedBy (model prog w) ((A₀.deeper (envOf name scope L a cd)).mark (some (.ref e))) (envOf name scope L a cd) (cameBackBy (model prog w) (A₀.deeper (envOf name scope L a cd)) (envOf name scope L a cd) E)))
        { s' with heap := h', toks := tk })
    (hk : scope.kind = .function := by rfl) (hlo : (envOf name scope L a cd).kindOf n = some .local := by rfl) (hx : (envOf name scope L a cd).kindOf x = some .globalImplicit := by rfl) (hdb : (x == ("__debug__" : Str)) = false := by decide) :
    wpAny (model prog w) (A₀.deeper (envOf name scope L a cd)) (noteFrame (.ref e) (envOf name scope L a cd))
      (fun _ s₂ => wpAny (model prog w) (A₀.deeper (envOf name scope L a cd)) (setFlight (.ref e) none) (fun _ s₃ =>
        wpAny (model prog w) (A₀.deeper (envOf name scope L a cd)) (handleBy (.ref e) (envOf name scope L a cd) (.ExceptHandler (some (.Name x np)) (some n) (b₀ :: suite) pos :: rest)) Q E s₃) E s₂) E s' := by
  obtain ⟨⟨B, hB, hBG, hl, hfl, hnew⟩, htup⟩ := R
  have hL : B.get? L = none := by
    obtain ⟨_, ⟨L', _, hf, hn', _⟩, _⟩ := hfl.2.2.1
    obtain rfl : L = L' := Option.some.inj hf
    exact hn'
  have heB := hfl.2.1
  refine DK.any (DK.noteFrame _ _) hd (wpAny_looks_onW (Around.frames_deeper K.stack) rfl hfl fun h₁ held₁ sm₁ hd₁ => ?_)
  refine DK.any (DK.setFlight _ _) hd₁ (wpAny_landsW held₁ fun h₂ fly₂ sm₂ hd₂ => ?_)
  have up₂ := hsm.trans (sm₁.trans sm₂)
  obtain ⟨g₂, _, F₂, K₂⟩ := kts_ground K F hBG fly₂.1 up₂
  have X₂ : KF.In g₂ := XB.keeps K₂.stays
  obtain ⟨ob, hob, hobc⟩ := fly₂.there
  obtain ⟨nm, q', N, bs, bm, hdct, sn, sub, ab, col, dd, k0, k1, k2, k3, k5, newId, hC, hbase, hbT⟩ := kts_cls X₂ q
  refine wpAny_handleBy_cons (codeAny_handlers_test (name_K F₂ X₂ (topRead_of (TB.keeps K₂.stays)) ex ?_ hk hx hdb)) (by intro q; cases q)
  refine wpAny_excMatches_sub_self (F₂.keep _ _ hC) hob hobc hbase (codeAny_handlers_suite_as ?_)
  refine DK.any (DK.setFlight _ _) hd₂ (lands_againW fly₂ fun h₃ fly₃ sm₃ hd₃ => ?_)
  have up₃ := up₂.trans sm₃
  obtain ⟨g₃, T₃, F₃, K₃⟩ := kts_ground K F hBG fly₃.1 up₃
  obtain ⟨⟨oc, od, odt, osl⟩, ws, hoe, hoec, hoed, _⟩ := fly₃.first
  dsimp only at hoec hoed
  subst hoec hoed
  obtain ⟨o', ho', hod⟩ := hd₃
  rw [hoe] at ho'
  have hod' : od = some d := by rw [← hod, ← Option.some.inj ho']
  subst hod'
  have eg : g₃.get? e = none := T₃.none_ _ (kts_fresh F hBG heB fun o ho mm => by
    obtain ⟨_, o', ho', hdd⟩ := K.frames.mem mm
    rw [ho] at ho'
    cases ho'
    obtain ⟨sl, hs⟩ := up₃ _ _ (F.keep _ _ ho) hdd
    rw [hoe] at hs
    exact hdd ws (congrArg Obj.data (Option.some.inj hs)).symm)
  have Ne : News g₃ L h₃ [(e, (⟨.ref 34, some d, .fields ws, osl⟩ : Obj))] := News.more F₃ News.nil hoe (fun es n q => by cases q) eg
  have Nl : News g₃ L h₃ news := fun q hq => ⟨fly₃.1 _ _ (hl q hq).1, (fun z => by have := (hl q hq).1; rw [z, hL] at this; cases this), T₃.none_ _ (kts_none F.keep (hl q hq).2.1)⟩
  refine stN F₃ (news := (e, (⟨.ref 34, some d, .fields ws, osl⟩ : Obj)) :: news) (fun q hq => (List.mem_cons.mp hq).elim (fun z => Ne q (by rw [z]; exact .head _)) (Nl q)) (fun h₄ F₄ N₄ => ?_) hk hlo
  exact k h₄ g₃ ws osl _ (T0.trans T₃) F₄ N₄ (fun q hq z => by have := (hl q hq).1; rw [z, heB] at this; cases this) K₃ (XB.keeps K₃.stays) (TB.keeps K₃.stays) (D.turn T₃)
end
end Mine
end
section
open PySem PySem.W PySem.Calls PyProof.Rows
namespace Mine
def RaiseNow (E : Value → Shared → Prop) (v : Value) (s : Shared) : Prop := ∃ e d t, v = .ref e ∧ s.heap.get? e = some (errObj d t) ∧ (∃ K : Frag, K.In s.heap ∧ ktsIn K 34 "BaseException" = true) ∧ E (.ref e) s
theorem raise_D {M : Model} {A : Around} {E : Value → Shared → Prop} {s : Shared} {Q : Flow → Shared → Prop} {c : Expr} {pos : Pos} {env : Env} (hh : A.handled = none)
    (h : wpAny M A (eval c env) (fun v s₂ => RaiseNow E v s₂) E s) : wpAny M A (exec (.Raise (some c) none pos) env) Q E s := by
  rw [arm_exec_Raise]
  refine wpAny_bind (wpAny_standAt ?_)
  simp only [evalOpt, Option.map]
  unfold raiseStmt
  refine wpAny_bind (wpAny_bind (wpAny_mono h (fun v s₁ h₁ => wpAny_bind (wpAny_standAt (wpAny_pure ?_))) fun _ _ x => x))
  obtain ⟨e, d, t, rfl, he, ⟨K, X, q⟩, hE⟩ := h₁
  obtain ⟨nm, q', N, bs, bm, hdct, sn, sub, ab, col, dd, k0, k1, k2, k3, k5, newId, hC, hbase, _⟩ := kts_cls X q
  have hcB : (Value.ref 34 :: bm).contains (.type "BaseException") = true := by rw [List.contains_cons, hbase, Bool.or_true]
  obtain ⟨hp, g, dr, tk, os⟩ := s₁
  dsimp only at he hC X
  repeat (first | with_reducible refine wpAny_loadPart_at he ?_ | with_reducible refine wpAny_loadPart_at hC ?_ | (with_reducible refine wpAny_isSubtype_exc hC ?_; rw [hcB]) | wp_step)
  exact wpAny_raiseNew_none hh hE
end Mine
end
section
open PySem PySem.W PySem.Calls PyProof.Rows
namespace Mine
abbrev errObj0 (t : Addr) : Obj := { cls := .ref 34, data := .fields #[.ref t, .none, .none, .none, .bool false, .none] }
section
variable {prog : Program} {w : World} {A : Around} {E : Value → Shared → Prop} {h₀ : Heap} {L : Addr} {m : Str → Option Value} {news : List (Addr × Obj)}
  {nm q : Str} {N : Addr} {bs : List Value} {hdct : Bool} {sn : List Str} {sub : List Value} {ab : Bool} {col : Option Bool} {dd : Option Addr} {k0 k1 k2 k3 k5 : Option Value}
/-- the class called: an instance is made, then its own __init__ is called -/
theorem err_call {K : Frag} {mN : Str → Option Value} {rest : List Value} {Q : Value → Shared → Prop} {h : Heap} {g : Array GenState} {d : Drawn} {tk : Nat} {os : OsState}
    (F : Fr h₀ L h m) (Nw : News h₀ L h news)
    (hC : h.get? 34 = some (excClassObj nm q 34 N bs [.type "Exception", .type "BaseException", .type "object"] hdct sn sub ab col dd k0 k1 k2 k3 k5 "Exception.__new__")) (hn : h.Ns N mN) (hni : mN "__init__" = some (.ref 31))
    (X : K.In h) (hf : typeIn K (.ref 31) = some (.type "function")) (hrest : rest.length ≤ sizeLine)
    (hq : ∀ e t h', Fr h₀ L h' m → News h₀ L h' ((e, errObj0 t) :: (t, tupO rest.toArray 0) :: news) → (∀ p ∈ news, p.1 < t) → t < e → Keeps h h' →
      codeAny (model prog w) (A.under (.builtin "type.__call__" ⟨.ref 34 :: rest, []⟩)) (.call (.ref 31) ⟨.ref e :: rest, []⟩) (InitBack e (fun r s' => match r with | .ok (.ret v) => Q v s' | .ok _ => False | .error x => E x s')) ⟨h', g, d, tk, os⟩) :
    wpAny (model prog w) A (call (.ref 34) rest) Q E ⟨h, g, d, tk, os⟩ := by
  have F1 := PySem.F.excBase_Exception
  have T : OwnTail h [.type "Exception", .type "BaseException", .type "object"] [.type "Exception", .type "BaseException", .type "object"] := .base
  have f1 := tc_lookup
  have f2 := tc_bind (.ref 34)
  have hT : (⟨h, g, d, tk, os⟩ : Shared).TypeIs (.ref 34) "type" := ⟨_, hC, rfl⟩
  refine wpAny_call (codeAny_of_tree ?_)
  show wpAny _ _ (callAny (.ref 34) _) _ _ _
  repeat (any_goals (first | assumption | with_reducible refine wpAny_loadPart_at hC ?_ | wp_step))
  refine ⟨rfl, ?_⟩
  refine codeAny_call_builtin_at (Code.quiet_builtin _ (by decide +kernel)) entry_typeCall (wpAny_check_type_call_sub hC ?_)
  repeat (first | with_reducible refine wpAny_loadPart_at hC ?_ | with_reducible refine wpAny_madeBy_exc hC ?_ | wp_step)
  refine codeAny_call_builtin_code (Code.quiet_builtin _ F1.quiet) (wpAny_check_new_subT F1 T hC ?_)
  refine codeAny_exc_new_subT F1 T hC ?_ hrest
  show wpAny _ _ _ _ _ _
  have kp : Keeps h ((h.push { cls := .type "tuple", data := .seq rest.toArray }).push { cls := .ref 34, data := .fields #[.ref h.objs.size, .none, .none, .none, .bool false, .none] }) := fun b o e => Heap.get?_push_of_some _ (Heap.get?_push_of_some _ e)
  have hC₁ := kp _ _ hC
  have hn₁ : ((h.push { cls := .type "tuple", data := .seq rest.toArray }).push { cls := .ref 34, data := .fields #[.ref h.objs.size, .none, .none, .none, .bool false, .none] }).Ns N mN :=
    let ⟨o, es, ep, e, r⟩ := hn; ⟨o, es, ep, kp _ _ e, r⟩
  have hget : ((h.push { cls := .type "tuple", data := .seq rest.toArray }).push
      { cls := .ref 34, data := .fields #[.ref h.objs.size, .none, .none, .none, .bool false, .none] }).get? (h.objs.size + 1) = some
      { cls := .ref 34, data := .fields #[.ref h.objs.size, .none, .none, .none, .bool false, .none] } := by heap_get
  have hcC : (Value.ref 34 :: [Value.type "Exception", .type "BaseException", .type "object"]).contains (.ref 34) = true := by simp
  have Nf := (Nw.push F { cls := .type "tuple", data := .seq rest.toArray } rfl).push (F.push _) { cls := .ref 34, data := .fields #[.ref h.objs.size, .none, .none, .none, .bool false, .none] } rfl
  rw [Heap.size_push] at Nf
  have z := hq _ h.objs.size _ ((F.push _).push _) Nf (fun p hp => Heap.lt_size (Nw p hp).1) (Nat.lt_succ_self _) kp
  unfold isInstance
  repeat (first | with_reducible refine wpAny_loadPart_at hget ?_ | (refine wpAny_isSubtype_exc hC₁ ?_; rw [hcC]) | wp_step)
  show wpAny _ _ (typeLookup (.ref 34) _) _ _ _
  refine wpAny_typeLookup_tail hC₁ hn₁ .base F1.mroIs F1.init.lookup ?_
  rw [hni]
  dsimp only
  refine wpAny_holding (wpAny_bind (Looks.at (bind_fn (X.keeps kp) _ hf) ?_))
  refine wpAny_bind (wpAny_call (codeAny_mono z fun r s' y => ?_))
  cases r with
  | error e => exact y
  | ok fl =>
    cases fl with
    | ret v =>
      obtain ⟨rfl, y⟩ := y
      exact wpAny_pure (wpAny_pure y)
    | _ => exact y.elim
end
end Mine
end
section
open PySem PySem.W PySem.Calls PyProof.Rows
namespace Mine
section
variable {prog : Program} {w : World} {A : Around} {E : Value → Shared → Prop} {h : Heap} {g : Array GenState} {d : Drawn} {t : Nat} {os : OsState}
abbrev excMro : List Value := [.ref 34, .type "Exception", .type "BaseException", .type "object"]
theorem tf_init : typeOf (.builtin "Exception.__init__") = pure (.type "wrapper_descriptor") := by kernel_rfl
theorem tl_get : typeLookup (.type "wrapper_descriptor") "__get__" = pure (some (.builtin "wrapper_descriptor.__get__")) := by rw [typeLookup_type, builtinLookup_eq_fast]; kernel_rfl
set_option maxHeartbeats 1000000 in
theorem err_superGa {so x : Addr} {K : Frag} {name : Str} {tk : Tok} {Q : Fin → Shared → Prop}
    (hso : h.get? so = some (ks_superObj 34 x 34)) (hno : Looks (model prog w) h (opaqueClassAbove (.ref 34)) none)
    (hC : Looks (model prog w) h (mroOf (.ref 34)) excMro) (X : K.In h) (hx34 : x ≠ 34) (hn : (name == ("__class__" : Str)) = false)
    (hf : alongIn K name [.type "Exception", .type "BaseException", .type "object"] = some (some (.builtin "Exception.__init__")))
    (hq : wpAny (model prog w) A (call (.builtin "wrapper_descriptor.__get__") [.builtin "Exception.__init__", .ref x, .ref 34]) (fun v s' => Q (.done (.ret v)) s') E ⟨h, g, d, t, os⟩) :
    wpAny (model prog w) A (Builtin.«super.__getattribute__» ⟨[.ref so, .str name tk], []⟩) Q E ⟨h, g, d, t, os⟩ := by
  have hne : (Value.ref x == Value.ref 34) = false := by simp [hx34]
  have hdt : (ks_superObj 34 x 34).data = .fields #[.ref 34, .ref x, .ref 34] := rfl
  have f0 : (#[.ref 34, .ref x, .ref 34] : Array Value)[0]? = some (.ref 34) := rfl
  have f1 : (#[.ref 34, .ref x, .ref 34] : Array Value)[1]? = some (.ref x) := rfl
  have f2 : (#[.ref 34, .ref x, .ref 34] : Array Value)[2]? = some (.ref 34) := rfl
  have hl : (excMro.dropWhile (· != .ref 34)).drop 1 = [.type "Exception", .type "BaseException", .type "object"] := by decide +kernel
  have q1 := tf_init
  have q2 := tl_get
  unfold Builtin.«super.__getattribute__»
  repeat (first
    | (with_reducible refine wpAny_field hso hdt f0 ?_) | (with_reducible refine wpAny_field hso hdt f1 ?_) | (with_reducible refine wpAny_field hso hdt f2 ?_)
    | (with_reducible refine ks_wpAny_notOpaque hno ?_)
    | (with_reducible refine Looks.at hC ?_; rw [hl])
    | ((with_reducible show wpAny _ _ (forIn _ _ _) _ _ _); refine ks_forIn_along X (fun _ _ => rfl) rfl ?_ hf)
    | (simp only [hn, hne, Bool.or_false, Bool.false_eq_true, if_false])
    | ((fail_if_success (with_reducible show wpAny _ _ (call _ _) _ _ _)); wp_step)
    | ((fail_if_success (with_reducible show wpAny _ _ (call _ _) _ _ _)); dsimp only))
  refine wpAny_mono hq (fun v s' y => ?_) fun _ _ x => x
  exact wpAny_bind (wpAny_pure (wpAny_pure (wpAny_pure y)))
theorem err_getInit {so x : Addr} {K : Frag} {name : Str} {pl : Sem Bool} {Q : Value × List Value → Shared → Prop}
    (hso : h.get? so = some (ks_superObj 34 x 34)) (hno : Looks (model prog w) h (opaqueClassAbove (.ref 34)) none)
    (hC : Looks (model prog w) h (mroOf (.ref 34)) excMro) (X : K.In h) (hx34 : x ≠ 34) (hn : (name == ("__class__" : Str)) = false)
    (hf : alongIn K name [.type "Exception", .type "BaseException", .type "object"] = some (some (.builtin "Exception.__init__")))
    (hb : wpAny (model prog w) A.in1 (call (.builtin "wrapper_descriptor.__get__") [.builtin "Exception.__init__", .ref x, .ref 34]) (fun v s' => ∃ a, v = .ref a ∧ Q (.ref a, []) s') (fun _ _ => False) ⟨h, g, d, t + 1, os⟩) :
    wpAny (model prog w) A (getMethod (.ref so) name pl) Q E ⟨h, g, d, t, os⟩ := by
  have hlk := PySem.F.ks_slot_super_ga.lookup
  have hcan := PySem.F.ks_canon_super_ga
  have hT : ∀ t', (⟨h, g, d, t', os⟩ : Shared).TypeIs (.ref so) "super" := fun _ => ⟨_, hso, rfl⟩
  unfold getMethod
  refine wpAny_bind (wpAny_specialOf (hT _) hlk ?_)
  show wpAny _ _ (if (Manifest.canonical "super.__getattribute__" != "object.__getattribute__") = true then _ else _) _ _ _
  rw [if_pos hcan]
  unfold getAttr getAttrBy
  refine wpAny_bind (wpAny_bind (wpAny_mkText (wpAny_holding (wpAny_bind (wpAny_typeOf (hT _) (wpAny_bind (wpAny_of_eq hlk ?_)))))))
  show wpAny _ _ (getAttrByItsOwn (.ref so) (.str name t) (.type "super") (.builtin "super.__getattribute__") true false) _ _ _
  unfold getAttrByItsOwn hookBefore callGetattribute boundAndCalled
  refine wpAny_bind (wpAny_of_eq (show (if onTheHeap (.type "super") then typeLookup (.type "super") "__getattr__" else pure none) = pure none from rfl) ?_)
  refine wpAny_bind (wpAny_attempt (wpAny_holding ?_))
  show wpAny _ _ (bindSpecial (.builtin "super.__getattribute__") (.ref so) >>= _) _ _ _
  refine wpAny_bind (wpAny_of_eq (PySem.F.ks_slot_super_ga.bind _) ?_)
  refine wpAny_mono (Q := fun v s' => ∃ a, v = .ref a ∧ Q (.ref a, []) s') (E := fun _ _ => False)
    (wpAny_call_entry PySem.F.ks_slot_super_ga (hT _) PySem.F.ks_entry_super_ga (err_superGa hso hno hC X hx34 hn hf (wpAny_mono hb (fun v s' y => ⟨v, rfl, y⟩) fun _ _ z => z)) (PySem.F.ks_gaArgs_super _ _)) (fun v s' y => ?_) fun _ _ z => z.elim
  obtain ⟨a, rfl, y⟩ := y
  exact wpAny_pure (wpAny_pure y)
end
def anyA : Around := { handled := none, depth := 400, frames := none, guards := none, units := 500 }
theorem in_any {A : Around} (h1 : A.handled = none) (h2 : A.depth ≤ 400) (h3 : A.units ≤ 500) (Γ : Ctx) (h : Γ.In A) : Γ.In anyA :=
  ⟨h.1.trans h1, Nat.le_trans h.2.1 h2, fun _ e => (nomatch e), fun _ e => (nomatch e), Nat.le_trans h.2.2.2.2 h3⟩
theorem wpAny_in {α : Type} {M : Model} {A A' : Around} {t : Sem α} {Q : α → Shared → Prop} {E : Value → Shared → Prop} {s : Shared} (h : wpAny M A' t Q E s) (hi : ∀ Γ : Ctx, Γ.In A → Γ.In A') : wpAny M A t Q E s := fun Γ p hΓ => h Γ p (hi Γ hΓ)
abbrev mwObj (x : Addr) : Obj := { cls := .type "method-wrapper", data := .fields #[.builtin "Exception.__init__", .ref x] }
def BoundEnd (x : Addr) (s : Shared) (v : Value) (s' : Shared) : Prop := ∃ a h', v = .ref a ∧ s' = { s with heap := h' } ∧ Keeps s.heap h' ∧ h'.get? a = some (mwObj x) ∧ s.heap.get? a = none
theorem bound_end {x : Addr} {s : Shared} {h : Heap} {a : Addr} (D : X.Mem s.heap h [] [(a, mwObj x)]) : BoundEnd x s (.ref a) ⟨h, s.gens, s.drawn, s.toks, s.os⟩ :=
  ⟨a, h, rfl, rfl, fun b ob q => D.keep b ob q (Bool.or_true _), (D.nw _ (.head _)).1, (D.nw _ (.head _)).2⟩
section
local macro_rules | `(tactic| x_close) => `(tactic| exact bound_end (by assumption))
set_option maxRecDepth 100000 in
set_option maxHeartbeats 2000000 in
theorem err_bound {w : World} {s : Shared} {x t : Addr} (X : (hd.heap_39 w.params).In s.heap) (hx : s.heap.get? x = some (errObj0 t)) :
    wpAny (model PySem.Challenge.rw_pf0367_01.row.prog w) anyA (call (.builtin "wrapper_descriptor.__get__") [.builtin "Exception.__init__", .ref x, .ref 34]) (BoundEnd x s) (fun _ _ => False) s := by
  dsimp only [errObj0] at hx
  x_run
end
end Mine
end
section
open PySem PySem.W PySem.Calls PyProof.Rows
namespace Mine
section
variable {prog : Program} {w : World} {A : Around} {E : Value → Shared → Prop} {h : Heap} {g : Array GenState} {d : Drawn} {tk : Nat} {os : OsState}
  {nm q : Str} {N : Addr} {bs : List Value} {hdct : Bool} {sn : List Str} {sub : List Value} {ab : Bool} {col : Option Bool} {dd : Option Addr} {k0 k1 k2 k3 k5 : Option Value}
set_option maxHeartbeats 1000000 in
theorem err_init {mw e t : Addr} {v : Value} {Q : Value → Shared → Prop} (hmw : h.get? mw = some (mwObj e)) (he : h.get? e = some (errObj0 t))
    (hC : h.get? 34 = some (excClassObj nm q 34 N bs [.type "Exception", .type "BaseException", .type "object"] hdct sn sub ab col dd k0 k1 k2 k3 k5 "Exception.__new__"))
    (hq : Q .none ⟨(h.push { cls := .type "tuple", data := .seq #[v] }).update e (Obj.mapFields (·.setIfInBounds 0 (.ref h.objs.size))), g, d, tk, os⟩) :
    wpAny (model prog w) A (call (.ref mw) [v]) Q E ⟨h, g, d, tk, os⟩ := by
  have F1 := PySem.F.excBase_Exception
  have T : OwnTail h [.type "Exception", .type "BaseException", .type "object"] [.type "Exception", .type "BaseException", .type "object"] := .base
  have hT : (⟨h, g, d, tk, os⟩ : Shared).TypeIs (.ref mw) "method-wrapper" := ⟨_, hmw, rfl⟩
  refine wpAny_call (codeAny_of_tree ?_)
  show wpAny _ _ (callAny (.ref mw) _) _ _ _
  repeat (any_goals (first | assumption | with_reducible refine wpAny_loadPart_at hmw ?_ | wp_step))
  show _ ∧ codeAny (model prog w) A (.builtin "Exception.__init__" ⟨.ref e :: [v], []⟩) _ _
  refine ⟨Code.quiet_builtin _ (by decide +kernel), codeAny_builtin F1.initEntry ?_⟩
  wp_walk
  exact hq
theorem err_init_use {h₀ : Heap} {L : Addr} {m : Str → Option Value} {news rest : List (Addr × Obj)} {mw e t : Addr} {v : Value} {Q : Value → Shared → Prop} (F : Fr h₀ L h m) (Nw : News h₀ L h news)
    (hmw : (mw, mwObj e) ∈ news) (te : Take (e, errObj0 t) news rest) (hne : ∀ p ∈ rest, p.1 ≠ e)
    (hC : h.get? 34 = some (excClassObj nm q 34 N bs [.type "Exception", .type "BaseException", .type "object"] hdct sn sub ab col dd k0 k1 k2 k3 k5 "Exception.__new__"))
    (hq : ∀ t' h', Fr h₀ L h' m → News h₀ L h' ((e, errObj0 t') :: (t', tupO #[v] 0) :: rest) → (∀ p ∈ news, p.1 < t') → Q .none ⟨h', g, d, tk, os⟩) :
    wpAny (model prog w) A (call (.ref mw) [v]) Q E ⟨h, g, d, tk, os⟩ := by
  have hm := te.mem
  have ne := Nw _ hm.1
  have he : h.get? e = some (errObj0 t) := ne.1
  have Np := Nw.push F { cls := .type "tuple", data := .seq #[v] } rfl
  have Fp := F.push { cls := .type "tuple", data := .seq #[v] }
  have hep : (h.push { cls := .type "tuple", data := .seq #[v] }).get? e = some (errObj0 t) := Heap.get?_push_of_some _ he
  have hlt : e < h.objs.size := Heap.lt_size he
  have ge := Heap.get?_update_self (Obj.mapFields (·.setIfInBounds 0 (.ref h.objs.size))) hep (Obj.isFreed_of_fields (Obj.data_mapFields (o := errObj0 t) rfl _))
  have hs : Heap.SameBut e (h.push { cls := .type "tuple", data := .seq #[v] }) ((h.push { cls := .type "tuple", data := .seq #[v] }).update e (Obj.mapFields (·.setIfInBounds 0 (.ref h.objs.size)))) := Heap.SameBut.update ..
  refine err_init (Nw _ hmw).1 he hC (hq h.objs.size _ (Fp.change hs ne.2.1 ne.2.2) (fun p hp => ?_) (fun p hp => Heap.lt_size (Nw p hp).1))
  rcases List.mem_cons.mp hp with rfl | hp
  · exact ⟨ge, ne.2⟩
  · have other : ∀ b, b ≠ e → ((h.push { cls := .type "tuple", data := .seq #[v] }).update e (Obj.mapFields (·.setIfInBounds 0 (.ref h.objs.size)))).get? b = (h.push { cls := .type "tuple", data := .seq #[v] }).get? b := fun b hb => hs.2 b hb
    rcases List.mem_cons.mp hp with rfl | hp
    · have n0 := Np _ (.head _)
      exact ⟨(other _ (Nat.ne_of_gt hlt)).trans n0.1, n0.2⟩
    · have n1 := Nw _ (hm.2 _ hp)
      exact ⟨(other _ (hne _ hp)).trans (Heap.get?_push_of_some _ n1.1), n1.2⟩
end
end Mine
end
section
open PySem PySem.W PySem.Calls PyProof.Rows
namespace Mine
section
variable {prog : Program} {w : World} {A : Around} {E : Value → Shared → Prop} {h : Heap} {g : Array GenState} {d : Drawn} {tk : Nat} {os : OsState}
  {nm q : Str} {N : Addr} {bs : List Value} {sn : List Str} {sub : List Value} {ab : Bool} {col : Option Bool} {dd : Option Addr} {k0 k1 k2 k3 k5 : Option Value} {mN : Str → Option Value} {name : Str} {v : Value} {e t : Addr}
abbrev excTail : List Value := [.type "Exception", .type "BaseException", .type "object"]
theorem first_entry {tk0 : Tok} {Q : Fin → Shared → Prop}
    (hC : h.get? 34 = some (excClassObj nm q 34 N bs excTail true sn sub ab col dd k0 k1 k2 k3 k5 "Exception.__new__")) (hn : h.Ns N mN) (hna : mN name = none)
    (hB : typeLookup (.type "Exception") name = pure none) (hx : h.get? e = some (errObj0 t))
    (hq : ∀ h' tk' hs tk1, h'.get? e = some (errObj h.objs.size t) → h'.get? h.objs.size = some (dictOf [⟨hs, .str name tk1, v⟩] 1) → (∀ b o, b ≠ e → h.get? b = some o → h'.get? b = some o) → Q (.done (.ret .none)) ⟨h', g, d, tk', os⟩) :
    wpAny (model prog w) A (Builtin.«object.__setattr__» ⟨[.ref e, .str name tk0, v], []⟩) Q E ⟨h, g, d, tk, os⟩ := by
  have SF := PySem.F.store_Exception
  have hpass := SF.passes (.ref e)
  have hc : (errObj0 t).cls = .ref 34 := rfl
  unfold Builtin.«object.__setattr__»
  repeat (first | rw [refuse_eq] | (rw [refuseLoop_ref, hpass]) | (with_reducible refine wpAny_loadPart_at hx ?_; rw [hc]) | with_reducible refine wpAny_mroOf_exc hC ?_ | (with_reducible refine wpAny_typeLookup_exc hC hn SF.mro hB ?_; rw [hna]) | wp_step)
  have hx₁ : (h.push { cls := .type "dict", data := .dict #[] }).get? e = some (errObj0 t) := Heap.get?_push_of_some _ hx
  have hxs : e ≠ h.objs.size := Nat.ne_of_lt (Heap.lt_size hx)
  have hgd : ((h.push { cls := .type "dict", data := .dict #[] }).update e fun o => { cls := o.cls, dict := some h.objs.size, data := o.data, slots := o.slots }).get? h.objs.size
      = some { cls := .type "dict", data := .dict #[] } := (Heap.get?_update_ne _ _ _ _ hxs.symm).trans (Heap.get?_push_at rfl rfl)
  refine wpAny_askSetting (wpAny_pure ?_)
  refine wpAny_bind (wpAny_mkText (wpAny_bind (wpAny_loadPart hgd ?_)))
  have hr : aRefKeyMayBeTheName name #[] = false := rfl
  dsimp only
  rw [if_neg (by rw [hr]; decide)]
  refine wpAny_updatePart hgd ?_
  generalize (if name.cps.isEmpty = true then (0 : Int) else reduceHash ((model prog w).w.params.strHash name.cps)) = hs
  have hfr : (Obj.putName name hs (.str name tk) v { cls := .type "dict", data := .dict #[] }).isFreed = false := rfl
  have gd := Heap.get?_update_self (Obj.putName name hs (.str name tk) v) hgd hfr
  have hd' : Obj.putName name hs (.str name tk) v { cls := .type "dict", data := .dict #[] } = dictOf [⟨hs, .str name tk, v⟩] 1 := putName_dict name hs (.str name tk) v [] 0
  rw [hd'] at gd
  refine wpAny_bind (wpAny_lookBehind gd (pastItsLine_dict (by rw [sizeLine_eq]; show 1 ≤ _; decide)) ?_)
  refine wpAny_pure (hq _ _ hs tk ?_ gd fun b o hb ho => ?_)
  · exact (Heap.get?_update_other _ _ hxs.symm).trans (Heap.get?_update_self (fun o : Obj => { cls := o.cls, dict := some h.objs.size, data := o.data, slots := o.slots }) hx₁ rfl)
  · exact (Heap.get?_update_other _ _ (Nat.ne_of_gt (Heap.lt_size ho))).trans ((Heap.get?_update_other _ _ (Ne.symm hb)).trans (Heap.get?_push_of_some _ ho))
theorem second_entry {tk0 : Tok} {Q : Fin → Shared → Prop} {dx : Addr} {h1 : Int} {n1 : Str} {t1 : Tok} {v1 : Value}
    (hC : h.get? 34 = some (excClassObj nm q 34 N bs excTail true sn sub ab col dd k0 k1 k2 k3 k5 "Exception.__new__")) (hn : h.Ns N mN) (hna : mN name = none)
    (hB : typeLookup (.type "Exception") name = pure none) (hx : h.get? e = some (errObj dx t)) (hdx : h.get? dx = some (dictOf [⟨h1, .str n1 t1, v1⟩] 1)) (hne : (n1 == name) = false)
    (hq : ∀ h' tk' hs tk1, h'.get? dx = some (dictOf [⟨h1, .str n1 t1, v1⟩, ⟨hs, .str name tk1, v⟩] 2) → (∀ b o, b ≠ dx → h.get? b = some o → h'.get? b = some o) → Q (.done (.ret .none)) ⟨h', g, d, tk', os⟩) :
    wpAny (model prog w) A (Builtin.«object.__setattr__» ⟨[.ref e, .str name tk0, v], []⟩) Q E ⟨h, g, d, tk, os⟩ := by
  have SF := PySem.F.store_Exception
  have hpass := SF.passes (.ref e)
  have hc : (errObj dx t).cls = .ref 34 := rfl
  unfold Builtin.«object.__setattr__»
  repeat (first | rw [refuse_eq] | (rw [refuseLoop_ref, hpass]) | (with_reducible refine wpAny_loadPart_at hx ?_; rw [hc]) | with_reducible refine wpAny_mroOf_exc hC ?_ | (with_reducible refine wpAny_typeLookup_exc hC hn SF.mro hB ?_; rw [hna]) | wp_step)
  refine wpAny_askSetting (wpAny_pure ?_)
  refine wpAny_bind (wpAny_mkText (wpAny_bind (wpAny_loadPart hdx ?_)))
  have hk : (Value.str n1 t1).isStr name = false := hne
  have hr : aRefKeyMayBeTheName name [(⟨h1, .str n1 t1, v1⟩ : DictEntry)].toArray = false := by
    rw [aRefKeyMayBeTheName_at, ← Array.any_toList, ← Array.any_toList]
    simp only [List.any_cons, List.any_nil, hk, Bool.or_false]
    rfl
  dsimp only
  rw [if_neg (by rw [hr]; decide)]
  refine wpAny_updatePart hdx ?_
  generalize (if name.cps.isEmpty = true then (0 : Int) else reduceHash ((model prog w).w.params.strHash name.cps)) = hs
  have hd' : Obj.putName name hs (.str name tk) v (dictOf [⟨h1, .str n1 t1, v1⟩] 1) = dictOf [⟨h1, .str n1 t1, v1⟩, ⟨hs, .str name tk, v⟩] 2 := by
    rw [putName_dict]
    simp only [putL, putN, hk, List.any_cons, List.any_nil, Bool.or_false, Bool.false_eq_true, if_false]
  have gd := Heap.get?_update_self (Obj.putName name hs (.str name tk) v) hdx (by rw [hd']; rfl)
  rw [hd'] at gd
  refine wpAny_bind (wpAny_lookBehind gd (pastItsLine_dict (by rw [sizeLine_eq]; show 2 ≤ _; decide)) ?_)
  exact wpAny_pure (hq _ _ hs tk gd fun b o hb ho => (Heap.get?_update_other _ _ (Ne.symm hb)).trans ho)
theorem set_gen {o : Obj} {C : Addr} {B sa owner newId : String} {bm : List Value} {R : Result → Shared → Prop} {tk0 : Tok} (SF : StoreFacts B bm sa owner)
    (hC : h.get? C = some (excClassObj nm q C N bs bm true sn sub ab col dd k0 k1 k2 k3 k5 newId)) (hx : h.get? e = some o) (hc : o.cls = .ref C)
    (hq : ∀ (A' : Around), wpAny (model prog w) A' (Builtin.«object.__setattr__» ⟨[.ref e, .str name tk0, v], []⟩) (fun fin s' => match fin with | .done f => R (.ok f) s' | .again c' => c'.quiet = true ∧ codeAny (model prog w) A c' R s') (fun x s' => R (.error x) s') ⟨h, g, d, tk, os⟩) :
    codeAny (model prog w) A (.call (.builtin sa) ⟨[.ref e, .str name tk0, v], []⟩) R ⟨h, g, d, tk, os⟩ :=
  codeAny_call_builtin SF.slot.plain SF.entry (wpAny_check_sa SF hC hx hc (hq _))
theorem set_exc {o : Obj} {C : Addr} {B sa owner newId : String} {bm : List Value} {Q : Unit → Shared → Prop} (SF : StoreFacts B bm sa owner)
    (hC : h.get? C = some (excClassObj nm q C N bs bm true sn sub ab col dd k0 k1 k2 k3 k5 newId)) (hn : h.Ns N mN) (hns : mN "__setattr__" = none) (hx : h.get? e = some o) (hc : o.cls = .ref C)
    (hq : ∀ (A' : Around) (Q' : Fin → Shared → Prop) E' tk0 tk', (∀ s', Q () s' → Q' (.done (.ret .none)) s') → wpAny (model prog w) A' (Builtin.«object.__setattr__» ⟨[.ref e, .str name tk0, v], []⟩) Q' E' ⟨h, g, d, tk', os⟩) :
    wpAny (model prog w) A (setAttr (.ref e) name v) Q E ⟨h, g, d, tk, os⟩ := by
  have f3 := SF.slot.bind (.ref e)
  unfold setAttr callSpecial? specialOf
  repeat (any_goals (first | with_reducible assumption | (with_reducible refine wpAny_loadPart_at hx ?_; rw [hc]) | (with_reducible refine wpAny_typeLookup_exc hC hn SF.mro SF.slot.lookup ?_; rw [hns]) | wp_step))
  refine set_gen SF hC hx hc (fun A' => hq _ _ _ _ _ fun s' y => ?_)
  repeat (any_goals (first | with_reducible assumption | wp_step))
end
end Mine
end
section
open PySem PySem.W PySem.Calls PyProof.Rows
namespace Mine
theorem ns_some_of {K : Frag} {h : Heap} {N : Addr} {mg : Str → Option Value} {n : Str} {v : Value} (X : K.In h) (G : h.Ns N mg) (e : nsIn K N n = some (some v)) : mg n = some v := by
  obtain ⟨o, es, ep, ho, hd, _, hf⟩ := G
  unfold nsIn at e
  split at e
  · rename_i c d es' n' sl q
    have := X _ _ q
    rw [ho] at this
    cases this
    cases hd
    split at e
    · rename_i en he
      cases e
      rw [← hf]
      unfold nsFind findBy
      rw [← Array.find?_toList, he]
      rfl
    · split at e
      · cases e
      · cases e
  · cases e
def absent : List Str := ["__setattr__", "__getattribute__", "__getattr__", "number", "told"]
structure ErrCls (h : Heap) : Prop where
  ex : ∃ nm q bs sn sub ab col dd k0 k1 k2 k3 k5 mN, h.get? 34 = some (excClassObj nm q 34 33 bs excTail true sn sub ab col dd k0 k1 k2 k3 k5 "Exception.__new__") ∧ h.Ns 33 mN ∧ mN "__init__" = some (.ref 31) ∧ ∀ x ∈ absent, mN x = none
set_option maxRecDepth 100000 in
theorem ns_ok (P : Params) : nsOkIn (hd.heap_39 P) 33 = true := by kernel_rfl
set_option maxRecDepth 100000 in
theorem ns_init (P : Params) : nsIn (hd.heap_39 P) 33 "__init__" = some (some (.ref 31)) := by kernel_rfl
set_option maxRecDepth 100000 in
theorem ns_abs (P : Params) : absent.map (fun x => nsIn (hd.heap_39 P) 33 x) = [some none, some none, some none, some none, some none] := by kernel_rfl
set_option maxRecDepth 100000 in
theorem err_cls {w : World} {h : Heap} (X : (hd.heap_39 w.params).In h) : ErrCls h := by
  have G : h.Ns 33 (h.nsMap 33) := .of_isNs (isNs_of_in X (ns_ok _))
  have a := ns_abs w.params
  simp only [absent, List.map_cons, List.map_nil, List.cons.injEq, and_true] at a
  obtain ⟨a1, a2, a3, a4, a5⟩ := a
  refine ⟨_, _, _, _, _, _, _, _, _, _, _, _, _, _, X 34 _ rfl, G, ns_some_of X G (ns_init _), fun x hx => ?_⟩
  simp only [absent, List.mem_cons, List.not_mem_nil, or_false] at hx
  rcases hx with rfl | rfl | rfl | rfl | rfl
  · exact ns_none_of X G a1
  · exact ns_none_of X G a2
  · exact ns_none_of X G a3
  · exact ns_none_of X G a4
  · exact ns_none_of X G a5
end Mine
end
section
open PySem PySem.W PySem.Calls PyProof.Rows
namespace Mine
theorem tl_number : typeLookup (.type "Exception") "number" = pure none := by rw [typeLookup_type, builtinLookup_eq_fast]; kernel_rfl
theorem tl_told : typeLookup (.type "Exception") "told" = pure none := by rw [typeLookup_type, builtinLookup_eq_fast]; kernel_rfl
section
variable {w : World} {A : Around} {E : Value → Shared → Prop} {s : Shared} {h₀ : Heap} {L : Addr} {m : Str → Option Value} {news rest : List (Addr × Obj)} {e t d : Addr} {v : Value}
/-- a frame stands over a heap that keeps all but one made object -/
theorem fr_but {h h' : Heap} (F : Fr h₀ L h m) (hL : e ≠ L) (he : h₀.get? e = none) (k : ∀ b o, b ≠ e → h.get? b = some o → h'.get? b = some o) : Fr h₀ L h' m := by
  obtain ⟨o, es, ep, ho, r⟩ := F.ns
  exact ⟨⟨o, es, ep, k _ _ (Ne.symm hL) ho, r⟩, fun b ob q => k b ob (fun z => by rw [z, he] at q; cases q) (F.keep b ob q), F.above⟩
theorem size_new (F : Fr h₀ L s.heap m) : s.heap.objs.size ≠ L ∧ h₀.get? s.heap.objs.size = none := ⟨Nat.ne_of_gt F.ns.lt, none_at_size F⟩
theorem set1_use {Q : Unit → Shared → Prop} (F : Fr h₀ L s.heap m) (X : (hd.heap_39 w.params).In h₀) (Nw : News h₀ L s.heap news) (te : Take (e, errObj0 t) news rest) (hne : ∀ p ∈ rest, p.1 ≠ e)
    (ret : ∀ d h' tk' hs tk1, Fr h₀ L h' m → News h₀ L h' ((e, errObj d t) :: (d, dictOf [⟨hs, .str "number" tk1, v⟩] 1) :: rest) → (∀ p ∈ news, p.1 < d) → Q () { s with heap := h', toks := tk' }) :
    wpAny (model PySem.Challenge.rw_pf0367_01.row.prog w) A (setAttr (.ref e) "number" v) Q E s := by
  obtain ⟨nm, q, bs, sn, sub, ab, col, dd, k0, k1, k2, k3, k5, mN, hC, hn, hi, ha⟩ := (err_cls (X.keeps F.keep)).ex
  have z := size_new F
  have n := Nw _ te.mem.1
  obtain ⟨hh, g, dr, tk, os⟩ := s
  refine set_exc PySem.F.store_Exception hC hn (ha _ (by simp [absent])) n.1 rfl fun A' Q' E' tk0 tk' hQ => ?_
  refine first_entry hC hn (ha _ (by simp [absent])) tl_number n.1 fun h' tk2 hs tk1 r1 r2 r3 => hQ _ ?_
  refine ret _ h' tk2 hs tk1 (fr_but F n.2.1 n.2.2 r3) (fun p hp => ?_) (fun p hp => Heap.lt_size (Nw p hp).1)
  rcases List.mem_cons.mp hp with rfl | hp
  · exact ⟨r1, n.2⟩
  · rcases List.mem_cons.mp hp with rfl | hp
    · exact ⟨r2, z⟩
    · have n1 := Nw _ (te.mem.2 _ hp)
      exact ⟨r3 _ _ (hne p hp) n1.1, n1.2⟩
theorem set2_use {Q : Unit → Shared → Prop} {hs1 : Int} {tk1 : Tok} {v1 : Value} (F : Fr h₀ L s.heap m) (X : (hd.heap_39 w.params).In h₀) (Nw : News h₀ L s.heap news) (he : (e, errObj d t) ∈ news) (te : Take (d, dictOf [⟨hs1, .str "number" tk1, v1⟩] 1) news rest) (hne : ∀ p ∈ rest, p.1 ≠ d)
    (ret : ∀ h' tk' hs tk2, Fr h₀ L h' m → News h₀ L h' ((d, dictOf [⟨hs1, .str "number" tk1, v1⟩, ⟨hs, .str "told" tk2, v⟩] 2) :: rest) → Q () { s with heap := h', toks := tk' }) :
    wpAny (model PySem.Challenge.rw_pf0367_01.row.prog w) A (setAttr (.ref e) "told" v) Q E s := by
  obtain ⟨nm, q, bs, sn, sub, ab, col, dd, k0, k1, k2, k3, k5, mN, hC, hn, hi, ha⟩ := (err_cls (X.keeps F.keep)).ex
  have n := Nw _ te.mem.1
  have ne := Nw _ he
  obtain ⟨hh, g, dr, tk, os⟩ := s
  refine set_exc PySem.F.store_Exception hC hn (ha _ (by simp [absent])) ne.1 rfl fun A' Q' E' tk0 tk' hQ => ?_
  refine second_entry hC hn (ha _ (by simp [absent])) tl_told ne.1 n.1 (by decide +kernel) fun h' tk2 hs tk3 r2 r3 => hQ _ ?_
  refine ret h' tk2 hs tk3 (fr_but F n.2.1 n.2.2 r3) (fun p hp => ?_)
  rcases List.mem_cons.mp hp with rfl | hp
  · exact ⟨r2, n.2⟩
  · have n1 := Nw _ (te.mem.2 _ hp)
    exact ⟨r3 _ _ (hne p hp) n1.1, n1.2⟩
set_option maxRecDepth 100000 in
theorem along_init (P : Params) : alongIn (hd.heap_39 P) "__init__" [.type "Exception", .type "BaseException", .type "object"] = some (some (.builtin "Exception.__init__")) := by kernel_rfl
set_option maxRecDepth 100000 in
theorem mro_34' (P : Params) : (clsIn (hd.heap_39 P) 34).map (·.mro) = some excMro := by kernel_rfl
theorem mro_34 (P : Params) : ∃ cd, clsIn (hd.heap_39 P) 34 = some cd ∧ cd.mro = excMro := Option.map_eq_some_iff.mp (mro_34' P)
set_option maxRecDepth 100000 in
theorem statics_any (P : Params) : nsIn (hd.heap_39 P) cStatics "thirdparty.any" = some none := by kernel_rfl
theorem getInit_use {pl : Sem Bool} {Q : Value × List Value → Shared → Prop} {so : Addr} (F : Fr h₀ L s.heap m) (X : (hd.heap_39 w.params).In h₀) (Nw : News h₀ L s.heap news) (hso : (so, ks_superObj 34 e 34) ∈ news) (he : (e, errObj0 t) ∈ news)
    (hh : A.handled = none) (hdp : A.depth ≤ 380) (hun : A.units ≤ 450)
    (ret : ∀ mw h', Fr h₀ L h' m → News h₀ L h' ((mw, mwObj e) :: news) → (∀ p ∈ news, @Ne Nat p.1 mw) → Q (.ref mw, []) { s with heap := h', toks := s.toks + 1 }) :
    wpAny (model PySem.Challenge.rw_pf0367_01.row.prog w) A (getMethod (.ref so) "__init__" pl) Q E s := by
  have X' := X.keeps F.keep
  obtain ⟨cd, hc, hm⟩ := mro_34 w.params
  have n := Nw _ he
  have e34 : e ≠ 34 := fun z => by
    obtain ⟨nm, q, bs, sn, sub, ab, col, dd, k0, k1, k2, k3, k5, mN, hC, _⟩ := (err_cls X).ex
    have := n.2.2
    rw [z, hC] at this; cases this
  have bd := err_bound (s := { s with toks := s.toks + 1 }) (x := e) (t := t) X' n.1
  obtain ⟨hp, g, dr, tk, os⟩ := s
  refine err_getInit (Nw _ hso).1 (looks_opaque X' (statics_any _)) ?_ X' e34 (by decide +kernel) (along_init _) ?_
  · exact fun A Q E s k q => wpAny_bind ((looks_clsIn X' hc) A _ E s k (wpAny_pure (by rw [hm]; exact q)))
  · refine wpAny_mono (wpAny_in bd (in_any hh (by show A.depth ≤ 400; omega) (by show A.in1.units ≤ 500; rw [units_in1]; omega))) (fun v s' y => ?_) fun _ _ z => z
    obtain ⟨a, h', rfl, rfl, kp, ha, hnew⟩ := y
    refine ⟨a, rfl, ret a h' (Keeps.fr kp F) (fun p hp => ?_) (fun p hp z => ?_)⟩
    · rcases List.mem_cons.mp hp with rfl | hp
      · refine ⟨ha, fun z => ?_, fresh_of_stays (fun b o q => F.keep b o q) hnew⟩
        obtain ⟨o, _, _, ho, _⟩ := F.ns
        rw [← z] at ho
        rw [hnew] at ho; cases ho
      · exact (Keeps.news kp Nw) p hp
    · have := (Nw p hp).1
      rw [z, hnew] at this; cases this
end
end Mine
end
section
open PySem PySem.W PySem.Calls PyProof.Rows
namespace Mine
abbrev errDict (n : Int) (x : Str) (h1 h2 : Int) (t1 t2 t3 t4 : Tok) : Obj := dictOf [⟨h1, .str "number" t1, .int n t2⟩, ⟨h2, .str "told" t3, .str x t4⟩] 2
theorem inst_err {h₀ h : Heap} {L : Addr} {news : List (Addr × Obj)} {x t : Addr} (N : News h₀ L h news) (h1 : (x, errObj0 t) ∈ news) : InstAt h x (errObj0 t) 34 none := ⟨(N _ h1).1, rfl, rfl, trivial⟩
def MwP (q e : Addr) (h : Heap) : Prop := h.get? q = some (mwObj e)
theorem keeps_MW {M : Model} {q e : Addr} (h : Heap) (X : MwP q e h) : ∃ k, (k = Keeper.frame ∨ k = Keeper.machine ∨ k = Keeper.boundFrame) ∧ Looks M h (keeperOf (.ref q)) k :=
  ⟨.machine, .inr (.inl rfl), (Looks.ld (part := none) X).andThen .now⟩
theorem callWith_MW {M : Model} {A : Around} {E : Value → Shared → Prop} {s : Shared} {env : Env} {pos : Pos} {first : List Value} {Q : Value → Shared → Prop} {h₀ : Heap} {L : Addr} {news : List (Addr × Obj)} {q x : Addr} {e : Expr} {rest : List Expr} (_N : News h₀ L s.heap news) (_q : (q, mwObj x) ∈ news) (h : wpAny M A (spliced (backTo pos (starEach (e :: rest) env))) (fun vs s₁ => MwP q x s₁.heap ∧ wpAny M A (call (.ref q) (first ++ vs)) Q E s₁) E s)
    (he : starEach (e :: rest) env = (false, eval e env) :: starEach rest env := by rfl) (hplain : (backTo pos (starEach rest env)).any (·.1) = false := by rfl) :
    wpAny M A (callWith pos (.ref q) first (backTo pos (starEach (e :: rest) env)) []) Q E s := by
  rw [he] at h ⊢
  exact callWith_of (by show ((false || (backTo pos (starEach rest env)).any (·.1)) || false) = false; rw [hplain]; rfl) keeps_MW (evalArgs_plain h)
theorem mwp {h₀ : Heap} {L : Addr} {h : Heap} {news : List (Addr × Obj)} {q x : Addr} (N : News h₀ L h news) (hq : (q, mwObj x) ∈ news) : MwP q x h := (N _ hq).1
structure Low (news : List (Addr × Obj)) (t : Addr) : Prop where
  lt : ∀ p ∈ news, @LT.lt Nat instLTNat p.1 t
theorem ltAll {news : List (Addr × Obj)} {q : Addr} (l : ∀ p ∈ news, p.1 < q) : ∀ p ∈ news, @LT.lt Nat instLTNat p.1 q := l
theorem err_init_use' {w : World} {A : Around} {E : Value → Shared → Prop} {s : Shared} {h₀ : Heap} {L : Addr} {m : Str → Option Value} {news rest : List (Addr × Obj)} {mw e t : Addr} {v : Value} {Q : Value → Shared → Prop} (F : Fr h₀ L s.heap m) (X : (hd.heap_39 w.params).In h₀) (Nw : News h₀ L s.heap news)
    (hmw : (mw, mwObj e) ∈ news) (te : Take (e, errObj0 t) news rest) (hne : ∀ p ∈ rest, p.1 ≠ e)
    (hq : ∀ t' h', Fr h₀ L h' m → News h₀ L h' ((e, errObj0 t') :: (t', tupO #[v] 0) :: rest) → (∀ p ∈ news, p.1 < t') → Q .none { s with heap := h' }) :
    wpAny (model PySem.Challenge.rw_pf0367_01.row.prog w) A (call (.ref mw) [v]) Q E s := by
  obtain ⟨nm, q, bs, sn, sub, ab, col, dd, k0, k1, k2, k3, k5, mN, hC, hn, hi, ha⟩ := (err_cls (X.keeps F.keep)).ex
  obtain ⟨hp, g, dr, tks, os⟩ := s
  exact err_init_use F Nw hmw te hne hC hq
theorem err_ret {h₀ h : Heap} {L : Addr} {news : List (Addr × Obj)} {d e t : Addr} {n : Int} {x : Str} {h1 h2 : Int} {t1 t2 t3 t4 t5 : Tok} {p q r : Addr × Obj}
    (N : News h₀ L h ((d, errDict n x h1 h2 t1 t2 t3 t4) :: (e, errObj d t) :: (t, tupO #[.str "error" t5] 0) :: p :: q :: r :: news)) : News h₀ L h ((e, errObj d t) :: (d, errDict n x h1 h2 t1 t2 t3 t4) :: (t, tupO #[.str "error" t5] 0) :: news) := KStt.news_of N fun y hy => by
  rcases List.mem_cons.mp hy with rfl | hy
  · exact .tail _ (.head _)
  · rcases List.mem_cons.mp hy with rfl | hy
    · exact .head _
    · rcases List.mem_cons.mp hy with rfl | hy
      · exact .tail _ (.tail _ (.head _))
      · exact .tail _ (.tail _ (.tail _ (.tail _ (.tail _ (.tail _ hy)))))
theorem units_mk1 (r : List Value) : (Code.builtin "type.__call__" ⟨.ref 34 :: r, []⟩).cUnits = 1 := by kernel_rfl
theorem units_mk (A : Around) (r : List Value) : (A.under (.builtin "type.__call__" ⟨.ref 34 :: r, []⟩)).units = A.units + 1 := congrArg (A.units + ·) (units_mk1 r)
section
local macro_rules | `(tactic| ktr_units) => `(tactic| (simp only [units_in1, units_deeper, Around.mark_units, units_mk]; (try dsimp only [ktrTop]); omega))
local macro_rules | `(tactic| k_inst) => `(tactic| (refine' inst_err ?N ?h1; (case N => k_asm); (case h1 => k_mem)))
local macro_rules | `(tactic| walk_at "MwP") => `(tactic| (k_here; k_dflt (refine' mwp ?k1 ?k2; (case k1 => k_asm); (case k2 => k_mem))))
local macro_rules | `(tactic| k_all) => `(tactic| ((repeat (refine List.forall_mem_cons.mpr ⟨?_, ?_⟩; · (dsimp only; show @Ne Nat _ _; omega))); (intro p9 hp9; (with_reducible rename Low _ _ => hLow9); have h9 := hLow9.lt p9 hp9; show @Ne Nat _ _; omega)))
set_option maxRecDepth 100000 in
set_option maxHeartbeats 8000000 in
theorem err_core : ∀ {w : World} {mean : ExcName → Option Value} {mg mb : Str → Option Value} {dp un : Nat} {gd : Option (List Code)} {cn : Str} {cs : Scope} {a : Addr} {ccd : Value} {cl : List (Str × Addr)} {outer : List Env} {A₀ : Around} {base h₀ : Heap} {L : Addr} {m : Str → Option Value} {s : Shared}
    {Q E : Value → Shared → Prop} {n : Int} {x : Str} {tk tk2 : Tok} {news : List (Addr × Obj)},
    Below A₀ base outer h₀ → Fr h₀ L s.heap m → (hd.heap_39 w.params).In h₀ → News h₀ L s.heap news → Top topProg LL mean mg mb h₀ → cs.kind = .function →
    dp < 350 → un < 400 →
    (∀ e d t h1 h2 t1 t2 t3 t4 t5 h' tk', Fr h₀ L h' m → News h₀ L h' ((e, errObj d t) :: (d, errDict n x h1 h2 t1 t2 t3 t4) :: (t, tupO #[.str "error" t5] 0) :: news) → (∀ p ∈ news, p.1 < e) → (∀ p ∈ news, p.1 < t) → (∀ p ∈ news, p.1 < d) → e ≠ d → e ≠ t → d ≠ t → Q (.ref e) { s with heap := h', toks := tk' }) →
    wpAny (model PySem.Challenge.rw_pf0367_01.row.prog w) (ktrTop dp un gd cn cs L a ccd cl outer) (call (.ref 34) [.int n tk, .str x tk2]) Q E s := by
  k_fill
  w_top off
  intro w mean mg mb dp un gd cn cs a ccd cl outer A₀ base h₀ L m s Q E n x tk tk2 news B F X N T hk hdp hun ret
  obtain ⟨nm, q, bs, sn, sub, ab, col, dd, k0, k1, k2, k3, k5, mN, hC, hn, hi, ha⟩ := (err_cls (X.keeps F.keep)).ex
  obtain ⟨hp, g, dr, tks, os⟩ := s
  refine err_call F N hC hn hi (X.keeps F.keep) (by k_is) (by rw [sizeLine_eq]; show 2 ≤ _; decide) ?_
  intro e t h' F' N' l1 l2 k
  have hLow : Low news t := ⟨l1⟩
  replace l2 : @LT.lt Nat instLTNat t e := l2
  (refine' ks_code_super (binds := [("self", .ref e), ("number", .int n tk), ("told", .str x tk2)]) ?k1 ?k2 ?k3 ?k4 ?k5 ?kA ?kF ?kK ?k6 ?k7 ?k8 ?k9 ?kB ?_ ?c1 ?c2 ?c3 ?c4; (case kA => exact rfl); (case kF => exact rfl); (case kK => exact hk); (case k1 => k_asm); (case k2 => k_asm); (case k3 => k_asm); (case k4 => k_asm); (case k5 => k_asm); (case k6 => k_is); (case k7 => k_is); (case k8 => ktr_room); (case k9 => exact binds_K (by k_in) rfl (by k_is) rfl rfl rfl); (case kB => exact locs rfl); (case c1 => decide); (case c2 => exact rfl); (case c3 => exact rfl); (case c4 => exact rfl); intro g' L' h' FG' F' N' B' X' T' l1; (try k_lt l1); (try dsimp only); (try k_lift B'))
  repeat' (first | (k_here; (with_reducible show wpAny _ _ (call (Value.ref _) _) _ _ _); k_dflt (refine' err_init_use' ?kF ?kX ?kN ?kS ?kE ?kne ?_; (case kF => k_asm); (case kX => k_asm); (case kN => k_asm); (case kS => k_mem); (case kE => (repeat' (first | exact Take.head | refine' Take.tail ?_))); (case kne => k_all)); intro _ _ _ _ l9; ((try replace l9 := ltAll l9); (try simp only [List.forall_mem_cons] at l9)); (try dsimp only)) | (k_here; (with_reducible show wpAny _ _ (setAttr (Value.ref _) _ _) _ _ _); k_dflt (refine' set2_use ?kF ?kX ?kN ?kS ?kE ?kne ?_; (case kF => k_asm); (case kX => k_asm); (case kN => k_asm); (case kS => k_mem); (case kE => (repeat' (first | exact Take.head | refine' Take.tail ?_))); (case kne => k_all)); intro _ _ _ _ _ _; (try dsimp only)) | (k_here; (with_reducible show wpAny _ _ (setAttr (Value.ref _) _ _) _ _ _); k_dflt (refine' set1_use ?kF ?kX ?kN ?kE ?kne ?_; (case kF => k_asm); (case kX => k_asm); (case kN => k_asm); (case kE => (repeat' (first | exact Take.head | refine' Take.tail ?_))); (case kne => k_all)); intro _ _ _ _ _ _ _ l9; ((try replace l9 := ltAll l9); (try simp only [List.forall_mem_cons] at l9)); (try dsimp only)) | (k_here; (with_reducible show wpAny _ _ (getMethod (Value.ref _) _ _) _ _ _); k_dflt (refine' getInit_use ?kF ?kX ?kN ?kS ?kE ?kh ?kd ?ku ?_; (case kF => k_asm); (case kX => k_asm); (case kN => k_asm); (case kS => k_mem); (case kE => k_mem); (case kh => rfl); (case kd => ktr_room); (case ku => ktr_units)); intro _ _ _ _ l9; ((try replace l9 := ltAll l9); (try simp only [List.forall_mem_cons] at l9)); (try dsimp only)) | (k_here; (with_reducible show wpAny _ _ (callWith _ (Value.ref _) _ _ _) _ _ _); k_dflt (refine' callWith_MW ?k1 ?k2 ?_; (case k1 => k_asm); (case k2 => k_mem); k_whole)) | (k_unfold; (try dsimp only)) | (k_end; wrow_close) | walk1 | (dsimp only; walk1) | (leave1; walk_say "STEP leave1"; try dsimp only) | fail "no step")
  all_goals (try k_data)
  all_goals exact ret _ _ _ _ _ _ _ _ _ _ _ _ (by k_asm) (err_ret (by assumption)) (fun p hp => by have h9 := hLow.lt p hp; show @LT.lt Nat instLTNat _ _; omega) (fun p hp => by have h9 := hLow.lt p hp; show @LT.lt Nat instLTNat _ _; omega) (fun p hp => by have h9 := hLow.lt p hp; show @LT.lt Nat instLTNat _ _; omega) (by show @Ne Nat _ _; omega) (by show @Ne Nat _ _; omega) (by show @Ne Nat _ _; omega)
end
end Mine
end
section
open PySem PySem.W PySem.Calls PyProof.Rows
namespace Mine
def ErrTo (base h₀ : Heap) (L : Addr) (m : Str → Option Value) (envs : List Env) (news : List (Addr × Obj)) (n : Int) (E : Value → Shared → Prop) (s : Shared) : Prop :=
  ∀ G h' tk' e d t vs x h1 h2 t1 t2 t3 t4, Fr h₀ L G m → RaisedS base G envs e (.ref 34) t vs ((d, errDict n x h1 h2 t1 t2 t3 t4) :: news) h' → HasD h' e d → G.UpToSlots h' → E (.ref e) { s with heap := h', toks := tk' }
theorem err_is (P : Params) : ktsIn (hd.heap_39 P) 34 "BaseException" = true := by kernel_rfl
section
variable {w : World} {M : Model} {A : Around} {E : Value → Shared → Prop} {s : Shared} {base g h₀ : Heap} {outer : List Env} {L a e d t : Addr} {m : Str → Option Value} {name : Str} {scope : Scope} {cd : Value} {cl : List (Str × Addr)} {Q : Unit → Shared → Prop} {news : List (Addr × Obj)}
  {n : Int} {x : Str} {h1 h2 : Int} {t1 t2 t3 t4 t5 : Tok}
theorem raise_now (F : Fr h₀ L s.heap m) (X : (hd.heap_39 w.params).In h₀) (N : News h₀ L s.heap news) (hm : (e, errObj d t) ∈ news) (hE : E (.ref e) s) : RaiseNow E (.ref e) s :=
  ⟨e, d, t, rfl, (N _ hm).1, ⟨_, X.keeps F.keep, err_is _⟩, hE⟩
theorem leave_one (K : Below A base outer g) (F : Fr g L s.heap m) (N : News g L s.heap ((e, errObj d t) :: (d, errDict n x h1 h2 t1 t2 t3 t4) :: (t, tupO #[.str "error" t5] 0) :: news))
    (l1 : ∀ p ∈ news, p.1 < e) (l2 : ∀ p ∈ news, p.1 < t) (n1 : e ≠ d) (n2 : d ≠ t) (hk : scope.kind = .function)
    (hQ : ∀ h', RaisedS base g outer e (.ref 34) t [.str "error" t5] ((d, errDict n x h1 h2 t1 t2 t3 t4) :: news) h' → HasD h' e d → g.UpToSlots h' → Q () { s with heap := h' }) :
    wpAny M (A.deeper (envX name scope L a cd cl)) (leaving (envX name scope L a cd cl) (.ref e)) Q E s := by
  have ne := N _ (.head _)
  have nt := N _ (.tail _ (.tail _ (.head _)))
  refine leave_first (vs := [.str "error" t5]) (news := (d, errDict n x h1 h2 t1 t2 t3 t4) :: news) K F (fun p hp => N p ?_) ne.1 ⟨_, 0, nt.1, rfl, rfl⟩ (fun q hq => ?_) ne.2.2 nt.2.2 hk fun h' R _ D U => hQ h' R D U
  · rcases List.mem_cons.mp hp with rfl | hp
    · exact .tail _ (.head _)
    · exact .tail _ (.tail _ (.tail _ hp))
  · rcases List.mem_cons.mp hq with rfl | hq
    · exact ⟨Ne.symm n1, n2⟩
    · exact ⟨Nat.ne_of_lt (l1 q hq), Nat.ne_of_lt (l2 q hq)⟩
end
abbrev xDict (w : World) (o1 o2 o3 o4 o5 : Tok) : Obj := dictOf [⟨PyData.keyHash w.params "kind", .str "kind" o1, .str "var" o2⟩, ⟨PyData.keyHash w.params "owner", .str "owner" o3, .none⟩, ⟨PyData.keyHash w.params "key", .str "key" o4, .str "X" o5⟩] 3
section
set_option maxRecDepth 100000 in
set_option maxHeartbeats 8000000 in
theorem pattern_raises : ∀ {w : World} {mean : ExcName → Option Value} {mg mb : Str → Option Value} {dp un : Nat} {gd : Option (List Code)} {cn : Str} {cs : Scope} {a : Addr} {ccd : Value} {cl : List (Str × Addr)} {outer : List Env} {A₀ : Around} {base h₀ : Heap} {L : Addr} {m : Str → Option Value} {s : Shared} {Q E : Value → Shared → Prop} {news : List (Addr × Obj)} {x dx : Addr} {o1 o2 o3 o4 o5 : Tok},
    Below A₀ base outer h₀ → Fr h₀ L s.heap m → (hd.heap_39 w.params).In h₀ → News h₀ L s.heap news → Top topProg LL mean mg mb h₀ → cs.kind = .function →
    dp < 345 → un < 380 → (x, instObj 96 dx) ∈ news → (dx, xDict w o1 o2 o3 o4 o5) ∈ news →
    ErrTo base h₀ L m (envX cn cs L a ccd cl :: outer) news 1 E s →
    wpAny (model PySem.Challenge.rw_pf0367_01.row.prog w) (ktrTop dp un gd cn cs L a ccd cl outer) (call (.ref 187) [.ref x]) Q E s := by
  k_fill
  w_top off
  intro w mean mg mb dp un gd cn cs a ccd cl outer A₀ base h₀ L m s Q E news x dx o1 o2 o3 o4 o5 B F X N T hk hdp hun hx hdx ret
  refine wpAny_call ?_
  k_dflt ktr_enter
  repeat' (first | ((with_reducible show wpAny _ _ (call (Value.ref _) _) _ _ _); first | (k_here; (with_reducible show wpAny _ _ (call (Value.ref 135) [_]) _ _ _); k_dflt (refine wpAny_call ?_; refine' code_def ?k1 ?k2 ?k3 ?k4 ?k5 ?kA ?kF ?kK ?k6 ?k7 ?k8 ?k9 ?kB ?_ ?c2 ?c3 ?c4 ?c5; (case kA => exact rfl); (case kF => exact rfl); (case kK => first | exact rfl | assumption); (case k1 => k_asm); (case k2 => k_asm); (case k3 => k_asm); (case k4 => k_asm); (case k5 => k_asm); (case k6 => k_is); (case k7 => k_is); (case k8 => ktr_room); (case k9 => exact BindsTo.of_eq rfl); (case c5 => decide); (case kB => exact locs rfl); (case c2 => exact rfl); (case c3 => exact rfl); (case c4 => exact rfl); k_whole; intro _ _ _ _ _ _ _ _ _; (try dsimp only); (try k_fold))) | (k_here; (with_reducible show wpAny _ _ (call (Value.ref 34) [_, _]) _ _ _); k_dflt (refine' err_core ?kB ?kF ?kX ?kN ?kT ?kK ?kd ?ku ?_; (case kB => k_asm); (case kF => k_asm); (case kX => k_asm); (case kN => k_asm); (case kT => k_asm); (case kK => first | exact rfl | assumption); (case kd => ktr_room); (case ku => ktr_units)); intro _ _ _ _ _ _ _ _ _ _ _ _ _ _ _ _ _ _ _ _; (try dsimp only))) | (k_here; (with_reducible show wpAny _ _ (leaving _ (Value.ref _)) _ _ _); k_dflt (refine' leave_one ?K ?F ?N ?l1 ?l2 ?n1 ?n2 ?hk ?_; (case K => k_asm); (case F => k_asm); (case N => assumption); (case l1 => assumption); (case l2 => assumption); (case n1 => assumption); (case n2 => assumption); (case hk => rfl)); intro _ _ _ _; (try dsimp only)) | (k_here; (with_reducible show RaiseNow _ _ _); k_dflt (refine' raise_now ?F ?X ?N ?h ?_; (case F => k_asm); (case X => k_asm); (case N => k_asm); (case h => k_mem)); (try dsimp only)) | (k_here; (with_reducible show wpAny _ _ (exec (Stmt.Raise (some _) none _) _) _ _ _); k_dflt (refine' raise_D ?h ?_; (case h => rfl)); (try dsimp only)) | (k_unfold; (try dsimp only)) | (k_end; wrow_close) | walk1 | (dsimp only; walk1) | (leave1; walk_say "STEP leave1"; try dsimp only) | fail "no step")
  all_goals (try k_data)
  all_goals (first | exact ret _ _ _ _ _ _ _ _ _ _ _ _ _ _ (by assumption) (by assumption) (by assumption) (by assumption) | w_report)
set_option maxRecDepth 100000 in
set_option maxHeartbeats 8000000 in
theorem text_raises : ∀ {w : World} {mean : ExcName → Option Value} {mg mb : Str → Option Value} {dp un : Nat} {gd : Option (List Code)} {cn : Str} {cs : Scope} {a : Addr} {ccd : Value} {cl : List (Str × Addr)} {outer : List Env} {A₀ : Around} {base h₀ : Heap} {L : Addr} {m : Str → Option Value} {s : Shared} {Q E : Value → Shared → Prop} {news : List (Addr × Obj)} {x dx : Addr} {o1 o2 o3 o4 o5 : Tok},
    Below A₀ base outer h₀ → Fr h₀ L s.heap m → (hd.heap_39 w.params).In h₀ → News h₀ L s.heap news → Top topProg LL mean mg mb h₀ → cs.kind = .function →
    dp < 345 → un < 380 → (x, instObj 96 dx) ∈ news → (dx, xDict w o1 o2 o3 o4 o5) ∈ news →
    ErrTo base h₀ L m (envX cn cs L a ccd cl :: outer) news 1 E s →
    wpAny (model PySem.Challenge.rw_pf0367_01.row.prog w) (ktrTop dp un gd cn cs L a ccd cl outer) (call (.ref 142) [.ref x]) Q E s := by
  k_fill
  w_top off
  intro w mean mg mb dp un gd cn cs a ccd cl outer A₀ base h₀ L m s Q E news x dx o1 o2 o3 o4 o5 B F X N T hk hdp hun hx hdx ret
  refine wpAny_call ?_
  k_dflt ktr_enter
  repeat' (first | ((with_reducible show wpAny _ _ (call (Value.ref _) _) _ _ _); first | (k_here; (with_reducible show wpAny _ _ (call (Value.ref 135) [_]) _ _ _); k_dflt (refine wpAny_call ?_; refine' code_def ?k1 ?k2 ?k3 ?k4 ?k5 ?kA ?kF ?kK ?k6 ?k7 ?k8 ?k9 ?kB ?_ ?c2 ?c3 ?c4 ?c5; (case kA => exact rfl); (case kF => exact rfl); (case kK => first | exact rfl | assumption); (case k1 => k_asm); (case k2 => k_asm); (case k3 => k_asm); (case k4 => k_asm); (case k5 => k_asm); (case k6 => k_is); (case k7 => k_is); (case k8 => ktr_room); (case k9 => exact BindsTo.of_eq rfl); (case c5 => decide); (case kB => exact locs rfl); (case c2 => exact rfl); (case c3 => exact rfl); (case c4 => exact rfl); k_whole; intro _ _ _ _ _ _ _ _ _; (try dsimp only); (try k_fold))) | (k_here; (with_reducible show wpAny _ _ (call (Value.ref 34) [_, _]) _ _ _); k_dflt (refine' err_core ?kB ?kF ?kX ?kN ?kT ?kK ?kd ?ku ?_; (case kB => k_asm); (case kF => k_asm); (case kX => k_asm); (case kN => k_asm); (case kT => k_asm); (case kK => first | exact rfl | assumption); (case kd => ktr_room); (case ku => ktr_units)); intro _ _ _ _ _ _ _ _ _ _ _ _ _ _ _ _ _ _ _ _; (try dsimp only))) | (k_here; (with_reducible show wpAny _ _ (leaving _ (Value.ref _)) _ _ _); k_dflt (refine' leave_one ?K ?F ?N ?l1 ?l2 ?n1 ?n2 ?hk ?_; (case K => k_asm); (case F => k_asm); (case N => assumption); (case l1 => assumption); (case l2 => assumption); (case n1 => assumption); (case n2 => assumption); (case hk => rfl)); intro _ _ _ _; (try dsimp only)) | (k_here; (with_reducible show RaiseNow _ _ _); k_dflt (refine' raise_now ?F ?X ?N ?h ?_; (case F => k_asm); (case X => k_asm); (case N => k_asm); (case h => k_mem)); (try dsimp only)) | (k_here; (with_reducible show wpAny _ _ (exec (Stmt.Raise (some _) none _) _) _ _ _); k_dflt (refine' raise_D ?h ?_; (case h => rfl)); (try dsimp only)) | (k_unfold; (try dsimp only)) | (k_end; wrow_close) | walk1 | (dsimp only; walk1) | (leave1; walk_say "STEP leave1"; try dsimp only) | fail "no step")
  all_goals (try k_data)
  all_goals (first | exact ret _ _ _ _ _ _ _ _ _ _ _ _ _ _ (by assumption) (by assumption) (by assumption) (by assumption) | w_report)
set_option maxRecDepth 100000 in
set_option maxHeartbeats 8000000 in
theorem arbno_raises : ∀ {w : World} {mean : ExcName → Option Value} {mg mb : Str → Option Value} {dp un : Nat} {gd : Option (List Code)} {cn : Str} {cs : Scope} {a : Addr} {ccd : Value} {cl : List (Str × Addr)} {outer : List Env} {A₀ : Around} {base h₀ : Heap} {L : Addr} {m : Str → Option Value} {s : Shared} {Q E : Value → Shared → Prop} {news : List (Addr × Obj)} {x dx : Addr} {o1 o2 o3 o4 o5 : Tok},
    Below A₀ base outer h₀ → Fr h₀ L s.heap m → (hd.heap_39 w.params).In h₀ → News h₀ L s.heap news → Top topProg LL mean mg mb h₀ → cs.kind = .function →
    dp < 340 → un < 360 → (x, instObj 96 dx) ∈ news → (dx, xDict w o1 o2 o3 o4 o5) ∈ news →
    ErrTo base h₀ L m (envX cn cs L a ccd cl :: outer) news 1 E s →
    wpAny (model PySem.Challenge.rw_pf0367_01.row.prog w) (ktrTop dp un gd cn cs L a ccd cl outer) (call (.ref 180) [.ref x]) Q E s := by
  k_fill
  w_top off
  intro w mean mg mb dp un gd cn cs a ccd cl outer A₀ base h₀ L m s Q E news x dx o1 o2 o3 o4 o5 B F X N T hk hdp hun hx hdx ret
  refine wpAny_call ?_
  k_dflt ktr_enter
  repeat' (first | ((with_reducible show wpAny _ _ (call (Value.ref _) _) _ _ _); first | (k_here; (with_reducible show wpAny _ _ (call (Value.ref 187) [_]) _ _ _); k_dflt (refine' pattern_raises ?kB ?kF ?kX ?kN ?kT ?kK ?kd ?ku ?hx ?hdx ?_; (case kB => k_asm); (case kF => k_asm); (case kX => k_asm); (case kN => k_asm); (case kT => k_asm); (case kK => first | exact rfl | assumption); (case kd => ktr_room); (case ku => ktr_units); (case hx => k_mem); (case hdx => k_mem)); intro _ _ _ _ _ _ _ _ _ _ _ _ _ _ _ _ _ _; (try dsimp only)) | (k_here; (with_reducible show wpAny _ _ (call (Value.ref 135) [_]) _ _ _); k_dflt (refine wpAny_call ?_; refine' code_def ?k1 ?k2 ?k3 ?k4 ?k5 ?kA ?kF ?kK ?k6 ?k7 ?k8 ?k9 ?kB ?_ ?c2 ?c3 ?c4 ?c5; (case kA => exact rfl); (case kF => exact rfl); (case kK => first | exact rfl | assumption); (case k1 => k_asm); (case k2 => k_asm); (case k3 => k_asm); (case k4 => k_asm); (case k5 => k_asm); (case k6 => k_is); (case k7 => k_is); (case k8 => ktr_room); (case k9 => exact BindsTo.of_eq rfl); (case c5 => decide); (case kB => exact locs rfl); (case c2 => exact rfl); (case c3 => exact rfl); (case c4 => exact rfl); k_whole; intro _ _ _ _ _ _ _ _ _; (try dsimp only); (try k_fold))) | (k_here; (with_reducible show wpAny _ _ (call (Value.ref 34) [_, _]) _ _ _); k_dflt (refine' err_core ?kB ?kF ?kX ?kN ?kT ?kK ?kd ?ku ?_; (case kB => k_asm); (case kF => k_asm); (case kX => k_asm); (case kN => k_asm); (case kT => k_asm); (case kK => first | exact rfl | assumption); (case kd => ktr_room); (case ku => ktr_units)); intro _ _ _ _ _ _ _ _ _ _ _ _ _ _ _ _ _ _ _ _; (try dsimp only))) | (k_here; (with_reducible show wpAny _ _ (leaving _ (Value.ref _)) _ _ _); k_dflt (refine' leave_next ?K ?F ?R ?D ?U ?_; (case R => assumption); (case D => assumption); (case U => assumption); (case F => assumption); (case K => k_asm)); intro _ _ _ _ _; (try dsimp only)) | (k_here; (with_reducible show wpAny _ _ (leaving _ (Value.ref _)) _ _ _); k_dflt (refine' leave_one ?K ?F ?N ?l1 ?l2 ?n1 ?n2 ?hk ?_; (case K => k_asm); (case F => k_asm); (case N => assumption); (case l1 => assumption); (case l2 => assumption); (case n1 => assumption); (case n2 => assumption); (case hk => rfl)); intro _ _ _ _; (try dsimp only)) | (k_here; (with_reducible show RaiseNow _ _ _); k_dflt (refine' raise_now ?F ?X ?N ?h ?_; (case F => k_asm); (case X => k_asm); (case N => k_asm); (case h => k_mem)); (try dsimp only)) | (k_here; (with_reducible show wpAny _ _ (exec (Stmt.Raise (some _) none _) _) _ _ _); k_dflt (refine' raise_D ?h ?_; (case h => rfl)); (try dsimp only)) | (k_unfold; (try dsimp only)) | (k_end; wrow_close) | walk1 | (dsimp only; walk1) | (leave1; walk_say "STEP leave1"; try dsimp only) | fail "no step")
  all_goals (try k_data)
  all_goals (first | exact ret _ _ _ _ _ _ _ _ _ _ _ _ _ _ (by assumption) (by assumption) (by assumption) (by assumption) | w_report)
set_option maxRecDepth 100000 in
set_option maxHeartbeats 8000000 in
theorem plain_signs_ref : ∀ {w : World} {mean : ExcName → Option Value} {mg mb : Str → Option Value} {dp un : Nat} {gd : Option (List Code)} {cn : Str} {cs : Scope} {a : Addr} {ccd : Value} {cl : List (Str × Addr)} {outer : List Env} {A₀ : Around} {base h₀ : Heap} {L : Addr} {m : Str → Option Value} {s : Shared} {Q E : Value → Shared → Prop} {news : List (Addr × Obj)} {x dx : Addr} {o1 o2 o3 o4 o5 : Tok} {kd : Str} {tk : Tok},
    Below A₀ base outer h₀ → Fr h₀ L s.heap m → (hd.heap_39 w.params).In h₀ → News h₀ L s.heap news → Top topProg LL mean mg mb h₀ → cs.kind = .function →
    dp < 340 → un < 360 → (x, instObj 96 dx) ∈ news → (dx, xDict w o1 o2 o3 o4 o5) ∈ news →
    ErrTo base h₀ L m (envX cn cs L a ccd cl :: outer) news 1 E s →
    wpAny (model PySem.Challenge.rw_pf0367_01.row.prog w) (ktrTop dp un gd cn cs L a ccd cl outer) (call (.ref 159) [.ref x, .str kd tk]) Q E s := by
  k_fill
  w_top off
  intro w mean mg mb dp un gd cn cs a ccd cl outer A₀ base h₀ L m s Q E news x dx o1 o2 o3 o4 o5 kd tk B F X N T hk hdp hun hx hdx ret
  refine wpAny_call ?_
  k_dflt ktr_enter
  repeat' (first | ((with_reducible show wpAny _ _ (call (Value.ref _) _) _ _ _); first | (k_here; (with_reducible show wpAny _ _ (call (Value.ref 142) [_]) _ _ _); k_dflt (refine' text_raises ?kB ?kF ?kX ?kN ?kT ?kK ?kd ?ku ?hx ?hdx ?_; (case kB => k_asm); (case kF => k_asm); (case kX => k_asm); (case kN => k_asm); (case kT => k_asm); (case kK => first | exact rfl | assumption); (case kd => ktr_room); (case ku => ktr_units); (case hx => k_mem); (case hdx => k_mem)); intro _ _ _ _ _ _ _ _ _ _ _ _ _ _ _ _ _ _; (try dsimp only)) | (k_here; (with_reducible show wpAny _ _ (call (Value.ref 187) [_]) _ _ _); k_dflt (refine' pattern_raises ?kB ?kF ?kX ?kN ?kT ?kK ?kd ?ku ?hx ?hdx ?_; (case kB => k_asm); (case kF => k_asm); (case kX => k_asm); (case kN => k_asm); (case kT => k_asm); (case kK => first | exact rfl | assumption); (case kd => ktr_room); (case ku => ktr_units); (case hx => k_mem); (case hdx => k_mem)); intro _ _ _ _ _ _ _ _ _ _ _ _ _ _ _ _ _ _; (try dsimp only)) | (k_here; (with_reducible show wpAny _ _ (call (Value.ref 135) [_]) _ _ _); k_dflt (refine wpAny_call ?_; refine' code_def ?k1 ?k2 ?k3 ?k4 ?k5 ?kA ?kF ?kK ?k6 ?k7 ?k8 ?k9 ?kB ?_ ?c2 ?c3 ?c4 ?c5; (case kA => exact rfl); (case kF => exact rfl); (case kK => first | exact rfl | assumption); (case k1 => k_asm); (case k2 => k_asm); (case k3 => k_asm); (case k4 => k_asm); (case k5 => k_asm); (case k6 => k_is); (case k7 => k_is); (case k8 => ktr_room); (case k9 => exact BindsTo.of_eq rfl); (case c5 => decide); (case kB => exact locs rfl); (case c2 => exact rfl); (case c3 => exact rfl); (case c4 => exact rfl); k_whole; intro _ _ _ _ _ _ _ _ _; (try dsimp only); (try k_fold))) | (k_here; (with_reducible show wpAny _ _ (call (Value.ref 34) [_, _]) _ _ _); k_dflt (refine' err_core ?kB ?kF ?kX ?kN ?kT ?kK ?kd ?ku ?_; (case kB => k_asm); (case kF => k_asm); (case kX => k_asm); (case kN => k_asm); (case kT => k_asm); (case kK => first | exact rfl | assumption); (case kd => ktr_room); (case ku => ktr_units)); intro _ _ _ _ _ _ _ _ _ _ _ _ _ _ _ _ _ _ _ _; (try dsimp only))) | (k_here; (with_reducible show wpAny _ _ (leaving _ (Value.ref _)) _ _ _); k_dflt (refine' leave_next ?K ?F ?R ?D ?U ?_; (case R => assumption); (case D => assumption); (case U => assumption); (case F => assumption); (case K => k_asm)); intro _ _ _ _ _; (try dsimp only)) | (k_here; (with_reducible show wpAny _ _ (leaving _ (Value.ref _)) _ _ _); k_dflt (refine' leave_one ?K ?F ?N ?l1 ?l2 ?n1 ?n2 ?hk ?_; (case K => k_asm); (case F => k_asm); (case N => assumption); (case l1 => assumption); (case l2 => assumption); (case n1 => assumption); (case n2 => assumption); (case hk => rfl)); intro _ _ _ _; (try dsimp only)) | (k_here; (with_reducible show RaiseNow _ _ _); k_dflt (refine' raise_now ?F ?X ?N ?h ?_; (case F => k_asm); (case X => k_asm); (case N => k_asm); (case h => k_mem)); (try dsimp only)) | (k_here; (with_reducible show wpAny _ _ (exec (Stmt.Raise (some _) none _) _) _ _ _); k_dflt (refine' raise_D ?h ?_; (case h => rfl)); (try dsimp only)) | (k_unfold; (try dsimp only)) | (k_end; wrow_close) | walk1 | (dsimp only; walk1) | (leave1; walk_say "STEP leave1"; try dsimp only) | fail "no step")
  all_goals (try k_data)
  all_goals (first | exact ret _ _ _ _ _ _ _ _ _ _ _ _ _ _ (by assumption) (by assumption) (by assumption) (by assumption) | w_report)
set_option maxRecDepth 100000 in
set_option maxHeartbeats 8000000 in
theorem signs_ref : ∀ {w : World} {mean : ExcName → Option Value} {mg mb : Str → Option Value} {dp un : Nat} {gd : Option (List Code)} {cn : Str} {cs : Scope} {a : Addr} {ccd : Value} {cl : List (Str × Addr)} {outer : List Env} {A₀ : Around} {base h₀ : Heap} {L : Addr} {m : Str → Option Value} {s : Shared} {Q E : Value → Shared → Prop} {news : List (Addr × Obj)} {x dx : Addr} {o1 o2 o3 o4 o5 : Tok} {tk : Tok},
    Below A₀ base outer h₀ → Fr h₀ L s.heap m → (hd.heap_39 w.params).In h₀ → News h₀ L s.heap news → Top topProg LL mean mg mb h₀ → cs.kind = .function →
    dp < 335 → un < 340 → (x, instObj 96 dx) ∈ news → (dx, xDict w o1 o2 o3 o4 o5) ∈ news →
    ErrTo base h₀ L m (envX cn cs L a ccd cl :: outer) news 1 E s →
    wpAny (model PySem.Challenge.rw_pf0367_01.row.prog w) (ktrTop dp un gd cn cs L a ccd cl outer) (call (.ref 173) [.str "span" tk, .ref x]) Q E s := by
  k_fill
  w_top off
  intro w mean mg mb dp un gd cn cs a ccd cl outer A₀ base h₀ L m s Q E news x dx o1 o2 o3 o4 o5 tk B F X N T hk hdp hun hx hdx ret
  refine wpAny_call ?_
  k_dflt ktr_enter
  repeat' (first | ((with_reducible show wpAny _ _ (call (Value.ref _) _) _ _ _); first | (k_here; (with_reducible show wpAny _ _ (call (Value.ref 159) [_, _]) _ _ _); k_dflt (refine' plain_signs_ref ?kB ?kF ?kX ?kN ?kT ?kK ?kd ?ku ?hx ?hdx ?_; (case kB => k_asm); (case kF => k_asm); (case kX => k_asm); (case kN => k_asm); (case kT => k_asm); (case kK => first | exact rfl | assumption); (case kd => ktr_room); (case ku => ktr_units); (case hx => k_mem); (case hdx => k_mem)); intro _ _ _ _ _ _ _ _ _ _ _ _ _ _ _ _ _ _; (try dsimp only)) | (k_here; (with_reducible show wpAny _ _ (call (Value.ref 142) [_]) _ _ _); k_dflt (refine' text_raises ?kB ?kF ?kX ?kN ?kT ?kK ?kd ?ku ?hx ?hdx ?_; (case kB => k_asm); (case kF => k_asm); (case kX => k_asm); (case kN => k_asm); (case kT => k_asm); (case kK => first | exact rfl | assumption); (case kd => ktr_room); (case ku => ktr_units); (case hx => k_mem); (case hdx => k_mem)); intro _ _ _ _ _ _ _ _ _ _ _ _ _ _ _ _ _ _; (try dsimp only)) | (k_here; (with_reducible show wpAny _ _ (call (Value.ref 187) [_]) _ _ _); k_dflt (refine' pattern_raises ?kB ?kF ?kX ?kN ?kT ?kK ?kd ?ku ?hx ?hdx ?_; (case kB => k_asm); (case kF => k_asm); (case kX => k_asm); (case kN => k_asm); (case kT => k_asm); (case kK => first | exact rfl | assumption); (case kd => ktr_room); (case ku => ktr_units); (case hx => k_mem); (case hdx => k_mem)); intro _ _ _ _ _ _ _ _ _ _ _ _ _ _ _ _ _ _; (try dsimp only)) | (k_here; (with_reducible show wpAny _ _ (call (Value.ref 135) [_]) _ _ _); k_dflt (refine wpAny_call ?_; refine' code_def ?k1 ?k2 ?k3 ?k4 ?k5 ?kA ?kF ?kK ?k6 ?k7 ?k8 ?k9 ?kB ?_ ?c2 ?c3 ?c4 ?c5; (case kA => exact rfl); (case kF => exact rfl); (case kK => first | exact rfl | assumption); (case k1 => k_asm); (case k2 => k_asm); (case k3 => k_asm); (case k4 => k_asm); (case k5 => k_asm); (case k6 => k_is); (case k7 => k_is); (case k8 => ktr_room); (case k9 => exact BindsTo.of_eq rfl); (case c5 => decide); (case kB => exact locs rfl); (case c2 => exact rfl); (case c3 => exact rfl); (case c4 => exact rfl); k_whole; intro _ _ _ _ _ _ _ _ _; (try dsimp only); (try k_fold))) | (k_here; (with_reducible show wpAny _ _ (call (Value.ref 34) [_, _]) _ _ _); k_dflt (refine' err_core ?kB ?kF ?kX ?kN ?kT ?kK ?kd ?ku ?_; (case kB => k_asm); (case kF => k_asm); (case kX => k_asm); (case kN => k_asm); (case kT => k_asm); (case kK => first | exact rfl | assumption); (case kd => ktr_room); (case ku => ktr_units)); intro _ _ _ _ _ _ _ _ _ _ _ _ _ _ _ _ _ _ _ _; (try dsimp only))) | (k_here; (with_reducible show wpAny _ _ (leaving _ (Value.ref _)) _ _ _); k_dflt (refine' leave_next ?K ?F ?R ?D ?U ?_; (case R => assumption); (case D => assumption); (case U => assumption); (case F => assumption); (case K => k_asm)); intro _ _ _ _ _; (try dsimp only)) | (k_here; (with_reducible show wpAny _ _ (leaving _ (Value.ref _)) _ _ _); k_dflt (refine' leave_one ?K ?F ?N ?l1 ?l2 ?n1 ?n2 ?hk ?_; (case K => k_asm); (case F => k_asm); (case N => assumption); (case l1 => assumption); (case l2 => assumption); (case n1 => assumption); (case n2 => assumption); (case hk => rfl)); intro _ _ _ _; (try dsimp only)) | (k_here; (with_reducible show RaiseNow _ _ _); k_dflt (refine' raise_now ?F ?X ?N ?h ?_; (case F => k_asm); (case X => k_asm); (case N => k_asm); (case h => k_mem)); (try dsimp only)) | (k_here; (with_reducible show wpAny _ _ (exec (Stmt.Raise (some _) none _) _) _ _ _); k_dflt (refine' raise_D ?h ?_; (case h => rfl)); (try dsimp only)) | (k_unfold; (try dsimp only)) | (k_end; wrow_close) | walk1 | (dsimp only; walk1) | (leave1; walk_say "STEP leave1"; try dsimp only) | fail "no step")
  all_goals (try k_data)
  all_goals (first | exact ret _ _ _ _ _ _ _ _ _ _ _ _ _ _ (by assumption) (by assumption) (by assumption) (by assumption) | w_report)
end
end Mine
end
section
open PySem PySem.W PySem.Calls PyProof.Rows
namespace Mine
section
set_option maxRecDepth 100000 in
set_option maxHeartbeats 8000000 in
theorem plain_signs_empty : ∀ {w : World} {mean : ExcName → Option Value} {mg mb : Str → Option Value} {dp un : Nat} {gd : Option (List Code)} {cn : Str} {cs : Scope} {a : Addr} {ccd : Value} {cl : List (Str × Addr)} {outer : List Env} {A₀ : Around} {base h₀ : Heap} {L : Addr} {m : Str → Option Value} {s : Shared} {Q E : Value → Shared → Prop} {news : List (Addr × Obj)} {tk tk2 : Tok},
    Below A₀ base outer h₀ → Fr h₀ L s.heap m → (hd.heap_39 w.params).In h₀ → News h₀ L s.heap news → Top topProg LL mean mg mb h₀ → cs.kind = .function →
    dp < 340 → un < 360 → 
    ErrTo base h₀ L m (envX cn cs L a ccd cl :: outer) news 4 E s →
    wpAny (model PySem.Challenge.rw_pf0367_01.row.prog w) (ktrTop dp un gd cn cs L a ccd cl outer) (call (.ref 159) [.str "" tk, .str "any" tk2]) Q E s := by
  k_fill
  w_top off
  intro w mean mg mb dp un gd cn cs a ccd cl outer A₀ base h₀ L m s Q E news tk tk2 B F X N T hk hdp hun  ret
  refine wpAny_call ?_
  k_dflt ktr_enter
  repeat' (first | ((with_reducible show wpAny _ _ (call (Value.ref _) _) _ _ _); first | (k_here; (with_reducible show wpAny _ _ (call (Value.ref 128) [_, _]) _ _ _); k_dflt (refine wpAny_call ?_; refine' code_def ?k1 ?k2 ?k3 ?k4 ?k5 ?kA ?kF ?kK ?k6 ?k7 ?k8 ?k9 ?kB ?_ ?c2 ?c3 ?c4 ?c5; (case kA => exact rfl); (case kF => exact rfl); (case kK => first | exact rfl | assumption); (case k1 => k_asm); (case k2 => k_asm); (case k3 => k_asm); (case k4 => k_asm); (case k5 => k_asm); (case k6 => k_is); (case k7 => k_is); (case k8 => ktr_room); (case k9 => exact BindsTo.of_eq rfl); (case c5 => decide); (case kB => exact locs rfl); (case c2 => exact rfl); (case c3 => exact rfl); (case c4 => exact rfl); k_whole; intro _ _ _ _ _ _ _ _ _; (try dsimp only); (try k_fold))) | (k_here; (with_reducible show wpAny _ _ (call (Value.ref 142) [_]) _ _ _); k_dflt (refine wpAny_call ?_; refine' code_def ?k1 ?k2 ?k3 ?k4 ?k5 ?kA ?kF ?kK ?k6 ?k7 ?k8 ?k9 ?kB ?_ ?c2 ?c3 ?c4 ?c5; (case kA => exact rfl); (case kF => exact rfl); (case kK => first | exact rfl | assumption); (case k1 => k_asm); (case k2 => k_asm); (case k3 => k_asm); (case k4 => k_asm); (case k5 => k_asm); (case k6 => k_is); (case k7 => k_is); (case k8 => ktr_room); (case k9 => exact BindsTo.of_eq rfl); (case c5 => decide); (case kB => exact locs rfl); (case c2 => exact rfl); (case c3 => exact rfl); (case c4 => exact rfl); k_whole; intro _ _ _ _ _ _ _ _ _; (try dsimp only); (try k_fold))) | (k_here; (with_reducible show wpAny _ _ (call (Value.ref 135) [_]) _ _ _); k_dflt (refine wpAny_call ?_; refine' code_def ?k1 ?k2 ?k3 ?k4 ?k5 ?kA ?kF ?kK ?k6 ?k7 ?k8 ?k9 ?kB ?_ ?c2 ?c3 ?c4 ?c5; (case kA => exact rfl); (case kF => exact rfl); (case kK => first | exact rfl | assumption); (case k1 => k_asm); (case k2 => k_asm); (case k3 => k_asm); (case k4 => k_asm); (case k5 => k_asm); (case k6 => k_is); (case k7 => k_is); (case k8 => ktr_room); (case k9 => exact BindsTo.of_eq rfl); (case c5 => decide); (case kB => exact locs rfl); (case c2 => exact rfl); (case c3 => exact rfl); (case c4 => exact rfl); k_whole; intro _ _ _ _ _ _ _ _ _; (try dsimp only); (try k_fold))) | (k_here; (with_reducible show wpAny _ _ (call (Value.ref 34) [_, _]) _ _ _); k_dflt (refine' err_core ?kB ?kF ?kX ?kN ?kT ?kK ?kd ?ku ?_; (case kB => k_asm); (case kF => k_asm); (case kX => k_asm); (case kN => k_asm); (case kT => k_asm); (case kK => first | exact rfl | assumption); (case kd => ktr_room); (case ku => ktr_units)); intro _ _ _ _ _ _ _ _ _ _ _ _ _ _ _ _ _ _ _ _; (try dsimp only))) | (k_here; (with_reducible show wpAny _ _ (leaving _ (Value.ref _)) _ _ _); k_dflt (refine' leave_next ?K ?F ?R ?D ?U ?_; (case R => assumption); (case D => assumption); (case U => assumption); (case F => assumption); (case K => k_asm)); intro _ _ _ _ _; (try dsimp only)) | (k_here; (with_reducible show wpAny _ _ (leaving _ (Value.ref _)) _ _ _); k_dflt (refine' leave_one ?K ?F ?N ?l1 ?l2 ?n1 ?n2 ?hk ?_; (case K => k_asm); (case F => k_asm); (case N => assumption); (case l1 => assumption); (case l2 => assumption); (case n1 => assumption); (case n2 => assumption); (case hk => rfl)); intro _ _ _ _; (try dsimp only)) | (k_here; (with_reducible show RaiseNow _ _ _); k_dflt (refine' raise_now ?F ?X ?N ?h ?_; (case F => k_asm); (case X => k_asm); (case N => k_asm); (case h => k_mem)); (try dsimp only)) | (k_here; (with_reducible show wpAny _ _ (exec (Stmt.Raise (some _) none _) _) _ _ _); k_dflt (refine' raise_D ?h ?_; (case h => rfl)); (try dsimp only)) | (k_unfold; (try dsimp only)) | (k_end; wrow_close) | walk1 | (dsimp only; walk1) | (leave1; walk_say "STEP leave1"; try dsimp only) | fail "no step")
  all_goals (try k_data)
  all_goals (first | exact ret _ _ _ _ _ _ _ _ _ _ _ _ _ _ (by assumption) (by assumption) (by assumption) (by assumption) | w_report)
set_option maxRecDepth 100000 in
set_option maxHeartbeats 8000000 in
theorem signs_empty : ∀ {w : World} {mean : ExcName → Option Value} {mg mb : Str → Option Value} {dp un : Nat} {gd : Option (List Code)} {cn : Str} {cs : Scope} {a : Addr} {ccd : Value} {cl : List (Str × Addr)} {outer : List Env} {A₀ : Around} {base h₀ : Heap} {L : Addr} {m : Str → Option Value} {s : Shared} {Q E : Value → Shared → Prop} {news : List (Addr × Obj)} {tk tk2 : Tok},
    Below A₀ base outer h₀ → Fr h₀ L s.heap m → (hd.heap_39 w.params).In h₀ → News h₀ L s.heap news → Top topProg LL mean mg mb h₀ → cs.kind = .function →
    dp < 335 → un < 340 → 
    ErrTo base h₀ L m (envX cn cs L a ccd cl :: outer) news 4 E s →
    wpAny (model PySem.Challenge.rw_pf0367_01.row.prog w) (ktrTop dp un gd cn cs L a ccd cl outer) (call (.ref 173) [.str "any" tk, .str "" tk2]) Q E s := by
  k_fill
  w_top off
  intro w mean mg mb dp un gd cn cs a ccd cl outer A₀ base h₀ L m s Q E news tk tk2 B F X N T hk hdp hun  ret
  refine wpAny_call ?_
  k_dflt ktr_enter
  repeat' (first | ((with_reducible show wpAny _ _ (call (Value.ref _) _) _ _ _); first | (k_here; (with_reducible show wpAny _ _ (call (Value.ref 159) [_, _]) _ _ _); k_dflt (refine' plain_signs_empty ?kB ?kF ?kX ?kN ?kT ?kK ?kd ?ku ?_; (case kB => k_asm); (case kF => k_asm); (case kX => k_asm); (case kN => k_asm); (case kT => k_asm); (case kK => first | exact rfl | assumption); (case kd => ktr_room); (case ku => ktr_units)); intro _ _ _ _ _ _ _ _ _ _ _ _ _ _ _ _ _ _; (try dsimp only)) | (k_here; (with_reducible show wpAny _ _ (call (Value.ref 128) [_, _]) _ _ _); k_dflt (refine wpAny_call ?_; refine' code_def ?k1 ?k2 ?k3 ?k4 ?k5 ?kA ?kF ?kK ?k6 ?k7 ?k8 ?k9 ?kB ?_ ?c2 ?c3 ?c4 ?c5; (case kA => exact rfl); (case kF => exact rfl); (case kK => first | exact rfl | assumption); (case k1 => k_asm); (case k2 => k_asm); (case k3 => k_asm); (case k4 => k_asm); (case k5 => k_asm); (case k6 => k_is); (case k7 => k_is); (case k8 => ktr_room); (case k9 => exact BindsTo.of_eq rfl); (case c5 => decide); (case kB => exact locs rfl); (case c2 => exact rfl); (case c3 => exact rfl); (case c4 => exact rfl); k_whole; intro _ _ _ _ _ _ _ _ _; (try dsimp only); (try k_fold))) | (k_here; (with_reducible show wpAny _ _ (call (Value.ref 142) [_]) _ _ _); k_dflt (refine wpAny_call ?_; refine' code_def ?k1 ?k2 ?k3 ?k4 ?k5 ?kA ?kF ?kK ?k6 ?k7 ?k8 ?k9 ?kB ?_ ?c2 ?c3 ?c4 ?c5; (case kA => exact rfl); (case kF => exact rfl); (case kK => first | exact rfl | assumption); (case k1 => k_asm); (case k2 => k_asm); (case k3 => k_asm); (case k4 => k_asm); (case k5 => k_asm); (case k6 => k_is); (case k7 => k_is); (case k8 => ktr_room); (case k9 => exact BindsTo.of_eq rfl); (case c5 => decide); (case kB => exact locs rfl); (case c2 => exact rfl); (case c3 => exact rfl); (case c4 => exact rfl); k_whole; intro _ _ _ _ _ _ _ _ _; (try dsimp only); (try k_fold))) | (k_here; (with_reducible show wpAny _ _ (call (Value.ref 135) [_]) _ _ _); k_dflt (refine wpAny_call ?_; refine' code_def ?k1 ?k2 ?k3 ?k4 ?k5 ?kA ?kF ?kK ?k6 ?k7 ?k8 ?k9 ?kB ?_ ?c2 ?c3 ?c4 ?c5; (case kA => exact rfl); (case kF => exact rfl); (case kK => first | exact rfl | assumption); (case k1 => k_asm); (case k2 => k_asm); (case k3 => k_asm); (case k4 => k_asm); (case k5 => k_asm); (case k6 => k_is); (case k7 => k_is); (case k8 => ktr_room); (case k9 => exact BindsTo.of_eq rfl); (case c5 => decide); (case kB => exact locs rfl); (case c2 => exact rfl); (case c3 => exact rfl); (case c4 => exact rfl); k_whole; intro _ _ _ _ _ _ _ _ _; (try dsimp only); (try k_fold))) | (k_here; (with_reducible show wpAny _ _ (call (Value.ref 34) [_, _]) _ _ _); k_dflt (refine' err_core ?kB ?kF ?kX ?kN ?kT ?kK ?kd ?ku ?_; (case kB => k_asm); (case kF => k_asm); (case kX => k_asm); (case kN => k_asm); (case kT => k_asm); (case kK => first | exact rfl | assumption); (case kd => ktr_room); (case ku => ktr_units)); intro _ _ _ _ _ _ _ _ _ _ _ _ _ _ _ _ _ _ _ _; (try dsimp only))) | (k_here; (with_reducible show wpAny _ _ (leaving _ (Value.ref _)) _ _ _); k_dflt (refine' leave_next ?K ?F ?R ?D ?U ?_; (case R => assumption); (case D => assumption); (case U => assumption); (case F => assumption); (case K => k_asm)); intro _ _ _ _ _; (try dsimp only)) | (k_here; (with_reducible show wpAny _ _ (leaving _ (Value.ref _)) _ _ _); k_dflt (refine' leave_one ?K ?F ?N ?l1 ?l2 ?n1 ?n2 ?hk ?_; (case K => k_asm); (case F => k_asm); (case N => assumption); (case l1 => assumption); (case l2 => assumption); (case n1 => assumption); (case n2 => assumption); (case hk => rfl)); intro _ _ _ _; (try dsimp only)) | (k_here; (with_reducible show RaiseNow _ _ _); k_dflt (refine' raise_now ?F ?X ?N ?h ?_; (case F => k_asm); (case X => k_asm); (case N => k_asm); (case h => k_mem)); (try dsimp only)) | (k_here; (with_reducible show wpAny _ _ (exec (Stmt.Raise (some _) none _) _) _ _ _); k_dflt (refine' raise_D ?h ?_; (case h => rfl)); (try dsimp only)) | (k_unfold; (try dsimp only)) | (k_end; wrow_close) | walk1 | (dsimp only; walk1) | (leave1; walk_say "STEP leave1"; try dsimp only) | fail "no step")
  all_goals (try k_data)
  all_goals (first | exact ret _ _ _ _ _ _ _ _ _ _ _ _ _ _ (by assumption) (by assumption) (by assumption) (by assumption) | w_report)
set_option maxRecDepth 100000 in
set_option maxHeartbeats 8000000 in
theorem plain_count_neg : ∀ {w : World} {mean : ExcName → Option Value} {mg mb : Str → Option Value} {dp un : Nat} {gd : Option (List Code)} {cn : Str} {cs : Scope} {a : Addr} {ccd : Value} {cl : List (Str × Addr)} {outer : List Env} {A₀ : Around} {base h₀ : Heap} {L : Addr} {m : Str → Option Value} {s : Shared} {Q E : Value → Shared → Prop} {news : List (Addr × Obj)} {k : Int} {tk tk2 : Tok},
    Below A₀ base outer h₀ → Fr h₀ L s.heap m → (hd.heap_39 w.params).In h₀ → News h₀ L s.heap news → Top topProg LL mean mg mb h₀ → cs.kind = .function →
    dp < 340 → un < 360 → k < 0 →
    ErrTo base h₀ L m (envX cn cs L a ccd cl :: outer) news 14 E s →
    wpAny (model PySem.Challenge.rw_pf0367_01.row.prog w) (ktrTop dp un gd cn cs L a ccd cl outer) (call (.ref 152) [.int k tk, .str "tab" tk2]) Q E s := by
  k_fill
  w_top off
  intro w mean mg mb dp un gd cn cs a ccd cl outer A₀ base h₀ L m s Q E news k tk tk2 B F X N T hk hdp hun hneg ret
  refine wpAny_call ?_
  k_dflt ktr_enter
  repeat' (first | ((with_reducible show wpAny _ _ (call (Value.ref _) _) _ _ _); first | (k_here; (with_reducible show wpAny _ _ (call (Value.ref 159) [_, _]) _ _ _); k_dflt (refine' plain_signs_empty ?kB ?kF ?kX ?kN ?kT ?kK ?kd ?ku ?_; (case kB => k_asm); (case kF => k_asm); (case kX => k_asm); (case kN => k_asm); (case kT => k_asm); (case kK => first | exact rfl | assumption); (case kd => ktr_room); (case ku => ktr_units)); intro _ _ _ _ _ _ _ _ _ _ _ _ _ _ _ _ _ _; (try dsimp only)) | (k_here; (with_reducible show wpAny _ _ (call (Value.ref 128) [_, _]) _ _ _); k_dflt (refine wpAny_call ?_; refine' code_def ?k1 ?k2 ?k3 ?k4 ?k5 ?kA ?kF ?kK ?k6 ?k7 ?k8 ?k9 ?kB ?_ ?c2 ?c3 ?c4 ?c5; (case kA => exact rfl); (case kF => exact rfl); (case kK => first | exact rfl | assumption); (case k1 => k_asm); (case k2 => k_asm); (case k3 => k_asm); (case k4 => k_asm); (case k5 => k_asm); (case k6 => k_is); (case k7 => k_is); (case k8 => ktr_room); (case k9 => exact BindsTo.of_eq rfl); (case c5 => decide); (case kB => exact locs rfl); (case c2 => exact rfl); (case c3 => exact rfl); (case c4 => exact rfl); k_whole; intro _ _ _ _ _ _ _ _ _; (try dsimp only); (try k_fold))) | (k_here; (with_reducible show wpAny _ _ (call (Value.ref 142) [_]) _ _ _); k_dflt (refine wpAny_call ?_; refine' code_def ?k1 ?k2 ?k3 ?k4 ?k5 ?kA ?kF ?kK ?k6 ?k7 ?k8 ?k9 ?kB ?_ ?c2 ?c3 ?c4 ?c5; (case kA => exact rfl); (case kF => exact rfl); (case kK => first | exact rfl | assumption); (case k1 => k_asm); (case k2 => k_asm); (case k3 => k_asm); (case k4 => k_asm); (case k5 => k_asm); (case k6 => k_is); (case k7 => k_is); (case k8 => ktr_room); (case k9 => exact BindsTo.of_eq rfl); (case c5 => decide); (case kB => exact locs rfl); (case c2 => exact rfl); (case c3 => exact rfl); (case c4 => exact rfl); k_whole; intro _ _ _ _ _ _ _ _ _; (try dsimp only); (try k_fold))) | (k_here; (with_reducible show wpAny _ _ (call (Value.ref 135) [_]) _ _ _); k_dflt (refine wpAny_call ?_; refine' code_def ?k1 ?k2 ?k3 ?k4 ?k5 ?kA ?kF ?kK ?k6 ?k7 ?k8 ?k9 ?kB ?_ ?c2 ?c3 ?c4 ?c5; (case kA => exact rfl); (case kF => exact rfl); (case kK => first | exact rfl | assumption); (case k1 => k_asm); (case k2 => k_asm); (case k3 => k_asm); (case k4 => k_asm); (case k5 => k_asm); (case k6 => k_is); (case k7 => k_is); (case k8 => ktr_room); (case k9 => exact BindsTo.of_eq rfl); (case c5 => decide); (case kB => exact locs rfl); (case c2 => exact rfl); (case c3 => exact rfl); (case c4 => exact rfl); k_whole; intro _ _ _ _ _ _ _ _ _; (try dsimp only); (try k_fold))) | (k_here; (with_reducible show wpAny _ _ (call (Value.ref 34) [_, _]) _ _ _); k_dflt (refine' err_core ?kB ?kF ?kX ?kN ?kT ?kK ?kd ?ku ?_; (case kB => k_asm); (case kF => k_asm); (case kX => k_asm); (case kN => k_asm); (case kT => k_asm); (case kK => first | exact rfl | assumption); (case kd => ktr_room); (case ku => ktr_units)); intro _ _ _ _ _ _ _ _ _ _ _ _ _ _ _ _ _ _ _ _; (try dsimp only))) | (k_here; (with_reducible show wpAny _ _ (leaving _ (Value.ref _)) _ _ _); k_dflt (refine' leave_next ?K ?F ?R ?D ?U ?_; (case R => assumption); (case D => assumption); (case U => assumption); (case F => assumption); (case K => k_asm)); intro _ _ _ _ _; (try dsimp only)) | (k_here; (with_reducible show wpAny _ _ (leaving _ (Value.ref _)) _ _ _); k_dflt (refine' leave_one ?K ?F ?N ?l1 ?l2 ?n1 ?n2 ?hk ?_; (case K => k_asm); (case F => k_asm); (case N => assumption); (case l1 => assumption); (case l2 => assumption); (case n1 => assumption); (case n2 => assumption); (case hk => rfl)); intro _ _ _ _; (try dsimp only)) | (k_here; (with_reducible show RaiseNow _ _ _); k_dflt (refine' raise_now ?F ?X ?N ?h ?_; (case F => k_asm); (case X => k_asm); (case N => k_asm); (case h => k_mem)); (try dsimp only)) | (k_here; (with_reducible show wpAny _ _ (exec (Stmt.Raise (some _) none _) _) _ _ _); k_dflt (refine' raise_D ?h ?_; (case h => rfl)); (try dsimp only)) | (k_unfold; (try dsimp only)) | (k_end; wrow_close) | walk1 | (dsimp only; walk1) | (leave1; walk_say "STEP leave1"; try dsimp only) | fail "no step")
  all_goals (try k_data)
  all_goals (first | exact ret _ _ _ _ _ _ _ _ _ _ _ _ _ _ (by assumption) (by assumption) (by assumption) (by assumption) | w_report)
set_option maxRecDepth 100000 in
set_option maxHeartbeats 8000000 in
theorem count_neg : ∀ {w : World} {mean : ExcName → Option Value} {mg mb : Str → Option Value} {dp un : Nat} {gd : Option (List Code)} {cn : Str} {cs : Scope} {a : Addr} {ccd : Value} {cl : List (Str × Addr)} {outer : List Env} {A₀ : Around} {base h₀ : Heap} {L : Addr} {m : Str → Option Value} {s : Shared} {Q E : Value → Shared → Prop} {news : List (Addr × Obj)} {k : Int} {tk tk2 : Tok},
    Below A₀ base outer h₀ → Fr h₀ L s.heap m → (hd.heap_39 w.params).In h₀ → News h₀ L s.heap news → Top topProg LL mean mg mb h₀ → cs.kind = .function →
    dp < 335 → un < 340 → k < 0 →
    ErrTo base h₀ L m (envX cn cs L a ccd cl :: outer) news 14 E s →
    wpAny (model PySem.Challenge.rw_pf0367_01.row.prog w) (ktrTop dp un gd cn cs L a ccd cl outer) (call (.ref 166) [.str "tab" tk, .int k tk2]) Q E s := by
  k_fill
  w_top off
  intro w mean mg mb dp un gd cn cs a ccd cl outer A₀ base h₀ L m s Q E news k tk tk2 B F X N T hk hdp hun hneg ret
  refine wpAny_call ?_
  k_dflt ktr_enter
  repeat' (first | ((with_reducible show wpAny _ _ (call (Value.ref _) _) _ _ _); first | (k_here; (with_reducible show wpAny _ _ (call (Value.ref 152) [_, _]) _ _ _); k_dflt (refine' plain_count_neg ?kB ?kF ?kX ?kN ?kT ?kK ?kd ?ku ?hneg ?_; (case kB => k_asm); (case kF => k_asm); (case kX => k_asm); (case kN => k_asm); (case kT => k_asm); (case kK => first | exact rfl | assumption); (case kd => ktr_room); (case ku => ktr_units); (case hneg => assumption)); intro _ _ _ _ _ _ _ _ _ _ _ _ _ _ _ _ _ _; (try dsimp only)) | (k_here; (with_reducible show wpAny _ _ (call (Value.ref 159) [_, _]) _ _ _); k_dflt (refine' plain_signs_empty ?kB ?kF ?kX ?kN ?kT ?kK ?kd ?ku ?_; (case kB => k_asm); (case kF => k_asm); (case kX => k_asm); (case kN => k_asm); (case kT => k_asm); (case kK => first | exact rfl | assumption); (case kd => ktr_room); (case ku => ktr_units)); intro _ _ _ _ _ _ _ _ _ _ _ _ _ _ _ _ _ _; (try dsimp only)) | (k_here; (with_reducible show wpAny _ _ (call (Value.ref 128) [_, _]) _ _ _); k_dflt (refine wpAny_call ?_; refine' code_def ?k1 ?k2 ?k3 ?k4 ?k5 ?kA ?kF ?kK ?k6 ?k7 ?k8 ?k9 ?kB ?_ ?c2 ?c3 ?c4 ?c5; (case kA => exact rfl); (case kF => exact rfl); (case kK => first | exact rfl | assumption); (case k1 => k_asm); (case k2 => k_asm); (case k3 => k_asm); (case k4 => k_asm); (case k5 => k_asm); (case k6 => k_is); (case k7 => k_is); (case k8 => ktr_room); (case k9 => exact BindsTo.of_eq rfl); (case c5 => decide); (case kB => exact locs rfl); (case c2 => exact rfl); (case c3 => exact rfl); (case c4 => exact rfl); k_whole; intro _ _ _ _ _ _ _ _ _; (try dsimp only); (try k_fold))) | (k_here; (with_reducible show wpAny _ _ (call (Value.ref 142) [_]) _ _ _); k_dflt (refine wpAny_call ?_; refine' code_def ?k1 ?k2 ?k3 ?k4 ?k5 ?kA ?kF ?kK ?k6 ?k7 ?k8 ?k9 ?kB ?_ ?c2 ?c3 ?c4 ?c5; (case kA => exact rfl); (case kF => exact rfl); (case kK => first | exact rfl | assumption); (case k1 => k_asm); (case k2 => k_asm); (case k3 => k_asm); (case k4 => k_asm); (case k5 => k_asm); (case k6 => k_is); (case k7 => k_is); (case k8 => ktr_room); (case k9 => exact BindsTo.of_eq rfl); (case c5 => decide); (case kB => exact locs rfl); (case c2 => exact rfl); (case c3 => exact rfl); (case c4 => exact rfl); k_whole; intro _ _ _ _ _ _ _ _ _; (try dsimp only); (try k_fold))) | (k_here; (with_reducible show wpAny _ _ (call (Value.ref 135) [_]) _ _ _); k_dflt (refine wpAny_call ?_; refine' code_def ?k1 ?k2 ?k3 ?k4 ?k5 ?kA ?kF ?kK ?k6 ?k7 ?k8 ?k9 ?kB ?_ ?c2 ?c3 ?c4 ?c5; (case kA => exact rfl); (case kF => exact rfl); (case kK => first | exact rfl | assumption); (case k1 => k_asm); (case k2 => k_asm); (case k3 => k_asm); (case k4 => k_asm); (case k5 => k_asm); (case k6 => k_is); (case k7 => k_is); (case k8 => ktr_room); (case k9 => exact BindsTo.of_eq rfl); (case c5 => decide); (case kB => exact locs rfl); (case c2 => exact rfl); (case c3 => exact rfl); (case c4 => exact rfl); k_whole; intro _ _ _ _ _ _ _ _ _; (try dsimp only); (try k_fold))) | (k_here; (with_reducible show wpAny _ _ (call (Value.ref 34) [_, _]) _ _ _); k_dflt (refine' err_core ?kB ?kF ?kX ?kN ?kT ?kK ?kd ?ku ?_; (case kB => k_asm); (case kF => k_asm); (case kX => k_asm); (case kN => k_asm); (case kT => k_asm); (case kK => first | exact rfl | assumption); (case kd => ktr_room); (case ku => ktr_units)); intro _ _ _ _ _ _ _ _ _ _ _ _ _ _ _ _ _ _ _ _; (try dsimp only))) | (k_here; (with_reducible show wpAny _ _ (leaving _ (Value.ref _)) _ _ _); k_dflt (refine' leave_next ?K ?F ?R ?D ?U ?_; (case R => assumption); (case D => assumption); (case U => assumption); (case F => assumption); (case K => k_asm)); intro _ _ _ _ _; (try dsimp only)) | (k_here; (with_reducible show wpAny _ _ (leaving _ (Value.ref _)) _ _ _); k_dflt (refine' leave_one ?K ?F ?N ?l1 ?l2 ?n1 ?n2 ?hk ?_; (case K => k_asm); (case F => k_asm); (case N => assumption); (case l1 => assumption); (case l2 => assumption); (case n1 => assumption); (case n2 => assumption); (case hk => rfl)); intro _ _ _ _; (try dsimp only)) | (k_here; (with_reducible show RaiseNow _ _ _); k_dflt (refine' raise_now ?F ?X ?N ?h ?_; (case F => k_asm); (case X => k_asm); (case N => k_asm); (case h => k_mem)); (try dsimp only)) | (k_here; (with_reducible show wpAny _ _ (exec (Stmt.Raise (some _) none _) _) _ _ _); k_dflt (refine' raise_D ?h ?_; (case h => rfl)); (try dsimp only)) | (k_unfold; (try dsimp only)) | (k_end; wrow_close) | walk1 | (dsimp only; walk1) | (leave1; walk_say "STEP leave1"; try dsimp only) | fail "no step")
  all_goals (try k_data)
  all_goals (first | exact ret _ _ _ _ _ _ _ _ _ _ _ _ _ _ (by assumption) (by assumption) (by assumption) (by assumption) | w_report)
end
end Mine
end
section
open PySem PySem.W PySem.Calls PyProof.Rows
namespace Mine
theorem a_is : Str.ofString "a" = S [97] := by decide
theorem lc_a (x : Str) : lc (Str.ofString "a" ++ x) = 97 :: lc x := by rw [lc_append, a_is, lc_S]; rfl
theorem a_ne (x : Str) : (Str.ofString "a" ++ x == Str.ofString "") = false := by
  refine beq_eq_false_iff_ne.mpr fun h => ?_
  have := congrArg lc h
  rw [lc_a] at this
  cases this
theorem a_item (x : Str) : Txt.item (Str.ofString "a" ++ x) 0 = S [97] := item_at (k := 0) (by rw [lc_a]; rfl)
theorem a_sign (x : Str) : (Builtin.Str.occurrences (Str.ofString "+-") (Txt.item (Str.ofString "a" ++ x) 0) 0 (Str.ofString "+-").length 1).isEmpty = true := by
  rw [a_item]; decide +kernel
theorem a_codes (x : Str) : KStt.codes (Str.ofString "a" ++ x) = 97 :: KStt.codes x := by
  show (lc (Str.ofString "a" ++ x)).map _ = _
  rw [lc_a]; rfl
section
local macro_rules | `(tactic| walk_at "exec For") => `(tactic| (k_here; (rename Fr _ _ _ _ => lF'); (with_unfolding_all refine' For_invVF lF' ?k1 ?k2 ?_; (case k1 => exact rfl); (case k2 => exact rfl); k_whole)))
set_option maxRecDepth 100000 in
set_option maxHeartbeats 8000000 in
theorem none_of_text : ∀ {w : World} {mean : ExcName → Option Value} {mg mb : Str → Option Value} {dp un : Nat} {gd : Option (List Code)} {cn : Str} {cs : Scope} {a : Addr} {ccd : Value} {cl : List (Str × Addr)} {outer : List Env} {A₀ : Around} {base h₀ : Heap} {L : Addr} {m : Str → Option Value} {s : Shared} {Q E : Value → Shared → Prop} {news : List (Addr × Obj)} {x : Str} {tk tk2 : Tok},
    Below A₀ base outer h₀ → Fr h₀ L s.heap m → (hd.heap_39 w.params).In h₀ → News h₀ L s.heap news → Top topProg LL mean mg mb h₀ → cs.kind = .function →
    dp < 600 → un < 500 → x.length ≤ 4 →
    (∀ h' tk', Fr h₀ L h' m → News h₀ L h' news → Q .none { s with heap := h', toks := tk' }) →
    wpAny (model PySem.Challenge.rw_pf0367_01.row.prog w) (ktrTop dp un gd cn cs L a ccd cl outer) (call (.ref 114) [.str ("a" ++ x) tk, .int 64 tk2]) Q E s := by
  k_fill
  w_top off
  intro w mean mg mb dp un gd cn cs a ccd cl outer A₀ base h₀ L m s Q E news x tk tk2 B F X N T hk hdp hun hl ret
  refine wpAny_call ?_
  k_dflt ktr_enter
  repeat' (first | (fail_if_success (with_reducible show wpAny _ _ (pyIter (Value.str _ _)) _ _ _)); (first | (k_unfold; (try dsimp only)) | (k_end; wrow_close) | walk1 | (dsimp only; walk1) | (leave1; walk_say "STEP leave1"; try dsimp only) | fail "no step"))
  all_goals (try k_data)
  · rename (Str.ofString "a" ++ x == Str.ofString "") = true => h9
    rw [a_ne] at h9; cases h9
  · rename 64 < _ => h9
    have : (Str.ofString "a").length = 1 := by decide
    omega
  · rename Fr _ _ _ _ => lF
    rename News _ _ _ _ => N2
    with_unfolding_all refine' KStt.kst_text (σ := Unit) (fun _ => news) (fun _ => []) (fun _ => True) [] (fun pre _ => pre = []) () (by rfl) lF ?kn trivial ?kk ?kp ?turn ?done
    case kn => exact N2
    case kk => intro p hp; cases hp
    case kp => rfl
    case turn =>
      rintro ⟨⟩ pre post n t u h tk own e hoff - hps F5 N5
      subst hps
      rw [a_codes] at e
      have en : n = 97 := by
        have := (List.cons.inj e).1
        omega
      subst en
      dsimp only at *
      (try k_fold)
      k_steps
      all_goals (try k_data)
      exact ret _ _ (by k_asm) (by first | k_asm | exact KStt.news_of (by assumption) (fun p hp => List.mem_append_left _ hp))

    case done =>
      rintro ⟨⟩ u h tk - hps F5 N5
      (try dsimp only at hps)
      rw [a_codes] at hps; cases hps
  all_goals (rename (Builtin.Str.occurrences _ _ _ _ _).isEmpty = false => h9; rw [a_sign] at h9; cases h9)
end
end Mine
end
section
open PySem PySem.W PySem.Calls PyProof.Rows
namespace Mine
section
set_option maxRecDepth 100000 in
set_option maxHeartbeats 8000000 in
theorem plain_count_text : ∀ {w : World} {mean : ExcName → Option Value} {mg mb : Str → Option Value} {dp un : Nat} {gd : Option (List Code)} {cn : Str} {cs : Scope} {a : Addr} {ccd : Value} {cl : List (Str × Addr)} {outer : List Env} {A₀ : Around} {base h₀ : Heap} {L : Addr} {m : Str → Option Value} {s : Shared} {Q E : Value → Shared → Prop} {news : List (Addr × Obj)} {x : Str} {tk tk2 : Tok},
    Below A₀ base outer h₀ → Fr h₀ L s.heap m → (hd.heap_39 w.params).In h₀ → News h₀ L s.heap news → Top topProg LL mean mg mb h₀ → cs.kind = .function →
    dp < 340 → un < 360 → x.length ≤ 4 →
    ErrTo base h₀ L m (envX cn cs L a ccd cl :: outer) news 1 E s →
    wpAny (model PySem.Challenge.rw_pf0367_01.row.prog w) (ktrTop dp un gd cn cs L a ccd cl outer) (call (.ref 152) [.str ("a" ++ x) tk, .str "len" tk2]) Q E s := by
  k_fill
  w_top off
  intro w mean mg mb dp un gd cn cs a ccd cl outer A₀ base h₀ L m s Q E news x tk tk2 B F X N T hk hdp hun hl ret
  refine wpAny_call ?_
  k_dflt ktr_enter
  repeat' (first | ((with_reducible show wpAny _ _ (call (Value.ref _) _) _ _ _); first | (k_here; (with_reducible show wpAny _ _ (call (Value.ref 114) [_, _]) _ _ _); k_dflt (refine' none_of_text ?kB ?kF ?kX ?kN ?kT ?kK ?kd ?ku ?kl ?_; (case kB => k_asm); (case kF => k_asm); (case kX => k_asm); (case kN => k_asm); (case kT => k_asm); (case kK => first | exact rfl | assumption); (case kd => ktr_room); (case ku => ktr_units); (case kl => assumption)); intro _ _ _ _; (try dsimp only)) | (k_here; (with_reducible show wpAny _ _ (call (Value.ref 128) [_, _]) _ _ _); k_dflt (refine wpAny_call ?_; refine' code_def ?k1 ?k2 ?k3 ?k4 ?k5 ?kA ?kF ?kK ?k6 ?k7 ?k8 ?k9 ?kB ?_ ?c2 ?c3 ?c4 ?c5; (case kA => exact rfl); (case kF => exact rfl); (case kK => first | exact rfl | assumption); (case k1 => k_asm); (case k2 => k_asm); (case k3 => k_asm); (case k4 => k_asm); (case k5 => k_asm); (case k6 => k_is); (case k7 => k_is); (case k8 => ktr_room); (case k9 => exact BindsTo.of_eq rfl); (case c5 => decide); (case kB => exact locs rfl); (case c2 => exact rfl); (case c3 => exact rfl); (case c4 => exact rfl); k_whole; intro _ _ _ _ _ _ _ _ _; (try dsimp only); (try k_fold))) | (k_here; (with_reducible show wpAny _ _ (call (Value.ref 34) [_, _]) _ _ _); k_dflt (refine' err_core ?kB ?kF ?kX ?kN ?kT ?kK ?kd ?ku ?_; (case kB => k_asm); (case kF => k_asm); (case kX => k_asm); (case kN => k_asm); (case kT => k_asm); (case kK => first | exact rfl | assumption); (case kd => ktr_room); (case ku => ktr_units)); intro _ _ _ _ _ _ _ _ _ _ _ _ _ _ _ _ _ _ _ _; (try dsimp only))) | (k_here; (with_reducible show wpAny _ _ (leaving _ (Value.ref _)) _ _ _); k_dflt (refine' leave_next ?K ?F ?R ?D ?U ?_; (case R => assumption); (case D => assumption); (case U => assumption); (case F => assumption); (case K => k_asm)); intro _ _ _ _ _; (try dsimp only)) | (k_here; (with_reducible show wpAny _ _ (leaving _ (Value.ref _)) _ _ _); k_dflt (refine' leave_one ?K ?F ?N ?l1 ?l2 ?n1 ?n2 ?hk ?_; (case K => k_asm); (case F => k_asm); (case N => assumption); (case l1 => assumption); (case l2 => assumption); (case n1 => assumption); (case n2 => assumption); (case hk => rfl)); intro _ _ _ _; (try dsimp only)) | (k_here; (with_reducible show RaiseNow _ _ _); k_dflt (refine' raise_now ?F ?X ?N ?h ?_; (case F => k_asm); (case X => k_asm); (case N => k_asm); (case h => k_mem)); (try dsimp only)) | (k_here; (with_reducible show wpAny _ _ (exec (Stmt.Raise (some _) none _) _) _ _ _); k_dflt (refine' raise_D ?h ?_; (case h => rfl)); (try dsimp only)) | (k_unfold; (try dsimp only)) | (k_end; wrow_close) | walk1 | (dsimp only; walk1) | (leave1; walk_say "STEP leave1"; try dsimp only) | fail "no step")
  all_goals (try k_data)
  all_goals (first | exact ret _ _ _ _ _ _ _ _ _ _ _ _ _ _ (by assumption) (by assumption) (by assumption) (by assumption) | w_report)
set_option maxRecDepth 100000 in
set_option maxHeartbeats 8000000 in
theorem count_text : ∀ {w : World} {mean : ExcName → Option Value} {mg mb : Str → Option Value} {dp un : Nat} {gd : Option (List Code)} {cn : Str} {cs : Scope} {a : Addr} {ccd : Value} {cl : List (Str × Addr)} {outer : List Env} {A₀ : Around} {base h₀ : Heap} {L : Addr} {m : Str → Option Value} {s : Shared} {Q E : Value → Shared → Prop} {news : List (Addr × Obj)} {x : Str} {tk tk2 : Tok},
    Below A₀ base outer h₀ → Fr h₀ L s.heap m → (hd.heap_39 w.params).In h₀ → News h₀ L s.heap news → Top topProg LL mean mg mb h₀ → cs.kind = .function →
    dp < 335 → un < 340 → x.length ≤ 4 →
    ErrTo base h₀ L m (envX cn cs L a ccd cl :: outer) news 1 E s →
    wpAny (model PySem.Challenge.rw_pf0367_01.row.prog w) (ktrTop dp un gd cn cs L a ccd cl outer) (call (.ref 166) [.str "len" tk, .str ("a" ++ x) tk2]) Q E s := by
  k_fill
  w_top off
  intro w mean mg mb dp un gd cn cs a ccd cl outer A₀ base h₀ L m s Q E news x tk tk2 B F X N T hk hdp hun hl ret
  refine wpAny_call ?_
  k_dflt ktr_enter
  repeat' (first | ((with_reducible show wpAny _ _ (call (Value.ref _) _) _ _ _); first | (k_here; (with_reducible show wpAny _ _ (call (Value.ref 152) [_, _]) _ _ _); k_dflt (refine' plain_count_text ?kB ?kF ?kX ?kN ?kT ?kK ?kd ?ku ?hl ?_; (case kB => k_asm); (case kF => k_asm); (case kX => k_asm); (case kN => k_asm); (case kT => k_asm); (case kK => first | exact rfl | assumption); (case kd => ktr_room); (case ku => ktr_units); (case hl => assumption)); intro _ _ _ _ _ _ _ _ _ _ _ _ _ _ _ _ _ _; (try dsimp only)) | (k_here; (with_reducible show wpAny _ _ (call (Value.ref 114) [_, _]) _ _ _); k_dflt (refine' none_of_text ?kB ?kF ?kX ?kN ?kT ?kK ?kd ?ku ?kl ?_; (case kB => k_asm); (case kF => k_asm); (case kX => k_asm); (case kN => k_asm); (case kT => k_asm); (case kK => first | exact rfl | assumption); (case kd => ktr_room); (case ku => ktr_units); (case kl => assumption)); intro _ _ _ _; (try dsimp only)) | (k_here; (with_reducible show wpAny _ _ (call (Value.ref 128) [_, _]) _ _ _); k_dflt (refine wpAny_call ?_; refine' code_def ?k1 ?k2 ?k3 ?k4 ?k5 ?kA ?kF ?kK ?k6 ?k7 ?k8 ?k9 ?kB ?_ ?c2 ?c3 ?c4 ?c5; (case kA => exact rfl); (case kF => exact rfl); (case kK => first | exact rfl | assumption); (case k1 => k_asm); (case k2 => k_asm); (case k3 => k_asm); (case k4 => k_asm); (case k5 => k_asm); (case k6 => k_is); (case k7 => k_is); (case k8 => ktr_room); (case k9 => exact BindsTo.of_eq rfl); (case c5 => decide); (case kB => exact locs rfl); (case c2 => exact rfl); (case c3 => exact rfl); (case c4 => exact rfl); k_whole; intro _ _ _ _ _ _ _ _ _; (try dsimp only); (try k_fold))) | (k_here; (with_reducible show wpAny _ _ (call (Value.ref 34) [_, _]) _ _ _); k_dflt (refine' err_core ?kB ?kF ?kX ?kN ?kT ?kK ?kd ?ku ?_; (case kB => k_asm); (case kF => k_asm); (case kX => k_asm); (case kN => k_asm); (case kT => k_asm); (case kK => first | exact rfl | assumption); (case kd => ktr_room); (case ku => ktr_units)); intro _ _ _ _ _ _ _ _ _ _ _ _ _ _ _ _ _ _ _ _; (try dsimp only))) | (k_here; (with_reducible show wpAny _ _ (leaving _ (Value.ref _)) _ _ _); k_dflt (refine' leave_next ?K ?F ?R ?D ?U ?_; (case R => assumption); (case D => assumption); (case U => assumption); (case F => assumption); (case K => k_asm)); intro _ _ _ _ _; (try dsimp only)) | (k_here; (with_reducible show wpAny _ _ (leaving _ (Value.ref _)) _ _ _); k_dflt (refine' leave_one ?K ?F ?N ?l1 ?l2 ?n1 ?n2 ?hk ?_; (case K => k_asm); (case F => k_asm); (case N => assumption); (case l1 => assumption); (case l2 => assumption); (case n1 => assumption); (case n2 => assumption); (case hk => rfl)); intro _ _ _ _; (try dsimp only)) | (k_here; (with_reducible show RaiseNow _ _ _); k_dflt (refine' raise_now ?F ?X ?N ?h ?_; (case F => k_asm); (case X => k_asm); (case N => k_asm); (case h => k_mem)); (try dsimp only)) | (k_here; (with_reducible show wpAny _ _ (exec (Stmt.Raise (some _) none _) _) _ _ _); k_dflt (refine' raise_D ?h ?_; (case h => rfl)); (try dsimp only)) | (k_unfold; (try dsimp only)) | (k_end; wrow_close) | walk1 | (dsimp only; walk1) | (leave1; walk_say "STEP leave1"; try dsimp only) | fail "no step")
  all_goals (try k_data)
  all_goals (first | exact ret _ _ _ _ _ _ _ _ _ _ _ _ _ _ (by assumption) (by assumption) (by assumption) (by assumption) | w_report)
end
end Mine
end
section
open PySem PySem.W PySem.Calls PyProof.Rows
namespace Mine
theorem dict_ns {h : Heap} {d : Addr} {n : Int} {x : Str} {h1 h2 : Int} {t1 t2 t3 t4 : Tok} (hd : h.get? d = some (errDict n x h1 h2 t1 t2 t3 t4)) : ∃ mA, h.Ns d mA ∧ mA "number" = some (.int n t2) := by
  refine ⟨nsFind (#[⟨h1, .str "number" t1, .int n t2⟩, ⟨h2, .str "told" t3, .str x t4⟩] : Array DictEntry), ⟨_, _, _, hd, rfl, fun e he => ?_, fun _ => rfl⟩, ?_⟩
  · simp only [List.mem_toArray, List.mem_cons, List.not_mem_nil, or_false] at he
    rcases he with rfl | rfl
    · exact ⟨_, _, rfl⟩
    · exact ⟨_, _, rfl⟩
  · unfold nsFind findBy
    rw [← Array.find?_toList, List.find?_cons]
    have : (Value.str "number" t1).isStr "number" = true := by show (("number" : Str) == "number") = true; exact beq_self_eq_true _
    dsimp only
    rw [this]
    rfl
section
variable {prog : Program} {w : World} {A : Around} {E : Value → Shared → Prop} {h : Heap} {g : Array GenState} {d : Drawn} {tk : Nat} {os : OsState} {o : Obj} {vs : Array Value} {B : String} {bmB : List Value}
  {nm q : Str} {N C : Addr} {bs : List Value} {sn : List Str} {sub : List Value} {ab : Bool} {col : Option Bool} {dd : Option Addr} {k0 k1 k2 k3 k5 : Option Value} {newId : String} {mN mA : Str → Option Value} {name : Str} {v : Value} {e dx : Addr}
theorem read_entry {tk0 : Tok} {Q : Fin → Shared → Prop} (FB : ExcAttrBase B bmB)
    (hC : h.get? C = some (excClassObj nm q C N bs bmB true sn sub ab col dd k0 k1 k2 k3 k5 newId)) (hn : h.Ns N mN) (hna : mN name = none)
    (hB : typeLookup (.type B) name = pure none) (hx : h.get? e = some o) (hc : o.cls = .ref C) (hdt : o.data = .fields vs) (hdx : o.dict = some dx) (hA : h.Ns dx mA) (hv : mA name = some v) (hq : Q (.done (.ret v)) ⟨h, g, d, tk, os⟩) :
    wpAny (model prog w) A (Builtin.«object.__getattribute__» ⟨[.ref e, .str name tk0], []⟩) Q E ⟨h, g, d, tk, os⟩ := by
  unfold Builtin.«object.__getattribute__»
  repeat (first | (with_reducible refine wpAny_loadPart_at hx ?_; rw [hc]) | (with_reducible refine wpAny_typeLookup_exc hC hn FB.mro hB ?_; rw [hna]) | wp_step)
  split
  · rename_i c hcd
    rw [hdt] at hcd; cases hcd
  unfold instanceDict
  repeat (first | (with_reducible refine wpAny_loadPart_at hx ?_; rw [hc]) | with_reducible refine wpAny_loadPart_at hC ?_ | wp_step)
  rw [hdx]
  repeat (first | (with_reducible refine wpAny_nsGet hA ?_; rw [hv]) | wp_step)
  exact hq
theorem read_call {tk0 : Tok} {R : Result → Shared → Prop} (FB : ExcAttrBase B bmB)
    (hC : h.get? C = some (excClassObj nm q C N bs bmB true sn sub ab col dd k0 k1 k2 k3 k5 newId)) (hn : h.Ns N mN) (hna : mN name = none)
    (hB : typeLookup (.type B) name = pure none) (hx : h.get? e = some o) (hc : o.cls = .ref C) (hdt : o.data = .fields vs) (hdx : o.dict = some dx) (hA : h.Ns dx mA) (hv : mA name = some v) (hq : R (.ok (.ret v)) ⟨h, g, d, tk, os⟩) :
    codeAny (model prog w) A (.call (.builtin "BaseException.__getattribute__") ⟨[.ref e, .str name tk0], []⟩) R ⟨h, g, d, tk, os⟩ :=
  codeAny_call_builtin FB.ga.plain PySem.F.entry_bexc_ga (wpAny_check_ga_own FB hC .base hx hc (read_entry FB hC hn hna hB hx hc hdt hdx hA hv hq))
theorem read_by {tk0 : Tok} {fill expr : Bool} {Q : Value → Shared → Prop} (FB : ExcAttrBase B bmB)
    (hC : h.get? C = some (excClassObj nm q C N bs bmB true sn sub ab col dd k0 k1 k2 k3 k5 newId)) (hn : h.Ns N mN) (hna : mN name = none) (hga : mN "__getattribute__" = none) (hgn : mN "__getattr__" = none)
    (hB : typeLookup (.type B) name = pure none) (hx : h.get? e = some o) (hc : o.cls = .ref C) (hdt : o.data = .fields vs) (hdx : o.dict = some dx) (hA : h.Ns dx mA) (hv : mA name = some v) (hh : handedOut v = pure v) (hq : Q v ⟨h, g, d, tk, os⟩) :
    wpAny (model prog w) A (getAttrBy (.ref e) (.str name tk0) fill expr) Q E ⟨h, g, d, tk, os⟩ := by
  have f3 := FB.ga.bind (.ref e)
  have hx0 : (expr && onTheHeap (Value.builtin "BaseException.__getattribute__")) = false := by cases expr <;> rfl
  have hx2 : (Value.builtin "BaseException.__getattribute__" == Value.builtin "object.__getattribute__") = false := by decide +kernel
  have hx1 : (onTheHeap (Value.ref C) && Value.builtin "BaseException.__getattribute__" == Value.builtin "object.__getattribute__") = false := by rw [hx2]; rfl
  repeat (any_goals (first | assumption | (with_reducible refine wpAny_loadPart_at hx ?_; rw [hc]) | (with_reducible refine wpAny_typeLookup_exc hC hn FB.mro FB.ga.lookup ?_; rw [hga]) | (with_reducible refine wpAny_typeLookup_exc hC hn FB.mro FB.noGetattr ?_; rw [hgn]) | wp_step))
  refine read_call FB hC hn hna hB hx hc hdt hdx hA hv ?_
  repeat (any_goals (first | assumption | wp_step))
theorem read_attr {expr : Bool} {Q : Value → Shared → Prop} (FB : ExcAttrBase B bmB)
    (hC : h.get? C = some (excClassObj nm q C N bs bmB true sn sub ab col dd k0 k1 k2 k3 k5 newId)) (hn : h.Ns N mN) (hna : mN name = none) (hga : mN "__getattribute__" = none) (hgn : mN "__getattr__" = none)
    (hB : typeLookup (.type B) name = pure none) (hx : h.get? e = some o) (hc : o.cls = .ref C) (hdt : o.data = .fields vs) (hdx : o.dict = some dx) (hA : h.Ns dx mA) (hv : mA name = some v) (hh : handedOut v = pure v) (hq : Q v ⟨h, g, d, tk + 1, os⟩) :
    wpAny (model prog w) A (getAttr (.ref e) name expr) Q E ⟨h, g, d, tk, os⟩ := by
  unfold getAttr
  repeat (any_goals (first | assumption | with_reducible apply read_by FB hC hn hna hga hgn hB hx hc hdt hdx hA hv hh | wp_step))
end
abbrev caughtObj (d : Addr) (ws : Array Value) (sl : Array (Option Value)) : Obj := { cls := .ref 34, dict := some d, data := .fields ws, slots := sl }
theorem number_use {w : World} {A : Around} {E : Value → Shared → Prop} {s : Shared} {h₀ : Heap} {L : Addr} {m : Str → Option Value} {news : List (Addr × Obj)} {e d : Addr} {ws : Array Value} {sl : Array (Option Value)} {n : Int} {x : Str} {h1 h2 : Int} {t1 t2 t3 t4 : Tok} {expr : Bool} {Q : Value → Shared → Prop}
    (F : Fr h₀ L s.heap m) (X : (hd.heap_39 w.params).In h₀) (Nw : News h₀ L s.heap news) (he : (e, caughtObj d ws sl) ∈ news) (hd : (d, errDict n x h1 h2 t1 t2 t3 t4) ∈ news)
    (hq : Q (.int n t2) { s with toks := s.toks + 1 }) : wpAny (model PySem.Challenge.rw_pf0367_01.row.prog w) A (getAttr (.ref e) "number" expr) Q E s := by
  obtain ⟨nm, q, bs, sn, sub, ab, col, dd, k0, k1, k2, k3, k5, mN, hC, hn, hi, ha⟩ := (err_cls (X.keeps F.keep)).ex
  obtain ⟨mA, hA, hv⟩ := dict_ns (Nw _ hd).1
  obtain ⟨hp, g, dr, tk, os⟩ := s
  exact read_attr PySem.F.attrBase_Exception hC hn (ha _ (by simp [absent])) (ha _ (by simp [absent])) (ha _ (by simp [absent])) tl_number (Nw _ he).1 rfl rfl rfl hA hv rfl hq
end Mine
end
section
open PySem PySem.W PySem.Calls PyProof.Rows
namespace Mine
section
variable {prog : Program} {w : World} {A₀ A : Around} {s : Shared} {base h₀ g₀ : Heap} {outer : List Env} {L a : Addr} {m : Str → Option Value} {cn : Str} {cs : Scope} {ccd : Value} {cl : List (Str × Addr)} {news : List (Addr × Obj)} {K : Frag} {p : Program} {loose : List Str} {mean : ExcName → Option Value} {mg mb : Str → Option Value}
    {R : Result → Shared → Prop} {name qual : Str} {params : Arguments} {body : List Stmt} {scope : Scope} {dV kV doc pm cdv ct oc : Value} {an od : Option Addr} {osl : Array (Option Value)} {f : Addr} {args : Args} {binds : List (Str × Value)}
theorem enterX (B : Below A₀ base outer h₀) (F : Fr h₀ L s.heap m) (N : News h₀ L s.heap news) (hA : A.frames = some (envX cn cs L a ccd cl :: outer)) (hck : cs.kind = .function) :
    ∃ oL es ep, (hideAll s.heap (news.map (·.1))).get? L = some oL ∧ oL.data = .dict es ep ∧ (∀ h', h'.get? L = some oL → Heap.Ns h' L m) ∧ (∀ (sl : Array (Option Value)) h', h'.get? L = some { oL with slots := sl } → Heap.Ns h' L m) ∧
      h₀.StaysIn (hideAll s.heap (news.map (·.1))) ∧ Below A base (envX cn cs L a ccd cl :: outer) (hideAll s.heap (news.map (·.1))) := by
  have nm : ∀ b o, h₀.get? b = some o → b ∉ news.map (·.1) := fun b o e q => by
    obtain ⟨p, hp, rfl⟩ := List.mem_map.mp q
    rw [(N p hp).2.2] at e; cases e
  have st : h₀.StaysIn (hideAll s.heap (news.map (·.1))) := fun b o e => hideAll_get _ (F.keep b o e) (nm b o e)
  obtain ⟨oL, es, ep, hL, hLd, hLk, hLf⟩ := F.ns
  have nL : L ∉ news.map (·.1) := fun q => by
    obtain ⟨p, hp, e⟩ := List.mem_map.mp q
    exact (N p hp).2.1 e
  have hLg := hideAll_get (news.map (·.1)) hL nL
  have B₁ := pushX (name := cn) (scope := cs) (a := a) (cd := ccd) (cl := cl) B F hck
  exact ⟨oL, es, ep, hLg, hLd, fun h' e => ⟨oL, es, ep, e, hLd, hLk, hLf⟩, fun sl h' e => ⟨_, es, ep, e, hLd, hLk, hLf⟩, st, ⟨hA, fun b o e => st b o (B.stays b o e), funFrames_hideAll B₁.frames fun env he b hb hf => by
    cases he with
    | head => exact nL ((Option.some.inj hf : L = b) ▸ hb)
    | tail _ he =>
      obtain ⟨L₁, o₁, hf₁, ho₁⟩ := funFrames_in B.frames env he
      rw [hf₁] at hf
      exact nm L₁ o₁ ho₁ ((Option.some.inj hf : L₁ = b) ▸ hb)⟩⟩
theorem code_defX0 (B : Below A₀ base [] h₀) (F : Fr h₀ L s.heap m) (X₀ : K.In h₀) (N : News h₀ L s.heap news) (T : Top p loose mean mg mb h₀) (hA : A.frames = some [envX cn cs L a ccd cl])
    (ho : K.lookup f = some ⟨oc, od, .func (fnOf name qual params body scope dV kV doc pm an cdv ct), osl⟩) (hcd : codeIn K cdv qual = true) (hroom : A.depth < recursionLimit)
    (hbind : BindsTo s (fnOf name qual params body scope dV kV doc pm an cdv ct) args binds) (hloc : ∀ y ∈ binds, scope.names.lookup y.1 = some .local)
    (h : ∀ g L' h₁, Fr h₀ L g m → Fr g L' h₁ (fun y => binds.reverse.lookup y) → News g L' h₁ news → Below A base [envX cn cs L a ccd cl] g → K.In g → Top p loose mean mg mb g → KtsDicts ([envX cn cs L a ccd cl].filterMap (·.frame)) g →
      wpAny (model prog w) (A.deeper (envOf qual scope L' f cdv)) (execs body (envOf qual scope L' f cdv))
        (fun fl s' => LeaveS0 ([envX cn cs L a ccd cl].filterMap (·.frame)) h₀ L m g R (match fl with | .ret v => v | _ => .none) s')
        (fun e s' => wpAny (model prog w) (A.deeper (envOf qual scope L' f cdv)) (leaving (envOf qual scope L' f cdv) e) (fun _ s'' => R (.error e) s'') (fun e' s'' => R (.error e') s'') s')
        { s with heap := h₁, toks := s.toks + binds.length })
    (hck : cs.kind = .function) (hco : scope.isCoroutine = false) (hgen : scope.isGenerator = false) (hk : scope.kind = .function)
    (hcell : ∀ x ∈ scope.names, x.2 ≠ .cell) : codeAny (model prog w) A (.call (.ref f) args) R s := by
  have X := X₀.keeps F.keep
  refine codeAny_call_def (fd := fnOf name qual params body scope dV kV doc pm an cdv ct) (body := body) (binds := binds) hroom (X _ _ ho) rfl (T.nolimit.keeps F.keep) (codeRec_of X hcd) rfl hbind hcell hloc (fun h₁ hns hk₁ => ?_) hco hgen hk
  obtain ⟨oL, es, ep, hLg, hLd, hN, hNs, st, B₂⟩ := enterX B F N hA hck
  have only : ∀ b, b ∈ [envX cn cs L a ccd cl].filterMap (·.frame) → b = L := fun b hb => by
    obtain ⟨env, he, hf⟩ := List.mem_filterMap.mp hb
    rcases List.mem_cons.mp he with rfl | he
    · exact (Option.some.inj hf).symm
    · cases he
  refine wpAny_mono (h _ s.heap.objs.size h₁ ⟨hN _ hLg, st, F.above⟩ ⟨hns, fun b o e => hk₁ b o (of_hideAll _ e), Nat.le_of_eq (hideAll_size _ _)⟩
    (fun p hp => ⟨hk₁ _ _ (N p hp).1, Nat.ne_of_lt (Heap.lt_size (N p hp).1), hideAll_none _ (List.mem_map_of_mem hp)⟩) B₂ (X₀.keeps st) (T.keeps st) (fun b hb => by
      rw [only b hb]
      exact ⟨oL, es, ep, hLg, hLd⟩)) (fun fl s' hl => ?_) fun _ _ y => y
  obtain ⟨g', L', m', news', T', F', N', k⟩ := hl
  have nL₀ : h₀.get? L = none := kts_self F
  obtain ⟨sl, hs⟩ := T'.up hLg
  refine k ⟨hNs sl _ (F'.keep _ _ hs), fun b o e => F'.keep b o (T'.other b o (st b o e) (fun q => by
    rw [only b q, nL₀] at e
    cases e)), F.above⟩ fun p hp => ⟨(N' p hp).1, fun q => ?_, ?_⟩
  · have := (N' p hp).2.2; rw [q, hs] at this; cases this
  · cases q : h₀.get? p.1 with
    | none => rfl
    | some o =>
      obtain ⟨sl', hs'⟩ := T'.up (st _ _ q)
      have := (N' p hp).2.2
      rw [hs'] at this
      cases this
end
end Mine
end
section
open PySem PySem.W PySem.Calls PyProof.Rows
namespace Mine
structure Task (w : World) (f : Addr) (n : Int) (news : List (Addr × Obj)) : Prop where
  fn : ∃ o fd, (f, o) ∈ news ∧ o.data = .func fd
  run : ∀ {mean : ExcName → Option Value} {mg mb : Str → Option Value} {dp un : Nat} {gd : Option (List Code)} {cn : Str} {cs : Scope} {a : Addr} {ccd : Value} {cl : List (Str × Addr)} {outer : List Env} {A₀ : Around} {base h₀ : Heap} {L : Addr} {m : Str → Option Value} {s : Shared} {Q E : Value → Shared → Prop},
    Below A₀ base outer h₀ → Fr h₀ L s.heap m → (hd.heap_39 w.params).In h₀ → News h₀ L s.heap news → Top topProg LL mean mg mb h₀ → cs.kind = .function →
    dp < 330 → un < 300 → ErrTo base h₀ L m (envX cn cs L a ccd cl :: outer) news n E s →
    wpAny (model PySem.Challenge.rw_pf0367_01.row.prog w) (ktrTop dp un gd cn cs L a ccd cl outer) (call (.ref f) []) Q E s
theorem task_use {w : World} {f : Addr} {n : Int} {news : List (Addr × Obj)} (t : Task w f n news) {mean : ExcName → Option Value} {mg mb : Str → Option Value} {dp un : Nat} {gd : Option (List Code)} {cn : Str} {cs : Scope} {a : Addr} {ccd : Value} {cl : List (Str × Addr)} {outer : List Env} {A₀ : Around} {base h₀ : Heap} {L : Addr} {m : Str → Option Value} {s : Shared} {Q E : Value → Shared → Prop}
    (B : Below A₀ base outer h₀) (F : Fr h₀ L s.heap m) (X : (hd.heap_39 w.params).In h₀) (N : News h₀ L s.heap news) (T : Top topProg LL mean mg mb h₀) (hk : cs.kind = .function) (hdp : dp < 330) (hun : un < 300)
    (ret : ErrTo base h₀ L m (envX cn cs L a ccd cl :: outer) news n E s) : wpAny (model PySem.Challenge.rw_pf0367_01.row.prog w) (ktrTop dp un gd cn cs L a ccd cl outer) (call (.ref f) []) Q E s := t.run B F X N T hk hdp hun ret
def FnP (f : Addr) (h : Heap) : Prop := ∃ o fd, h.get? f = some o ∧ o.data = .func fd
theorem keeps_F {M : Model} {f : Addr} (h : Heap) (X : FnP f h) : ∃ k, (k = Keeper.frame ∨ k = Keeper.machine ∨ k = Keeper.boundFrame) ∧ Looks M h (keeperOf (.ref f)) k := by
  obtain ⟨⟨c, d, dt, sl⟩, fd, ho, hd⟩ := X
  dsimp only at hd
  subst hd
  exact ⟨.frame, .inl rfl, (Looks.ld (part := none) ho).andThen .now⟩
theorem callWith_F0 {M : Model} {A : Around} {E : Value → Shared → Prop} {s : Shared} {env : Env} {pos : Pos} {first : List Value} {Q : Value → Shared → Prop} {f : Addr} {h₀ : Heap} {L : Addr} {w : World} {n : Int} {news : List (Addr × Obj)} (t : Task w f n news) (N : News h₀ L s.heap news) (h : wpAny M A (call (.ref f) (first ++ [])) Q E s) : wpAny M A (callWith pos (.ref f) first (backTo pos (starEach [] env)) []) Q E s := by
  obtain ⟨o, fd, hm, hd⟩ := t.fn
  exact callWith_of rfl keeps_F (evalArgs_nil3 ⟨⟨o, fd, (N _ hm).1, hd⟩, h⟩)
section
set_option maxRecDepth 100000 in
set_option maxHeartbeats 8000000 in
theorem code_core : ∀ {w : World} {mean : ExcName → Option Value} {mg mb : Str → Option Value} {dp un : Nat} {gd : Option (List Code)} {cn : Str} {cs : Scope} {a : Addr} {ccd : Value} {cl : List (Str × Addr)} {A₀ : Around} {h₀ : Heap} {L : Addr} {m : Str → Option Value} {s : Shared} {Q E : Value → Shared → Prop} {news : List (Addr × Obj)} {f : Addr} {n : Int},
    Below A₀ h₀ [] h₀ → Fr h₀ L s.heap m → (hd.heap_39 w.params).In h₀ → News h₀ L s.heap news → Top topProg LL mean mg mb h₀ → cs.kind = .function →
    dp < 320 → un < 280 → Task w f n news →
    (∀ tk1 h' tk', Fr h₀ L h' m → News h₀ L h' news → Q (.int n tk1) { s with heap := h', toks := tk' }) →
    wpAny (model PySem.Challenge.rw_pf0367_01.row.prog w) (ktrTop dp un gd cn cs L a ccd cl []) (call (.ref 253) [.ref f]) Q E s := by
  k_fill
  w_top off
  intro w mean mg mb dp un gd cn cs a ccd cl A₀ h₀ L m s Q E news f n B F X N T hk hdp hun hT ret
  refine wpAny_call ?_
  (refine' code_defX0 ?k1 ?k2 ?k3 ?k4 ?k5 ?kA ?k6 ?k7 ?k8 ?k9 ?kB ?_ ?cK ?c2 ?c3 ?c4 ?c5; (case kA => exact rfl); (case k2 => k_asm); (case k1 => k_asm); (case k3 => k_asm); (case k4 => k_asm); (case k5 => k_asm); (case k6 => k_is); (case k7 => k_is); (case k8 => ktr_room); (case k9 => first | exact binds_K (by k_in) rfl (by k_is) rfl rfl rfl | exact BindsTo.of_eq rfl | fail "kts_go: no rule for these arguments"); (case kB => exact locs rfl); (case cK => assumption); (case c2 => exact rfl); (case c3 => exact rfl); (case c4 => exact rfl); (case c5 => decide); k_whole; intro g' L' h' FG' F' N' B' X' T' D'; (try dsimp only); (try k_fold))
  repeat' (first | (k_here; (with_reducible show wpAny _ _ (call (Value.ref _) []) _ _ _); (with_reducible rename Task _ _ _ _ => hT9); k_dflt (refine' task_use hT9 ?kB ?kF ?kX ?kN ?kT ?kK ?kd ?ku ?_; (case kB => k_asm); (case kF => k_asm); (case kX => k_asm); (case kN => k_asm); (case kT => k_asm); (case kK => first | exact rfl | assumption); (case kd => ktr_room); (case ku => ktr_units)); intro _ _ _ _ _ _ _ _ _ _ _ _ _ _ _ _ _ _; (try dsimp only)) | (k_here; (with_reducible show wpAny _ _ (getAttr (Value.ref _) _ _) _ _ _); k_dflt (refine' number_use ?F ?X ?N ?he ?hd ?_; (case F => k_asm); (case X => k_asm); (case N => k_asm); (case he => k_mem); (case hd => k_mem)); (try dsimp only)) | (k_here; (with_reducible show wpAny _ _ (noteFrame (Value.ref _) _) _ _ _); k_dflt (refine' caught_D ?R ?D ?F ?K ?U ?XB ?TB ?DD ?T0 ?ex ?q ?_; (case R => assumption); (case D => assumption); (case F => assumption); (case K => assumption); (case U => assumption); (case XB => assumption); (case TB => assumption); (case DD => assumption); (case T0 => exact KtsTurn.refl); (case ex => k_is); (case q => exact err_is _)); intro _ _ _ _ _ _ _ _ _ _ _ _ _; (try dsimp only)) | (k_here; (with_reducible show wpAny _ _ (callWith _ (Value.ref _) _ _ _) _ _ _); (with_reducible rename Task _ _ _ _ => hT9); k_dflt (refine' callWith_F0 hT9 ?N ?_; (case N => k_asm); k_whole; (try dsimp only [List.nil_append, List.append_nil]))) | (k_unfold; (try dsimp only)) | (k_end; wrow_close) | walk1 | (dsimp only; walk1) | (leave1; walk_say "STEP leave1"; try dsimp only) | fail "no step")
  all_goals (try k_data)
  all_goals exact ret _ _ _ (by k_asm) (by first | k_asm | exact KStt.news_of (by assumption) (fun p hp => List.Mem.tail _ (List.Mem.tail _ hp)))
end
end Mine
end
section
open PySem PySem.W PySem.Calls PyProof.Rows
namespace Mine
def EvalRaises (w : World) (f c' : Addr) (qual : Str) (scope : Scope) (body : PySem.Expr) (cl : List (Str × Addr)) (n : Int) (news : List (Addr × Obj)) : Prop :=
  ∀ {mean : ExcName → Option Value} {mg mb : Str → Option Value} {dp un : Nat} {gd : Option (List Code)} {outer : List Env} {A₀ : Around} {base h₀ : Heap} {L : Addr} {m : Str → Option Value} {s : Shared} {Q E : Value → Shared → Prop},
    Below A₀ base outer h₀ → Fr h₀ L s.heap m → (hd.heap_39 w.params).In h₀ → News h₀ L s.heap news → Top topProg LL mean mg mb h₀ →
    dp < 331 → un < 303 → ErrTo base h₀ L m (envX qual scope L f (.ref c') cl :: outer) news n E s →
    wpAny (model PySem.Challenge.rw_pf0367_01.row.prog w) (ktrTop dp un gd qual scope L f (.ref c') cl outer) (eval body (envX qual scope L f (.ref c') cl)) Q E s
theorem task_of {w : World} {news : List (Addr × Obj)} {f c' : Addr} {name qual : Str} {body : PySem.Expr} {scope : Scope} {cl : List (Str × Addr)} {pm ctv : Value} {n : Int} {oc : Obj} {vs : Array Value} {t' : Tok} {params : Arguments}
    (ho : (f, kla_obj name qual params body scope cl pm c' ctv) ∈ news) (hc : (c', oc) ∈ news) (d1 : oc.data = .fields vs) (d2 : vs[1]? = some (.str qual t'))
    (hev : EvalRaises w f c' qual scope body cl n news)
    (hbind : bindArgs (kla_fn name qual params body scope cl pm (.ref c') ctv) ⟨[], []⟩ = pure [])
    (hco : scope.isCoroutine = false) (hgen : scope.isGenerator = false) (hk : scope.kind = .function) (hcell : ∀ x ∈ scope.names, x.2 ≠ .cell) : Task w f n news := by
  refine ⟨⟨_, _, ho, rfl⟩, ?_⟩
  intro mean mg mb dp un gd cn cs a ccd cl' outer A₀ base h₀ L m s Q E B F X N T hck hdp hun ret
  refine wpAny_call (kla_code (env := envX cn cs L a ccd cl') B F X N T rfl rfl hck ho (codeRec_news N hc d1 d2) ?_ hbind (fun _ h => nomatch h) ?_ hco hgen hk hcell)
  · show dp < recursionLimit
    simp only [recursionLimit]; omega
  · intro g L' h₁ FG F' N' B' X' T'
    refine hev B' F' X' N' T' (by show dp + 1 < 331; omega) ?_ fun G h' tk' e d t vs x h1 h2 t1 t2 t3 t4 FG2 R D U => ?_
    · show un + 3 < 303
      omega
    · exact leave_next B' FG2 R D U fun h' R _ D U => ret _ _ _ _ _ _ _ _ _ _ _ _ _ _ FG R D U
structure TaskRet (w : World) (f : Addr) (news : List (Addr × Obj)) : Prop where
  fn : ∃ o fd, (f, o) ∈ news ∧ o.data = .func fd
  run : ∀ {mean : ExcName → Option Value} {mg mb : Str → Option Value} {dp un : Nat} {gd : Option (List Code)} {cn : Str} {cs : Scope} {a : Addr} {ccd : Value} {cl : List (Str × Addr)} {outer : List Env} {A₀ : Around} {base h₀ : Heap} {L : Addr} {m : Str → Option Value} {s : Shared} {Q E : Value → Shared → Prop},
    Below A₀ base outer h₀ → Fr h₀ L s.heap m → (hd.heap_39 w.params).In h₀ → News h₀ L s.heap news → Top topProg LL mean mg mb h₀ → cs.kind = .function →
    dp < 330 → un < 300 → (∀ v h' tk', Fr h₀ L h' m → News h₀ L h' news → Q v { s with heap := h', toks := tk' }) →
    wpAny (model PySem.Challenge.rw_pf0367_01.row.prog w) (ktrTop dp un gd cn cs L a ccd cl outer) (call (.ref f) []) Q E s
def RetTo (h₀ : Heap) (L : Addr) (news : List (Addr × Obj)) (Q : Value → Shared → Prop) (s : Shared) : Prop := ∀ v h' m' tk', Fr h₀ L h' m' → News h₀ L h' news → Q v { s with heap := h', toks := tk' }
def EvalRets (w : World) (f c' : Addr) (qual : Str) (scope : Scope) (body : PySem.Expr) (cl : List (Str × Addr)) (news : List (Addr × Obj)) : Prop :=
  ∀ {mean : ExcName → Option Value} {mg mb : Str → Option Value} {dp un : Nat} {gd : Option (List Code)} {outer : List Env} {A₀ : Around} {base h₀ : Heap} {L : Addr} {m : Str → Option Value} {s : Shared} {Q E : Value → Shared → Prop},
    Below A₀ base outer h₀ → Fr h₀ L s.heap m → (hd.heap_39 w.params).In h₀ → News h₀ L s.heap news → Top topProg LL mean mg mb h₀ →
    dp < 331 → un < 303 → RetTo h₀ L news Q s →
    wpAny (model PySem.Challenge.rw_pf0367_01.row.prog w) (ktrTop dp un gd qual scope L f (.ref c') cl outer) (eval body (envX qual scope L f (.ref c') cl)) Q E s
theorem task_ret_of {w : World} {news : List (Addr × Obj)} {f c' : Addr} {name qual : Str} {body : PySem.Expr} {scope : Scope} {cl : List (Str × Addr)} {pm ctv : Value} {oc : Obj} {vs : Array Value} {t' : Tok} {params : Arguments}
    (ho : (f, kla_obj name qual params body scope cl pm c' ctv) ∈ news) (hc : (c', oc) ∈ news) (d1 : oc.data = .fields vs) (d2 : vs[1]? = some (.str qual t'))
    (hev : EvalRets w f c' qual scope body cl news)
    (hbind : bindArgs (kla_fn name qual params body scope cl pm (.ref c') ctv) ⟨[], []⟩ = pure [])
    (hco : scope.isCoroutine = false) (hgen : scope.isGenerator = false) (hk : scope.kind = .function) (hcell : ∀ x ∈ scope.names, x.2 ≠ .cell) : TaskRet w f news := by
  refine ⟨⟨_, _, ho, rfl⟩, ?_⟩
  intro mean mg mb dp un gd cn cs a ccd cl' outer A₀ base h₀ L m s Q E B F X N T hck hdp hun ret
  refine wpAny_call (kla_code (env := envX cn cs L a ccd cl') B F X N T rfl rfl hck ho (codeRec_news N hc d1 d2) ?_ hbind (fun _ h => nomatch h) ?_ hco hgen hk hcell)
  · show dp < recursionLimit
    simp only [recursionLimit]; omega
  · intro g L' h₁ FG F' N' B' X' T'
    refine hev B' F' X' N' T' (by show dp + 1 < 331; omega) ?_ fun v h' m' tk' F2 N2 => ?_
    · show un + 3 < 303
      omega
    · exact leaveK_ F2 N2 fun F3 N3 => ret _ _ _ F3 N3
theorem ret_use {w : World} {f : Addr} {news : List (Addr × Obj)} (t : TaskRet w f news) {mean : ExcName → Option Value} {mg mb : Str → Option Value} {dp un : Nat} {gd : Option (List Code)} {cn : Str} {cs : Scope} {a : Addr} {ccd : Value} {cl : List (Str × Addr)} {outer : List Env} {A₀ : Around} {base h₀ : Heap} {L : Addr} {m : Str → Option Value} {s : Shared} {Q E : Value → Shared → Prop}
    (B : Below A₀ base outer h₀) (F : Fr h₀ L s.heap m) (X : (hd.heap_39 w.params).In h₀) (N : News h₀ L s.heap news) (T : Top topProg LL mean mg mb h₀) (hk : cs.kind = .function) (hdp : dp < 330) (hun : un < 300)
    (ret : ∀ v h' tk', Fr h₀ L h' m → News h₀ L h' news → Q v { s with heap := h', toks := tk' }) : wpAny (model PySem.Challenge.rw_pf0367_01.row.prog w) (ktrTop dp un gd cn cs L a ccd cl outer) (call (.ref f) []) Q E s := t.run B F X N T hk hdp hun ret
theorem callWith_F1 {M : Model} {A : Around} {E : Value → Shared → Prop} {s : Shared} {env : Env} {pos : Pos} {first : List Value} {Q : Value → Shared → Prop} {f : Addr} {h₀ : Heap} {L : Addr} {w : World} {news : List (Addr × Obj)} (t : TaskRet w f news) (N : News h₀ L s.heap news) (h : wpAny M A (call (.ref f) (first ++ [])) Q E s) : wpAny M A (callWith pos (.ref f) first (backTo pos (starEach [] env)) []) Q E s := by
  obtain ⟨o, fd, hm, hd⟩ := t.fn
  exact callWith_of rfl keeps_F (evalArgs_nil3 ⟨⟨o, fd, (N _ hm).1, hd⟩, h⟩)
section
set_option maxRecDepth 100000 in
set_option maxHeartbeats 8000000 in
theorem code_ret : ∀ {w : World} {mean : ExcName → Option Value} {mg mb : Str → Option Value} {dp un : Nat} {gd : Option (List Code)} {cn : Str} {cs : Scope} {a : Addr} {ccd : Value} {cl : List (Str × Addr)} {A₀ : Around} {h₀ : Heap} {L : Addr} {m : Str → Option Value} {s : Shared} {Q E : Value → Shared → Prop} {news : List (Addr × Obj)} {f : Addr},
    Below A₀ h₀ [] h₀ → Fr h₀ L s.heap m → (hd.heap_39 w.params).In h₀ → News h₀ L s.heap news → Top topProg LL mean mg mb h₀ → cs.kind = .function →
    dp < 320 → un < 280 → TaskRet w f news →
    (∀ tk1 h' tk', Fr h₀ L h' m → News h₀ L h' news → Q (.int 0 tk1) { s with heap := h', toks := tk' }) →
    wpAny (model PySem.Challenge.rw_pf0367_01.row.prog w) (ktrTop dp un gd cn cs L a ccd cl []) (call (.ref 253) [.ref f]) Q E s := by
  k_fill
  w_top off
  intro w mean mg mb dp un gd cn cs a ccd cl A₀ h₀ L m s Q E news f B F X N T hk hdp hun hT ret
  refine wpAny_call ?_
  (refine' code_defX0 ?k1 ?k2 ?k3 ?k4 ?k5 ?kA ?k6 ?k7 ?k8 ?k9 ?kB ?_ ?cK ?c2 ?c3 ?c4 ?c5; (case kA => exact rfl); (case k2 => k_asm); (case k1 => k_asm); (case k3 => k_asm); (case k4 => k_asm); (case k5 => k_asm); (case k6 => k_is); (case k7 => k_is); (case k8 => ktr_room); (case k9 => first | exact binds_K (by k_in) rfl (by k_is) rfl rfl rfl | exact BindsTo.of_eq rfl | fail "kts_go: no rule for these arguments"); (case kB => exact locs rfl); (case cK => assumption); (case c2 => exact rfl); (case c3 => exact rfl); (case c4 => exact rfl); (case c5 => decide); k_whole; intro g' L' h' FG' F' N' B' X' T' D'; (try dsimp only); (try k_fold))
  repeat' (first | (k_here; (with_reducible show wpAny _ _ (call (Value.ref _) []) _ _ _); (with_reducible rename TaskRet _ _ _ => hT9); k_dflt (refine' ret_use hT9 ?kB ?kF ?kX ?kN ?kT ?kK ?kd ?ku ?_; (case kB => k_asm); (case kF => k_asm); (case kX => k_asm); (case kN => k_asm); (case kT => k_asm); (case kK => first | exact rfl | assumption); (case kd => ktr_room); (case ku => ktr_units)); intro _ _ _ _ _; (try dsimp only)) | (k_here; (with_reducible show wpAny _ _ (callWith _ (Value.ref _) _ _ _) _ _ _); (with_reducible rename TaskRet _ _ _ => hT9); k_dflt (refine' callWith_F1 hT9 ?N ?_; (case N => k_asm); k_whole; (try dsimp only [List.nil_append, List.append_nil]))) | (k_unfold; (try dsimp only)) | (k_end; wrow_close) | walk1 | (dsimp only; walk1) | (leave1; walk_say "STEP leave1"; try dsimp only) | fail "no step")
  all_goals (try k_data)
  all_goals exact ret _ _ _ (by k_asm) (by k_asm)
end
end Mine
end
section
open PySem PySem.W PySem.Calls PyProof.Rows
namespace Mine
/-- two entries of one ledger with different objects lie apart -/
theorem ne_obj {h₀ h : Heap} {L : Addr} {news : List (Addr × Obj)} (N : News h₀ L h news) {p : Addr × Obj} {d : Addr} {o : Obj} (hp : p ∈ news) (ht : (d, o) ∈ news) (hd : p.2 ≠ o) : p.1 ≠ d := fun e => hd (by
  have h1 := (N p hp).1
  have h2 := (N _ ht).1
  rw [e] at h1
  exact Option.some.inj (h1.symm.trans h2))
theorem tab_data {o : Obj} {ps : Array Value} (h : ∀ vs, o.data ≠ .fields vs) : o ≠ tabObj ps := fun e => h ps (by rw [e])
theorem tab_cls {o : Obj} {ps : Array Value} (h : o.cls ≠ .none) : o ≠ tabObj ps := fun e => h (by rw [e])
theorem tab_cell {o : Obj} {ps : Array Value} {u : Option Value} (h : o.data = .cell u) : o ≠ tabObj ps := fun e => by rw [e] at h; cases h
theorem cls_inst (c d : Addr) : (instObj c d).cls ≠ .none := fun h => by cases h
theorem cls_dict (es : List DictEntry) (n : Nat) : (dictOf es n).cls ≠ .none := fun h => by cases h
theorem cls_list (vs : Array Value) (n : Nat) : (listOf vs n).cls ≠ .none := fun h => by cases h
theorem cls_tup (vs : Array Value) (n : Nat) : (tupO vs n).cls ≠ .none := fun h => by cases h
theorem cls_kla {name qual : Str} {params : Arguments} {body : PySem.Expr} {scope : Scope} {clos : List (Str × Addr)} {pm : Value} {c' : Addr} {ctv : Value} : (kla_obj name qual params body scope clos pm c' ctv).cls ≠ .none := fun h => by cases h
end Mine
end
section
open PySem PySem.W PySem.Calls PyProof.Rows
namespace Mine
theorem patIn_ref {l : List (Addr × Obj)} {v : Value} {p : Pat} (h : PatIn l v p) : ∃ y, v = .ref y := by
  cases h <;> exact ⟨_, rfl⟩
theorem ret_to {h₀ : Heap} {L : Addr} {news big : List (Addr × Obj)} {Q : Value → Shared → Prop} {s : Shared} {v : Value} {h1 : Heap} {m1 : Str → Option Value} {tk1 : Tok} (h : RetTo h₀ L news Q s) (F : Fr h₀ L h1 m1) (N : News h₀ L h1 big) (hs : ∀ p ∈ news, p ∈ big) : Q v { s with heap := h1, toks := tk1 } := h _ _ _ _ F (KStt.news_of N hs)
section
local macro_rules | `(tactic| ktd_sub) => `(tactic| ((repeat (refine List.forall_mem_cons.mpr ⟨by k_mem, ?_⟩)); first | exact List.forall_mem_nil _ | (intro p9 h9; (repeat (first | exact h9 | refine List.Mem.tail _ ?_)))))
local macro_rules | `(tactic| k_room) => `(tactic| ktr_room)
set_option maxRecDepth 100000 in
set_option maxHeartbeats 8000000 in
theorem ev_1 : ∀ {w : World} {f c' : Addr} {qual : Str} {news : List (Addr × Obj)} {p1 p2 p3 : Pos} {x dx : Addr} {o1 o2 o3 o4 o5 : Tok} {c : Addr} {co : Obj} , (x, instObj 96 dx) ∈ news → (dx, xDict w o1 o2 o3 o4 o5) ∈ news → (c, co) ∈ news → co.data = .cell (some (.ref x)) → ∀ {mean : ExcName → Option Value} {mg mb : Str → Option Value} {dp un : Nat} {gd : Option (List Code)} {outer : List Env} {A₀ : Around} {base h₀ : Heap} {L : Addr} {m : Str → Option Value} {s : Shared} {Q E : Value → Shared → Prop}, Below A₀ base outer h₀ → Fr h₀ L s.heap m → (hd.heap_39 w.params).In h₀ → News h₀ L s.heap news → Top topProg LL mean mg mb h₀ → dp < 331 → un < 303 → ErrTo base h₀ L m (envX qual { kind := PySem.ScopeKind.function, names := [(PySem.Str.ofString "ref", PySem.NameKind.free), (PySem.Str.ofString "arbno_node", PySem.NameKind.globalImplicit)], isGenerator := false, isCoroutine := false, more := [] } L f (.ref c') [((PySem.Str.ofString "ref"), c)] :: outer) news 1 E s → wpAny (model PySem.Challenge.rw_pf0367_01.row.prog w) (ktrTop dp un gd qual { kind := PySem.ScopeKind.function, names := [(PySem.Str.ofString "ref", PySem.NameKind.free), (PySem.Str.ofString "arbno_node", PySem.NameKind.globalImplicit)], isGenerator := false, isCoroutine := false, more := [] } L f (.ref c') [((PySem.Str.ofString "ref"), c)] outer) (eval (PySem.Expr.Call (PySem.Expr.Name "arbno_node" p1) [PySem.Expr.Name "ref" p2] [] p3) (envX qual { kind := PySem.ScopeKind.function, names := [(PySem.Str.ofString "ref", PySem.NameKind.free), (PySem.Str.ofString "arbno_node", PySem.NameKind.globalImplicit)], isGenerator := false, isCoroutine := false, more := [] } L f (.ref c') [((PySem.Str.ofString "ref"), c)])) Q E s := by
  k_fill
  w_top off
  intro w f c' qual news p1 p2 p3 x dx o1 o2 o3 o4 o5 c co hx hdx hc hcd mean mg mb dp un gd outer A₀ base h₀ L m s Q E B F X N T hdp hun ret
  repeat' (first | (fail_if_success (fail)); (first | ((with_reducible show wpAny _ _ (call (Value.ref _) _) _ _ _); first | (k_here; (with_reducible show wpAny _ _ (call (Value.ref 166) [_, _]) _ _ _); k_dflt (refine' count_text ?kB ?kF ?kX ?kN ?kT ?kK ?kd ?ku ?hl ?ret; (case ret => assumption); (case kB => k_asm); (case kF => k_asm); (case kX => k_asm); (case kN => k_asm); (case kT => k_asm); (case kK => first | exact rfl | assumption); (case kd => ktr_room); (case ku => ktr_units); (case hl => assumption))) | (k_here; (with_reducible show wpAny _ _ (call (Value.ref 166) [_, _]) _ _ _); k_dflt (refine' count_neg ?kB ?kF ?kX ?kN ?kT ?kK ?kd ?ku ?hneg ?ret; (case ret => assumption); (case kB => k_asm); (case kF => k_asm); (case kX => k_asm); (case kN => k_asm); (case kT => k_asm); (case kK => first | exact rfl | assumption); (case kd => ktr_room); (case ku => ktr_units); (case hneg => omega))) | (k_here; (with_reducible show wpAny _ _ (call (Value.ref 173) [_, _]) _ _ _); k_dflt (refine' signs_empty ?kB ?kF ?kX ?kN ?kT ?kK ?kd ?ku ?ret; (case ret => assumption); (case kB => k_asm); (case kF => k_asm); (case kX => k_asm); (case kN => k_asm); (case kT => k_asm); (case kK => first | exact rfl | assumption); (case kd => ktr_room); (case ku => ktr_units))) | (k_here; (with_reducible show wpAny _ _ (call (Value.ref 173) [_, _]) _ _ _); k_dflt (refine' signs_ref ?kB ?kF ?kX ?kN ?kT ?kK ?kd ?ku ?hx ?hdx ?ret; (case ret => assumption); (case kB => k_asm); (case kF => k_asm); (case kX => k_asm); (case kN => k_asm); (case kT => k_asm); (case kK => first | exact rfl | assumption); (case kd => ktr_room); (case ku => ktr_units); (case hx => k_mem); (case hdx => k_mem))) | (k_here; (with_reducible show wpAny _ _ (call (Value.ref 180) [_]) _ _ _); k_dflt (refine' arbno_raises ?kB ?kF ?kX ?kN ?kT ?kK ?kd ?ku ?hx ?hdx ?ret; (case ret => assumption); (case kB => k_asm); (case kF => k_asm); (case kX => k_asm); (case kN => k_asm); (case kT => k_asm); (case kK => first | exact rfl | assumption); (case kd => ktr_room); (case ku => ktr_units); (case hx => k_mem); (case hdx => k_mem))) | (k_here; (with_reducible show wpAny _ _ (call (Value.ref 166) [_, _]) _ _ _); k_dflt (refine wpAny_call ?_; refine' code_def ?k1 ?k2 ?k3 ?k4 ?k5 ?kA ?kF ?kK ?k6 ?k7 ?k8 ?k9 ?kB ?_ ?c2 ?c3 ?c4 ?c5; (case kA => exact rfl); (case kF => exact rfl); (case kK => first | exact rfl | assumption); (case k1 => k_asm); (case k2 => k_asm); (case k3 => k_asm); (case k4 => k_asm); (case k5 => k_asm); (case k6 => k_is); (case k7 => k_is); (case k8 => ktr_room); (case k9 => exact BindsTo.of_eq rfl); (case c5 => decide); (case kB => exact locs rfl); (case c2 => exact rfl); (case c3 => exact rfl); (case c4 => exact rfl); k_whole; intro _ _ _ _ _ _ _ _ _; (try dsimp only); (try k_fold))) | (k_here; (with_reducible show wpAny _ _ (call (Value.ref 187) [_]) _ _ _); k_dflt (refine wpAny_call ?_; refine' code_def ?k1 ?k2 ?k3 ?k4 ?k5 ?kA ?kF ?kK ?k6 ?k7 ?k8 ?k9 ?kB ?_ ?c2 ?c3 ?c4 ?c5; (case kA => exact rfl); (case kF => exact rfl); (case kK => first | exact rfl | assumption); (case k1 => k_asm); (case k2 => k_asm); (case k3 => k_asm); (case k4 => k_asm); (case k5 => k_asm); (case k6 => k_is); (case k7 => k_is); (case k8 => ktr_room); (case k9 => exact BindsTo.of_eq rfl); (case c5 => decide); (case kB => exact locs rfl); (case c2 => exact rfl); (case c3 => exact rfl); (case c4 => exact rfl); k_whole; intro _ _ _ _ _ _ _ _ _; (try dsimp only); (try k_fold))) | (k_here; (with_reducible show wpAny _ _ (call (Value.ref 180) [_]) _ _ _); k_dflt (refine wpAny_call ?_; refine' code_def ?k1 ?k2 ?k3 ?k4 ?k5 ?kA ?kF ?kK ?k6 ?k7 ?k8 ?k9 ?kB ?_ ?c2 ?c3 ?c4 ?c5; (case kA => exact rfl); (case kF => exact rfl); (case kK => first | exact rfl | assumption); (case k1 => k_asm); (case k2 => k_asm); (case k3 => k_asm); (case k4 => k_asm); (case k5 => k_asm); (case k6 => k_is); (case k7 => k_is); (case k8 => ktr_room); (case k9 => exact BindsTo.of_eq rfl); (case c5 => decide); (case kB => exact locs rfl); (case c2 => exact rfl); (case c3 => exact rfl); (case c4 => exact rfl); k_whole; intro _ _ _ _ _ _ _ _ _; (try dsimp only); (try k_fold)))) | (k_here; (with_reducible show wpAny _ _ (eval (Expr.Name _ _) _) _ _ _); k_dflt (refine' nameX_F ?N ?c ?m ?d ?_ ?a ?b; (case a => rfl); (case b => rfl); (case N => k_asm); (case c => rfl); (case m => k_mem); (case d => k_asm); k_whole)) | (k_unfold; (try dsimp only)) | (k_end; wrow_close) | walk1 | (dsimp only; walk1) | (leave1; walk_say "STEP leave1"; try dsimp only) | fail "no step"))
  all_goals (try k_data)
  all_goals (first | done | w_report)
theorem evc_1 {w : World} {f c' : Addr} {qual : Str} {news : List (Addr × Obj)} {p1 p2 p3 : Pos} {x dx : Addr} {o1 o2 o3 o4 o5 : Tok} {c : Addr} {co : Obj} (hx : (x, instObj 96 dx) ∈ news) (hdx : (dx, xDict w o1 o2 o3 o4 o5) ∈ news) (hc : (c, co) ∈ news) (hcd : co.data = .cell (some (.ref x))) : EvalRaises w f c' qual { kind := PySem.ScopeKind.function, names := [(PySem.Str.ofString "ref", PySem.NameKind.free), (PySem.Str.ofString "arbno_node", PySem.NameKind.globalImplicit)], isGenerator := false, isCoroutine := false, more := [] } (PySem.Expr.Call (PySem.Expr.Name "arbno_node" p1) [PySem.Expr.Name "ref" p2] [] p3) [((PySem.Str.ofString "ref"), c)] 1 news := fun B F X N T hdp hun ret => ev_1 hx hdx hc hcd B F X N T hdp hun ret
set_option maxRecDepth 100000 in
set_option maxHeartbeats 8000000 in
theorem ev_2 : ∀ {w : World} {f c' : Addr} {qual : Str} {news : List (Addr × Obj)} {p1 p2 p3 p4 p5 : Pos} {c : Addr} {co : Obj} {v : Value} {tl : List (Addr × Obj)} {p : Pat} , PatIn tl v p → (c, co) ∈ news → co.data = .cell (some v) → ∀ {mean : ExcName → Option Value} {mg mb : Str → Option Value} {dp un : Nat} {gd : Option (List Code)} {outer : List Env} {A₀ : Around} {base h₀ : Heap} {L : Addr} {m : Str → Option Value} {s : Shared} {Q E : Value → Shared → Prop}, Below A₀ base outer h₀ → Fr h₀ L s.heap m → (hd.heap_39 w.params).In h₀ → News h₀ L s.heap news → Top topProg LL mean mg mb h₀ → dp < 331 → un < 303 → RetTo h₀ L news Q s → wpAny (model PySem.Challenge.rw_pf0367_01.row.prog w) (ktrTop dp un gd qual { kind := PySem.ScopeKind.function, names := [(PySem.Str.ofString "node", PySem.NameKind.free), (PySem.Str.ofString "arbno_node", PySem.NameKind.globalImplicit), (PySem.Str.ofString "Pattern", PySem.NameKind.globalImplicit)], isGenerator := false, isCoroutine := false, more := [] } L f (.ref c') [((PySem.Str.ofString "node"), c)] outer) (eval (PySem.Expr.Call (PySem.Expr.Name "arbno_node" p1) [PySem.Expr.Call (PySem.Expr.Name "Pattern" p2) [PySem.Expr.Name "node" p3] [] p4] [] p5) (envX qual { kind := PySem.ScopeKind.function, names := [(PySem.Str.ofString "node", PySem.NameKind.free), (PySem.Str.ofString "arbno_node", PySem.NameKind.globalImplicit), (PySem.Str.ofString "Pattern", PySem.NameKind.globalImplicit)], isGenerator := false, isCoroutine := false, more := [] } L f (.ref c') [((PySem.Str.ofString "node"), c)])) Q E s := by
  k_fill
  w_top off
  intro w f c' qual news p1 p2 p3 p4 p5 c co v tl p hP hc hcd mean mg mb dp un gd outer A₀ base h₀ L m s Q E B F X N T hdp hun ret
  obtain ⟨y, rfl⟩ := patIn_ref hP
  repeat' (first | (fail_if_success (fail)); (first | ((with_reducible show wpAny _ _ (call (Value.ref _) _) _ _ _); first | (k_here; (with_reducible show wpAny _ _ (call (Value.ref 166) [_, _]) _ _ _); k_dflt (refine' count_text ?kB ?kF ?kX ?kN ?kT ?kK ?kd ?ku ?hl ?ret; (case ret => assumption); (case kB => k_asm); (case kF => k_asm); (case kX => k_asm); (case kN => k_asm); (case kT => k_asm); (case kK => first | exact rfl | assumption); (case kd => ktr_room); (case ku => ktr_units); (case hl => assumption))) | (k_here; (with_reducible show wpAny _ _ (call (Value.ref 166) [_, _]) _ _ _); k_dflt (refine' count_neg ?kB ?kF ?kX ?kN ?kT ?kK ?kd ?ku ?hneg ?ret; (case ret => assumption); (case kB => k_asm); (case kF => k_asm); (case kX => k_asm); (case kN => k_asm); (case kT => k_asm); (case kK => first | exact rfl | assumption); (case kd => ktr_room); (case ku => ktr_units); (case hneg => omega))) | (k_here; (with_reducible show wpAny _ _ (call (Value.ref 173) [_, _]) _ _ _); k_dflt (refine' signs_empty ?kB ?kF ?kX ?kN ?kT ?kK ?kd ?ku ?ret; (case ret => assumption); (case kB => k_asm); (case kF => k_asm); (case kX => k_asm); (case kN => k_asm); (case kT => k_asm); (case kK => first | exact rfl | assumption); (case kd => ktr_room); (case ku => ktr_units))) | (k_here; (with_reducible show wpAny _ _ (call (Value.ref 173) [_, _]) _ _ _); k_dflt (refine' signs_ref ?kB ?kF ?kX ?kN ?kT ?kK ?kd ?ku ?hx ?hdx ?ret; (case ret => assumption); (case kB => k_asm); (case kF => k_asm); (case kX => k_asm); (case kN => k_asm); (case kT => k_asm); (case kK => first | exact rfl | assumption); (case kd => ktr_room); (case ku => ktr_units); (case hx => k_mem); (case hdx => k_mem))) | (k_here; (with_reducible show wpAny _ _ (call (Value.ref 180) [_]) _ _ _); k_dflt (refine' arbno_raises ?kB ?kF ?kX ?kN ?kT ?kK ?kd ?ku ?hx ?hdx ?ret; (case ret => assumption); (case kB => k_asm); (case kF => k_asm); (case kX => k_asm); (case kN => k_asm); (case kT => k_asm); (case kK => first | exact rfl | assumption); (case kd => ktr_room); (case ku => ktr_units); (case hx => k_mem); (case hdx => k_mem))) | (k_here; (with_reducible show wpAny _ _ (call (Value.ref 166) [_, _]) _ _ _); k_dflt (refine wpAny_call ?_; refine' code_def ?k1 ?k2 ?k3 ?k4 ?k5 ?kA ?kF ?kK ?k6 ?k7 ?k8 ?k9 ?kB ?_ ?c2 ?c3 ?c4 ?c5; (case kA => exact rfl); (case kF => exact rfl); (case kK => first | exact rfl | assumption); (case k1 => k_asm); (case k2 => k_asm); (case k3 => k_asm); (case k4 => k_asm); (case k5 => k_asm); (case k6 => k_is); (case k7 => k_is); (case k8 => ktr_room); (case k9 => exact BindsTo.of_eq rfl); (case c5 => decide); (case kB => exact locs rfl); (case c2 => exact rfl); (case c3 => exact rfl); (case c4 => exact rfl); k_whole; intro _ _ _ _ _ _ _ _ _; (try dsimp only); (try k_fold))) | (k_here; (with_reducible show wpAny _ _ (call (Value.ref 187) [_]) _ _ _); k_dflt (refine wpAny_call ?_; refine' code_def ?k1 ?k2 ?k3 ?k4 ?k5 ?kA ?kF ?kK ?k6 ?k7 ?k8 ?k9 ?kB ?_ ?c2 ?c3 ?c4 ?c5; (case kA => exact rfl); (case kF => exact rfl); (case kK => first | exact rfl | assumption); (case k1 => k_asm); (case k2 => k_asm); (case k3 => k_asm); (case k4 => k_asm); (case k5 => k_asm); (case k6 => k_is); (case k7 => k_is); (case k8 => ktr_room); (case k9 => exact BindsTo.of_eq rfl); (case c5 => decide); (case kB => exact locs rfl); (case c2 => exact rfl); (case c3 => exact rfl); (case c4 => exact rfl); k_whole; intro _ _ _ _ _ _ _ _ _; (try dsimp only); (try k_fold))) | (k_here; (with_reducible show wpAny _ _ (call (Value.ref 180) [_]) _ _ _); k_dflt (refine wpAny_call ?_; refine' code_def ?k1 ?k2 ?k3 ?k4 ?k5 ?kA ?kF ?kK ?k6 ?k7 ?k8 ?k9 ?kB ?_ ?c2 ?c3 ?c4 ?c5; (case kA => exact rfl); (case kF => exact rfl); (case kK => first | exact rfl | assumption); (case k1 => k_asm); (case k2 => k_asm); (case k3 => k_asm); (case k4 => k_asm); (case k5 => k_asm); (case k6 => k_is); (case k7 => k_is); (case k8 => ktr_room); (case k9 => exact BindsTo.of_eq rfl); (case c5 => decide); (case kB => exact locs rfl); (case c2 => exact rfl); (case c3 => exact rfl); (case c4 => exact rfl); k_whole; intro _ _ _ _ _ _ _ _ _; (try dsimp only); (try k_fold)))) | (k_here; (with_reducible show wpAny _ _ (eval (Expr.Name _ _) _) _ _ _); k_dflt (refine' nameX_F ?N ?c ?m ?d ?_ ?a ?b; (case a => rfl); (case b => rfl); (case N => k_asm); (case c => rfl); (case m => k_mem); (case d => k_asm); k_whole)) | (k_unfold; (try dsimp only)) | (k_end; wrow_close) | walk1 | (dsimp only; walk1) | (leave1; walk_say "STEP leave1"; try dsimp only) | fail "no step"))
  all_goals (try k_data)
  all_goals (with_reducible rename RetTo _ _ _ _ _ => hR9; k_dflt (refine' ret_to hR9 ?eF ?eN ?eS; (case eF => k_asm); (case eN => assumption); (case eS => ktd_sub)))
  all_goals (first | done | w_report)
theorem evc_2 {w : World} {f c' : Addr} {qual : Str} {news : List (Addr × Obj)} {p1 p2 p3 p4 p5 : Pos} {c : Addr} {co : Obj} {v : Value} {tl : List (Addr × Obj)} {p : Pat} (hP : PatIn tl v p) (hc : (c, co) ∈ news) (hcd : co.data = .cell (some v)) : EvalRets w f c' qual { kind := PySem.ScopeKind.function, names := [(PySem.Str.ofString "node", PySem.NameKind.free), (PySem.Str.ofString "arbno_node", PySem.NameKind.globalImplicit), (PySem.Str.ofString "Pattern", PySem.NameKind.globalImplicit)], isGenerator := false, isCoroutine := false, more := [] } (PySem.Expr.Call (PySem.Expr.Name "arbno_node" p1) [PySem.Expr.Call (PySem.Expr.Name "Pattern" p2) [PySem.Expr.Name "node" p3] [] p4] [] p5) [((PySem.Str.ofString "node"), c)] news := fun B F X N T hdp hun ret => ev_2 hP hc hcd B F X N T hdp hun ret
set_option maxRecDepth 100000 in
set_option maxHeartbeats 8000000 in
theorem ev_3 : ∀ {w : World} {f c' : Addr} {qual : Str} {news : List (Addr × Obj)} {p1 p3 p4 : Pos} , ∀ {mean : ExcName → Option Value} {mg mb : Str → Option Value} {dp un : Nat} {gd : Option (List Code)} {outer : List Env} {A₀ : Around} {base h₀ : Heap} {L : Addr} {m : Str → Option Value} {s : Shared} {Q E : Value → Shared → Prop}, Below A₀ base outer h₀ → Fr h₀ L s.heap m → (hd.heap_39 w.params).In h₀ → News h₀ L s.heap news → Top topProg LL mean mg mb h₀ → dp < 331 → un < 303 → ErrTo base h₀ L m (envX qual { kind := PySem.ScopeKind.function, names := [(PySem.Str.ofString "signs_node", PySem.NameKind.globalImplicit)], isGenerator := false, isCoroutine := false, more := [] } L f (.ref c') [] :: outer) news 4 E s → wpAny (model PySem.Challenge.rw_pf0367_01.row.prog w) (ktrTop dp un gd qual { kind := PySem.ScopeKind.function, names := [(PySem.Str.ofString "signs_node", PySem.NameKind.globalImplicit)], isGenerator := false, isCoroutine := false, more := [] } L f (.ref c') [] outer) (eval (PySem.Expr.Call (PySem.Expr.Name "signs_node" p1) [PySem.Expr.Constant (PySem.Const.str "any") 0 p2, PySem.Expr.Constant (PySem.Const.str "") 0 p3] [] p4) (envX qual { kind := PySem.ScopeKind.function, names := [(PySem.Str.ofString "signs_node", PySem.NameKind.globalImplicit)], isGenerator := false, isCoroutine := false, more := [] } L f (.ref c') [])) Q E s := by
  k_fill
  w_top off
  intro w f c' qual news p1 p3 p4   mean mg mb dp un gd outer A₀ base h₀ L m s Q E B F X N T hdp hun ret
  repeat' (first | (fail_if_success (fail)); (first | ((with_reducible show wpAny _ _ (call (Value.ref _) _) _ _ _); first | (k_here; (with_reducible show wpAny _ _ (call (Value.ref 166) [_, _]) _ _ _); k_dflt (refine' count_text ?kB ?kF ?kX ?kN ?kT ?kK ?kd ?ku ?hl ?ret; (case ret => assumption); (case kB => k_asm); (case kF => k_asm); (case kX => k_asm); (case kN => k_asm); (case kT => k_asm); (case kK => first | exact rfl | assumption); (case kd => ktr_room); (case ku => ktr_units); (case hl => assumption))) | (k_here; (with_reducible show wpAny _ _ (call (Value.ref 166) [_, _]) _ _ _); k_dflt (refine' count_neg ?kB ?kF ?kX ?kN ?kT ?kK ?kd ?ku ?hneg ?ret; (case ret => assumption); (case kB => k_asm); (case kF => k_asm); (case kX => k_asm); (case kN => k_asm); (case kT => k_asm); (case kK => first | exact rfl | assumption); (case kd => ktr_room); (case ku => ktr_units); (case hneg => omega))) | (k_here; (with_reducible show wpAny _ _ (call (Value.ref 173) [_, _]) _ _ _); k_dflt (refine' signs_empty ?kB ?kF ?kX ?kN ?kT ?kK ?kd ?ku ?ret; (case ret => assumption); (case kB => k_asm); (case kF => k_asm); (case kX => k_asm); (case kN => k_asm); (case kT => k_asm); (case kK => first | exact rfl | assumption); (case kd => ktr_room); (case ku => ktr_units))) | (k_here; (with_reducible show wpAny _ _ (call (Value.ref 173) [_, _]) _ _ _); k_dflt (refine' signs_ref ?kB ?kF ?kX ?kN ?kT ?kK ?kd ?ku ?hx ?hdx ?ret; (case ret => assumption); (case kB => k_asm); (case kF => k_asm); (case kX => k_asm); (case kN => k_asm); (case kT => k_asm); (case kK => first | exact rfl | assumption); (case kd => ktr_room); (case ku => ktr_units); (case hx => k_mem); (case hdx => k_mem))) | (k_here; (with_reducible show wpAny _ _ (call (Value.ref 180) [_]) _ _ _); k_dflt (refine' arbno_raises ?kB ?kF ?kX ?kN ?kT ?kK ?kd ?ku ?hx ?hdx ?ret; (case ret => assumption); (case kB => k_asm); (case kF => k_asm); (case kX => k_asm); (case kN => k_asm); (case kT => k_asm); (case kK => first | exact rfl | assumption); (case kd => ktr_room); (case ku => ktr_units); (case hx => k_mem); (case hdx => k_mem))) | (k_here; (with_reducible show wpAny _ _ (call (Value.ref 166) [_, _]) _ _ _); k_dflt (refine wpAny_call ?_; refine' code_def ?k1 ?k2 ?k3 ?k4 ?k5 ?kA ?kF ?kK ?k6 ?k7 ?k8 ?k9 ?kB ?_ ?c2 ?c3 ?c4 ?c5; (case kA => exact rfl); (case kF => exact rfl); (case kK => first | exact rfl | assumption); (case k1 => k_asm); (case k2 => k_asm); (case k3 => k_asm); (case k4 => k_asm); (case k5 => k_asm); (case k6 => k_is); (case k7 => k_is); (case k8 => ktr_room); (case k9 => exact BindsTo.of_eq rfl); (case c5 => decide); (case kB => exact locs rfl); (case c2 => exact rfl); (case c3 => exact rfl); (case c4 => exact rfl); k_whole; intro _ _ _ _ _ _ _ _ _; (try dsimp only); (try k_fold))) | (k_here; (with_reducible show wpAny _ _ (call (Value.ref 187) [_]) _ _ _); k_dflt (refine wpAny_call ?_; refine' code_def ?k1 ?k2 ?k3 ?k4 ?k5 ?kA ?kF ?kK ?k6 ?k7 ?k8 ?k9 ?kB ?_ ?c2 ?c3 ?c4 ?c5; (case kA => exact rfl); (case kF => exact rfl); (case kK => first | exact rfl | assumption); (case k1 => k_asm); (case k2 => k_asm); (case k3 => k_asm); (case k4 => k_asm); (case k5 => k_asm); (case k6 => k_is); (case k7 => k_is); (case k8 => ktr_room); (case k9 => exact BindsTo.of_eq rfl); (case c5 => decide); (case kB => exact locs rfl); (case c2 => exact rfl); (case c3 => exact rfl); (case c4 => exact rfl); k_whole; intro _ _ _ _ _ _ _ _ _; (try dsimp only); (try k_fold))) | (k_here; (with_reducible show wpAny _ _ (call (Value.ref 180) [_]) _ _ _); k_dflt (refine wpAny_call ?_; refine' code_def ?k1 ?k2 ?k3 ?k4 ?k5 ?kA ?kF ?kK ?k6 ?k7 ?k8 ?k9 ?kB ?_ ?c2 ?c3 ?c4 ?c5; (case kA => exact rfl); (case kF => exact rfl); (case kK => first | exact rfl | assumption); (case k1 => k_asm); (case k2 => k_asm); (case k3 => k_asm); (case k4 => k_asm); (case k5 => k_asm); (case k6 => k_is); (case k7 => k_is); (case k8 => ktr_room); (case k9 => exact BindsTo.of_eq rfl); (case c5 => decide); (case kB => exact locs rfl); (case c2 => exact rfl); (case c3 => exact rfl); (case c4 => exact rfl); k_whole; intro _ _ _ _ _ _ _ _ _; (try dsimp only); (try k_fold)))) | (k_here; (with_reducible show wpAny _ _ (eval (Expr.Name _ _) _) _ _ _); k_dflt (refine' nameX_F ?N ?c ?m ?d ?_ ?a ?b; (case a => rfl); (case b => rfl); (case N => k_asm); (case c => rfl); (case m => k_mem); (case d => k_asm); k_whole)) | (k_unfold; (try dsimp only)) | (k_end; wrow_close) | walk1 | (dsimp only; walk1) | (leave1; walk_say "STEP leave1"; try dsimp only) | fail "no step"))
  all_goals (try k_data)
  all_goals (first | done | w_report)
theorem evc_3 {w : World} {f c' : Addr} {qual : Str} {news : List (Addr × Obj)} {p1 p3 p4 : Pos} : EvalRaises w f c' qual { kind := PySem.ScopeKind.function, names := [(PySem.Str.ofString "signs_node", PySem.NameKind.globalImplicit)], isGenerator := false, isCoroutine := false, more := [] } (PySem.Expr.Call (PySem.Expr.Name "signs_node" p1) [PySem.Expr.Constant (PySem.Const.str "any") 0 p2, PySem.Expr.Constant (PySem.Const.str "") 0 p3] [] p4) [] 4 news := fun B F X N T hdp hun ret => ev_3  B F X N T hdp hun ret
set_option maxRecDepth 100000 in
set_option maxHeartbeats 8000000 in
theorem ev_4 : ∀ {w : World} {f c' : Addr} {qual : Str} {news : List (Addr × Obj)} {p1 p3 p4 : Pos} {x dx : Addr} {o1 o2 o3 o4 o5 : Tok} {c : Addr} {co : Obj} , (x, instObj 96 dx) ∈ news → (dx, xDict w o1 o2 o3 o4 o5) ∈ news → (c, co) ∈ news → co.data = .cell (some (.ref x)) → ∀ {mean : ExcName → Option Value} {mg mb : Str → Option Value} {dp un : Nat} {gd : Option (List Code)} {outer : List Env} {A₀ : Around} {base h₀ : Heap} {L : Addr} {m : Str → Option Value} {s : Shared} {Q E : Value → Shared → Prop}, Below A₀ base outer h₀ → Fr h₀ L s.heap m → (hd.heap_39 w.params).In h₀ → News h₀ L s.heap news → Top topProg LL mean mg mb h₀ → dp < 331 → un < 303 → ErrTo base h₀ L m (envX qual { kind := PySem.ScopeKind.function, names := [(PySem.Str.ofString "ref", PySem.NameKind.free), (PySem.Str.ofString "signs_node", PySem.NameKind.globalImplicit)], isGenerator := false, isCoroutine := false, more := [] } L f (.ref c') [((PySem.Str.ofString "ref"), c)] :: outer) news 1 E s → wpAny (model PySem.Challenge.rw_pf0367_01.row.prog w) (ktrTop dp un gd qual { kind := PySem.ScopeKind.function, names := [(PySem.Str.ofString "ref", PySem.NameKind.free), (PySem.Str.ofString "signs_node", PySem.NameKind.globalImplicit)], isGenerator := false, isCoroutine := false, more := [] } L f (.ref c') [((PySem.Str.ofString "ref"), c)] outer) (eval (PySem.Expr.Call (PySem.Expr.Name "signs_node" p1) [PySem.Expr.Constant (PySem.Const.str "span") 0 p2, PySem.Expr.Name "ref" p3] [] p4) (envX qual { kind := PySem.ScopeKind.function, names := [(PySem.Str.ofString "ref", PySem.NameKind.free), (PySem.Str.ofString "signs_node", PySem.NameKind.globalImplicit)], isGenerator := false, isCoroutine := false, more := [] } L f (.ref c') [((PySem.Str.ofString "ref"), c)])) Q E s := by
  k_fill
  w_top off
  intro w f c' qual news p1 p3 p4 x dx o1 o2 o3 o4 o5 c co hx hdx hc hcd mean mg mb dp un gd outer A₀ base h₀ L m s Q E B F X N T hdp hun ret
  repeat' (first | (fail_if_success (fail)); (first | ((with_reducible show wpAny _ _ (call (Value.ref _) _) _ _ _); first | (k_here; (with_reducible show wpAny _ _ (call (Value.ref 166) [_, _]) _ _ _); k_dflt (refine' count_text ?kB ?kF ?kX ?kN ?kT ?kK ?kd ?ku ?hl ?ret; (case ret => assumption); (case kB => k_asm); (case kF => k_asm); (case kX => k_asm); (case kN => k_asm); (case kT => k_asm); (case kK => first | exact rfl | assumption); (case kd => ktr_room); (case ku => ktr_units); (case hl => assumption))) | (k_here; (with_reducible show wpAny _ _ (call (Value.ref 166) [_, _]) _ _ _); k_dflt (refine' count_neg ?kB ?kF ?kX ?kN ?kT ?kK ?kd ?ku ?hneg ?ret; (case ret => assumption); (case kB => k_asm); (case kF => k_asm); (case kX => k_asm); (case kN => k_asm); (case kT => k_asm); (case kK => first | exact rfl | assumption); (case kd => ktr_room); (case ku => ktr_units); (case hneg => omega))) | (k_here; (with_reducible show wpAny _ _ (call (Value.ref 173) [_, _]) _ _ _); k_dflt (refine' signs_empty ?kB ?kF ?kX ?kN ?kT ?kK ?kd ?ku ?ret; (case ret => assumption); (case kB => k_asm); (case kF => k_asm); (case kX => k_asm); (case kN => k_asm); (case kT => k_asm); (case kK => first | exact rfl | assumption); (case kd => ktr_room); (case ku => ktr_units))) | (k_here; (with_reducible show wpAny _ _ (call (Value.ref 173) [_, _]) _ _ _); k_dflt (refine' signs_ref ?kB ?kF ?kX ?kN ?kT ?kK ?kd ?ku ?hx ?hdx ?ret; (case ret => assumption); (case kB => k_asm); (case kF => k_asm); (case kX => k_asm); (case kN => k_asm); (case kT => k_asm); (case kK => first | exact rfl | assumption); (case kd => ktr_room); (case ku => ktr_units); (case hx => k_mem); (case hdx => k_mem))) | (k_here; (with_reducible show wpAny _ _ (call (Value.ref 180) [_]) _ _ _); k_dflt (refine' arbno_raises ?kB ?kF ?kX ?kN ?kT ?kK ?kd ?ku ?hx ?hdx ?ret; (case ret => assumption); (case kB => k_asm); (case kF => k_asm); (case kX => k_asm); (case kN => k_asm); (case kT => k_asm); (case kK => first | exact rfl | assumption); (case kd => ktr_room); (case ku => ktr_units); (case hx => k_mem); (case hdx => k_mem))) | (k_here; (with_reducible show wpAny _ _ (call (Value.ref 166) [_, _]) _ _ _); k_dflt (refine wpAny_call ?_; refine' code_def ?k1 ?k2 ?k3 ?k4 ?k5 ?kA ?kF ?kK ?k6 ?k7 ?k8 ?k9 ?kB ?_ ?c2 ?c3 ?c4 ?c5; (case kA => exact rfl); (case kF => exact rfl); (case kK => first | exact rfl | assumption); (case k1 => k_asm); (case k2 => k_asm); (case k3 => k_asm); (case k4 => k_asm); (case k5 => k_asm); (case k6 => k_is); (case k7 => k_is); (case k8 => ktr_room); (case k9 => exact BindsTo.of_eq rfl); (case c5 => decide); (case kB => exact locs rfl); (case c2 => exact rfl); (case c3 => exact rfl); (case c4 => exact rfl); k_whole; intro _ _ _ _ _ _ _ _ _; (try dsimp only); (try k_fold))) | (k_here; (with_reducible show wpAny _ _ (call (Value.ref 187) [_]) _ _ _); k_dflt (refine wpAny_call ?_; refine' code_def ?k1 ?k2 ?k3 ?k4 ?k5 ?kA ?kF ?kK ?k6 ?k7 ?k8 ?k9 ?kB ?_ ?c2 ?c3 ?c4 ?c5; (case kA => exact rfl); (case kF => exact rfl); (case kK => first | exact rfl | assumption); (case k1 => k_asm); (case k2 => k_asm); (case k3 => k_asm); (case k4 => k_asm); (case k5 => k_asm); (case k6 => k_is); (case k7 => k_is); (case k8 => ktr_room); (case k9 => exact BindsTo.of_eq rfl); (case c5 => decide); (case kB => exact locs rfl); (case c2 => exact rfl); (case c3 => exact rfl); (case c4 => exact rfl); k_whole; intro _ _ _ _ _ _ _ _ _; (try dsimp only); (try k_fold))) | (k_here; (with_reducible show wpAny _ _ (call (Value.ref 180) [_]) _ _ _); k_dflt (refine wpAny_call ?_; refine' code_def ?k1 ?k2 ?k3 ?k4 ?k5 ?kA ?kF ?kK ?k6 ?k7 ?k8 ?k9 ?kB ?_ ?c2 ?c3 ?c4 ?c5; (case kA => exact rfl); (case kF => exact rfl); (case kK => first | exact rfl | assumption); (case k1 => k_asm); (case k2 => k_asm); (case k3 => k_asm); (case k4 => k_asm); (case k5 => k_asm); (case k6 => k_is); (case k7 => k_is); (case k8 => ktr_room); (case k9 => exact BindsTo.of_eq rfl); (case c5 => decide); (case kB => exact locs rfl); (case c2 => exact rfl); (case c3 => exact rfl); (case c4 => exact rfl); k_whole; intro _ _ _ _ _ _ _ _ _; (try dsimp only); (try k_fold)))) | (k_here; (with_reducible show wpAny _ _ (eval (Expr.Name _ _) _) _ _ _); k_dflt (refine' nameX_F ?N ?c ?m ?d ?_ ?a ?b; (case a => rfl); (case b => rfl); (case N => k_asm); (case c => rfl); (case m => k_mem); (case d => k_asm); k_whole)) | (k_unfold; (try dsimp only)) | (k_end; wrow_close) | walk1 | (dsimp only; walk1) | (leave1; walk_say "STEP leave1"; try dsimp only) | fail "no step"))
  all_goals (try k_data)
  all_goals (first | done | w_report)
theorem evc_4 {w : World} {f c' : Addr} {qual : Str} {news : List (Addr × Obj)} {p1 p3 p4 : Pos} {x dx : Addr} {o1 o2 o3 o4 o5 : Tok} {c : Addr} {co : Obj} (hx : (x, instObj 96 dx) ∈ news) (hdx : (dx, xDict w o1 o2 o3 o4 o5) ∈ news) (hc : (c, co) ∈ news) (hcd : co.data = .cell (some (.ref x))) : EvalRaises w f c' qual { kind := PySem.ScopeKind.function, names := [(PySem.Str.ofString "ref", PySem.NameKind.free), (PySem.Str.ofString "signs_node", PySem.NameKind.globalImplicit)], isGenerator := false, isCoroutine := false, more := [] } (PySem.Expr.Call (PySem.Expr.Name "signs_node" p1) [PySem.Expr.Constant (PySem.Const.str "span") 0 p2, PySem.Expr.Name "ref" p3] [] p4) [((PySem.Str.ofString "ref"), c)] 1 news := fun B F X N T hdp hun ret => ev_4 hx hdx hc hcd B F X N T hdp hun ret
set_option maxRecDepth 100000 in
set_option maxHeartbeats 8000000 in
theorem ev_5 : ∀ {w : World} {f c' : Addr} {qual : Str} {news : List (Addr × Obj)} {p1 p3 p4 p5 p6 p7 p8 p9 p10 : Pos} {c : Addr} {co : Obj} {x : Str} {tx : Tok} , (c, co) ∈ news → co.data = .cell (some (.str x tx)) → x.length ≤ 4 → ∀ {mean : ExcName → Option Value} {mg mb : Str → Option Value} {dp un : Nat} {gd : Option (List Code)} {outer : List Env} {A₀ : Around} {base h₀ : Heap} {L : Addr} {m : Str → Option Value} {s : Shared} {Q E : Value → Shared → Prop}, Below A₀ base outer h₀ → Fr h₀ L s.heap m → (hd.heap_39 w.params).In h₀ → News h₀ L s.heap news → Top topProg LL mean mg mb h₀ → dp < 331 → un < 303 → ErrTo base h₀ L m (envX qual { kind := PySem.ScopeKind.function, names := [(PySem.Str.ofString "text", PySem.NameKind.free), (PySem.Str.ofString "count_node", PySem.NameKind.globalImplicit), (PySem.Str.ofString "len", PySem.NameKind.globalImplicit)], isGenerator := false, isCoroutine := false, more := [] } L f (.ref c') [((PySem.Str.ofString "text"), c)] :: outer) news 14 E s → wpAny (model PySem.Challenge.rw_pf0367_01.row.prog w) (ktrTop dp un gd qual { kind := PySem.ScopeKind.function, names := [(PySem.Str.ofString "text", PySem.NameKind.free), (PySem.Str.ofString "count_node", PySem.NameKind.globalImplicit), (PySem.Str.ofString "len", PySem.NameKind.globalImplicit)], isGenerator := false, isCoroutine := false, more := [] } L f (.ref c') [((PySem.Str.ofString "text"), c)] outer) (eval (PySem.Expr.Call (PySem.Expr.Name "count_node" p1) [PySem.Expr.Constant (PySem.Const.str "tab") 0 p2, PySem.Expr.BinOp (PySem.Expr.BinOp (PySem.Expr.Constant (PySem.Const.int 0) 0 p3) PySem.Operator.Sub (PySem.Expr.Constant (PySem.Const.int 1) 0 p4) p5) PySem.Operator.Sub (PySem.Expr.Call (PySem.Expr.Name "len" p6) [PySem.Expr.Name "text" p7] [] p8) p9] [] p10) (envX qual { kind := PySem.ScopeKind.function, names := [(PySem.Str.ofString "text", PySem.NameKind.free), (PySem.Str.ofString "count_node", PySem.NameKind.globalImplicit), (PySem.Str.ofString "len", PySem.NameKind.globalImplicit)], isGenerator := false, isCoroutine := false, more := [] } L f (.ref c') [((PySem.Str.ofString "text"), c)])) Q E s := by
  k_fill
  w_top off
  intro w f c' qual news p1 p3 p4 p5 p6 p7 p8 p9 p10 c co x tx  hc hcd hl mean mg mb dp un gd outer A₀ base h₀ L m s Q E B F X N T hdp hun ret
  repeat' (first | (fail_if_success (fail)); (first | ((with_reducible show wpAny _ _ (call (Value.ref _) _) _ _ _); first | (k_here; (with_reducible show wpAny _ _ (call (Value.ref 166) [_, _]) _ _ _); k_dflt (refine' count_text ?kB ?kF ?kX ?kN ?kT ?kK ?kd ?ku ?hl ?ret; (case ret => assumption); (case kB => k_asm); (case kF => k_asm); (case kX => k_asm); (case kN => k_asm); (case kT => k_asm); (case kK => first | exact rfl | assumption); (case kd => ktr_room); (case ku => ktr_units); (case hl => assumption))) | (k_here; (with_reducible show wpAny _ _ (call (Value.ref 166) [_, _]) _ _ _); k_dflt (refine' count_neg ?kB ?kF ?kX ?kN ?kT ?kK ?kd ?ku ?hneg ?ret; (case ret => assumption); (case kB => k_asm); (case kF => k_asm); (case kX => k_asm); (case kN => k_asm); (case kT => k_asm); (case kK => first | exact rfl | assumption); (case kd => ktr_room); (case ku => ktr_units); (case hneg => omega))) | (k_here; (with_reducible show wpAny _ _ (call (Value.ref 173) [_, _]) _ _ _); k_dflt (refine' signs_empty ?kB ?kF ?kX ?kN ?kT ?kK ?kd ?ku ?ret; (case ret => assumption); (case kB => k_asm); (case kF => k_asm); (case kX => k_asm); (case kN => k_asm); (case kT => k_asm); (case kK => first | exact rfl | assumption); (case kd => ktr_room); (case ku => ktr_units))) | (k_here; (with_reducible show wpAny _ _ (call (Value.ref 173) [_, _]) _ _ _); k_dflt (refine' signs_ref ?kB ?kF ?kX ?kN ?kT ?kK ?kd ?ku ?hx ?hdx ?ret; (case ret => assumption); (case kB => k_asm); (case kF => k_asm); (case kX => k_asm); (case kN => k_asm); (case kT => k_asm); (case kK => first | exact rfl | assumption); (case kd => ktr_room); (case ku => ktr_units); (case hx => k_mem); (case hdx => k_mem))) | (k_here; (with_reducible show wpAny _ _ (call (Value.ref 180) [_]) _ _ _); k_dflt (refine' arbno_raises ?kB ?kF ?kX ?kN ?kT ?kK ?kd ?ku ?hx ?hdx ?ret; (case ret => assumption); (case kB => k_asm); (case kF => k_asm); (case kX => k_asm); (case kN => k_asm); (case kT => k_asm); (case kK => first | exact rfl | assumption); (case kd => ktr_room); (case ku => ktr_units); (case hx => k_mem); (case hdx => k_mem))) | (k_here; (with_reducible show wpAny _ _ (call (Value.ref 166) [_, _]) _ _ _); k_dflt (refine wpAny_call ?_; refine' code_def ?k1 ?k2 ?k3 ?k4 ?k5 ?kA ?kF ?kK ?k6 ?k7 ?k8 ?k9 ?kB ?_ ?c2 ?c3 ?c4 ?c5; (case kA => exact rfl); (case kF => exact rfl); (case kK => first | exact rfl | assumption); (case k1 => k_asm); (case k2 => k_asm); (case k3 => k_asm); (case k4 => k_asm); (case k5 => k_asm); (case k6 => k_is); (case k7 => k_is); (case k8 => ktr_room); (case k9 => exact BindsTo.of_eq rfl); (case c5 => decide); (case kB => exact locs rfl); (case c2 => exact rfl); (case c3 => exact rfl); (case c4 => exact rfl); k_whole; intro _ _ _ _ _ _ _ _ _; (try dsimp only); (try k_fold))) | (k_here; (with_reducible show wpAny _ _ (call (Value.ref 187) [_]) _ _ _); k_dflt (refine wpAny_call ?_; refine' code_def ?k1 ?k2 ?k3 ?k4 ?k5 ?kA ?kF ?kK ?k6 ?k7 ?k8 ?k9 ?kB ?_ ?c2 ?c3 ?c4 ?c5; (case kA => exact rfl); (case kF => exact rfl); (case kK => first | exact rfl | assumption); (case k1 => k_asm); (case k2 => k_asm); (case k3 => k_asm); (case k4 => k_asm); (case k5 => k_asm); (case k6 => k_is); (case k7 => k_is); (case k8 => ktr_room); (case k9 => exact BindsTo.of_eq rfl); (case c5 => decide); (case kB => exact locs rfl); (case c2 => exact rfl); (case c3 => exact rfl); (case c4 => exact rfl); k_whole; intro _ _ _ _ _ _ _ _ _; (try dsimp only); (try k_fold))) | (k_here; (with_reducible show wpAny _ _ (call (Value.ref 180) [_]) _ _ _); k_dflt (refine wpAny_call ?_; refine' code_def ?k1 ?k2 ?k3 ?k4 ?k5 ?kA ?kF ?kK ?k6 ?k7 ?k8 ?k9 ?kB ?_ ?c2 ?c3 ?c4 ?c5; (case kA => exact rfl); (case kF => exact rfl); (case kK => first | exact rfl | assumption); (case k1 => k_asm); (case k2 => k_asm); (case k3 => k_asm); (case k4 => k_asm); (case k5 => k_asm); (case k6 => k_is); (case k7 => k_is); (case k8 => ktr_room); (case k9 => exact BindsTo.of_eq rfl); (case c5 => decide); (case kB => exact locs rfl); (case c2 => exact rfl); (case c3 => exact rfl); (case c4 => exact rfl); k_whole; intro _ _ _ _ _ _ _ _ _; (try dsimp only); (try k_fold)))) | (k_here; (with_reducible show wpAny _ _ (eval (Expr.Name _ _) _) _ _ _); k_dflt (refine' nameX_F ?N ?c ?m ?d ?_ ?a ?b; (case a => rfl); (case b => rfl); (case N => k_asm); (case c => rfl); (case m => k_mem); (case d => k_asm); k_whole)) | (k_unfold; (try dsimp only)) | (k_end; wrow_close) | walk1 | (dsimp only; walk1) | (leave1; walk_say "STEP leave1"; try dsimp only) | fail "no step"))
  all_goals (try k_data)
  all_goals (first | done | w_report)
theorem evc_5 {w : World} {f c' : Addr} {qual : Str} {news : List (Addr × Obj)} {p1 p3 p4 p5 p6 p7 p8 p9 p10 : Pos} {c : Addr} {co : Obj} {x : Str} {tx : Tok} (hc : (c, co) ∈ news) (hcd : co.data = .cell (some (.str x tx))) (hl : x.length ≤ 4) : EvalRaises w f c' qual { kind := PySem.ScopeKind.function, names := [(PySem.Str.ofString "text", PySem.NameKind.free), (PySem.Str.ofString "count_node", PySem.NameKind.globalImplicit), (PySem.Str.ofString "len", PySem.NameKind.globalImplicit)], isGenerator := false, isCoroutine := false, more := [] } (PySem.Expr.Call (PySem.Expr.Name "count_node" p1) [PySem.Expr.Constant (PySem.Const.str "tab") 0 p2, PySem.Expr.BinOp (PySem.Expr.BinOp (PySem.Expr.Constant (PySem.Const.int 0) 0 p3) PySem.Operator.Sub (PySem.Expr.Constant (PySem.Const.int 1) 0 p4) p5) PySem.Operator.Sub (PySem.Expr.Call (PySem.Expr.Name "len" p6) [PySem.Expr.Name "text" p7] [] p8) p9] [] p10) [((PySem.Str.ofString "text"), c)] 14 news := fun B F X N T hdp hun ret => ev_5 hc hcd hl B F X N T hdp hun ret
set_option maxRecDepth 100000 in
set_option maxHeartbeats 8000000 in
theorem ev_6 : ∀ {w : World} {f c' : Addr} {qual : Str} {news : List (Addr × Obj)} {p1 p3 p4 p5 p6 : Pos} {c : Addr} {co : Obj} {x : Str} {tx : Tok} , (c, co) ∈ news → co.data = .cell (some (.str x tx)) → x.length ≤ 4 → ∀ {mean : ExcName → Option Value} {mg mb : Str → Option Value} {dp un : Nat} {gd : Option (List Code)} {outer : List Env} {A₀ : Around} {base h₀ : Heap} {L : Addr} {m : Str → Option Value} {s : Shared} {Q E : Value → Shared → Prop}, Below A₀ base outer h₀ → Fr h₀ L s.heap m → (hd.heap_39 w.params).In h₀ → News h₀ L s.heap news → Top topProg LL mean mg mb h₀ → dp < 331 → un < 303 → ErrTo base h₀ L m (envX qual { kind := PySem.ScopeKind.function, names := [(PySem.Str.ofString "text", PySem.NameKind.free), (PySem.Str.ofString "count_node", PySem.NameKind.globalImplicit)], isGenerator := false, isCoroutine := false, more := [] } L f (.ref c') [((PySem.Str.ofString "text"), c)] :: outer) news 1 E s → wpAny (model PySem.Challenge.rw_pf0367_01.row.prog w) (ktrTop dp un gd qual { kind := PySem.ScopeKind.function, names := [(PySem.Str.ofString "text", PySem.NameKind.free), (PySem.Str.ofString "count_node", PySem.NameKind.globalImplicit)], isGenerator := false, isCoroutine := false, more := [] } L f (.ref c') [((PySem.Str.ofString "text"), c)] outer) (eval (PySem.Expr.Call (PySem.Expr.Name "count_node" p1) [PySem.Expr.Constant (PySem.Const.str "len") 0 p2, PySem.Expr.BinOp (PySem.Expr.Constant (PySem.Const.str "a") 0 p3) PySem.Operator.Add (PySem.Expr.Name "text" p4) p5] [] p6) (envX qual { kind := PySem.ScopeKind.function, names := [(PySem.Str.ofString "text", PySem.NameKind.free), (PySem.Str.ofString "count_node", PySem.NameKind.globalImplicit)], isGenerator := false, isCoroutine := false, more := [] } L f (.ref c') [((PySem.Str.ofString "text"), c)])) Q E s := by
  k_fill
  w_top off
  intro w f c' qual news p1 p3 p4 p5 p6 c co x tx  hc hcd hl mean mg mb dp un gd outer A₀ base h₀ L m s Q E B F X N T hdp hun ret
  repeat' (first | (fail_if_success (fail)); (first | ((with_reducible show wpAny _ _ (call (Value.ref _) _) _ _ _); first | (k_here; (with_reducible show wpAny _ _ (call (Value.ref 166) [_, _]) _ _ _); k_dflt (refine' count_text ?kB ?kF ?kX ?kN ?kT ?kK ?kd ?ku ?hl ?ret; (case ret => assumption); (case kB => k_asm); (case kF => k_asm); (case kX => k_asm); (case kN => k_asm); (case kT => k_asm); (case kK => first | exact rfl | assumption); (case kd => ktr_room); (case ku => ktr_units); (case hl => assumption))) | (k_here; (with_reducible show wpAny _ _ (call (Value.ref 166) [_, _]) _ _ _); k_dflt (refine' count_neg ?kB ?kF ?kX ?kN ?kT ?kK ?kd ?ku ?hneg ?ret; (case ret => assumption); (case kB => k_asm); (case kF => k_asm); (case kX => k_asm); (case kN => k_asm); (case kT => k_asm); (case kK => first | exact rfl | assumption); (case kd => ktr_room); (case ku => ktr_units); (case hneg => omega))) | (k_here; (with_reducible show wpAny _ _ (call (Value.ref 173) [_, _]) _ _ _); k_dflt (refine' signs_empty ?kB ?kF ?kX ?kN ?kT ?kK ?kd ?ku ?ret; (case ret => assumption); (case kB => k_asm); (case kF => k_asm); (case kX => k_asm); (case kN => k_asm); (case kT => k_asm); (case kK => first | exact rfl | assumption); (case kd => ktr_room); (case ku => ktr_units))) | (k_here; (with_reducible show wpAny _ _ (call (Value.ref 173) [_, _]) _ _ _); k_dflt (refine' signs_ref ?kB ?kF ?kX ?kN ?kT ?kK ?kd ?ku ?hx ?hdx ?ret; (case ret => assumption); (case kB => k_asm); (case kF => k_asm); (case kX => k_asm); (case kN => k_asm); (case kT => k_asm); (case kK => first | exact rfl | assumption); (case kd => ktr_room); (case ku => ktr_units); (case hx => k_mem); (case hdx => k_mem))) | (k_here; (with_reducible show wpAny _ _ (call (Value.ref 180) [_]) _ _ _); k_dflt (refine' arbno_raises ?kB ?kF ?kX ?kN ?kT ?kK ?kd ?ku ?hx ?hdx ?ret; (case ret => assumption); (case kB => k_asm); (case kF => k_asm); (case kX => k_asm); (case kN => k_asm); (case kT => k_asm); (case kK => first | exact rfl | assumption); (case kd => ktr_room); (case ku => ktr_units); (case hx => k_mem); (case hdx => k_mem))) | (k_here; (with_reducible show wpAny _ _ (call (Value.ref 166) [_, _]) _ _ _); k_dflt (refine wpAny_call ?_; refine' code_def ?k1 ?k2 ?k3 ?k4 ?k5 ?kA ?kF ?kK ?k6 ?k7 ?k8 ?k9 ?kB ?_ ?c2 ?c3 ?c4 ?c5; (case kA => exact rfl); (case kF => exact rfl); (case kK => first | exact rfl | assumption); (case k1 => k_asm); (case k2 => k_asm); (case k3 => k_asm); (case k4 => k_asm); (case k5 => k_asm); (case k6 => k_is); (case k7 => k_is); (case k8 => ktr_room); (case k9 => exact BindsTo.of_eq rfl); (case c5 => decide); (case kB => exact locs rfl); (case c2 => exact rfl); (case c3 => exact rfl); (case c4 => exact rfl); k_whole; intro _ _ _ _ _ _ _ _ _; (try dsimp only); (try k_fold))) | (k_here; (with_reducible show wpAny _ _ (call (Value.ref 187) [_]) _ _ _); k_dflt (refine wpAny_call ?_; refine' code_def ?k1 ?k2 ?k3 ?k4 ?k5 ?kA ?kF ?kK ?k6 ?k7 ?k8 ?k9 ?kB ?_ ?c2 ?c3 ?c4 ?c5; (case kA => exact rfl); (case kF => exact rfl); (case kK => first | exact rfl | assumption); (case k1 => k_asm); (case k2 => k_asm); (case k3 => k_asm); (case k4 => k_asm); (case k5 => k_asm); (case k6 => k_is); (case k7 => k_is); (case k8 => ktr_room); (case k9 => exact BindsTo.of_eq rfl); (case c5 => decide); (case kB => exact locs rfl); (case c2 => exact rfl); (case c3 => exact rfl); (case c4 => exact rfl); k_whole; intro _ _ _ _ _ _ _ _ _; (try dsimp only); (try k_fold))) | (k_here; (with_reducible show wpAny _ _ (call (Value.ref 180) [_]) _ _ _); k_dflt (refine wpAny_call ?_; refine' code_def ?k1 ?k2 ?k3 ?k4 ?k5 ?kA ?kF ?kK ?k6 ?k7 ?k8 ?k9 ?kB ?_ ?c2 ?c3 ?c4 ?c5; (case kA => exact rfl); (case kF => exact rfl); (case kK => first | exact rfl | assumption); (case k1 => k_asm); (case k2 => k_asm); (case k3 => k_asm); (case k4 => k_asm); (case k5 => k_asm); (case k6 => k_is); (case k7 => k_is); (case k8 => ktr_room); (case k9 => exact BindsTo.of_eq rfl); (case c5 => decide); (case kB => exact locs rfl); (case c2 => exact rfl); (case c3 => exact rfl); (case c4 => exact rfl); k_whole; intro _ _ _ _ _ _ _ _ _; (try dsimp only); (try k_fold)))) | (k_here; (with_reducible show wpAny _ _ (eval (Expr.Name _ _) _) _ _ _); k_dflt (refine' nameX_F ?N ?c ?m ?d ?_ ?a ?b; (case a => rfl); (case b => rfl); (case N => k_asm); (case c => rfl); (case m => k_mem); (case d => k_asm); k_whole)) | (k_unfold; (try dsimp only)) | (k_end; wrow_close) | walk1 | (dsimp only; walk1) | (leave1; walk_say "STEP leave1"; try dsimp only) | fail "no step"))
  all_goals (try k_data)
  all_goals (first | done | w_report)
theorem evc_6 {w : World} {f c' : Addr} {qual : Str} {news : List (Addr × Obj)} {p1 p3 p4 p5 p6 : Pos} {c : Addr} {co : Obj} {x : Str} {tx : Tok} (hc : (c, co) ∈ news) (hcd : co.data = .cell (some (.str x tx))) (hl : x.length ≤ 4) : EvalRaises w f c' qual { kind := PySem.ScopeKind.function, names := [(PySem.Str.ofString "text", PySem.NameKind.free), (PySem.Str.ofString "count_node", PySem.NameKind.globalImplicit)], isGenerator := false, isCoroutine := false, more := [] } (PySem.Expr.Call (PySem.Expr.Name "count_node" p1) [PySem.Expr.Constant (PySem.Const.str "len") 0 p2, PySem.Expr.BinOp (PySem.Expr.Constant (PySem.Const.str "a") 0 p3) PySem.Operator.Add (PySem.Expr.Name "text" p4) p5] [] p6) [((PySem.Str.ofString "text"), c)] 1 news := fun B F X N T hdp hun ret => ev_6 hc hcd hl B F X N T hdp hun ret
set_option maxRecDepth 100000 in
set_option maxHeartbeats 8000000 in
theorem ev_7 : ∀ {w : World} {f c' : Addr} {qual : Str} {news : List (Addr × Obj)} {p1 p3 p4 p5 p6 p7 : Pos} , ∀ {mean : ExcName → Option Value} {mg mb : Str → Option Value} {dp un : Nat} {gd : Option (List Code)} {outer : List Env} {A₀ : Around} {base h₀ : Heap} {L : Addr} {m : Str → Option Value} {s : Shared} {Q E : Value → Shared → Prop}, Below A₀ base outer h₀ → Fr h₀ L s.heap m → (hd.heap_39 w.params).In h₀ → News h₀ L s.heap news → Top topProg LL mean mg mb h₀ → dp < 331 → un < 303 → RetTo h₀ L news Q s → wpAny (model PySem.Challenge.rw_pf0367_01.row.prog w) (ktrTop dp un gd qual { kind := PySem.ScopeKind.function, names := [(PySem.Str.ofString "count_node", PySem.NameKind.globalImplicit), (PySem.Str.ofString "Delayed", PySem.NameKind.globalImplicit)], isGenerator := false, isCoroutine := false, more := [] } L f (.ref c') [] outer) (eval (PySem.Expr.Call (PySem.Expr.Name "count_node" p1) [PySem.Expr.Constant (PySem.Const.str "pos") 0 p2, PySem.Expr.Call (PySem.Expr.Name "Delayed" p3) [PySem.Expr.Tuple [PySem.Expr.Constant (PySem.Const.str "fails") 0 p4] 0 p5] [] p6] [] p7) (envX qual { kind := PySem.ScopeKind.function, names := [(PySem.Str.ofString "count_node", PySem.NameKind.globalImplicit), (PySem.Str.ofString "Delayed", PySem.NameKind.globalImplicit)], isGenerator := false, isCoroutine := false, more := [] } L f (.ref c') [])) Q E s := by
  k_fill
  w_top off
  intro w f c' qual news p1 p3 p4 p5 p6 p7   mean mg mb dp un gd outer A₀ base h₀ L m s Q E B F X N T hdp hun ret
  repeat' (first | (fail_if_success (fail)); (first | ((with_reducible show wpAny _ _ (call (Value.ref _) _) _ _ _); first | (k_here; (with_reducible show wpAny _ _ (call (Value.ref 166) [_, _]) _ _ _); k_dflt (refine' count_text ?kB ?kF ?kX ?kN ?kT ?kK ?kd ?ku ?hl ?ret; (case ret => assumption); (case kB => k_asm); (case kF => k_asm); (case kX => k_asm); (case kN => k_asm); (case kT => k_asm); (case kK => first | exact rfl | assumption); (case kd => ktr_room); (case ku => ktr_units); (case hl => assumption))) | (k_here; (with_reducible show wpAny _ _ (call (Value.ref 166) [_, _]) _ _ _); k_dflt (refine' count_neg ?kB ?kF ?kX ?kN ?kT ?kK ?kd ?ku ?hneg ?ret; (case ret => assumption); (case kB => k_asm); (case kF => k_asm); (case kX => k_asm); (case kN => k_asm); (case kT => k_asm); (case kK => first | exact rfl | assumption); (case kd => ktr_room); (case ku => ktr_units); (case hneg => omega))) | (k_here; (with_reducible show wpAny _ _ (call (Value.ref 173) [_, _]) _ _ _); k_dflt (refine' signs_empty ?kB ?kF ?kX ?kN ?kT ?kK ?kd ?ku ?ret; (case ret => assumption); (case kB => k_asm); (case kF => k_asm); (case kX => k_asm); (case kN => k_asm); (case kT => k_asm); (case kK => first | exact rfl | assumption); (case kd => ktr_room); (case ku => ktr_units))) | (k_here; (with_reducible show wpAny _ _ (call (Value.ref 173) [_, _]) _ _ _); k_dflt (refine' signs_ref ?kB ?kF ?kX ?kN ?kT ?kK ?kd ?ku ?hx ?hdx ?ret; (case ret => assumption); (case kB => k_asm); (case kF => k_asm); (case kX => k_asm); (case kN => k_asm); (case kT => k_asm); (case kK => first | exact rfl | assumption); (case kd => ktr_room); (case ku => ktr_units); (case hx => k_mem); (case hdx => k_mem))) | (k_here; (with_reducible show wpAny _ _ (call (Value.ref 180) [_]) _ _ _); k_dflt (refine' arbno_raises ?kB ?kF ?kX ?kN ?kT ?kK ?kd ?ku ?hx ?hdx ?ret; (case ret => assumption); (case kB => k_asm); (case kF => k_asm); (case kX => k_asm); (case kN => k_asm); (case kT => k_asm); (case kK => first | exact rfl | assumption); (case kd => ktr_room); (case ku => ktr_units); (case hx => k_mem); (case hdx => k_mem))) | (k_here; (with_reducible show wpAny _ _ (call (Value.ref 166) [_, _]) _ _ _); k_dflt (refine wpAny_call ?_; refine' code_def ?k1 ?k2 ?k3 ?k4 ?k5 ?kA ?kF ?kK ?k6 ?k7 ?k8 ?k9 ?kB ?_ ?c2 ?c3 ?c4 ?c5; (case kA => exact rfl); (case kF => exact rfl); (case kK => first | exact rfl | assumption); (case k1 => k_asm); (case k2 => k_asm); (case k3 => k_asm); (case k4 => k_asm); (case k5 => k_asm); (case k6 => k_is); (case k7 => k_is); (case k8 => ktr_room); (case k9 => exact BindsTo.of_eq rfl); (case c5 => decide); (case kB => exact locs rfl); (case c2 => exact rfl); (case c3 => exact rfl); (case c4 => exact rfl); k_whole; intro _ _ _ _ _ _ _ _ _; (try dsimp only); (try k_fold))) | (k_here; (with_reducible show wpAny _ _ (call (Value.ref 187) [_]) _ _ _); k_dflt (refine wpAny_call ?_; refine' code_def ?k1 ?k2 ?k3 ?k4 ?k5 ?kA ?kF ?kK ?k6 ?k7 ?k8 ?k9 ?kB ?_ ?c2 ?c3 ?c4 ?c5; (case kA => exact rfl); (case kF => exact rfl); (case kK => first | exact rfl | assumption); (case k1 => k_asm); (case k2 => k_asm); (case k3 => k_asm); (case k4 => k_asm); (case k5 => k_asm); (case k6 => k_is); (case k7 => k_is); (case k8 => ktr_room); (case k9 => exact BindsTo.of_eq rfl); (case c5 => decide); (case kB => exact locs rfl); (case c2 => exact rfl); (case c3 => exact rfl); (case c4 => exact rfl); k_whole; intro _ _ _ _ _ _ _ _ _; (try dsimp only); (try k_fold))) | (k_here; (with_reducible show wpAny _ _ (call (Value.ref 180) [_]) _ _ _); k_dflt (refine wpAny_call ?_; refine' code_def ?k1 ?k2 ?k3 ?k4 ?k5 ?kA ?kF ?kK ?k6 ?k7 ?k8 ?k9 ?kB ?_ ?c2 ?c3 ?c4 ?c5; (case kA => exact rfl); (case kF => exact rfl); (case kK => first | exact rfl | assumption); (case k1 => k_asm); (case k2 => k_asm); (case k3 => k_asm); (case k4 => k_asm); (case k5 => k_asm); (case k6 => k_is); (case k7 => k_is); (case k8 => ktr_room); (case k9 => exact BindsTo.of_eq rfl); (case c5 => decide); (case kB => exact locs rfl); (case c2 => exact rfl); (case c3 => exact rfl); (case c4 => exact rfl); k_whole; intro _ _ _ _ _ _ _ _ _; (try dsimp only); (try k_fold)))) | (k_here; (with_reducible show wpAny _ _ (eval (Expr.Name _ _) _) _ _ _); k_dflt (refine' nameX_F ?N ?c ?m ?d ?_ ?a ?b; (case a => rfl); (case b => rfl); (case N => k_asm); (case c => rfl); (case m => k_mem); (case d => k_asm); k_whole)) | (k_unfold; (try dsimp only)) | (k_end; wrow_close) | walk1 | (dsimp only; walk1) | (leave1; walk_say "STEP leave1"; try dsimp only) | fail "no step"))
  all_goals (try k_data)
  all_goals (with_reducible rename RetTo _ _ _ _ _ => hR9; k_dflt (refine' ret_to hR9 ?eF ?eN ?eS; (case eF => k_asm); (case eN => assumption); (case eS => ktd_sub)))
  all_goals (first | done | w_report)
theorem evc_7 {w : World} {f c' : Addr} {qual : Str} {news : List (Addr × Obj)} {p1 p3 p4 p5 p6 p7 : Pos} : EvalRets w f c' qual { kind := PySem.ScopeKind.function, names := [(PySem.Str.ofString "count_node", PySem.NameKind.globalImplicit), (PySem.Str.ofString "Delayed", PySem.NameKind.globalImplicit)], isGenerator := false, isCoroutine := false, more := [] } (PySem.Expr.Call (PySem.Expr.Name "count_node" p1) [PySem.Expr.Constant (PySem.Const.str "pos") 0 p2, PySem.Expr.Call (PySem.Expr.Name "Delayed" p3) [PySem.Expr.Tuple [PySem.Expr.Constant (PySem.Const.str "fails") 0 p4] 0 p5] [] p6] [] p7) [] news := fun B F X N T hdp hun ret => ev_7  B F X N T hdp hun ret
end
end Mine
end
section
open PySem PySem.W PySem.Calls PyProof.Rows
namespace Mine
theorem use_1 {w : World} {mean : ExcName → Option Value} {mg mb : Str → Option Value} {dp un : Nat} {gd : Option (List Code)} {cn : Str} {cs : Scope} {a : Addr} {ccd : Value} {cl : List (Str × Addr)} {A₀ : Around} {h₀ : Heap} {L : Addr} {m : Str → Option Value} {s : Shared} {Q E : Value → Shared → Prop} {rest : List (Addr × Obj)} {f c' : Addr} {name qual : Str} {pm ctv : Value} {oc : Obj} {ocs : Array Value} {t' : Tok} {p1 p2 p3 : Pos} {x dx : Addr} {o1 o2 o3 o4 o5 : Tok} {c : Addr} {co : Obj} 
    (B : Below A₀ h₀ [] h₀) (F : Fr h₀ L s.heap m) (X : (hd.heap_39 w.params).In h₀) (N : News h₀ L s.heap ((f, kla_obj name qual { posonlyargs := [], args := [], vararg := none, kwonlyargs := [], kw_defaults := [], kwarg := none, defaults := [] } (PySem.Expr.Call (PySem.Expr.Name "arbno_node" p1) [PySem.Expr.Name "ref" p2] [] p3) { kind := PySem.ScopeKind.function, names := [(PySem.Str.ofString "ref", PySem.NameKind.free), (PySem.Str.ofString "arbno_node", PySem.NameKind.globalImplicit)], isGenerator := false, isCoroutine := false, more := [] } [((PySem.Str.ofString "ref"), c)] pm c' ctv) :: (c', oc) :: rest)) (T : Top topProg LL mean mg mb h₀) (hk : cs.kind = .function) (kd : dp < 320) (ku : un < 280)
    (d1 : oc.data = .fields ocs) (d2 : ocs[1]? = some (.str qual t')) (hc : (c, co) ∈ rest) (hcd : co.data = .cell (some (.ref x))) (hx : (x, instObj 96 dx) ∈ rest) (hdx : (dx, xDict w o1 o2 o3 o4 o5) ∈ rest)
    (main : ∀ tk1 h' tk', Fr h₀ L h' m → News h₀ L h' rest → Q (.int 1 tk1) { s with heap := h', toks := tk' }) :
    wpAny (model PySem.Challenge.rw_pf0367_01.row.prog w) (ktrTop dp un gd cn cs L a ccd cl []) (call (.ref 253) [.ref f]) Q E s := by
  have ho := List.Mem.head (a := (f, kla_obj name qual { posonlyargs := [], args := [], vararg := none, kwonlyargs := [], kw_defaults := [], kwarg := none, defaults := [] } (PySem.Expr.Call (PySem.Expr.Name "arbno_node" p1) [PySem.Expr.Name "ref" p2] [] p3) { kind := PySem.ScopeKind.function, names := [(PySem.Str.ofString "ref", PySem.NameKind.free), (PySem.Str.ofString "arbno_node", PySem.NameKind.globalImplicit)], isGenerator := false, isCoroutine := false, more := [] } [((PySem.Str.ofString "ref"), c)] pm c' ctv)) ((c', oc) :: rest)
  have hc9 : (c', oc) ∈ ((f, kla_obj name qual { posonlyargs := [], args := [], vararg := none, kwonlyargs := [], kw_defaults := [], kwarg := none, defaults := [] } (PySem.Expr.Call (PySem.Expr.Name "arbno_node" p1) [PySem.Expr.Name "ref" p2] [] p3) { kind := PySem.ScopeKind.function, names := [(PySem.Str.ofString "ref", PySem.NameKind.free), (PySem.Str.ofString "arbno_node", PySem.NameKind.globalImplicit)], isGenerator := false, isCoroutine := false, more := [] } [((PySem.Str.ofString "ref"), c)] pm c' ctv) :: (c', oc) :: rest) := .tail _ (.head _)
  replace hc := List.Mem.tail (f, kla_obj name qual { posonlyargs := [], args := [], vararg := none, kwonlyargs := [], kw_defaults := [], kwarg := none, defaults := [] } (PySem.Expr.Call (PySem.Expr.Name "arbno_node" p1) [PySem.Expr.Name "ref" p2] [] p3) { kind := PySem.ScopeKind.function, names := [(PySem.Str.ofString "ref", PySem.NameKind.free), (PySem.Str.ofString "arbno_node", PySem.NameKind.globalImplicit)], isGenerator := false, isCoroutine := false, more := [] } [((PySem.Str.ofString "ref"), c)] pm c' ctv) (List.Mem.tail (c', oc) hc)
  replace hx := List.Mem.tail (f, kla_obj name qual { posonlyargs := [], args := [], vararg := none, kwonlyargs := [], kw_defaults := [], kwarg := none, defaults := [] } (PySem.Expr.Call (PySem.Expr.Name "arbno_node" p1) [PySem.Expr.Name "ref" p2] [] p3) { kind := PySem.ScopeKind.function, names := [(PySem.Str.ofString "ref", PySem.NameKind.free), (PySem.Str.ofString "arbno_node", PySem.NameKind.globalImplicit)], isGenerator := false, isCoroutine := false, more := [] } [((PySem.Str.ofString "ref"), c)] pm c' ctv) (List.Mem.tail (c', oc) hx)
  replace hdx := List.Mem.tail (f, kla_obj name qual { posonlyargs := [], args := [], vararg := none, kwonlyargs := [], kw_defaults := [], kwarg := none, defaults := [] } (PySem.Expr.Call (PySem.Expr.Name "arbno_node" p1) [PySem.Expr.Name "ref" p2] [] p3) { kind := PySem.ScopeKind.function, names := [(PySem.Str.ofString "ref", PySem.NameKind.free), (PySem.Str.ofString "arbno_node", PySem.NameKind.globalImplicit)], isGenerator := false, isCoroutine := false, more := [] } [((PySem.Str.ofString "ref"), c)] pm c' ctv) (List.Mem.tail (c', oc) hdx)
  exact code_core B F X N T hk kd ku (task_of ho hc9 d1 d2 (evc_1 hx hdx hc hcd) rfl rfl rfl rfl (by decide)) fun tk1 h' tk' F2 N2 => main tk1 h' tk' F2 (KStt.news_of N2 (fun p hp => List.Mem.tail _ (List.Mem.tail _ hp)))
theorem use_2 {w : World} {mean : ExcName → Option Value} {mg mb : Str → Option Value} {dp un : Nat} {gd : Option (List Code)} {cn : Str} {cs : Scope} {a : Addr} {ccd : Value} {cl : List (Str × Addr)} {A₀ : Around} {h₀ : Heap} {L : Addr} {m : Str → Option Value} {s : Shared} {Q E : Value → Shared → Prop} {rest : List (Addr × Obj)} {f c' : Addr} {name qual : Str} {pm ctv : Value} {oc : Obj} {ocs : Array Value} {t' : Tok} {p1 p2 p3 p4 p5 : Pos} {c : Addr} {co : Obj} {v : Value} {tl : List (Addr × Obj)} {p : Pat} 
    (B : Below A₀ h₀ [] h₀) (F : Fr h₀ L s.heap m) (X : (hd.heap_39 w.params).In h₀) (N : News h₀ L s.heap ((f, kla_obj name qual { posonlyargs := [], args := [], vararg := none, kwonlyargs := [], kw_defaults := [], kwarg := none, defaults := [] } (PySem.Expr.Call (PySem.Expr.Name "arbno_node" p1) [PySem.Expr.Call (PySem.Expr.Name "Pattern" p2) [PySem.Expr.Name "node" p3] [] p4] [] p5) { kind := PySem.ScopeKind.function, names := [(PySem.Str.ofString "node", PySem.NameKind.free), (PySem.Str.ofString "arbno_node", PySem.NameKind.globalImplicit), (PySem.Str.ofString "Pattern", PySem.NameKind.globalImplicit)], isGenerator := false, isCoroutine := false, more := [] } [((PySem.Str.ofString "node"), c)] pm c' ctv) :: (c', oc) :: rest)) (T : Top topProg LL mean mg mb h₀) (hk : cs.kind = .function) (kd : dp < 320) (ku : un < 280)
    (d1 : oc.data = .fields ocs) (d2 : ocs[1]? = some (.str qual t')) (hc : (c, co) ∈ rest) (hcd : co.data = .cell (some v)) (hP : PatIn tl v p)
    (main : ∀ tk1 h' tk', Fr h₀ L h' m → News h₀ L h' rest → Q (.int 0 tk1) { s with heap := h', toks := tk' }) :
    wpAny (model PySem.Challenge.rw_pf0367_01.row.prog w) (ktrTop dp un gd cn cs L a ccd cl []) (call (.ref 253) [.ref f]) Q E s := by
  have ho := List.Mem.head (a := (f, kla_obj name qual { posonlyargs := [], args := [], vararg := none, kwonlyargs := [], kw_defaults := [], kwarg := none, defaults := [] } (PySem.Expr.Call (PySem.Expr.Name "arbno_node" p1) [PySem.Expr.Call (PySem.Expr.Name "Pattern" p2) [PySem.Expr.Name "node" p3] [] p4] [] p5) { kind := PySem.ScopeKind.function, names := [(PySem.Str.ofString "node", PySem.NameKind.free), (PySem.Str.ofString "arbno_node", PySem.NameKind.globalImplicit), (PySem.Str.ofString "Pattern", PySem.NameKind.globalImplicit)], isGenerator := false, isCoroutine := false, more := [] } [((PySem.Str.ofString "node"), c)] pm c' ctv)) ((c', oc) :: rest)
  have hc9 : (c', oc) ∈ ((f, kla_obj name qual { posonlyargs := [], args := [], vararg := none, kwonlyargs := [], kw_defaults := [], kwarg := none, defaults := [] } (PySem.Expr.Call (PySem.Expr.Name "arbno_node" p1) [PySem.Expr.Call (PySem.Expr.Name "Pattern" p2) [PySem.Expr.Name "node" p3] [] p4] [] p5) { kind := PySem.ScopeKind.function, names := [(PySem.Str.ofString "node", PySem.NameKind.free), (PySem.Str.ofString "arbno_node", PySem.NameKind.globalImplicit), (PySem.Str.ofString "Pattern", PySem.NameKind.globalImplicit)], isGenerator := false, isCoroutine := false, more := [] } [((PySem.Str.ofString "node"), c)] pm c' ctv) :: (c', oc) :: rest) := .tail _ (.head _)
  replace hc := List.Mem.tail (f, kla_obj name qual { posonlyargs := [], args := [], vararg := none, kwonlyargs := [], kw_defaults := [], kwarg := none, defaults := [] } (PySem.Expr.Call (PySem.Expr.Name "arbno_node" p1) [PySem.Expr.Call (PySem.Expr.Name "Pattern" p2) [PySem.Expr.Name "node" p3] [] p4] [] p5) { kind := PySem.ScopeKind.function, names := [(PySem.Str.ofString "node", PySem.NameKind.free), (PySem.Str.ofString "arbno_node", PySem.NameKind.globalImplicit), (PySem.Str.ofString "Pattern", PySem.NameKind.globalImplicit)], isGenerator := false, isCoroutine := false, more := [] } [((PySem.Str.ofString "node"), c)] pm c' ctv) (List.Mem.tail (c', oc) hc)
  exact code_ret B F X N T hk kd ku (task_ret_of ho hc9 d1 d2 (evc_2 hP hc hcd) rfl rfl rfl rfl (by decide)) fun tk1 h' tk' F2 N2 => main tk1 h' tk' F2 (KStt.news_of N2 (fun p hp => List.Mem.tail _ (List.Mem.tail _ hp)))
theorem use_3 {w : World} {mean : ExcName → Option Value} {mg mb : Str → Option Value} {dp un : Nat} {gd : Option (List Code)} {cn : Str} {cs : Scope} {a : Addr} {ccd : Value} {cl : List (Str × Addr)} {A₀ : Around} {h₀ : Heap} {L : Addr} {m : Str → Option Value} {s : Shared} {Q E : Value → Shared → Prop} {rest : List (Addr × Obj)} {f c' : Addr} {name qual : Str} {pm ctv : Value} {oc : Obj} {ocs : Array Value} {t' : Tok} {p1 p3 p4 : Pos} 
    (B : Below A₀ h₀ [] h₀) (F : Fr h₀ L s.heap m) (X : (hd.heap_39 w.params).In h₀) (N : News h₀ L s.heap ((f, kla_obj name qual { posonlyargs := [], args := [], vararg := none, kwonlyargs := [], kw_defaults := [], kwarg := none, defaults := [] } (PySem.Expr.Call (PySem.Expr.Name "signs_node" p1) [PySem.Expr.Constant (PySem.Const.str "any") 0 p2, PySem.Expr.Constant (PySem.Const.str "") 0 p3] [] p4) { kind := PySem.ScopeKind.function, names := [(PySem.Str.ofString "signs_node", PySem.NameKind.globalImplicit)], isGenerator := false, isCoroutine := false, more := [] } [] pm c' ctv) :: (c', oc) :: rest)) (T : Top topProg LL mean mg mb h₀) (hk : cs.kind = .function) (kd : dp < 320) (ku : un < 280)
    (d1 : oc.data = .fields ocs) (d2 : ocs[1]? = some (.str qual t')) 
    (main : ∀ tk1 h' tk', Fr h₀ L h' m → News h₀ L h' rest → Q (.int 4 tk1) { s with heap := h', toks := tk' }) :
    wpAny (model PySem.Challenge.rw_pf0367_01.row.prog w) (ktrTop dp un gd cn cs L a ccd cl []) (call (.ref 253) [.ref f]) Q E s := by
  have ho := List.Mem.head (a := (f, kla_obj name qual { posonlyargs := [], args := [], vararg := none, kwonlyargs := [], kw_defaults := [], kwarg := none, defaults := [] } (PySem.Expr.Call (PySem.Expr.Name "signs_node" p1) [PySem.Expr.Constant (PySem.Const.str "any") 0 p2, PySem.Expr.Constant (PySem.Const.str "") 0 p3] [] p4) { kind := PySem.ScopeKind.function, names := [(PySem.Str.ofString "signs_node", PySem.NameKind.globalImplicit)], isGenerator := false, isCoroutine := false, more := [] } [] pm c' ctv)) ((c', oc) :: rest)
  have hc9 : (c', oc) ∈ ((f, kla_obj name qual { posonlyargs := [], args := [], vararg := none, kwonlyargs := [], kw_defaults := [], kwarg := none, defaults := [] } (PySem.Expr.Call (PySem.Expr.Name "signs_node" p1) [PySem.Expr.Constant (PySem.Const.str "any") 0 p2, PySem.Expr.Constant (PySem.Const.str "") 0 p3] [] p4) { kind := PySem.ScopeKind.function, names := [(PySem.Str.ofString "signs_node", PySem.NameKind.globalImplicit)], isGenerator := false, isCoroutine := false, more := [] } [] pm c' ctv) :: (c', oc) :: rest) := .tail _ (.head _)
  exact code_core B F X N T hk kd ku (task_of ho hc9 d1 d2 (evc_3 ) rfl rfl rfl rfl (by decide)) fun tk1 h' tk' F2 N2 => main tk1 h' tk' F2 (KStt.news_of N2 (fun p hp => List.Mem.tail _ (List.Mem.tail _ hp)))
theorem use_4 {w : World} {mean : ExcName → Option Value} {mg mb : Str → Option Value} {dp un : Nat} {gd : Option (List Code)} {cn : Str} {cs : Scope} {a : Addr} {ccd : Value} {cl : List (Str × Addr)} {A₀ : Around} {h₀ : Heap} {L : Addr} {m : Str → Option Value} {s : Shared} {Q E : Value → Shared → Prop} {rest : List (Addr × Obj)} {f c' : Addr} {name qual : Str} {pm ctv : Value} {oc : Obj} {ocs : Array Value} {t' : Tok} {p1 p3 p4 : Pos} {x dx : Addr} {o1 o2 o3 o4 o5 : Tok} {c : Addr} {co : Obj} 
    (B : Below A₀ h₀ [] h₀) (F : Fr h₀ L s.heap m) (X : (hd.heap_39 w.params).In h₀) (N : News h₀ L s.heap ((f, kla_obj name qual { posonlyargs := [], args := [], vararg := none, kwonlyargs := [], kw_defaults := [], kwarg := none, defaults := [] } (PySem.Expr.Call (PySem.Expr.Name "signs_node" p1) [PySem.Expr.Constant (PySem.Const.str "span") 0 p2, PySem.Expr.Name "ref" p3] [] p4) { kind := PySem.ScopeKind.function, names := [(PySem.Str.ofString "ref", PySem.NameKind.free), (PySem.Str.ofString "signs_node", PySem.NameKind.globalImplicit)], isGenerator := false, isCoroutine := false, more := [] } [((PySem.Str.ofString "ref"), c)] pm c' ctv) :: (c', oc) :: rest)) (T : Top topProg LL mean mg mb h₀) (hk : cs.kind = .function) (kd : dp < 320) (ku : un < 280)
    (d1 : oc.data = .fields ocs) (d2 : ocs[1]? = some (.str qual t')) (hc : (c, co) ∈ rest) (hcd : co.data = .cell (some (.ref x))) (hx : (x, instObj 96 dx) ∈ rest) (hdx : (dx, xDict w o1 o2 o3 o4 o5) ∈ rest)
    (main : ∀ tk1 h' tk', Fr h₀ L h' m → News h₀ L h' rest → Q (.int 1 tk1) { s with heap := h', toks := tk' }) :
    wpAny (model PySem.Challenge.rw_pf0367_01.row.prog w) (ktrTop dp un gd cn cs L a ccd cl []) (call (.ref 253) [.ref f]) Q E s := by
  have ho := List.Mem.head (a := (f, kla_obj name qual { posonlyargs := [], args := [], vararg := none, kwonlyargs := [], kw_defaults := [], kwarg := none, defaults := [] } (PySem.Expr.Call (PySem.Expr.Name "signs_node" p1) [PySem.Expr.Constant (PySem.Const.str "span") 0 p2, PySem.Expr.Name "ref" p3] [] p4) { kind := PySem.ScopeKind.function, names := [(PySem.Str.ofString "ref", PySem.NameKind.free), (PySem.Str.ofString "signs_node", PySem.NameKind.globalImplicit)], isGenerator := false, isCoroutine := false, more := [] } [((PySem.Str.ofString "ref"), c)] pm c' ctv)) ((c', oc) :: rest)
  have hc9 : (c', oc) ∈ ((f, kla_obj name qual { posonlyargs := [], args := [], vararg := none, kwonlyargs := [], kw_defaults := [], kwarg := none, defaults := [] } (PySem.Expr.Call (PySem.Expr.Name "signs_node" p1) [PySem.Expr.Constant (PySem.Const.str "span") 0 p2, PySem.Expr.Name "ref" p3] [] p4) { kind := PySem.ScopeKind.function, names := [(PySem.Str.ofString "ref", PySem.NameKind.free), (PySem.Str.ofString "signs_node", PySem.NameKind.globalImplicit)], isGenerator := false, isCoroutine := false, more := [] } [((PySem.Str.ofString "ref"), c)] pm c' ctv) :: (c', oc) :: rest) := .tail _ (.head _)
  replace hc := List.Mem.tail (f, kla_obj name qual { posonlyargs := [], args := [], vararg := none, kwonlyargs := [], kw_defaults := [], kwarg := none, defaults := [] } (PySem.Expr.Call (PySem.Expr.Name "signs_node" p1) [PySem.Expr.Constant (PySem.Const.str "span") 0 p2, PySem.Expr.Name "ref" p3] [] p4) { kind := PySem.ScopeKind.function, names := [(PySem.Str.ofString "ref", PySem.NameKind.free), (PySem.Str.ofString "signs_node", PySem.NameKind.globalImplicit)], isGenerator := false, isCoroutine := false, more := [] } [((PySem.Str.ofString "ref"), c)] pm c' ctv) (List.Mem.tail (c', oc) hc)
  replace hx := List.Mem.tail (f, kla_obj name qual { posonlyargs := [], args := [], vararg := none, kwonlyargs := [], kw_defaults := [], kwarg := none, defaults := [] } (PySem.Expr.Call (PySem.Expr.Name "signs_node" p1) [PySem.Expr.Constant (PySem.Const.str "span") 0 p2, PySem.Expr.Name "ref" p3] [] p4) { kind := PySem.ScopeKind.function, names := [(PySem.Str.ofString "ref", PySem.NameKind.free), (PySem.Str.ofString "signs_node", PySem.NameKind.globalImplicit)], isGenerator := false, isCoroutine := false, more := [] } [((PySem.Str.ofString "ref"), c)] pm c' ctv) (List.Mem.tail (c', oc) hx)
  replace hdx := List.Mem.tail (f, kla_obj name qual { posonlyargs := [], args := [], vararg := none, kwonlyargs := [], kw_defaults := [], kwarg := none, defaults := [] } (PySem.Expr.Call (PySem.Expr.Name "signs_node" p1) [PySem.Expr.Constant (PySem.Const.str "span") 0 p2, PySem.Expr.Name "ref" p3] [] p4) { kind := PySem.ScopeKind.function, names := [(PySem.Str.ofString "ref", PySem.NameKind.free), (PySem.Str.ofString "signs_node", PySem.NameKind.globalImplicit)], isGenerator := false, isCoroutine := false, more := [] } [((PySem.Str.ofString "ref"), c)] pm c' ctv) (List.Mem.tail (c', oc) hdx)
  exact code_core B F X N T hk kd ku (task_of ho hc9 d1 d2 (evc_4 hx hdx hc hcd) rfl rfl rfl rfl (by decide)) fun tk1 h' tk' F2 N2 => main tk1 h' tk' F2 (KStt.news_of N2 (fun p hp => List.Mem.tail _ (List.Mem.tail _ hp)))
theorem use_5 {w : World} {mean : ExcName → Option Value} {mg mb : Str → Option Value} {dp un : Nat} {gd : Option (List Code)} {cn : Str} {cs : Scope} {a : Addr} {ccd : Value} {cl : List (Str × Addr)} {A₀ : Around} {h₀ : Heap} {L : Addr} {m : Str → Option Value} {s : Shared} {Q E : Value → Shared → Prop} {rest : List (Addr × Obj)} {f c' : Addr} {name qual : Str} {pm ctv : Value} {oc : Obj} {ocs : Array Value} {t' : Tok} {p1 p3 p4 p5 p6 p7 p8 p9 p10 : Pos} {c : Addr} {co : Obj} {x : Str} {tx : Tok} 
    (B : Below A₀ h₀ [] h₀) (F : Fr h₀ L s.heap m) (X : (hd.heap_39 w.params).In h₀) (N : News h₀ L s.heap ((f, kla_obj name qual { posonlyargs := [], args := [], vararg := none, kwonlyargs := [], kw_defaults := [], kwarg := none, defaults := [] } (PySem.Expr.Call (PySem.Expr.Name "count_node" p1) [PySem.Expr.Constant (PySem.Const.str "tab") 0 p2, PySem.Expr.BinOp (PySem.Expr.BinOp (PySem.Expr.Constant (PySem.Const.int 0) 0 p3) PySem.Operator.Sub (PySem.Expr.Constant (PySem.Const.int 1) 0 p4) p5) PySem.Operator.Sub (PySem.Expr.Call (PySem.Expr.Name "len" p6) [PySem.Expr.Name "text" p7] [] p8) p9] [] p10) { kind := PySem.ScopeKind.function, names := [(PySem.Str.ofString "text", PySem.NameKind.free), (PySem.Str.ofString "count_node", PySem.NameKind.globalImplicit), (PySem.Str.ofString "len", PySem.NameKind.globalImplicit)], isGenerator := false, isCoroutine := false, more := [] } [((PySem.Str.ofString "text"), c)] pm c' ctv) :: (c', oc) :: rest)) (T : Top topProg LL mean mg mb h₀) (hk : cs.kind = .function) (kd : dp < 320) (ku : un < 280)
    (d1 : oc.data = .fields ocs) (d2 : ocs[1]? = some (.str qual t')) (hc : (c, co) ∈ rest) (hcd : co.data = .cell (some (.str x tx))) (hl : x.length ≤ 4)
    (main : ∀ tk1 h' tk', Fr h₀ L h' m → News h₀ L h' rest → Q (.int 14 tk1) { s with heap := h', toks := tk' }) :
    wpAny (model PySem.Challenge.rw_pf0367_01.row.prog w) (ktrTop dp un gd cn cs L a ccd cl []) (call (.ref 253) [.ref f]) Q E s := by
  have ho := List.Mem.head (a := (f, kla_obj name qual { posonlyargs := [], args := [], vararg := none, kwonlyargs := [], kw_defaults := [], kwarg := none, defaults := [] } (PySem.Expr.Call (PySem.Expr.Name "count_node" p1) [PySem.Expr.Constant (PySem.Const.str "tab") 0 p2, PySem.Expr.BinOp (PySem.Expr.BinOp (PySem.Expr.Constant (PySem.Const.int 0) 0 p3) PySem.Operator.Sub (PySem.Expr.Constant (PySem.Const.int 1) 0 p4) p5) PySem.Operator.Sub (PySem.Expr.Call (PySem.Expr.Name "len" p6) [PySem.Expr.Name "text" p7] [] p8) p9] [] p10) { kind := PySem.ScopeKind.function, names := [(PySem.Str.ofString "text", PySem.NameKind.free), (PySem.Str.ofString "count_node", PySem.NameKind.globalImplicit), (PySem.Str.ofString "len", PySem.NameKind.globalImplicit)], isGenerator := false, isCoroutine := false, more := [] } [((PySem.Str.ofString "text"), c)] pm c' ctv)) ((c', oc) :: rest)
  have hc9 : (c', oc) ∈ ((f, kla_obj name qual { posonlyargs := [], args := [], vararg := none, kwonlyargs := [], kw_defaults := [], kwarg := none, defaults := [] } (PySem.Expr.Call (PySem.Expr.Name "count_node" p1) [PySem.Expr.Constant (PySem.Const.str "tab") 0 p2, PySem.Expr.BinOp (PySem.Expr.BinOp (PySem.Expr.Constant (PySem.Const.int 0) 0 p3) PySem.Operator.Sub (PySem.Expr.Constant (PySem.Const.int 1) 0 p4) p5) PySem.Operator.Sub (PySem.Expr.Call (PySem.Expr.Name "len" p6) [PySem.Expr.Name "text" p7] [] p8) p9] [] p10) { kind := PySem.ScopeKind.function, names := [(PySem.Str.ofString "text", PySem.NameKind.free), (PySem.Str.ofString "count_node", PySem.NameKind.globalImplicit), (PySem.Str.ofString "len", PySem.NameKind.globalImplicit)], isGenerator := false, isCoroutine := false, more := [] } [((PySem.Str.ofString "text"), c)] pm c' ctv) :: (c', oc) :: rest) := .tail _ (.head _)
  replace hc := List.Mem.tail (f, kla_obj name qual { posonlyargs := [], args := [], vararg := none, kwonlyargs := [], kw_defaults := [], kwarg := none, defaults := [] } (PySem.Expr.Call (PySem.Expr.Name "count_node" p1) [PySem.Expr.Constant (PySem.Const.str "tab") 0 p2, PySem.Expr.BinOp (PySem.Expr.BinOp (PySem.Expr.Constant (PySem.Const.int 0) 0 p3) PySem.Operator.Sub (PySem.Expr.Constant (PySem.Const.int 1) 0 p4) p5) PySem.Operator.Sub (PySem.Expr.Call (PySem.Expr.Name "len" p6) [PySem.Expr.Name "text" p7] [] p8) p9] [] p10) { kind := PySem.ScopeKind.function, names := [(PySem.Str.ofString "text", PySem.NameKind.free), (PySem.Str.ofString "count_node", PySem.NameKind.globalImplicit), (PySem.Str.ofString "len", PySem.NameKind.globalImplicit)], isGenerator := false, isCoroutine := false, more := [] } [((PySem.Str.ofString "text"), c)] pm c' ctv) (List.Mem.tail (c', oc) hc)
  exact code_core B F X N T hk kd ku (task_of ho hc9 d1 d2 (evc_5 hc hcd hl) rfl rfl rfl rfl (by decide)) fun tk1 h' tk' F2 N2 => main tk1 h' tk' F2 (KStt.news_of N2 (fun p hp => List.Mem.tail _ (List.Mem.tail _ hp)))
theorem use_6 {w : World} {mean : ExcName → Option Value} {mg mb : Str → Option Value} {dp un : Nat} {gd : Option (List Code)} {cn : Str} {cs : Scope} {a : Addr} {ccd : Value} {cl : List (Str × Addr)} {A₀ : Around} {h₀ : Heap} {L : Addr} {m : Str → Option Value} {s : Shared} {Q E : Value → Shared → Prop} {rest : List (Addr × Obj)} {f c' : Addr} {name qual : Str} {pm ctv : Value} {oc : Obj} {ocs : Array Value} {t' : Tok} {p1 p3 p4 p5 p6 : Pos} {c : Addr} {co : Obj} {x : Str} {tx : Tok} 
    (B : Below A₀ h₀ [] h₀) (F : Fr h₀ L s.heap m) (X : (hd.heap_39 w.params).In h₀) (N : News h₀ L s.heap ((f, kla_obj name qual { posonlyargs := [], args := [], vararg := none, kwonlyargs := [], kw_defaults := [], kwarg := none, defaults := [] } (PySem.Expr.Call (PySem.Expr.Name "count_node" p1) [PySem.Expr.Constant (PySem.Const.str "len") 0 p2, PySem.Expr.BinOp (PySem.Expr.Constant (PySem.Const.str "a") 0 p3) PySem.Operator.Add (PySem.Expr.Name "text" p4) p5] [] p6) { kind := PySem.ScopeKind.function, names := [(PySem.Str.ofString "text", PySem.NameKind.free), (PySem.Str.ofString "count_node", PySem.NameKind.globalImplicit)], isGenerator := false, isCoroutine := false, more := [] } [((PySem.Str.ofString "text"), c)] pm c' ctv) :: (c', oc) :: rest)) (T : Top topProg LL mean mg mb h₀) (hk : cs.kind = .function) (kd : dp < 320) (ku : un < 280)
    (d1 : oc.data = .fields ocs) (d2 : ocs[1]? = some (.str qual t')) (hc : (c, co) ∈ rest) (hcd : co.data = .cell (some (.str x tx))) (hl : x.length ≤ 4)
    (main : ∀ tk1 h' tk', Fr h₀ L h' m → News h₀ L h' rest → Q (.int 1 tk1) { s with heap := h', toks := tk' }) :
    wpAny (model PySem.Challenge.rw_pf0367_01.row.prog w) (ktrTop dp un gd cn cs L a ccd cl []) (call (.ref 253) [.ref f]) Q E s := by
  have ho := List.Mem.head (a := (f, kla_obj name qual { posonlyargs := [], args := [], vararg := none, kwonlyargs := [], kw_defaults := [], kwarg := none, defaults := [] } (PySem.Expr.Call (PySem.Expr.Name "count_node" p1) [PySem.Expr.Constant (PySem.Const.str "len") 0 p2, PySem.Expr.BinOp (PySem.Expr.Constant (PySem.Const.str "a") 0 p3) PySem.Operator.Add (PySem.Expr.Name "text" p4) p5] [] p6) { kind := PySem.ScopeKind.function, names := [(PySem.Str.ofString "text", PySem.NameKind.free), (PySem.Str.ofString "count_node", PySem.NameKind.globalImplicit)], isGenerator := false, isCoroutine := false, more := [] } [((PySem.Str.ofString "text"), c)] pm c' ctv)) ((c', oc) :: rest)
  have hc9 : (c', oc) ∈ ((f, kla_obj name qual { posonlyargs := [], args := [], vararg := none, kwonlyargs := [], kw_defaults := [], kwarg := none, defaults := [] } (PySem.Expr.Call (PySem.Expr.Name "count_node" p1) [PySem.Expr.Constant (PySem.Const.str "len") 0 p2, PySem.Expr.BinOp (PySem.Expr.Constant (PySem.Const.str "a") 0 p3) PySem.Operator.Add (PySem.Expr.Name "text" p4) p5] [] p6) { kind := PySem.ScopeKind.function, names := [(PySem.Str.ofString "text", PySem.NameKind.free), (PySem.Str.ofString "count_node", PySem.NameKind.globalImplicit)], isGenerator := false, isCoroutine := false, more := [] } [((PySem.Str.ofString "text"), c)] pm c' ctv) :: (c', oc) :: rest) := .tail _ (.head _)
  replace hc := List.Mem.tail (f, kla_obj name qual { posonlyargs := [], args := [], vararg := none, kwonlyargs := [], kw_defaults := [], kwarg := none, defaults := [] } (PySem.Expr.Call (PySem.Expr.Name "count_node" p1) [PySem.Expr.Constant (PySem.Const.str "len") 0 p2, PySem.Expr.BinOp (PySem.Expr.Constant (PySem.Const.str "a") 0 p3) PySem.Operator.Add (PySem.Expr.Name "text" p4) p5] [] p6) { kind := PySem.ScopeKind.function, names := [(PySem.Str.ofString "text", PySem.NameKind.free), (PySem.Str.ofString "count_node", PySem.NameKind.globalImplicit)], isGenerator := false, isCoroutine := false, more := [] } [((PySem.Str.ofString "text"), c)] pm c' ctv) (List.Mem.tail (c', oc) hc)
  exact code_core B F X N T hk kd ku (task_of ho hc9 d1 d2 (evc_6 hc hcd hl) rfl rfl rfl rfl (by decide)) fun tk1 h' tk' F2 N2 => main tk1 h' tk' F2 (KStt.news_of N2 (fun p hp => List.Mem.tail _ (List.Mem.tail _ hp)))
theorem use_7 {w : World} {mean : ExcName → Option Value} {mg mb : Str → Option Value} {dp un : Nat} {gd : Option (List Code)} {cn : Str} {cs : Scope} {a : Addr} {ccd : Value} {cl : List (Str × Addr)} {A₀ : Around} {h₀ : Heap} {L : Addr} {m : Str → Option Value} {s : Shared} {Q E : Value → Shared → Prop} {rest : List (Addr × Obj)} {f c' : Addr} {name qual : Str} {pm ctv : Value} {oc : Obj} {ocs : Array Value} {t' : Tok} {p1 p3 p4 p5 p6 p7 : Pos} 
    (B : Below A₀ h₀ [] h₀) (F : Fr h₀ L s.heap m) (X : (hd.heap_39 w.params).In h₀) (N : News h₀ L s.heap ((f, kla_obj name qual { posonlyargs := [], args := [], vararg := none, kwonlyargs := [], kw_defaults := [], kwarg := none, defaults := [] } (PySem.Expr.Call (PySem.Expr.Name "count_node" p1) [PySem.Expr.Constant (PySem.Const.str "pos") 0 p2, PySem.Expr.Call (PySem.Expr.Name "Delayed" p3) [PySem.Expr.Tuple [PySem.Expr.Constant (PySem.Const.str "fails") 0 p4] 0 p5] [] p6] [] p7) { kind := PySem.ScopeKind.function, names := [(PySem.Str.ofString "count_node", PySem.NameKind.globalImplicit), (PySem.Str.ofString "Delayed", PySem.NameKind.globalImplicit)], isGenerator := false, isCoroutine := false, more := [] } [] pm c' ctv) :: (c', oc) :: rest)) (T : Top topProg LL mean mg mb h₀) (hk : cs.kind = .function) (kd : dp < 320) (ku : un < 280)
    (d1 : oc.data = .fields ocs) (d2 : ocs[1]? = some (.str qual t')) 
    (main : ∀ tk1 h' tk', Fr h₀ L h' m → News h₀ L h' rest → Q (.int 0 tk1) { s with heap := h', toks := tk' }) :
    wpAny (model PySem.Challenge.rw_pf0367_01.row.prog w) (ktrTop dp un gd cn cs L a ccd cl []) (call (.ref 253) [.ref f]) Q E s := by
  have ho := List.Mem.head (a := (f, kla_obj name qual { posonlyargs := [], args := [], vararg := none, kwonlyargs := [], kw_defaults := [], kwarg := none, defaults := [] } (PySem.Expr.Call (PySem.Expr.Name "count_node" p1) [PySem.Expr.Constant (PySem.Const.str "pos") 0 p2, PySem.Expr.Call (PySem.Expr.Name "Delayed" p3) [PySem.Expr.Tuple [PySem.Expr.Constant (PySem.Const.str "fails") 0 p4] 0 p5] [] p6] [] p7) { kind := PySem.ScopeKind.function, names := [(PySem.Str.ofString "count_node", PySem.NameKind.globalImplicit), (PySem.Str.ofString "Delayed", PySem.NameKind.globalImplicit)], isGenerator := false, isCoroutine := false, more := [] } [] pm c' ctv)) ((c', oc) :: rest)
  have hc9 : (c', oc) ∈ ((f, kla_obj name qual { posonlyargs := [], args := [], vararg := none, kwonlyargs := [], kw_defaults := [], kwarg := none, defaults := [] } (PySem.Expr.Call (PySem.Expr.Name "count_node" p1) [PySem.Expr.Constant (PySem.Const.str "pos") 0 p2, PySem.Expr.Call (PySem.Expr.Name "Delayed" p3) [PySem.Expr.Tuple [PySem.Expr.Constant (PySem.Const.str "fails") 0 p4] 0 p5] [] p6] [] p7) { kind := PySem.ScopeKind.function, names := [(PySem.Str.ofString "count_node", PySem.NameKind.globalImplicit), (PySem.Str.ofString "Delayed", PySem.NameKind.globalImplicit)], isGenerator := false, isCoroutine := false, more := [] } [] pm c' ctv) :: (c', oc) :: rest) := .tail _ (.head _)
  exact code_ret B F X N T hk kd ku (task_ret_of ho hc9 d1 d2 (evc_7 ) rfl rfl rfl rfl (by decide)) fun tk1 h' tk' F2 N2 => main tk1 h' tk' F2 (KStt.news_of N2 (fun p hp => List.Mem.tail _ (List.Mem.tail _ hp)))
end Mine
end
section
open PySem PySem.W PySem.Calls PyProof.Rows
namespace Mine
theorem tri_nil : TriplesOk (#[] : Array Value).toList := True.intro
theorem tri_list {a b : Int} {c : Value} (l : List Value) (h : TriplesOk l) : TriplesOk (l ++ [rawInt a, rawInt b, c]) := by
  fun_induction TriplesOk l with
  | case1 => exact True.intro
  | case2 a t b u x rest ih => exact ih h
  | case3 => exact h.elim
theorem tri_snoc {ps : Array Value} {a b : Int} {c : Value} (h : TriplesOk ps.toList) : TriplesOk (ps ++ #[rawInt a, rawInt b, c]).toList := by
  rw [Array.toList_append]
  exact tri_list _ h
theorem among_nil {pos : Pos} : codeAmong pos (#[] : Array Value).toList = none := rfl
theorem among_list {pos : Pos} {a b : Int} {c : Value} (l : List Value) (h : TriplesOk l) (hn : codeAmong pos l = none) (hl : (a == (pos.line : Int)) = false) : codeAmong pos (l ++ [rawInt a, rawInt b, c]) = none := by
  fun_induction TriplesOk l with
  | case1 =>
    show (if _ then _ else _) = none
    rw [hl]; rfl
  | case2 x t y u v rest ih =>
    have hn' : (if (x == (pos.line : Int) && y == (pos.col : Int)) = true then some v else codeAmong pos rest) = none := hn
    show (if (x == (pos.line : Int) && y == (pos.col : Int)) = true then some v else codeAmong pos (rest ++ [rawInt a, rawInt b, c])) = none
    by_cases hc : (x == (pos.line : Int) && y == (pos.col : Int)) = true
    · rw [if_pos hc] at hn'; cases hn'
    · rw [if_neg hc] at hn' ⊢; exact ih h hn'
  | case3 => exact h.elim
theorem among_snoc {pos : Pos} {ps : Array Value} {a b : Int} {c : Value} (h : TriplesOk ps.toList) (hn : codeAmong pos ps.toList = none) (hl : (a == (pos.line : Int)) = false) : codeAmong pos (ps ++ #[rawInt a, rawInt b, c]).toList = none := by
  rw [Array.toList_append]
  exact among_list _ h hn hl
end Mine
end
section
open PySem PySem.W PySem.Calls PyProof.Rows
namespace Mine
local macro_rules | `(tactic| ktd_sub) => `(tactic| ((repeat (refine List.forall_mem_cons.mpr ⟨by k_mem, ?_⟩)); first | exact List.forall_mem_nil _ | (intro p9 h9; (repeat (first | exact h9 | refine List.Mem.tail _ ?_)))))
local macro_rules | `(tactic| k_ne) => `(tactic| ((with_reducible rename CellOff _ _ _ => hOff9); exact hOff9.one (by k_memK) (by assumption)))
local macro_rules | `(tactic| k_all) => `(tactic| ((with_reducible rename CellOff _ _ _ => hOff9); exact hOff9.off (by k_memK) (by assumption)))
local macro_rules | `(tactic| k_all) => `(tactic| assumption)
local macro_rules | `(tactic| walk_at "call ref") => `(tactic| (k_here; (with_reducible show wpAny _ _ (call (Value.ref 225) [_]) _ _ _); k_dflt (refine' text_use ?kB ?kF ?kX ?kN ?kT ?kK ?t1 ?t2 ?hb ?hr ?hI ?hl ?h0 ?h1 ?kd ?ku ?_; (case kB => k_asm); (case kF => k_asm); (case kX => k_asm); (case kN => k_asm); (case kT => k_asm); (case kK => first | exact rfl | assumption); (case t1 => (repeat' (first | exact Take.head | refine' Take.tail ?_))); (case t2 => (repeat' (first | exact Take.head | refine' Take.tail ?_))); (case hb => first | assumption | k_ne); (case hr => k_all); (case hI => assumption); (case hl => (first | assumption | (simp only [List.length_map, List.length_take]; omega))); (case h0 => omega); (case h1 => omega); (case kd => ktr_room); (case ku => ktr_units)); intro x9 t9 tk1 tk2 h9 tk9 hx9 ht9 ht10 F9 N9; (try dsimp only); (try k_fold)))
local macro_rules | `(tactic| walk_at "call ref") => `(tactic| (k_here; (with_reducible show wpAny _ _ (call (Value.ref 232) [_]) _ _ _); k_dflt (refine' quoted_use ?kB ?kF ?kX ?kN ?kT ?kK ?hl ?kd ?ku ?_; (case kB => k_asm); (case kF => k_asm); (case kX => k_asm); (case kN => k_asm); (case kT => k_asm); (case kK => first | exact rfl | assumption); (case hl => omega); (case kd => ktr_room); (case ku => ktr_units)); intro tk1 h9 tk9 hL9 F9 N9; (try dsimp only); (try k_fold)))
local macro_rules | `(tactic| walk_at "call ref") => `(tactic| (k_here; (with_reducible show wpAny _ _ (call (Value.ref 199) [_]) _ _ _); k_dflt (refine' shown_text_use ?kB ?kF ?kX ?kN ?kT ?kK ?hl ?kd ?ku ?_; (case kB => k_asm); (case kF => k_asm); (case kX => k_asm); (case kN => k_asm); (case kT => k_asm); (case kK => first | exact rfl | assumption); (case hl => omega); (case kd => ktr_room); (case ku => ktr_units)); intro tk1 h9 tk9 hL9 F9 N9; (try dsimp only); (try k_fold)))
local macro_rules | `(tactic| walk_at "call ref") => `(tactic| (k_here; (with_reducible show wpAny _ _ (call (Value.ref 246) [_, _]) _ _ _); k_dflt (refine' drawn_use ?kB ?kF ?kX ?kN ?kT ?kK ?t1 ?t2 ?hb ?hr ?hI ?hl ?kd ?ku ?_; (case kB => k_asm); (case kF => k_asm); (case kX => k_asm); (case kN => k_asm); (case kT => k_asm); (case kK => first | exact rfl | assumption); (case t1 => (repeat' (first | exact Take.head | refine' Take.tail ?_))); (case t2 => (repeat' (first | exact Take.head | refine' Take.tail ?_))); (case hb => first | assumption | k_ne); (case hr => k_all); (case hI => assumption); (case hl => (first | assumption | (simp only [List.length_map, List.length_take]; omega))); (case kd => ktr_room); (case ku => ktr_units)); intro c9 v9 p9 tk1 tk2 n9 t9 tl9 h9 tk9 ht9 ht10 R9 hl9 hz9 hoff9 htl9 hcn9 F9 N9; (simp only [List.cons_append, List.nil_append] at N9); (try dsimp only); (try k_fold)))
local macro_rules | `(tactic| walk_at "call ref") => `(tactic| (k_here; (with_reducible show wpAny _ _ (call (Value.ref 213) [_]) _ _ _); k_dflt (refine' show_drop ?R ?kB ?kF ?kX ?kN ?kT ?kK ?d ?hl ?hz ?kd ?ku ?_; (case R => assumption); (case kB => k_asm); (case kF => k_asm); (case kX => k_asm); (case kN => k_asm); (case kT => k_asm); (case kK => first | exact rfl | assumption); (case d => (refine' Drop.cons (Drop.cons (Drop.skip ?_)); (repeat' (first | exact Drop.nil | refine' Drop.cons ?_)))); (case hl => assumption); (case hz => assumption); (case kd => ktr_room); (case ku => ktr_units)); intro tk1 h9 tk9 F9 N9; (try dsimp only); (try k_fold)))
local macro_rules | `(tactic| walk_at "call ref") => `(tactic| (k_here; (with_reducible show wpAny _ _ (call (Value.ref 239) [_]) _ _ _); k_dflt (refine' joined_use ?kB ?kF ?kX ?kN ?kT ?kK ?hl ?kd ?ku ?_; (case kB => k_asm); (case kF => k_asm); (case kX => k_asm); (case kN => k_asm); (case kT => k_asm); (case kK => first | exact rfl | assumption); (case hl => omega); (case kd => ktr_room); (case ku => ktr_units)); intro tk1 h9 tk9 F9 N9; (try dsimp only); (try k_fold)))
local macro_rules | `(tactic| walk_at "call ref") => `(tactic| (k_here; (with_reducible show wpAny _ _ (call (Value.ref 253) [_]) _ _ _); k_dflt ((first | (refine' use_1 ?kB ?kF ?kX ?kN ?kT ?kK ?kd ?ku ?d1 ?d2 ?e1 ?e2 ?e3 ?e4 ?_; (case kN => k_asm)) | (refine' use_2 ?kB ?kF ?kX ?kN ?kT ?kK ?kd ?ku ?d1 ?d2 ?e1 ?e2 ?e3 ?_; (case kN => k_asm)) | (refine' use_3 ?kB ?kF ?kX ?kN ?kT ?kK ?kd ?ku ?d1 ?d2 ?_; (case kN => k_asm)) | (refine' use_4 ?kB ?kF ?kX ?kN ?kT ?kK ?kd ?ku ?d1 ?d2 ?e1 ?e2 ?e3 ?e4 ?_; (case kN => k_asm)) | (refine' use_5 ?kB ?kF ?kX ?kN ?kT ?kK ?kd ?ku ?d1 ?d2 ?e1 ?e2 ?e3 ?_; (case kN => k_asm)) | (refine' use_6 ?kB ?kF ?kX ?kN ?kT ?kK ?kd ?ku ?d1 ?d2 ?e1 ?e2 ?e3 ?_; (case kN => k_asm)) | (refine' use_7 ?kB ?kF ?kX ?kN ?kT ?kK ?kd ?ku ?d1 ?d2 ?_; (case kN => k_asm))); (case kB => k_asm); (case kF => k_asm); (case kX => k_asm); (case kT => k_asm); (case kK => first | exact rfl | assumption); (case kd => ktr_room); (case ku => ktr_units); (case d1 => assumption); (case d2 => assumption); (try (case e1 => k_mem)); (try (case e2 => assumption)); (try (case e3 => first | assumption | k_mem)); (try (case e4 => k_mem))); intro _ _ _ _ _; (try dsimp only); (try k_fold); walk_say "CODE"))
local macro_rules | `(tactic| k_room) => `(tactic| ktr_room)
local macro_rules | `(tactic| k_updF) => `(tactic| first | (refine' UpdF.head ?a; (case a => exact List.forall_mem_nil _)) | (refine' UpdF.tail ?a ?b; (case a => (refine' ne_obj ?N ?hp ?ht ?hd; (case N => k_asm); (case hp => k_mem); (case ht => k_mem); (case hd => (dsimp only; (first | exact tab_cls (cls_inst _ _) | exact tab_cls (cls_dict _ _) | exact tab_cls (cls_list _ _) | exact tab_cls (cls_tup _ _) | exact tab_cls cls_kla | exact tab_cell (by assumption)))))); (case b => k_updF)))
local macro_rules | `(tactic| walk_at "callWith ref") => `(tactic| (k_here; k_dflt (first | (refine' callWith_K ?k1 ?k2 ?_; (case k1 => k_asm); (case k2 => k_is); k_whole) | (refine' callWith_K0 ?k1 ?k2 ?_; (case k1 => k_in); (case k2 => k_is); k_whole))))
local macro_rules | `(tactic| walk_at "eval Lambda") => `(tactic| (k_here; kn_here; k_dflt (refine' kla_eval ?d0 ?_; (case d0 => exact rfl)); k_dflt (refine' kla_nest ?F ?N ?T ?C ?cd ?U ?t ?n ?cl ?_; (case F => k_asm); (case N => k_asm); (case T => k_asm); (case cd => exact rfl); (case C => kn_code); (case U => k_updF); (case t => (repeat' (first | (with_reducible refine' tri_snoc ?_) | ((with_reducible refine' among_snoc ?_ ?_ ?hl9); (case hl9 => exact rfl)) | (with_reducible exact tri_nil) | (with_reducible exact among_nil)))); (case n => (repeat' (first | (with_reducible refine' tri_snoc ?_) | ((with_reducible refine' among_snoc ?_ ?_ ?hl9); (case hl9 => exact rfl)) | (with_reducible exact tri_nil) | (with_reducible exact among_nil)))); (case cl => exact rfl); k_whole); intro f' c' oc' vs' t' ct' h' tk' F' N' d1' d2' l1 l2; (try dsimp only at N'); (try k_lt l1); (try k_lt2 l2)))
set_option maxRecDepth 100000 in
set_option maxHeartbeats 40000000 in
theorem law_holds : PySem.Challenge.rw_pf0367_01.Holds := by
  refine hd ⟨left_all, ?_⟩
  w_top off
  k_go0
  (all_goals try k_fold)
  repeat' ((first | (k_unfold; (try dsimp only)) | (k_end; wrow_close) | walk1 | (dsimp only; walk1) | (leave1; walk_say "STEP leave1"; try dsimp only) | fail "no step"))
  all_goals (try k_data)
end Mine
end
theorem PySem.Challenge.cw_pf0367_01_holds : PySem.Challenge.rw_pf0367_01.Holds :=
  Mine.law_holds
