import PyProof.Rows.All
import Wide.All
import OpenK.AllK
import Wide.FinOn
import HandS.ForMost
import HandS.ForExc
import HandS.Wide
import HandS.IsInst
import HandS.Style
import HandS.Flow
import HandS.CallSlots
import HandS.Defaults
import HandS.TupAny
import HandS.TupMul
import KE.KxText
import KE.KStateDown
import HandS.Ends
import HandS.HeadEnd
import HandS.Head0
import HandS.Head1
import HandS.Head2
import HandS.HeadHook1
import HandS.HeadHook2
import PySem.Challenge.RW_truthwell_k01_kinds_of_any_values
set_option Elab.async false
set_option linter.all false
set_option maxRecDepth 100000
/-! Mi: data by value over the hand layer: each construct of the text has a meaning on plain data (M), and a rule that the machine does what the meaning says. -/
namespace Mi
open PySem PySem.Spec L2
/-! ### side conditions by small looks at the text -/
def noStar : Expr → Bool
  | .Starred _ _ => false
  | _ => true
def noSet : Expr → Bool
  | .Set _ _ _ => false
  | _ => true
def noComp : Expr → Bool
  | .ListComp _ _ _ _ => false
  | .SetComp _ _ _ _ => false
  | .DictComp _ _ _ _ _ => false
  | _ => true
def noSlice : Expr → Bool
  | .Slice _ _ _ _ => false
  | _ => true
def noTup : Expr → Bool
  | .Tuple _ _ _ => false
  | .List _ _ => false
  | _ => true
def plainT : Expr → Bool
  | .UnaryOp .Not _ _ => false
  | .BoolOp _ _ _ => false
  | .IfExp _ _ _ _ => false
  | .Compare _ _ _ _ => false
  | _ => true
def noSuper : Expr → Bool
  | .Call (.Name _ _) [] [] _ => false
  | _ => true
theorem star_cons {e : Expr} {es : List Expr} {env : Env} (h : noStar e = true) : starEach (e :: es) env = (false, eval e env) :: starEach es env := by
  cases e <;> first | rfl | cases h
theorem star_any {pos : Pos} {env : Env} : ∀ {es : List Expr}, es.all noStar = true → (backTo pos (starEach es env)).any (·.1) = false
  | [], _ => rfl
  | e :: es, h => by
    simp only [List.all_cons, Bool.and_eq_true] at h
    rw [star_cons h.1]
    show ((false, _) :: backTo pos (starEach es env)).any (·.1) = false
    rw [List.any_cons, star_any h.2]
    rfl
theorem star_all {pos : Pos} {env : Env} : ∀ {es : List Expr}, es.all noStar = true → (backTo pos (starEach es env)).all (fun x => !x.1) = true
  | [], _ => rfl
  | e :: es, h => by
    simp only [List.all_cons, Bool.and_eq_true] at h
    rw [star_cons h.1]
    show ((false, _) :: backTo pos (starEach es env)).all (fun x => !x.1) = true
    rw [List.all_cons, star_all h.2]
    rfl
theorem few_args {pos : Pos} {env : Env} {es : List Expr} (h : es.all noStar = true) (hl : Nat.blt es.length 30 = true) : ((backTo pos (starEach es env)).all (fun x => !x.1) && (backToKw pos (keywordEach [] env)).all (fun x => x.1.isSome)
      && decide (es.length + ([] : List Keyword).length + (if ([] : List Keyword).isEmpty then 0 else 1) < 30)) = true := by
  rw [star_all h]
  have : es.length < 30 := Nat.le_of_ble_eq_true hl
  show (true && true && decide (es.length + 0 + 0 < 30)) = true
  simpa using this
theorem base_plain {o : Expr} {name : Str} {env : Env} (h : noSuper o = true) : attributeBase o name env (eval o env) = eval o env := by
  unfold noSuper at h
  split at h
  · cases h
  · rename_i hne
    unfold attributeBase
    split
    · rename_i id p pos
      exact absurd rfl (hne id p pos)
    · rfl
theorem swaps_plain {e : Expr} {tg : Option Expr} {line : Nat} {env : Env} (h : noComp e = true) : swapsWith e tg line env = pure false := by
  cases e <;> first | rfl | cases h
theorem sole_plain {e tg : Expr} {line : Nat} {env : Env} (h : noComp e = true) : swapsWithSole [tg] e line env = pure false := swaps_plain h
theorem test_plain {e : Expr} {env : Env} {whole : Sem Value} (h : plainT e = true) : isTrue e env whole = (do let v ← whole; standAt e.pos; holding [v] (truthy v)) := by
  cases e with
  | UnaryOp op a p => cases op <;> first | rfl | cases h
  | BoolOp _ _ _ => cases h
  | IfExp _ _ _ _ => cases h
  | Compare _ _ _ _ => cases h
  | _ => rfl
theorem fold_plain {e : Expr} {env : Env} {x : Value} (h : noSet e = true) : foldedSetIterable e env x = pure x := by
  cases e <;> first | rfl | cases h
theorem marks_plain {op : CmpOp} {b : Expr} (h : noSet b = true) : behindInMarks op b = false := by
  cases b <;> first | rfl | cases h
theorem ix_plain {b : Expr} (h : noSlice b = true) : PlainIx b := fun o i => by
  cases b <;> first | rfl | cases h
theorem assign_cons {e : Expr} {es : List Expr} {env : Env} (h : noStar e = true) : (assignEach (e :: es) env).map (·.2) = assign e env :: (assignEach es env).map (·.2) := by
  cases e <;> first | rfl | cases h
theorem assign_one {e : Expr} {env : Env} (h : noStar e = true) : (assignEach [e] env).map (·.2) = [assign e env] := by
  rw [assign_cons h]
  rfl
theorem assign_cons' {e : Expr} {es : List Expr} {env : Env} (h : noStar e = true) : assignEach (e :: es) env = (false, assign e env) :: assignEach es env := by
  cases e <;> first | rfl | cases h
theorem assign_len {env : Env} : ∀ {es : List Expr}, es.all noStar = true → (assignEach es env).length = es.length
  | [], _ => rfl
  | e :: es, h => by
    simp only [List.all_cons, Bool.and_eq_true] at h
    rw [assign_cons' h.1, List.length_cons, assign_len h.2, List.length_cons]
theorem assign_star {env : Env} : ∀ {es : List Expr}, es.all noStar = true → (assignEach es env).findIdx? (·.1) = none
  | [], _ => rfl
  | e :: es, h => by
    simp only [List.all_cons, Bool.and_eq_true] at h
    rw [assign_cons' h.1, List.findIdx?_cons, assign_star h.2]
    rfl
theorem swapped1 {tg e : Expr} {env : Env} (h : noTup tg = true) : swappedStores [tg] e env = pure none := by
  cases tg <;> first | rfl | cases h
theorem swapped2 {tg e : Expr} {env : Env} (h : noTup e = true) : swappedStores [tg] e env = pure none := by
  unfold swappedStores
  cases e with
  | Tuple _ _ _ => cases h
  | _ => cases tg <;> rfl
/-- the compiler's look at a, b = x, y -/
def swNs (names : List (Str × NameKind)) (ts : List Expr) : List Str := ts.filterMap fun
    | .Name id pos => if names.lookup id == some .local && pos.line == (ts.head?.map (·.pos.line)).getD 0 then some id else none
    | _ => none
def swStars (vs : List Expr) : Bool := vs.any fun | .Starred .. => true | _ => false
def swN (sc : Scope) (ts vs : List Expr) : Option (Option (List Str)) :=
  match !(ts.length == 2 || ts.length == 3) || vs.length != ts.length || (if sc.kind.isAnnotationScope then ScopeKind.function else sc.kind) != .function with
  | true => some none
  | false => match swStars vs with
    | true => some none
    | false => match (swNs sc.names ts).length != ts.length || (swNs sc.names ts).eraseDups.length != (swNs sc.names ts).length with
      | true => some none
      | false => match vs.all (foldedForSure 8) with
        | true => some none
        | false => match vs.all (constantsAlone 8) with
          | true => none
          | false => some (some (swNs sc.names ts))
theorem sw_form {ts vs : List Expr} {k k2 : Nat} {p p2 : Pos} {env : Env} : swappedStores [.Tuple ts k p] (.Tuple vs k2 p2) env =
    (if (!(ts.length == 2 || ts.length == 3) || vs.length != ts.length || (if env.scope.kind.isAnnotationScope then ScopeKind.function else env.scope.kind) != .function) = true then pure none
      else if swStars vs = true then pure none
      else if ((swNs env.scope.names ts).length != ts.length || (swNs env.scope.names ts).eraseDups.length != (swNs env.scope.names ts).length) = true then pure none
      else if vs.all (foldedForSure 8) = true then pure none
      else if vs.all (constantsAlone 8) = true then (do unsupported "assign.tuple-of-constant-expressions:order-of-the-stores"; return some (swNs env.scope.names ts))
      else pure (some (swNs env.scope.names ts))) := rfl
theorem swN_ok {sc : Scope} {ts vs : List Expr} {k k2 : Nat} {p p2 : Pos} {env : Env} {r : Option (List Str)} (he : env.scope = sc) (h : swN sc ts vs = some r) : swappedStores [.Tuple ts k p] (.Tuple vs k2 p2) env = pure r := by
  subst he
  rw [sw_form]
  unfold swN at h
  split at h
  · rename_i h1
    cases h
    exact if_pos h1
  · rename_i h1
    rw [if_neg (by rw [h1]; exact Bool.noConfusion)]
    split at h
    · rename_i h2
      cases h
      exact if_pos h2
    · rename_i h2
      rw [if_neg (by rw [h2]; exact Bool.noConfusion)]
      split at h
      · rename_i h3
        cases h
        exact if_pos h3
      · rename_i h3
        rw [if_neg (by rw [h3]; exact Bool.noConfusion)]
        split at h
        · rename_i h4
          cases h
          exact if_pos h4
        · rename_i h4
          rw [if_neg (by rw [h4]; exact Bool.noConfusion)]
          split at h
          · cases h
          · rename_i h5
            rw [if_neg (by rw [h5]; exact Bool.noConfusion)]
            cases h
            rfl
/-- a name's slot, to be read -/
def nmB (N : List Str) (sc : Scope) (i : Nat) (x : Str) : Bool := decide (N[i]? = some x) && (match sc.names.lookup x with
  | some .local => true
  | some .cell => true
  | some .free => true
  | _ => false) && !(x == ("__debug__" : Str)) && !(x == ("__classdict__" : Str))
theorem nmB_ok {N : List Str} {sc : Scope} {i : Nat} {x : Str} (h : nmB N sc i x = true) : N[i]? = some x ∧ Vis sc x ∧ (x == ("__debug__" : Str)) = false ∧ (x == ("__classdict__" : Str)) = false := by
  unfold nmB at h
  simp only [Bool.and_eq_true, Bool.not_eq_true'] at h
  obtain ⟨⟨⟨h1, h2⟩, h3⟩, h4⟩ := h
  refine ⟨of_decide_eq_true h1, ?_, h3, h4⟩
  split at h2
  · rename_i e; exact .inl e
  · rename_i e; exact .inr (.inl e)
  · rename_i e; exact .inr (.inr e)
  · cases h2
/-- what may be stored by its own scope: all, or the own names of a comprehension -/
def ownB (o : Option Scope) (x : Str) : Bool := match o with
  | none => true
  | some s => (match s.names.lookup x with
    | some .local => true
    | some .cell => true
    | _ => false)
/-- a name's slot, to be stored -/
def stB (N : List Str) (sc : Scope) (o : Option Scope) (i : Nat) (x : Str) : Bool := decide (N[i]? = some x) && (match sc.names.lookup x with
  | some .local => true
  | some .cell => true
  | _ => false) && ownB o x
theorem stB_ok {N : List Str} {sc : Scope} {o : Option Scope} {i : Nat} {x : Str} (h : stB N sc o i x = true) : N[i]? = some x ∧ Loc sc x ∧ ownB o x = true := by
  unfold stB at h
  simp only [Bool.and_eq_true] at h
  obtain ⟨⟨h1, h2⟩, h3⟩ := h
  refine ⟨of_decide_eq_true h1, ?_, h3⟩
  split at h2
  · rename_i e; exact .inl e
  · rename_i e; exact .inr e
  · cases h2
/-- a name of the module or a built-in -/
def gbB (sc : Scope) (x : Str) : Bool := decide (sc.names.lookup x = some .globalImplicit) && !(x == ("__debug__" : Str)) && !(x == ("__name__" : Str))
theorem gbB_ok {sc : Scope} {x : Str} (h : gbB sc x = true) : sc.names.lookup x = some .globalImplicit ∧ (x == ("__debug__" : Str)) = false ∧ x ≠ "__name__" := by
  unfold gbB at h
  simp only [Bool.and_eq_true, Bool.not_eq_true'] at h
  obtain ⟨⟨h1, h2⟩, h3⟩ := h
  exact ⟨of_decide_eq_true h1, h2, fun e => by rw [e] at h3; simp at h3⟩
def kwB (kws : List Keyword) (ks : List Str) : Bool := decide (kws.map (·.arg) = ks.map some)
theorem kw_names {pos : Pos} {env : Env} : ∀ {kws : List Keyword} {ks : List Str}, kws.map (·.arg) = ks.map some → (backToKw pos (keywordEach kws env)).all (·.1.isSome) = true ∧ (backToKw pos (keywordEach kws env)).filterMap (·.1) = ks ∧ (backToKw pos (keywordEach kws env)).any (·.1.isNone) = false
  | [], [], _ => ⟨rfl, rfl, rfl⟩
  | [], _ :: _, h => by simp at h
  | ⟨nm, v, p⟩ :: kws, [], h => by simp at h
  | ⟨nm, v, p⟩ :: kws, k :: ks, h => by
    simp only [List.map_cons, List.cons.injEq] at h
    obtain ⟨h1, h2⟩ := h
    subst h1
    obtain ⟨e1, e2, e3⟩ := kw_names (pos := pos) (env := env) h2
    refine ⟨?_, ?_, ?_⟩
    · show ((some k, _) :: backToKw pos (keywordEach kws env)).all (·.1.isSome) = true
      rw [List.all_cons, e1]
      rfl
    · show ((some k, _) :: backToKw pos (keywordEach kws env)).filterMap (·.1) = k :: ks
      rw [List.filterMap_cons_some (f := fun (x : Option Str × _) => x.1) (b := k) rfl, e2]
    · show ((some k, _) :: backToKw pos (keywordEach kws env)).any (·.1.isNone) = false
      rw [List.any_cons, e3]
      rfl
/-- y = [..] on one line -/
def cmB (N : List Str) (sc scope : Scope) (i : Nat) (y : Str) : Bool := decide (N[i]? = some y) && decide (sc.names.lookup y = some .local) && decide (sc.kind = .function) && !(scope.names.any fun (n, k) => n == y && (k == .local || k == .cell))
theorem cmB_ok {N : List Str} {sc scope : Scope} {i : Nat} {y : Str} (h : cmB N sc scope i y = true) : N[i]? = some y ∧ sc.names.lookup y = some .local ∧ sc.kind = .function ∧ (scope.names.any fun (n, k) => n == y && (k == .local || k == .cell)) = false := by
  unfold cmB at h
  simp only [Bool.and_eq_true, Bool.not_eq_true'] at h
  obtain ⟨⟨⟨h1, h2⟩, h3⟩, h4⟩ := h
  exact ⟨of_decide_eq_true h1, of_decide_eq_true h2, of_decide_eq_true h3, h4⟩
end Mi

namespace Mi
open PySem PySem.Spec L2

/-! ### data -/
inductive D where
  | non | bl (b : Bool) | int (i : Int) | str (x : Str)
  | lst (xs : List D) | rol (xs : List D) | tup (xs : List D)
  | ins (c : Str) (ns : List Str) (vs : List D)
  | glo (x : Str) | ty (n : String)
  | dct (ks : List Key) (vs : List D)
  deriving Inhabited

section
variable (K : PySem.W.Frag) (mg : Str → Option Value) (F : Hp)
mutual
inductive Rp : D → V → Prop
  | non : Rp .non .non
  | bl (b : Bool) : Rp (.bl b) (.bl b)
  | int (i : Int) : Rp (.int i) (.int i)
  | str (x : Str) : Rp (.str x) (.str x)
  | ty (n : String) : Rp (.ty n) (.ty n)
  | lst {a : Addr} {xs : List V} {ds : List D} (h : F a = some (.lst xs)) (r : Rps ds xs) : Rp (.lst ds) (.ref a)
  | rol {a : Addr} {xs : List V} {ds : List D} (h : SqL K F a xs) (r : Rps ds xs) : Rp (.rol ds) (.ref a)
  | tup {a : Addr} {xs : List V} {ds : List D} (h : SqT K F a xs) (r : Rps ds xs) : Rp (.tup ds) (.ref a)
  | ins {a C dx : Addr} {c : Str} {ns : List Str} {xs : List V} {ds : List D} (g : mg c = some (.ref C)) (h : F a = some (.ins C dx (ns.zip xs))) (l : ns.length = ds.length) (r : Rps ds xs) : Rp (.ins c ns ds) (.ref a)
  | glo {a : Addr} {x : Str} (g : mg x = some (.ref a)) : Rp (.glo x) (.ref a)
  | dct {a : Addr} {ks : List Key} {xs : List V} {ds : List D} (h : F a = some (.dK (ks.zip xs))) (l : ks.length = ds.length) (r : Rps ds xs) : Rp (.dct ks ds) (.ref a)
inductive Rps : List D → List V → Prop
  | nil : Rps [] []
  | cons {d : D} {ds : List D} {v : V} {vs : List V} (h : Rp d v) (r : Rps ds vs) : Rps (d :: ds) (v :: vs)
end
end
theorem sqT_mono {K : PySem.W.Frag} {H H' : Hp} {a : Addr} {xs : List V} (e : Same H H') (h : SqT K H a xs) : SqT K H' a xs := by
  rcases h with (h | ⟨o, h⟩) | h
  · exact .inl (.inl (e _ _ h))
  · exact .inl (.inr ⟨o, e _ _ h⟩)
  · exact .inr h
section
variable {K : PySem.W.Frag} {mg : Str → Option Value} {F F' : Hp}
mutual
theorem Rp.mono (e : Same F F') : ∀ (d : D) (v : V), Rp K mg F d v → Rp K mg F' d v
  | .non, _, h => by cases h; exact .non
  | .bl _, _, h => by cases h; exact .bl _
  | .int _, _, h => by cases h; exact .int _
  | .str _, _, h => by cases h; exact .str _
  | .ty _, _, h => by cases h; exact .ty _
  | .glo _, _, h => by
    cases h with
    | glo g => exact .glo g
  | .lst ds, _, h => by
    cases h with
    | lst h r => exact .lst (e _ _ h) (Rps.mono e ds _ r)
  | .rol ds, _, h => by
    cases h with
    | rol h r => exact .rol (e.seq h) (Rps.mono e ds _ r)
  | .tup ds, _, h => by
    cases h with
    | tup h r => exact .tup (sqT_mono e h) (Rps.mono e ds _ r)
  | .ins c ns ds, _, h => by
    cases h with
    | ins g h l r => exact .ins g (e _ _ h) l (Rps.mono e ds _ r)
  | .dct ks ds, _, h => by
    cases h with
    | dct h l r => exact .dct (e _ _ h) l (Rps.mono e ds _ r)
theorem Rps.mono (e : Same F F') : ∀ (ds : List D) (vs : List V), Rps K mg F ds vs → Rps K mg F' ds vs
  | [], _, h => by cases h; exact .nil
  | d :: ds, _, h => by
    cases h with
    | cons h r => exact .cons (Rp.mono e d _ h) (Rps.mono e ds _ r)
end
theorem Rps.length : ∀ {ds : List D} {vs : List V}, Rps K mg F ds vs → ds.length = vs.length
  | [], _, h => by cases h; rfl
  | d :: ds, _, h => by
    cases h with
    | cons h r => simp [Rps.length r]
theorem Rps.get : ∀ {ds : List D} {vs : List V} {i : Nat} {d : D}, Rps K mg F ds vs → ds[i]? = some d → ∃ v, vs[i]? = some v ∧ Rp K mg F d v
  | [], _, _, _, _, e => by simp at e
  | d :: ds, _, 0, _, .cons h r, e => by
    simp at e; subst e
    exact ⟨_, rfl, h⟩
  | d :: ds, _, i + 1, _, .cons h r, e => by
    obtain ⟨v, h1, h2⟩ := Rps.get (i := i) r (by simpa using e)
    exact ⟨v, by simpa using h1, h2⟩
theorem Rps.get' : ∀ {ds : List D} {vs : List V} {i : Nat} {v : V}, Rps K mg F ds vs → vs[i]? = some v → ∃ d, ds[i]? = some d ∧ Rp K mg F d v
  | [], _, _, _, h, e => by cases h; simp at e
  | d :: ds, _, 0, _, .cons h r, e => by
    simp at e; subst e
    exact ⟨_, rfl, h⟩
  | d :: ds, _, i + 1, _, .cons h r, e => by
    obtain ⟨v, h1, h2⟩ := Rps.get' (i := i) r (by simpa using e)
    exact ⟨v, by simpa using h1, h2⟩
theorem Rps.append : ∀ {ds es : List D} {vs us : List V}, Rps K mg F ds vs → Rps K mg F es us → Rps K mg F (ds ++ es) (vs ++ us)
  | [], _, _, _, .nil, s => s
  | _ :: _, _, _, _, .cons h r, s => .cons h (Rps.append r s)
theorem Rps.set {d : D} {v : V} (h : Rp K mg F d v) : ∀ {ds : List D} {vs : List V} (i : Nat), Rps K mg F ds vs → Rps K mg F (ds.set i d) (vs.set i v)
  | [], _, _, .nil => .nil
  | _ :: _, _, 0, .cons _ r => .cons h r
  | _ :: _, _, i + 1, .cons q r => .cons q (Rps.set h i r)
theorem Rps.take : ∀ {ds : List D} {vs : List V} (n : Nat), Rps K mg F ds vs → Rps K mg F (ds.take n) (vs.take n)
  | _, _, 0, _ => by simp; exact .nil
  | _, _, n + 1, .nil => by simp; exact .nil
  | _, _, n + 1, .cons h r => by simp; exact .cons h (Rps.take n r)
theorem Rps.drop : ∀ {ds : List D} {vs : List V} (n : Nat), Rps K mg F ds vs → Rps K mg F (ds.drop n) (vs.drop n)
  | _, _, 0, r => by simpa using r
  | _, _, n + 1, .nil => by simp; exact .nil
  | _, _, n + 1, .cons h r => by simpa using Rps.drop n r
theorem Rps.of {ds : List D} {vs : List V} (l : ds.length = vs.length) (h : ∀ (i : Nat) (d : D), ds[i]? = some d → ∃ v, vs[i]? = some v ∧ Rp K mg F d v) : Rps K mg F ds vs := by
  induction ds generalizing vs with
  | nil =>
    cases vs with
    | nil => exact .nil
    | cons v vs => simp at l
  | cons d ds ih =>
    cases vs with
    | nil => simp at l
    | cons v vs =>
      obtain ⟨w, e, r⟩ := h 0 d rfl
      simp at e; subst e
      refine .cons r (ih (by simpa using l) fun i d' e => ?_)
      obtain ⟨w, e1, r1⟩ := h (i + 1) d' (by simpa using e)
      exact ⟨w, by simpa using e1, r1⟩
theorem Rps.replicate {d : D} {v : V} (h : Rp K mg F d v) : ∀ n : Nat, Rps K mg F (List.replicate n d) (List.replicate n v)
  | 0 => .nil
  | n + 1 => .cons h (Rps.replicate h n)
theorem Rps.reverse : ∀ {ds : List D} {vs : List V}, Rps K mg F ds vs → Rps K mg F ds.reverse vs.reverse
  | [], _, .nil => by simp; exact .nil
  | d :: ds, _, .cons h r => by
    simp only [List.reverse_cons]
    exact (Rps.reverse r).append (.cons h .nil)
end

/-! ### slots, the state of a def -/
/-- a slot: nothing known; a value that never changes; a changing object (k: it came as an argument) by what it holds -/
inductive Sl where
  | nil | val (d : D) | cel (k : Bool) (d : D)
  deriving Inhabited
/-- what an expression gives: data, or the changing object of a slot -/
inductive A where
  | d (x : D) | slot (i : Nat)
  deriving Inhabited
structure Bs where
  H0 : Hp
  F0 : Hp
  io : List (Nat × Addr)
  P : List (Addr × HO)

/-- the changing object at a holds d -/
inductive Cont (K : PySem.W.Frag) (mg : Str → Option Value) (F H : Hp) (a : Addr) : D → Prop
  | lst {xs : List V} {ds : List D} (h : H a = some (.lst xs)) (r : Rps K mg F ds xs) : Cont K mg F H a (.lst ds)
  | ins {C dx : Addr} {c : Str} {ns : List Str} {xs : List V} {ds : List D} (g : mg c = some (.ref C)) (h : H a = some (.ins C dx (ns.zip xs))) (l : ns.length = ds.length) (r : Rps K mg F ds xs) : Cont K mg F H a (.ins c ns ds)
  | dct {ks : List Key} {xs : List V} {ds : List D} (h : H a = some (.dK (ks.zip xs))) (l : ks.length = ds.length) (r : Rps K mg F ds xs) : Cont K mg F H a (.dct ks ds)
section
variable {K : PySem.W.Frag} {mg : Str → Option Value} {F F' H H' : Hp} {a : Addr} {d : D}
theorem Cont.some (c : Cont K mg F H a d) : ∃ o, H a = some o := by
  cases c with
  | lst h r => exact ⟨_, h⟩
  | ins g h l r => exact ⟨_, h⟩
  | dct h l r => exact ⟨_, h⟩
theorem Cont.mono (c : Cont K mg F H a d) (e : Same F F') (h' : H' a = H a) : Cont K mg F' H' a d := by
  cases c with
  | lst h r => exact .lst (h'.trans h) (Rps.mono e _ _ r)
  | ins g h l r => exact .ins g (h'.trans h) l (Rps.mono e _ _ r)
  | dct h l r => exact .dct (h'.trans h) l (Rps.mono e _ _ r)
/-- it never changes from now on -/
theorem Cont.rp (c : Cont K mg F H a d) (e : Same F F') (h' : F' a = H a) : Rp K mg F' d (.ref a) := by
  cases c with
  | lst h r => exact .lst (h'.trans h) (Rps.mono e _ _ r)
  | ins g h l r => exact .ins g (h'.trans h) l (Rps.mono e _ _ r)
  | dct h l r => exact .dct (h'.trans h) l (Rps.mono e _ _ r)
end

structure SOk (K : PySem.W.Frag) (mg : Str → Option Value) (B : Bs) (ρ : List Sl) (σ : St) (H F : Hp) : Prop where
  len : ρ.length = σ.length
  val : ∀ (i : Nat) (d : D), ρ[i]? = some (.val d) → ∃ v, σ[i]? = some (some v) ∧ Rp K mg F d v
  cel : ∀ (i : Nat) (k : Bool) (d : D), ρ[i]? = some (.cel k d) → ∃ a, σ[i]? = some (some (.ref a)) ∧ F a = none ∧ Cont K mg F H a d ∧ (k = true → (i, a) ∈ B.io) ∧ (k = false → B.H0 a = none) ∧ ∀ p ∈ B.P, p.1 ≠ a
  sep : ∀ (i j : Nat) (k l : Bool) (d e : D) (a : Addr), ρ[i]? = some (.cel k d) → ρ[j]? = some (.cel l e) → σ[i]? = some (some (.ref a)) → σ[j]? = some (some (.ref a)) → i = j
  sub : Same F H
  base : Same B.F0 F
  new : ∀ b, F b ≠ none → B.F0 b ≠ none ∨ B.H0 b = none
  keep : ∀ b o, B.H0 b = some o → (∀ i, (i, b) ∉ B.io) → H b = some o
  ios : ∀ i a, (i, a) ∈ B.io → σ[i]? = some (some (.ref a)) ∧ ∃ d, ρ[i]? = some (.cel true d)
  prot : ∀ p ∈ B.P, H p.1 = some p.2 ∧ F p.1 = none

/-! ### meanings -/
inductive Res (α : Type) where
  | ok (a : α) (ρ : List Sl)
  | err (c : Str) (ns : List Str) (vs : List D) (ρ : List Sl)
  | bad
abbrev M (α : Type) := List Sl → Res α
def ret {α : Type} (a : α) : M α := fun ρ => .ok a ρ
def bad {α : Type} : M α := fun _ => .bad
def bnd {α β : Type} (m : M α) (k : α → M β) : M β := fun ρ => match m ρ with
  | .ok a ρ' => k a ρ'
  | .err c ns vs ρ' => .err c ns vs ρ'
  | .bad => .bad
def opt {α : Type} (o : Option α) : M α := match o with
  | some a => ret a
  | none => bad
theorem bnd_assoc {α β γ : Type} (m : M α) (f : α → M β) (g : β → M γ) : bnd (bnd m f) g = bnd m (fun a => bnd (f a) g) := by
  funext ρ
  unfold bnd
  cases m ρ <;> rfl
theorem ret_bnd {α β : Type} (a : α) (f : α → M β) : bnd (ret a) f = f a := rfl
/-- what a slot's changing object holds -/
def cellAt (ρ : List Sl) (i : Nat) : Option D := match ρ[i]? with
  | some (.cel _ d) => some d
  | _ => none
def putCell (ρ : List Sl) (i : Nat) (d : D) : List Sl := match ρ[i]? with
  | some (.cel k _) => ρ.set i (.cel k d)
  | _ => ρ
/-- to be read now -/
def view (a : A) : M D := fun ρ => match a with
  | .d x => .ok x ρ
  | .slot i => match cellAt ρ i with
    | some d => .ok d ρ
    | none => .bad
/-- never to be changed from now on -/
def frz (a : A) : M D := fun ρ => match a with
  | .d x => .ok x ρ
  | .slot i => match ρ[i]? with
    | some (.cel false d) => .ok d (ρ.set i (.val d))
    | _ => .bad
inductive Fl where
  | next | brk | cont | ret (d : D)

/-! ### what stays fixed in a def's text -/
structure Cxs where
  P : Program
  w : World
  K : PySem.W.Frag
  mg : Str → Option Value
  base : Heap
  k : Nat
  N : List Str
  sc : Scope
  calm : Bool
  own : Option Scope
structure XF (c : Cxs) (X : Cx) : Prop where
  prog : X.prog = c.P
  w : X.w = c.w
  K : X.K = c.K
  mg : X.mg = c.mg
  base : X.base = c.base
  room : Room c.k X.A
  N : X.N = c.N
  sc : X.env.scope = c.sc
  calm : c.calm = true → X.calm = true
  nd : c.N.Nodup
  fn : ∀ x, ownB c.own x = true → Loc c.sc x → X.fn x = true ∨ X.env.scope.names.lookup x = some .local
  pass : PassesOwn (model X.prog X.w) X.A X.env X.xe

/-- an exception of the class c with these fields -/
def ErrR (K : PySem.W.Frag) (mg : Str → Option Value) (F H : Hp) (c : Str) (ns : List Str) (vs : List D) (C : Value) (d : Option Addr) : Prop :=
  ∃ Ca, mg c = some (.ref Ca) ∧ C = .ref Ca ∧ ((ns = [] ∧ vs = [] ∧ d = none) ∨ ∃ dx xs, d = some dx ∧ H dx = some (.xd (ns.zip xs)) ∧ ns.length = vs.length ∧ Rps K mg F vs xs)
def RpA (K : PySem.W.Frag) (mg : Str → Option Value) (F : Hp) (σ : St) : A → V → Prop
  | .d x, v => Rp K mg F x v
  | .slot i, v => σ[i]? = some (some v)
theorem RpA.mono {K : PySem.W.Frag} {mg : Str → Option Value} {F F' : Hp} {σ : St} (e : Same F F') : ∀ {a : A} {v : V}, RpA K mg F σ a v → RpA K mg F' σ a v
  | .d _, _, h => Rp.mono e _ _ h
  | .slot _, _, h => h
def okR {α : Type} (c : Cxs) (B : Bs) (W : WX) (σ : St) (F : Hp) (k : α → List Sl → Hp → Hp → Prop) : Res α → Prop
  | .ok a ρ' => ∀ H' F', Same F F' → SOk c.K c.mg B ρ' σ H' F' → k a ρ' H' F'
  | .err n ns vs ρ' => ∀ C d H' F', Same F F' → SOk c.K c.mg B ρ' σ H' F' → ErrR c.K c.mg F' H' n ns vs C d → W C d σ H'
  | .bad => False
/-- an expression's reading by its meaning -/
def rdE (c : Cxs) (B : Bs) (W : WX) (m : M A) : TE := fun σ H Q => ∃ ρ F, SOk c.K c.mg B ρ σ H F ∧ okR c B W σ F (fun a _ H' F' => ∀ v, RpA c.K c.mg F' σ a v → Q v H') (m ρ)
def EvE (c : Cxs) (e : Expr) (m : M A) : Prop := ∀ X, XF c X → ∀ B W, Takes X W → PE X e (rdE c B W m)
theorem okR.imp {α : Type} {c : Cxs} {B : Bs} {W : WX} {σ : St} {F : Hp} {k k' : α → List Sl → Hp → Hp → Prop} {r : Res α} (h : okR c B W σ F k r)
    (i : ∀ a ρ' H' F', Same F F' → SOk c.K c.mg B ρ' σ H' F' → k a ρ' H' F' → k' a ρ' H' F') : okR c B W σ F k' r := by
  cases r with
  | ok a ρ' => exact fun H' F' e s => i _ _ _ _ e s (h H' F' e s)
  | err n ns vs ρ' => exact h
  | bad => exact h
theorem okR.base {α : Type} {c : Cxs} {B : Bs} {W : WX} {σ : St} {F F' : Hp} {k : α → List Sl → Hp → Hp → Prop} {r : Res α} (e : Same F F') (h : okR c B W σ F k r) : okR c B W σ F' k r := by
  cases r with
  | ok a ρ' => exact fun H' F2 e2 s => h H' F2 (e.trans e2) s
  | err n ns vs ρ' => exact fun C d H' F2 e2 s => h C d H' F2 (e.trans e2) s
  | bad => exact h
/-- a bind: the first part's end is the second one's beginning -/
theorem okR.seq {α β : Type} {c : Cxs} {B : Bs} {W : WX} {σ : St} {F : Hp} {k : β → List Sl → Hp → Hp → Prop} {m : M α} {f : α → M β} {ρ : List Sl} (h : okR c B W σ F k (Mi.bnd m f ρ)) :
    okR c B W σ F (fun a ρ' _ F' => okR c B W σ F' k (f a ρ')) (m ρ) := by
  unfold Mi.bnd at h
  split at h
  · rename_i a ρ' e
    rw [e]
    exact fun H' F' e2 s => okR.base e2 h
  · rename_i n ns vs ρ' e
    rw [e]
    exact h
  · exact h.elim
theorem PE.imp {X : Cx} {e : Expr} {t t' : TE} (h : PE X e t) (i : ∀ σ H Q, t' σ H Q → t σ H Q) : PE X e t' := ⟨fun pins s σ H Q I q => h.run pins s σ H Q I (i _ _ _ q)⟩
end Mi

namespace Mi
open PySem PySem.Spec L2
/-! ### what is read now -/
inductive RpV (K : PySem.W.Frag) (mg : Str → Option Value) (F H : Hp) : D → V → Prop
  | rp {d : D} {v : V} (h : Rp K mg F d v) : RpV K mg F H d v
  | cel {d : D} {a : Addr} (h : Cont K mg F H a d) : RpV K mg F H d (.ref a)
section
variable {K : PySem.W.Frag} {mg : Str → Option Value} {F F' H H' : Hp} {B : Bs} {ρ ρ' : List Sl} {σ : St} {a p : Addr} {d : D} {v : V} {o : HO}
theorem RpV.lst {ds : List D} (h : RpV K mg F H (.lst ds) v) (e : Same F H) : ∃ a xs, v = .ref a ∧ H a = some (.lst xs) ∧ Rps K mg F ds xs := by
  cases h with
  | rp h =>
    cases h with
    | lst h r => exact ⟨_, _, rfl, e _ _ h, r⟩
  | cel h =>
    cases h with
    | lst h r => exact ⟨_, _, rfl, h, r⟩
theorem RpV.rol {ds : List D} (h : RpV K mg F H (.rol ds) v) (e : Same F H) : ∃ a xs, v = .ref a ∧ SqL K H a xs ∧ Rps K mg F ds xs := by
  cases h with
  | rp h =>
    cases h with
    | rol h r => exact ⟨_, _, rfl, e.seq h, r⟩
  | cel h => cases h
theorem RpV.tup {ds : List D} (h : RpV K mg F H (.tup ds) v) (e : Same F H) : ∃ a xs, v = .ref a ∧ SqT K H a xs ∧ Rps K mg F ds xs := by
  cases h with
  | rp h =>
    cases h with
    | tup h r => exact ⟨_, _, rfl, sqT_mono e h, r⟩
  | cel h => cases h
theorem RpV.ins {c : Str} {ns : List Str} {ds : List D} (h : RpV K mg F H (.ins c ns ds) v) (e : Same F H) : ∃ a C dx xs, v = .ref a ∧ mg c = some (.ref C) ∧ H a = some (.ins C dx (ns.zip xs)) ∧ ns.length = ds.length ∧ Rps K mg F ds xs := by
  cases h with
  | rp h =>
    cases h with
    | ins g h l r => exact ⟨_, _, _, _, rfl, g, e _ _ h, l, r⟩
  | cel h =>
    cases h with
    | ins g h l r => exact ⟨_, _, _, _, rfl, g, h, l, r⟩
theorem RpV.dct {ks : List Key} {ds : List D} (h : RpV K mg F H (.dct ks ds) v) (e : Same F H) : ∃ a xs, v = .ref a ∧ H a = some (.dK (ks.zip xs)) ∧ ks.length = ds.length ∧ Rps K mg F ds xs := by
  cases h with
  | rp h =>
    cases h with
    | dct h l r => exact ⟨_, _, rfl, e _ _ h, l, r⟩
  | cel h =>
    cases h with
    | dct h l r => exact ⟨_, _, rfl, h, l, r⟩
theorem RpV.int {i : Int} (h : RpV K mg F H (.int i) v) : v = .int i := by
  cases h with
  | rp h => cases h; rfl
  | cel h => cases h
theorem RpV.bl {i : Bool} (h : RpV K mg F H (.bl i) v) : v = .bl i := by
  cases h with
  | rp h => cases h; rfl
  | cel h => cases h
theorem RpV.str {i : Str} (h : RpV K mg F H (.str i) v) : v = .str i := by
  cases h with
  | rp h => cases h; rfl
  | cel h => cases h
theorem RpV.non (h : RpV K mg F H .non v) : v = .non := by
  cases h with
  | rp h => cases h; rfl
  | cel h => cases h
theorem RpV.ty {n : String} (h : RpV K mg F H (.ty n) v) : v = .ty n := by
  cases h with
  | rp h => cases h; rfl
  | cel h => cases h
theorem RpV.glo {x : Str} (h : RpV K mg F H (.glo x) v) : ∃ a, v = .ref a ∧ mg x = some (.ref a) := by
  cases h with
  | rp h =>
    cases h with
    | glo g => exact ⟨_, rfl, g⟩
  | cel h => cases h

theorem cellAt_some {ρ : List Sl} {i : Nat} {d : D} (h : cellAt ρ i = some d) : ∃ k, ρ[i]? = some (.cel k d) := by
  unfold cellAt at h
  split at h
  · rename_i k d' e
    cases h
    exact ⟨k, e⟩
  · cases h
theorem view_ok {x : A} {ρ ρ' : List Sl} (S : SOk K mg B ρ σ H F) (r : RpA K mg F σ x v) (e : view x ρ = .ok d ρ') : ρ' = ρ ∧ RpV K mg F H d v := by
  cases x with
  | d x =>
    cases e
    exact ⟨rfl, .rp r⟩
  | slot i =>
    unfold view at e
    simp only at e
    split at e
    · rename_i d' q
      cases e
      obtain ⟨k, q⟩ := cellAt_some q
      obtain ⟨a, h1, _, h2, _⟩ := S.cel i k _ q
      have r' : σ[i]? = some (some v) := r
      rw [h1] at r'
      cases r'
      exact ⟨rfl, .cel h2⟩
    · cases e
theorem view_not_err {x : A} {ρ ρ' : List Sl} {n ns vs} : view x ρ ≠ .err n ns vs ρ' := by
  intro e
  cases x with
  | d x => cases e
  | slot i =>
    unfold view at e
    simp only at e
    split at e <;> cases e
/-- nothing was at p: it is new to all -/
theorem SOk.free0 (S : SOk K mg B ρ σ H F) (h : H p = none) : B.H0 p = none := by
  cases q : B.H0 p with
  | none => rfl
  | some o =>
    by_cases z : ∃ i, (i, p) ∈ B.io
    · obtain ⟨i, hi⟩ := z
      obtain ⟨h1, d, h2⟩ := S.ios i p hi
      obtain ⟨a, h3, _, c, _⟩ := S.cel i true d h2
      rw [h1] at h3
      cases h3
      obtain ⟨o', e⟩ := c.some
      rw [h] at e
      cases e
    · have e := S.keep p o q (fun i hi => z ⟨i, hi⟩)
      rw [h] at e
      cases e
theorem SOk.freeF (S : SOk K mg B ρ σ H F) (h : H p = none) : F p = none := by
  cases q : F p with
  | none => rfl
  | some o =>
    rw [S.sub p o q] at h
    cases h
theorem Same.upd {H : Hp} {p : Addr} {o : HO} (h : H p = none) : Same H (upd H p o) := fun b u e => by rw [upd_ne (ne_of_none e h)]; exact e
/-- a new object that never changes -/
theorem SOk.alloc (S : SOk K mg B ρ σ H F) (h : H p = none) : SOk K mg B ρ σ (upd H p o) (upd F p o) := by
  have hF := S.freeF h
  have h0 := S.free0 h
  have nb : ∀ b u, H b = some u → b ≠ p := fun b u e => ne_of_none e h
  refine ⟨S.len, fun i d e => ?_, fun i k d e => ?_, S.sep, fun b u e => ?_, ?_, fun b e => ?_, fun b u e z => ?_, S.ios, fun q hq => ?_⟩
  · obtain ⟨v, h1, r⟩ := S.val i d e
    exact ⟨v, h1, Rp.mono (Same.upd hF) _ _ r⟩
  · obtain ⟨a, h1, h2, c, h3⟩ := S.cel i k d e
    obtain ⟨u, hu⟩ := c.some
    have na := nb a u hu
    exact ⟨a, h1, by rw [upd_ne na]; exact h2, c.mono (Same.upd hF) (upd_ne na), h3⟩
  · by_cases hb : b = p
    · subst hb
      rw [upd_same] at e ⊢
      exact e
    · rw [upd_ne hb] at e ⊢
      exact S.sub b u e
  · exact fun b u e => Same.upd hF b u (S.base b u e)
  · by_cases hb : b = p
    · subst hb
      exact .inr h0
    · rw [upd_ne hb] at e
      exact S.new b e
  · have := S.keep b u e z
    rw [upd_ne (nb b u this)]
    exact this
  · obtain ⟨h1, h2⟩ := S.prot q hq
    have := nb _ _ h1
    exact ⟨by rw [upd_ne this]; exact h1, by rw [upd_ne this]; exact h2⟩
/-- a new object outside of all (it may change) -/
theorem SOk.allocH (S : SOk K mg B ρ σ H F) (h : H p = none) : SOk K mg B ρ σ (upd H p o) F := by
  have nb : ∀ b u, H b = some u → b ≠ p := fun b u e => ne_of_none e h
  refine ⟨S.len, S.val, fun i k d e => ?_, S.sep, fun b u e => Same.upd h b u (S.sub b u e), S.base, S.new, fun b u e z => Same.upd h b u (S.keep b u e z), S.ios, fun q hq => ?_⟩
  · obtain ⟨a, h1, h2, c, h3⟩ := S.cel i k d e
    obtain ⟨u, hu⟩ := c.some
    exact ⟨a, h1, h2, c.mono (Same.refl _) (upd_ne (nb a u hu)), h3⟩
  · obtain ⟨h1, h2⟩ := S.prot q hq
    exact ⟨Same.upd h _ _ h1, h2⟩
/-- an object outside of all is fixed for ever -/
theorem SOk.fix (S : SOk K mg B ρ σ H F) (hF : F p = none) (hH : H p = some o) (h0 : B.H0 p = none) (hc : ∀ (i : Nat) (k : Bool) (d : D), ρ[i]? = some (.cel k d) → σ[i]? ≠ some (some (.ref p))) (hP : ∀ q ∈ B.P, q.1 ≠ p) : SOk K mg B ρ σ H (upd F p o) := by
  refine ⟨S.len, fun i d e => ?_, fun i k d e => ?_, S.sep, fun b u e => ?_, fun b u e => Same.upd hF b u (S.base b u e), fun b e => ?_, S.keep, S.ios, fun q hq => ?_⟩
  · obtain ⟨v, h1, r⟩ := S.val i d e
    exact ⟨v, h1, Rp.mono (Same.upd hF) _ _ r⟩
  · obtain ⟨a, h1, h2, c, h3⟩ := S.cel i k d e
    have na : a ≠ p := fun z => hc i k d e (by rw [h1, z])
    exact ⟨a, h1, by rw [upd_ne na]; exact h2, c.mono (Same.upd hF) rfl, h3⟩
  · by_cases hb : b = p
    · subst hb
      rw [upd_same] at e
      cases e
      exact hH
    · rw [upd_ne hb] at e
      exact S.sub b u e
  · by_cases hb : b = p
    · subst hb
      exact .inr h0
    · rw [upd_ne hb] at e
      exact S.new b e
  · obtain ⟨h1, h2⟩ := S.prot q hq
    exact ⟨h1, by rw [upd_ne (hP q hq)]; exact h2⟩
theorem set_get {α : Type} {l : List α} {i j : Nat} {x y : α} (h : (l.set i x)[j]? = some y) : (j = i ∧ y = x ∧ i < l.length) ∨ (j ≠ i ∧ l[j]? = some y) := by
  by_cases e : i = j
  · subst e
    by_cases hl : i < l.length
    · rw [List.getElem?_set_self hl] at h
      exact .inl ⟨rfl, (Option.some.inj h).symm, hl⟩
    · rw [List.getElem?_eq_none (by simpa using hl)] at h
      cases h
  · rw [List.getElem?_set_ne e] at h
    exact .inr ⟨fun z => e z.symm, h⟩
theorem frz_ok {x : A} {ρ ρ' : List Sl} (S : SOk K mg B ρ σ H F) (r : RpA K mg F σ x v) (e : frz x ρ = .ok d ρ') : ∃ F', Same F F' ∧ SOk K mg B ρ' σ H F' ∧ Rp K mg F' d v := by
  cases x with
  | d x =>
    cases e
    exact ⟨F, Same.refl _, S, r⟩
  | slot i =>
    have r' : σ[i]? = some (some v) := r
    unfold frz at e
    simp only at e
    split at e
    · rename_i d' q
      cases e
      obtain ⟨a, h1, h2, c, _, h3, h4⟩ := S.cel i false _ q
      rw [h1] at r'
      cases r'
      obtain ⟨o, ho⟩ := c.some
      have hF' : Same F (upd F a o) := Same.upd h2
      have rd : Rp K mg (upd F a o) d (.ref a) := c.rp hF' (by rw [upd_same, ho])
      have hi : i < ρ.length := (List.getElem?_eq_some_iff.mp q).1
      have S1 : SOk K mg B (ρ.set i .nil) σ H F := by
        refine ⟨by simpa using S.len, fun j d e => ?_, fun j k d e => ?_, fun j l k k' d d' b e e' => ?_, S.sub, S.base, S.new, S.keep, fun j b e => ?_, S.prot⟩
        · rcases set_get e with ⟨_, z, _⟩ | ⟨_, z⟩
          · cases z
          · exact S.val j d z
        · rcases set_get e with ⟨_, z, _⟩ | ⟨_, z⟩
          · cases z
          · exact S.cel j k d z
        · rcases set_get e with ⟨_, z, _⟩ | ⟨_, z⟩
          · cases z
          · rcases set_get e' with ⟨_, z', _⟩ | ⟨_, z'⟩
            · cases z'
            · exact S.sep _ _ _ _ _ _ b z z'
        · obtain ⟨h5, d5, h6⟩ := S.ios j b e
          have nj : j ≠ i := fun z => by rw [z, q] at h6; cases h6
          exact ⟨h5, d5, by rw [List.getElem?_set_ne (Ne.symm nj)]; exact h6⟩
      have S2 : SOk K mg B (ρ.set i .nil) σ H (upd F a o) := S1.fix h2 ho (h3 rfl) (fun j k d e z => by
        rcases set_get e with ⟨_, z', _⟩ | ⟨nj, z'⟩
        · cases z'
        · exact nj (S.sep j i _ _ _ _ a z' q z h1)) (fun p hp => h4 p hp)
      refine ⟨_, hF', ⟨by simpa using S.len, fun j d e => ?_, fun j k d e => ?_, fun j l k k' d d' b e e' => ?_, S2.sub, S2.base, S2.new, S2.keep, fun j b e => ?_, S2.prot⟩, rd⟩
      · rcases set_get e with ⟨z1, z, _⟩ | ⟨nj, z⟩
        · cases z
          rw [z1]
          exact ⟨_, h1, rd⟩
        · exact S2.val j d (by rw [List.getElem?_set_ne (Ne.symm nj)]; exact z)
      · rcases set_get e with ⟨z1, z, _⟩ | ⟨nj, z⟩
        · cases z
        · exact S2.cel j k d (by rw [List.getElem?_set_ne (Ne.symm nj)]; exact z)
      · rcases set_get e with ⟨z1, z, _⟩ | ⟨nj, z⟩
        · cases z
        · rcases set_get e' with ⟨z1', z', _⟩ | ⟨nj', z'⟩
          · cases z'
          · exact S.sep _ _ _ _ _ _ b z z'
      · obtain ⟨h5, d5, h6⟩ := S2.ios j b e
        have nj : j ≠ i := fun z => by
          rw [z, List.getElem?_set_self hi] at h6
          cases h6
        rw [List.getElem?_set_ne (Ne.symm nj)] at h6
        exact ⟨h5, d5, by rw [List.getElem?_set_ne (Ne.symm nj)]; exact h6⟩
    · cases e
theorem frz_not_err {x : A} {ρ ρ' : List Sl} {n ns vs} : frz x ρ ≠ .err n ns vs ρ' := by
  intro e
  cases x with
  | d x => cases e
  | slot i =>
    unfold frz at e
    simp only at e
    split at e <;> cases e
end
section
variable {c : Cxs} {B : Bs} {W : WX} {σ : St} {H F : Hp} {ρ : List Sl} {x : A} {v : V}
/-- the value of x is read -/
theorem okR.vw {β : Type} {f : D → M β} {k : β → List Sl → Hp → Hp → Prop} (S : SOk c.K c.mg B ρ σ H F) (r : RpA c.K c.mg F σ x v) (h : okR c B W σ F k (bnd (Mi.view x) f ρ)) :
    ∃ d, RpV c.K c.mg F H d v ∧ okR c B W σ F k (f d ρ) := by
  unfold bnd at h
  split at h
  · rename_i d ρ' e
    obtain ⟨e1, r1⟩ := view_ok S r e
    subst e1
    exact ⟨d, r1, h⟩
  · rename_i e
    exact absurd e view_not_err
  · exact h.elim
theorem okR.fz {β : Type} {f : D → M β} {k : β → List Sl → Hp → Hp → Prop} (S : SOk c.K c.mg B ρ σ H F) (r : RpA c.K c.mg F σ x v) (h : okR c B W σ F k (bnd (Mi.frz x) f ρ)) :
    ∃ d ρ' F', Same F F' ∧ SOk c.K c.mg B ρ' σ H F' ∧ Rp c.K c.mg F' d v ∧ okR c B W σ F' k (f d ρ') := by
  unfold bnd at h
  split at h
  · rename_i d ρ' e
    obtain ⟨F', e1, S1, r1⟩ := frz_ok S r e
    exact ⟨d, ρ', F', e1, S1, r1, h.base e1⟩
  · rename_i e
    exact absurd e frz_not_err
  · exact h.elim
theorem okR.op {α β : Type} {o : Option α} {f : α → M β} {k : β → List Sl → Hp → Hp → Prop} (h : okR c B W σ F k (bnd (Mi.opt o) f ρ)) : ∃ a, o = some a ∧ okR c B W σ F k (f a ρ) := by
  cases o with
  | none => exact (show False from h).elim
  | some a => exact ⟨a, rfl, h⟩
end

/-! ### expressions -/
def eC (d : D) : M A := ret (.d d)
def eVar (i : Nat) : M A := fun ρ => match ρ[i]? with
  | some (.val d) => .ok (.d d) ρ
  | some (.cel _ _) => .ok (.slot i) ρ
  | _ => .bad
def binA (f : D → D → Option D) (ma mb : M A) : M A := bnd ma fun x => bnd mb fun y => bnd (view x) fun dx => bnd (view y) fun dy => bnd (opt (f dx dy)) fun d => ret (.d d)
def unA (f : D → Option D) (ma : M A) : M A := bnd ma fun x => bnd (view x) fun dx => bnd (opt (f dx)) fun d => ret (.d d)
section
variable {c : Cxs}
theorem ev_var (i : Nat) {x : Str} {pos : Pos} (h : nmB c.N c.sc i x = true) : EvE c (.Name x pos) (eVar i) := fun X hX B W tk => by
  obtain ⟨hN, hv, hd, hcd⟩ := nmB_ok h
  refine PE.imp (pe_var (i := i) (by rw [hX.N]; exact hN) (by rw [hX.sc]; exact hv) hd hcd) ?_
  rintro σ H Q ⟨ρ, F, S, h⟩
  unfold eVar at h
  split at h
  · rename_i d e
    obtain ⟨v, h1, r⟩ := S.val i d e
    exact ⟨v, h1, h H F (Same.refl _) S v r⟩
  · rename_i k d e
    obtain ⟨a, h1, _⟩ := S.cel i k d e
    exact ⟨_, h1, h H F (Same.refl _) S _ h1⟩
  · exact h.elim
theorem ev_const {e : Expr} {v : V} {d : D} (h : ∀ X : Cx, PE X e (tC v)) (r : ∀ F, Rp c.K c.mg F d v) : EvE c e (eC d) := fun X hX B W tk => by
  refine PE.imp (h X) ?_
  rintro σ H Q ⟨ρ, F, S, q⟩
  exact q H F (Same.refl _) S v (r F)
theorem ev_int {i : Int} {j : Nat} {pos : Pos} : EvE c (.Constant (.int i) j pos) (eC (.int i)) := ev_const (fun _ => pe_int) fun _ => .int _
theorem ev_str {x : Str} {j : Nat} {pos : Pos} : EvE c (.Constant (.str x) j pos) (eC (.str x)) := ev_const (fun _ => pe_str) fun _ => .str _
theorem ev_bl {b : Bool} {j : Nat} {pos : Pos} : EvE c (.Constant (.bool b) j pos) (eC (.bl b)) := ev_const (fun _ => pe_bl) fun _ => .bl _
theorem ev_non {j : Nat} {pos : Pos} : EvE c (.Constant .none j pos) (eC .non) := ev_const (fun _ => pe_non) fun _ => .non

def orD (f g : D → D → Option D) : D → D → Option D := fun x y => match f x y with | some d => some d | none => g x y
/-- an operation on two values, by data -/
def OpD (c : Cxs) (fX : Value → Value → Sem Value) (f : D → D → Option D) : Prop := ∀ X, XF c X → ∃ r : R2, OpR X fX r ∧
  ∀ (B : Bs) (ρ : List Sl) (σ : St) (H F : Hp) (dx dy d : D) (x y : V) (Q : VK), SOk c.K c.mg B ρ σ H F → RpV c.K c.mg F H dx x → RpV c.K c.mg F H dy y → f dx dy = some d →
    (∀ v H' F', Same F F' → SOk c.K c.mg B ρ σ H' F' → Rp c.K c.mg F' d v → Q v H') → r x y H Q
theorem OpD.or {fX : Value → Value → Sem Value} {f g : D → D → Option D} (hf : OpD c fX f) (hg : OpD c fX g) : OpD c fX (orD f g) := fun X hX => by
  obtain ⟨r, h1, h2⟩ := hf X hX
  obtain ⟨r', h1', h2'⟩ := hg X hX
  refine ⟨_, h1.or h1', fun B ρ σ H F dx dy d x y Q S rx ry e k => ?_⟩
  unfold orD at e
  split at e
  · rename_i d' q
    cases e
    exact .inl (h2 B ρ σ H F dx dy d x y Q S rx ry q k)
  · exact .inr (h2' B ρ σ H F dx dy d x y Q S rx ry e k)
theorem rd_bin {r : R2} {f : D → D → Option D} {ta tb : M A} {B : Bs} {W : WX}
    (h2 : ∀ (ρ : List Sl) (σ : St) (H F : Hp) (dx dy d : D) (x y : V) (Q : VK), SOk c.K c.mg B ρ σ H F → RpV c.K c.mg F H dx x → RpV c.K c.mg F H dy y → f dx dy = some d →
      (∀ v H' F', Same F F' → SOk c.K c.mg B ρ σ H' F' → Rp c.K c.mg F' d v → Q v H') → r x y H Q) {σ : St} {H : Hp} {Q : VK} (h : rdE c B W (binA f ta tb) σ H Q) :
    tOp r (rdE c B W ta) (rdE c B W tb) σ H Q := by
  obtain ⟨ρ, F, S, h⟩ := h
  refine ⟨ρ, F, S, h.seq.imp fun a ρ1 H1 F1 e1 S1 q1 v r1 => ⟨ρ1, F1, S1, q1.seq.imp fun b ρ2 H2 F2 e2 S2 q2 u r2 => ?_⟩⟩
  obtain ⟨dx, rx, q3⟩ := q2.vw S2 (RpA.mono e2 r1)
  obtain ⟨dy, ry, q4⟩ := q3.vw S2 r2
  obtain ⟨d, ed, q5⟩ := q4.op
  exact h2 ρ2 σ H2 F2 dx dy d v u Q S2 rx ry ed fun z H' F' e3 S3 r3 => q5 H' F' e3 S3 z r3
theorem ev_bin {op : Operator} {f : D → D → Option D} {a b : Expr} {ma mb : M A} {pos : Pos} (ho : OpD c (binaryOp op) f) (ha : EvE c a ma) (hb : EvE c b mb) : EvE c (.BinOp a op b pos) (binA f ma mb) := fun X hX B W tk => by
  obtain ⟨r, h1, h2⟩ := ho X hX
  exact PE.imp (pe_op h1 (ha X hX B W tk) (hb X hX B W tk)) fun σ H Q h => rd_bin (h2 B) h
theorem ev_cmp {op : CmpOp} {f : D → D → Option D} {a b : Expr} {ma mb : M A} {pos : Pos} (ho : OpD c (compareOp op) f) (ha : EvE c a ma) (hb : EvE c b mb) (hm : noSet b = true := by rfl) : EvE c (.Compare a [op] [b] pos) (binA f ma mb) := fun X hX B W tk => by
  obtain ⟨r, h1, h2⟩ := ho X hX
  exact PE.imp (pe_cmpR h1 (ha X hX B W tk) (hb X hX B W tk) (marks_plain hm)) fun σ H Q h => rd_bin (h2 B) h
end
end Mi

namespace Mi
open PySem PySem.Spec L2
/-! ### data as the library's own data: == -/
mutual
def toPy : D → Option PyData
  | .non => some .none
  | .bl b => some (.bool b)
  | .int i => some (.int i)
  | .str x => some (.str x)
  | .lst ds => (toPys ds).map .list
  | .rol ds => (toPys ds).map .list
  | .tup ds => (toPys ds).map .tuple
  | _ => none
def toPys : List D → Option (List PyData)
  | [] => some []
  | d :: ds => match toPy d, toPys ds with
    | some p, some ps => some (p :: ps)
    | _, _ => none
end
section
variable {K : PySem.W.Frag} {mg : Str → Option Value} {F H : Hp}
mutual
theorem toPy_dp (e : Same F H) : ∀ (d : D) (v : V) (p : PyData), Rp K mg F d v → toPy d = some p → Dp K H v p
  | .non, _, _, h, q => by cases h; simp [toPy] at q; subst q; exact .non
  | .bl _, _, _, h, q => by cases h; simp [toPy] at q; subst q; exact .bl _
  | .int _, _, _, h, q => by cases h; simp [toPy] at q; subst q; exact .int _
  | .str _, _, _, h, q => by cases h; simp [toPy] at q; subst q; exact .str _
  | .lst ds, _, _, h, q => by
    cases h with
    | lst h r =>
      simp only [toPy, Option.map_eq_some_iff] at q
      obtain ⟨ps, q1, rfl⟩ := q
      exact .lst (SqL.of (e _ _ h)) (toPys_dp e ds _ ps r q1)
  | .rol ds, _, _, h, q => by
    cases h with
    | rol h r =>
      simp only [toPy, Option.map_eq_some_iff] at q
      obtain ⟨ps, q1, rfl⟩ := q
      exact .lst (e.seq h) (toPys_dp e ds _ ps r q1)
  | .tup ds, _, _, h, q => by
    cases h with
    | tup h r =>
      simp only [toPy, Option.map_eq_some_iff] at q
      obtain ⟨ps, q1, rfl⟩ := q
      exact .tup (sqT_mono e h) (toPys_dp e ds _ ps r q1)
  | .ins _ _ _, _, _, h, q => by simp [toPy] at q
  | .glo _, _, _, h, q => by simp [toPy] at q
  | .ty _, _, _, h, q => by simp [toPy] at q
  | .dct _ _, _, _, h, q => by simp [toPy] at q
theorem toPys_dp (e : Same F H) : ∀ (ds : List D) (vs : List V) (ps : List PyData), Rps K mg F ds vs → toPys ds = some ps → DpAll K H vs ps
  | [], _, _, h, q => by cases h; simp [toPys] at q; subst q; exact .nil
  | d :: ds, _, _, h, q => by
    cases h with
    | cons h r =>
      simp only [toPys] at q
      split at q
      · rename_i p ps e1 e2
        cases q
        exact .cons (toPy_dp e d _ p h e1) (toPys_dp e ds _ ps r e2)
      · cases q
end
theorem toPy_v {d : D} {v : V} {p : PyData} (e : Same F H) (h : RpV K mg F H d v) (q : toPy d = some p) : Dp K H v p := by
  cases h with
  | rp h => exact toPy_dp e _ _ _ h q
  | cel h =>
    cases h with
    | lst h r =>
      simp only [toPy, Option.map_eq_some_iff] at q
      obtain ⟨ps, q1, rfl⟩ := q
      exact .lst (SqL.of h) (toPys_dp e _ _ ps r q1)
    | ins g h l r => simp [toPy] at q
    | dct h l r => simp [toPy] at q
end
def eqD (x y : D) : Option Bool := match toPy x, toPy y with
  | some p, some q => if SeqAt.shaped p = true ∧ SeqAt.shaped q = true then some (PyData.eqv p q) else none
  | _, _ => none

/-! ### operations -/
def fI (g : Int → Int → D) : D → D → Option D
  | .int i, .int j => some (g i j)
  | _, _ => none
def fIC (C : Int → Int → Prop) [∀ i j, Decidable (C i j)] (g : Int → Int → D) : D → D → Option D
  | .int i, .int j => if C i j then some (g i j) else none
  | _, _ => none
instance (i j : Int) : Decidable (CDivW i j) := by unfold CDivW; exact inferInstance
instance (i j : Int) : Decidable (CMulW i j) := by unfold CMulW; exact inferInstance
instance (i j : Int) : Decidable (CPow i j) := by unfold CPow; exact inferInstance
def addS : D → D → Option D
  | .str x, .str y => if x.length + y.length ≤ sizeLine then some (.str (x ++ y)) else none
  | _, _ => none
def addL : D → D → Option D
  | .lst x, .lst y => if x.length + y.length ≤ sizeLine then some (.lst (x ++ y)) else none
  | _, _ => none
def addT : D → D → Option D
  | .tup x, .tup y => if x.length + y.length ≤ sizeLine then some (.tup (x ++ y)) else none
  | _, _ => none
def mulL : D → D → Option D
  | .lst x, .int k => if -(2 ^ 63) ≤ k ∧ k < 2 ^ 63 ∧ x.length * k.toNat ≤ sizeLine then some (.lst (List.replicate k.toNat x).flatten) else none
  | _, _ => none
def mulS : D → D → Option D
  | .str x, .int k => if 0 ≤ k ∧ k < 16777216 ∧ x.length * k.toNat ≤ sizeLine then some (.str (Txt.mul x k)) else none
  | _, _ => none
def subD := fI fun i j => .int (i - j)
def modD := fIC (fun _ j => 0 < j) fun i j => .int (i % j)
def fdivD := fIC CDivW fun i j => .int (i / j)
def powD := fIC CPow fun i j => .int (i ^ j.toNat)
def addD := orD (fI fun i j => .int (i + j)) (orD addS (orD addL addT))
def mulD := orD (fIC CMulW fun i j => .int (i * j)) (orD mulL mulS)
def ltD := orD (fI fun i j => .bl (decide (i < j))) fun
  | .str x, .str y => some (.bl (decide (x.cps.toList < y.cps.toList)))
  | _, _ => none
def leD := orD (fI fun i j => .bl (decide (i ≤ j))) fun
  | .str x, .str y => some (.bl (!decide (y.cps.toList < x.cps.toList)))
  | _, _ => none
def gtD := fI fun i j => .bl (decide (j < i))
def geD := fI fun i j => .bl (decide (j ≤ i))
def eqqD (x y : D) : Option D := (eqD x y).map .bl
def neqD (x y : D) : Option D := (eqD x y).map fun b => .bl (!b)
/-- None beside anything -/
def isND (x y : D) : Option D := match y with
  | .non => some (.bl (match x with | .non => true | _ => false))
  | _ => none
def isnND (x y : D) : Option D := match y with
  | .non => some (.bl (match x with | .non => false | _ => true))
  | _ => none
def isBD : D → D → Option D
  | .bl a, .bl b => some (.bl (decide (a = b)))
  | _, _ => none
def isnBD : D → D → Option D
  | .bl a, .bl b => some (.bl (!decide (a = b)))
  | _, _ => none
section
variable {c : Cxs}
theorem od_I {fX : Value → Value → Sem Value} {g : Int → Int → D} {gv : Int → Int → V} (h : ∀ X : Cx, OpR X fX (rI0 gv)) (r : ∀ i j F, Rp c.K c.mg F (g i j) (gv i j)) : OpD c fX (fI g) := fun X hX => by
  refine ⟨_, h X, fun B ρ σ H F dx dy d x y Q S rx ry e k => ?_⟩
  unfold fI at e
  split at e
  · rename_i i j
    cases e
    exact ⟨i, j, rx.int, ry.int, k _ H F (Same.refl _) S (r i j F)⟩
  · cases e
theorem od_IC {fX : Value → Value → Sem Value} {C : Int → Int → Prop} [∀ i j, Decidable (C i j)] {g : Int → Int → D} {gv : Int → Int → V} (h : ∀ X : Cx, OpR X fX (rI C gv)) (r : ∀ i j F, Rp c.K c.mg F (g i j) (gv i j)) : OpD c fX (fIC C g) := fun X hX => by
  refine ⟨_, h X, fun B ρ σ H F dx dy d x y Q S rx ry e k => ?_⟩
  unfold fIC at e
  split at e
  · rename_i i j
    split at e
    · rename_i hc
      cases e
      exact ⟨i, j, rx.int, ry.int, hc, k _ H F (Same.refl _) S (r i j F)⟩
    · cases e
  · cases e
theorem od_sub : OpD c (binaryOp .Sub) subD := od_I (fun _ => op_sub) fun _ _ _ => .int _
theorem od_mod : OpD c (binaryOp .Mod) modD := od_IC (fun _ => op_mod) fun _ _ _ => .int _
theorem od_fdiv : OpD c (binaryOp .FloorDiv) fdivD := od_IC (fun _ => op_fdivW) fun _ _ _ => .int _
theorem od_pow : OpD c (binaryOp .Pow) powD := od_IC (fun _ => op_pow) fun _ _ _ => .int _
theorem od_addS : OpD c (binaryOp .Add) addS := fun X hX => by
  refine ⟨_, op_add_str, fun B ρ σ H F dx dy d x y Q S rx ry e k => ?_⟩
  unfold addS at e
  split at e
  · rename_i i j
    split at e
    · rename_i hc
      cases e
      exact ⟨i, j, rx.str, ry.str, hc, k _ H F (Same.refl _) S (.str _)⟩
    · cases e
  · cases e
theorem od_addL : OpD c (binaryOp .Add) addL := fun X hX => by
  refine ⟨_, op_cat, fun B ρ σ H F dx dy d x y Q S rx ry e k => ?_⟩
  unfold addL at e
  split at e
  · rename_i i j
    split at e
    · rename_i hc
      cases e
      obtain ⟨a, xs, rfl, h1, r1⟩ := rx.lst S.sub
      obtain ⟨b, ys, rfl, h2, r2⟩ := ry.lst S.sub
      refine ⟨a, b, xs, ys, rfl, rfl, h1, h2, by rw [← r1.length, ← r2.length]; exact hc, fun p hp => ?_⟩
      have hF := S.freeF hp
      exact k _ _ _ (Same.upd hF) (S.alloc hp) (.lst upd_same ((Rps.mono (Same.upd hF) _ _ r1).append (Rps.mono (Same.upd hF) _ _ r2)))
    · cases e
  · cases e
theorem od_addT : OpD c (binaryOp .Add) addT := fun X hX => by
  refine ⟨_, op_catA, fun B ρ σ H F dx dy d x y Q S rx ry e k => ?_⟩
  unfold addT at e
  split at e
  · rename_i i j
    split at e
    · rename_i hc
      cases e
      have rx' : Rp c.K c.mg F (.tup i) x := by
        cases rx with
        | rp h => exact h
        | cel h => cases h
      have ry' : Rp c.K c.mg F (.tup j) y := by
        cases ry with
        | rp h => exact h
        | cel h => cases h
      obtain ⟨a, xs, rfl, h1, r1⟩ := rx.tup S.sub
      obtain ⟨b, ys, rfl, h2, r2⟩ := ry.tup S.sub
      rw [hX.K]
      refine ⟨a, b, xs, ys, rfl, rfl, h1, h2, by rw [← r1.length, ← r2.length]; exact hc, fun z => ?_, fun _ z => ?_, fun _ _ p hp => ?_⟩
      · subst z
        cases r1
        exact k _ H F (Same.refl _) S (by simpa using ry')
      · subst z
        cases r2
        exact k _ H F (Same.refl _) S (by simpa using rx')
      · have hF := S.freeF hp
        exact k _ _ _ (Same.upd hF) (S.alloc hp) (.tup (SqT.of upd_same) ((Rps.mono (Same.upd hF) _ _ r1).append (Rps.mono (Same.upd hF) _ _ r2)))
    · cases e
  · cases e
theorem od_add : OpD c (binaryOp .Add) addD := (od_I (fun _ => op_add) fun _ _ _ => .int _).or (od_addS.or (od_addL.or od_addT))
theorem Rps.flat {K : PySem.W.Frag} {mg : Str → Option Value} {F : Hp} {ds : List D} {vs : List V} (h : Rps K mg F ds vs) : ∀ n : Nat, Rps K mg F (List.replicate n ds).flatten (List.replicate n vs).flatten
  | 0 => by simp; exact .nil
  | n + 1 => by
    simp only [List.replicate_succ, List.flatten_cons]
    exact h.append (Rps.flat h n)
theorem od_mulL : OpD c (binaryOp .Mult) mulL := fun X hX => by
  refine ⟨_, op_rep, fun B ρ σ H F dx dy d x y Q S rx ry e k => ?_⟩
  unfold mulL at e
  split at e
  · rename_i i j
    split at e
    · rename_i hc
      cases e
      obtain ⟨a, xs, rfl, h1, r1⟩ := rx.lst S.sub
      refine ⟨a, j, xs, rfl, ry.int, h1, hc.1, hc.2.1, by rw [← r1.length]; exact hc.2.2, fun p hp => ?_⟩
      have hF := S.freeF hp
      exact k _ _ _ (Same.upd hF) (S.alloc hp) (.lst upd_same ((Rps.mono (Same.upd hF) _ _ r1).flat _))
    · cases e
  · cases e
theorem op_mulS {X : Cx} : OpR X (binaryOp .Mult) (fun x y H Q => ∃ i j, x = .str i ∧ y = .int j ∧ MulOk i j ∧ Q (.str (Txt.mul i j)) H) := by
  intro pins s σ H x y v u Q I rx ry h
  obtain ⟨i, j, rfl, rfl, hz, q⟩ := h
  obtain ⟨t, rfl⟩ := rx
  obtain ⟨t', rfl⟩ := ry
  exact SB.mul hz fun t' tk => ⟨.str _, H, I.tok _, ⟨_, rfl⟩, q⟩
theorem mulS_ok {x : Str} {k : Int} (h : 0 ≤ k ∧ k < 16777216 ∧ x.length * k.toNat ≤ sizeLine) : MulOk x k := by
  obtain ⟨h0, h1, h2⟩ := h
  have hz : (sizeLine : Nat) = 16777216 := rfl
  refine ⟨?_, fun hk _ => ?_, fun hk _ => ?_⟩
  · rw [Bool.or_eq_false_iff]
    exact ⟨decide_eq_false (by omega), decide_eq_false (by omega)⟩
  · have hk0 : 0 < k := by omega
    have e : (x.length : Int) * k ≤ 2 ^ 63 - 1 := by
      have e2 : ((x.length * k.toNat : Nat) : Int) = (x.length : Int) * k := by
        rw [Int.natCast_mul, Int.toNat_of_nonneg h0]
      omega
    have := (Int.le_ediv_iff_mul_le hk0).mpr e
    omega
  · show decide (_ > _) = false
    exact decide_eq_false (by omega)
theorem od_mulS : OpD c (binaryOp .Mult) mulS := fun X hX => by
  refine ⟨_, op_mulS, fun B ρ σ H F dx dy d x y Q S rx ry e k => ?_⟩
  unfold mulS at e
  split at e
  · rename_i i j
    split at e
    · rename_i hc
      cases e
      exact ⟨i, j, rx.str, ry.int, mulS_ok hc, k _ H F (Same.refl _) S (.str _)⟩
    · cases e
  · cases e
theorem od_mul : OpD c (binaryOp .Mult) mulD := (od_IC (fun _ => op_mulW) fun _ _ _ => .int _).or (od_mulL.or od_mulS)
theorem od_lt : OpD c (compareOp .Lt) ltD := (od_I (fun _ => op_lt) fun _ _ _ => .bl _).or fun X hX => by
  refine ⟨_, op_lt_str, fun B ρ σ H F dx dy d x y Q S rx ry e k => ?_⟩
  split at e
  · rename_i i j
    cases e
    exact ⟨i, j, rx.str, ry.str, k _ H F (Same.refl _) S (.bl _)⟩
  · cases e
theorem od_le : OpD c (compareOp .LtE) leD := (od_I (fun _ => op_le) fun _ _ _ => .bl _).or fun X hX => by
  refine ⟨_, op_le_str, fun B ρ σ H F dx dy d x y Q S rx ry e k => ?_⟩
  split at e
  · rename_i i j
    cases e
    exact ⟨i, j, rx.str, ry.str, k _ H F (Same.refl _) S (.bl _)⟩
  · cases e
theorem od_gt : OpD c (compareOp .Gt) gtD := od_I (fun _ => op_gt) fun _ _ _ => .bl _
theorem od_ge : OpD c (compareOp .GtE) geD := od_I (fun _ => op_ge) fun _ _ _ => .bl _
theorem od_eq : OpD c (compareOp .Eq) eqqD := fun X hX => by
  refine ⟨_, op_eqD hX.room.units, fun B ρ σ H F dx dy d x y Q S rx ry e k => ?_⟩
  unfold eqqD eqD at e
  split at e
  · rename_i p q e1 e2
    split at e
    · rename_i hs
      cases e
      exact ⟨p, q, by rw [hX.K]; exact toPy_v S.sub rx e1, by rw [hX.K]; exact toPy_v S.sub ry e2, hs.1, hs.2, k _ H F (Same.refl _) S (.bl _)⟩
    · cases e
  · cases e
theorem od_ne : OpD c (compareOp .NotEq) neqD := fun X hX => by
  refine ⟨_, op_neD hX.room.units, fun B ρ σ H F dx dy d x y Q S rx ry e k => ?_⟩
  unfold neqD eqD at e
  split at e
  · rename_i p q e1 e2
    split at e
    · rename_i hs
      cases e
      exact ⟨p, q, by rw [hX.K]; exact toPy_v S.sub rx e1, by rw [hX.K]; exact toPy_v S.sub ry e2, hs.1, hs.2, k _ H F (Same.refl _) S (.bl _)⟩
    · cases e
  · cases e
theorem non_iff {K : PySem.W.Frag} {mg : Str → Option Value} {F H : Hp} {d : D} {v : V} (r : RpV K mg F H d v) : decide (v = .non) = (match d with | .non => true | _ => false) := by
  cases r with
  | rp h => cases h <;> rfl
  | cel h => cases h <;> rfl
theorem od_is : OpD c (compareOp .Is) isND := fun X hX => by
  refine ⟨_, op_isN, fun B ρ σ H F dx dy d x y Q S rx ry e k => ?_⟩
  unfold isND at e
  split at e
  · cases e
    refine ⟨ry.non, ?_⟩
    have := non_iff rx
    cases dx <;> (rw [this]; exact k _ H F (Same.refl _) S (.bl _))
  · cases e
theorem od_isnt : OpD c (compareOp .IsNot) isnND := fun X hX => by
  refine ⟨_, op_notN, fun B ρ σ H F dx dy d x y Q S rx ry e k => ?_⟩
  unfold isnND at e
  split at e
  · cases e
    refine ⟨ry.non, ?_⟩
    have := non_iff rx
    cases dx <;> (rw [this]; exact k _ H F (Same.refl _) S (.bl _))
  · cases e
theorem od_isB : OpD c (compareOp .Is) isBD := fun X hX => by
  refine ⟨_, op_isBl, fun B ρ σ H F dx dy d x y Q S rx ry e k => ?_⟩
  unfold isBD at e
  split at e
  · rename_i a b
    cases e
    exact ⟨a, b, rx.bl, ry.bl, k _ H F (Same.refl _) S (.bl _)⟩
  · cases e
end
end Mi

namespace Mi
open PySem PySem.Spec L2
/-! ### tests -/
def rdT (c : Cxs) (B : Bs) (W : WX) (m : M Bool) : TT := fun σ H Q => ∃ ρ F, SOk c.K c.mg B ρ σ H F ∧ okR c B W σ F (fun b _ H' _ => Q b H') (m ρ)
def EvT (c : Cxs) (e : Expr) (m : M Bool) : Prop := ∀ X, XF c X → ∀ B W, Takes X W → PT X e (rdT c B W m)
def EvW (c : Cxs) (e : Expr) (m : M Bool) : Prop := ∀ X, XF c X → ∀ B W, Takes X W → PW X e (rdT c B W m)
theorem PT.imp {X : Cx} {e : Expr} {t t' : TT} (h : PT X e t) (i : ∀ σ H Q, t' σ H Q → t σ H Q) : PT X e t' := ⟨fun pins s σ H Q I q => h.run pins s σ H Q I (i _ _ _ q)⟩
theorem PW.imp {X : Cx} {e : Expr} {t t' : TT} (h : PW X e t) (i : ∀ σ H Q, t' σ H Q → t σ H Q) : PW X e t' := ⟨fun w pins s σ H Q I q => h.run w pins s σ H Q I (i _ _ _ q)⟩
/-- a value's truth -/
def truD : D → Option Bool
  | .non => some false
  | .bl b => some b
  | .int i => some (i != 0)
  | .str x => if x.length ≤ sizeLine then some ((x.length : Int) != 0) else none
  | .lst xs => some (!xs.isEmpty)
  | .rol xs => some (!xs.isEmpty)
  | .tup xs => some (!xs.isEmpty)
  | .dct _ vs => some (!vs.isEmpty)
  | _ => none
def tstA (m : M A) : M Bool := bnd m fun x => bnd (view x) fun d => opt (truD d)
def boolA (m : M Bool) : M A := bnd m fun b => ret (.d (.bl b))
def asBl : D → Option Bool
  | .bl b => some b
  | _ => none
/-- where the value is a bool -/
def blT (m : M A) : M Bool := bnd m fun x => bnd (view x) fun d => opt (asBl d)
def andT (a b : M Bool) : M Bool := bnd a fun x => if x = true then b else ret false
def orT (a b : M Bool) : M Bool := bnd a fun x => if x = true then ret true else b
def notT (a : M Bool) : M Bool := bnd a fun x => ret (!x)
section
variable {K : PySem.W.Frag} {mg : Str → Option Value} {F H : Hp}
theorem Rps.empty {ds : List D} {vs : List V} (r : Rps K mg F ds vs) : (!vs.isEmpty) = !ds.isEmpty := by
  cases r <;> rfl
theorem truD_ok {d : D} {v : V} {b : Bool} (e : Same F H) (r : RpV K mg F H d v) (h : truD d = some b) : TruV K v H b := by
  cases d with
  | non => cases h; rw [r.non]; rfl
  | bl x => cases h; rw [r.bl]; rfl
  | int i => cases h; rw [r.int]; rfl
  | str x =>
    unfold truD at h
    simp only at h
    split at h
    · rename_i q
      cases h
      rw [r.str]
      exact ⟨q, rfl⟩
    · cases h
  | lst xs =>
    cases h
    obtain ⟨a, ys, rfl, h1, r1⟩ := r.lst e
    exact .inl ⟨ys, SqL.of h1, r1.empty.symm⟩
  | rol xs =>
    cases h
    obtain ⟨a, ys, rfl, h1, r1⟩ := r.rol e
    exact .inl ⟨ys, h1, r1.empty.symm⟩
  | tup xs =>
    cases h
    obtain ⟨a, ys, rfl, h1, r1⟩ := r.tup e
    exact .inr (.inl ⟨ys, h1, r1.empty.symm⟩)
  | dct ks vs =>
    cases h
    obtain ⟨a, ys, rfl, h1, l1, r1⟩ := r.dct e
    refine .inr (.inr ⟨_, h1, ?_⟩)
    have l2 := r1.length
    cases ks with
    | nil =>
      cases vs with
      | nil => rfl
      | cons _ _ => simp at l1
    | cons k ks =>
      cases vs with
      | nil => simp at l1
      | cons _ _ =>
        cases ys with
        | nil => simp at l2
        | cons _ _ => rfl
  | _ => cases h
end
section
variable {c : Cxs} {e a b : Expr} {m ma mb : M A} {ta tb : M Bool} {rest : List Expr} {pos : Pos}
/-- a test by the value's truth: names, calls, subscripts, fields, constants -/
theorem et_tru (h : EvE c e m) (he : plainT e = true := by rfl) : EvT c e (tstA m) := fun X hX B W tk => by
  refine PT.imp (pt_truth (h X hX B W tk) fun _ => test_plain he) ?_
  rintro σ H Q ⟨ρ, F, S, q⟩
  refine ⟨ρ, F, S, q.seq.imp fun x ρ1 H1 F1 e1 S1 q1 v r1 => ?_⟩
  obtain ⟨d, rd, q2⟩ := q1.vw S1 r1
  cases hd : truD d with
  | none =>
    rw [hd] at q2
    exact (show False from q2).elim
  | some k =>
    rw [hd] at q2
    exact ⟨k, by rw [hX.K]; exact truD_ok S1.sub rd hd, q2 H1 F1 (Same.refl _) S1⟩
/-- a comparison as a test -/
theorem et_cmp {op : CmpOp} {f : D → D → Option D} (ho : OpD c (compareOp op) f) (ha : EvE c a ma) (hb : EvE c b mb) (hm : noSet b = true := by rfl) : EvT c (.Compare a [op] [b] pos) (blT (binA f ma mb)) := fun X hX B W tk => by
  obtain ⟨r, h1, h2⟩ := ho X hX
  refine PT.imp (pt_cmpR h1 (ha X hX B W tk) (hb X hX B W tk) (marks_plain hm)) ?_
  rintro σ H Q ⟨ρ, F, S, q⟩
  refine rd_bin (h2 B) (f := f) ⟨ρ, F, S, q.seq.imp fun x ρ1 H1 F1 e1 S1 q1 v r1 => ?_⟩
  obtain ⟨d, rd, q2⟩ := q1.vw S1 r1
  cases d with
  | bl k => exact ⟨k, rd.bl, q2 H1 F1 (Same.refl _) S1⟩
  | _ => exact (show False from q2).elim
theorem et_w (h : EvW c e ta) : EvT c e ta := fun X hX B W tk => (h X hX B W tk).pt
theorem ew_and1 (h : EvT c a ta) : EvW c (.BoolOp .And [a] pos) ta := fun X hX B W tk => pw_and1 (h X hX B W tk)
theorem ew_or1 (h : EvT c a ta) : EvW c (.BoolOp .Or [a] pos) ta := fun X hX B W tk => pw_or1 (h X hX B W tk)
theorem ew_and (ha : EvT c a ta) (hb : EvW c (.BoolOp .And (b :: rest) pos) tb) : EvW c (.BoolOp .And (a :: b :: rest) pos) (andT ta tb) := fun X hX B W tk => by
  refine PW.imp (pw_and (ha X hX B W tk) (hb X hX B W tk)) ?_
  rintro σ H Q ⟨ρ, F, S, q⟩
  refine ⟨ρ, F, S, q.seq.imp fun x ρ1 H1 F1 e1 S1 q1 => ?_⟩
  cases x with
  | true => exact iteT ⟨ρ1, F1, S1, q1⟩
  | false => exact iteF (q1 H1 F1 (Same.refl _) S1)
theorem ew_or (ha : EvT c a ta) (hb : EvW c (.BoolOp .Or (b :: rest) pos) tb) : EvW c (.BoolOp .Or (a :: b :: rest) pos) (orT ta tb) := fun X hX B W tk => by
  refine PW.imp (pw_or (ha X hX B W tk) (hb X hX B W tk)) ?_
  rintro σ H Q ⟨ρ, F, S, q⟩
  refine ⟨ρ, F, S, q.seq.imp fun x ρ1 H1 F1 e1 S1 q1 => ?_⟩
  cases x with
  | true => exact iteT (q1 H1 F1 (Same.refl _) S1)
  | false => exact iteF ⟨ρ1, F1, S1, q1⟩
theorem et_not (ha : EvT c a ta) : EvT c (.UnaryOp .Not a pos) (notT ta) := fun X hX B W tk => by
  refine PT.imp (pt_not (ha X hX B W tk)) ?_
  rintro σ H Q ⟨ρ, F, S, q⟩
  exact ⟨ρ, F, S, q.seq.imp fun x ρ1 H1 F1 e1 S1 q1 => q1 H1 F1 (Same.refl _) S1⟩
/-- a op b op' d as a test -/
def chainT (f g : D → D → Option D) (ma mb md : M A) : M Bool := bnd ma fun x => bnd mb fun y => bnd (view x) fun dx => bnd (view y) fun dy => bnd (opt (f dx dy)) fun z => bnd (opt (asBl z)) fun k =>
  if k = true then bnd md fun u => bnd (view y) fun dy' => bnd (view u) fun du => bnd (opt (g dy' du)) fun z' => opt (asBl z') else ret false
theorem asBl_some {z : D} {k : Bool} (h : asBl z = some k) : z = .bl k := by
  cases z with
  | bl b => cases h; rfl
  | _ => cases h
theorem rd_chain {r r' : R2} {f g : D → D → Option D} {md : M A} {B : Bs} {W : WX}
    (h1 : ∀ (ρ : List Sl) (σ : St) (H F : Hp) (dx dy d : D) (x y : V) (Q : VK), SOk c.K c.mg B ρ σ H F → RpV c.K c.mg F H dx x → RpV c.K c.mg F H dy y → f dx dy = some d →
      (∀ v H' F', Same F F' → SOk c.K c.mg B ρ σ H' F' → Rp c.K c.mg F' d v → Q v H') → r x y H Q)
    (h2 : ∀ (ρ : List Sl) (σ : St) (H F : Hp) (dx dy d : D) (x y : V) (Q : VK), SOk c.K c.mg B ρ σ H F → RpV c.K c.mg F H dx x → RpV c.K c.mg F H dy y → g dx dy = some d →
      (∀ v H' F', Same F F' → SOk c.K c.mg B ρ σ H' F' → Rp c.K c.mg F' d v → Q v H') → r' x y H Q) {σ : St} {H : Hp} {Q : VK} {Qb : Bool → Hp → Prop} (hQ : ∀ k H, Qb k H → Q (.bl k) H)
    (h : rdT c B W (chainT f g ma mb md) σ H Qb) : tChain r r' (rdE c B W ma) (rdE c B W mb) (rdE c B W md) σ H Q := by
  obtain ⟨ρ, F, S, q⟩ := h
  refine ⟨ρ, F, S, q.seq.imp fun x ρ1 H1 F1 e1 S1 q1 vx r1 => ⟨ρ1, F1, S1, q1.seq.imp fun y ρ2 H2 F2 e2 S2 q2 vy r2 => ?_⟩⟩
  obtain ⟨dx, rx, q3⟩ := q2.vw S2 (RpA.mono e2 r1)
  obtain ⟨dy, ry, q4⟩ := q3.vw S2 r2
  obtain ⟨z, ez, q5⟩ := q4.op
  obtain ⟨k, ek, q6⟩ := q5.op
  have ez' := asBl_some ek
  subst ez'
  refine h1 ρ2 σ H2 F2 dx dy _ vx vy _ S2 rx ry ez fun u H3 F3 e3 S3 r3 => ⟨k, by cases r3; rfl, ?_⟩
  cases k with
  | false => exact iteF (hQ _ _ (q6 H3 F3 e3 S3))
  | true =>
    have q6' := (show okR c B W σ F2 _ _ from q6).base e3
    refine iteT ⟨ρ2, F3, S3, q6'.seq.imp fun u4 ρ4 H4 F4 e4 S4 q7 vu r4 => ?_⟩
    obtain ⟨dy', ry', q8⟩ := q7.vw S4 (RpA.mono e4 (RpA.mono e3 r2))
    obtain ⟨du, ru, q9⟩ := q8.vw S4 r4
    obtain ⟨z', ez', q10⟩ := q9.op
    refine h2 ρ4 σ H4 F4 dy' du _ vy vu _ S4 ry' ru ez' fun u5 H5 F5 e5 S5 r5 => ?_
    cases z' with
    | bl k' => cases r5; exact hQ _ _ (q10 H5 F5 e5 S5)
    | _ => exact (show False from q10).elim
theorem et_chain {op op' : CmpOp} {f g : D → D → Option D} {d : Expr} {md : M A} (ho : OpD c (compareOp op) f) (ho' : OpD c (compareOp op') g) (ha : EvE c a ma) (hb : EvE c b mb) (hd : EvE c d md)
    (hm : noSet d = true := by rfl) : EvT c (.Compare a [op, op'] [b, d] pos) (chainT f g ma mb md) := fun X hX B W tk => by
  obtain ⟨r, h1, h2⟩ := ho X hX
  obtain ⟨r', h1', h2'⟩ := ho' X hX
  refine PT.imp (pt_chain h1 h1' (ha X hX B W tk) (hb X hX B W tk) (hd X hX B W tk) (marks_plain hm)) ?_
  intro σ H Q h
  exact rd_chain (h2 B) (h2' B) (fun k H q => ⟨k, rfl, q⟩) h
theorem ev_chain {op op' : CmpOp} {f g : D → D → Option D} {d : Expr} {md : M A} (ho : OpD c (compareOp op) f) (ho' : OpD c (compareOp op') g) (ha : EvE c a ma) (hb : EvE c b mb) (hd : EvE c d md)
    (hm : noSet d = true := by rfl) : EvE c (.Compare a [op, op'] [b, d] pos) (boolA (chainT f g ma mb md)) := fun X hX B W tk => by
  obtain ⟨r, h1, h2⟩ := ho X hX
  obtain ⟨r', h1', h2'⟩ := ho' X hX
  refine PE.imp (pe_chain h1 h1' (ha X hX B W tk) (hb X hX B W tk) (hd X hX B W tk) (marks_plain hm)) ?_
  rintro σ H Q ⟨ρ, F, S, q⟩
  refine rd_chain (h2 B) (h2' B) (fun k H q => q) (Qb := fun k H => Q (.bl k) H) ⟨ρ, F, S, q.seq.imp fun x ρ1 H1 F1 e1 S1 q1 => q1 H1 F1 (Same.refl _) S1 _ (.bl _)⟩

/-! ### conditional values -/
def ifA (t : M Bool) (a b : M A) : M A := bnd t fun x => if x = true then a else b
theorem ev_if {t : Expr} {tm : M Bool} (ht : EvT c t tm) (ha : EvE c a ma) (hb : EvE c b mb) : EvE c (.IfExp t a b pos) (ifA tm ma mb) := fun X hX B W tk => by
  refine PE.imp (pe_ifExp (ht X hX B W tk) (ha X hX B W tk) (hb X hX B W tk)) ?_
  rintro σ H Q ⟨ρ, F, S, q⟩
  refine ⟨ρ, F, S, q.seq.imp fun x ρ1 H1 F1 e1 S1 q1 => ?_⟩
  cases x with
  | true => exact iteT ⟨ρ1, F1, S1, q1⟩
  | false => exact iteF ⟨ρ1, F1, S1, q1⟩
/-- and, or, not as values: all but the last True or False -/
def andA (a b : M A) : M A := bnd a fun x => bnd (view x) fun d => bnd (opt (asBl d)) fun k => if k = true then b else ret (.d (.bl false))
def orA (a b : M A) : M A := bnd a fun x => bnd (view x) fun d => bnd (opt (asBl d)) fun k => if k = true then ret (.d (.bl true)) else b
def notA (a : M A) : M A := bnd a fun x => bnd (view x) fun d => bnd (opt (asBl d)) fun k => ret (.d (.bl (!k)))
theorem ev_one {op : BoolOp} (ha : EvE c a ma) : EvE c (.BoolOp op [a] pos) ma := fun X hX B W tk => pe_one (ha X hX B W tk)
theorem ev_and (ha : EvE c a ma) (hb : EvE c (.BoolOp .And (b :: rest) pos) mb) : EvE c (.BoolOp .And (a :: b :: rest) pos) (andA ma mb) := fun X hX B W tk => by
  refine PE.imp (pe_and (ha X hX B W tk) (hb X hX B W tk)) ?_
  rintro σ H Q ⟨ρ, F, S, q⟩
  refine ⟨ρ, F, S, q.seq.imp fun x ρ1 H1 F1 e1 S1 q1 v r1 => ?_⟩
  obtain ⟨d, rd, q2⟩ := q1.vw S1 r1
  obtain ⟨k, ek, q3⟩ := q2.op
  have ez := asBl_some ek
  subst ez
  refine ⟨k, rd.bl, ?_⟩
  cases k with
  | true => exact iteT ⟨ρ1, F1, S1, q3⟩
  | false => exact iteF (q3 H1 F1 (Same.refl _) S1 _ (.bl _))
theorem ev_or (ha : EvE c a ma) (hb : EvE c (.BoolOp .Or (b :: rest) pos) mb) : EvE c (.BoolOp .Or (a :: b :: rest) pos) (orA ma mb) := fun X hX B W tk => by
  refine PE.imp (pe_or (ha X hX B W tk) (hb X hX B W tk)) ?_
  rintro σ H Q ⟨ρ, F, S, q⟩
  refine ⟨ρ, F, S, q.seq.imp fun x ρ1 H1 F1 e1 S1 q1 v r1 => ?_⟩
  obtain ⟨d, rd, q2⟩ := q1.vw S1 r1
  obtain ⟨k, ek, q3⟩ := q2.op
  have ez := asBl_some ek
  subst ez
  refine ⟨k, rd.bl, ?_⟩
  cases k with
  | true => exact iteT (q3 H1 F1 (Same.refl _) S1 _ (.bl _))
  | false => exact iteF ⟨ρ1, F1, S1, q3⟩
theorem ev_not (ha : EvE c a ma) : EvE c (.UnaryOp .Not a pos) (notA ma) := fun X hX B W tk => by
  refine PE.imp (pe_not (ha X hX B W tk)) ?_
  rintro σ H Q ⟨ρ, F, S, q⟩
  refine ⟨ρ, F, S, q.seq.imp fun x ρ1 H1 F1 e1 S1 q1 v r1 => ?_⟩
  obtain ⟨d, rd, q2⟩ := q1.vw S1 r1
  obtain ⟨k, ek, q3⟩ := q2.op
  have ez := asBl_some ek
  subst ez
  exact ⟨k, rd.bl, q3 H1 F1 (Same.refl _) S1 _ (.bl _)⟩
def negD : D → Option D
  | .int i => some (.int (-i))
  | _ => none
theorem ev_neg (ha : EvE c a ma) : EvE c (.UnaryOp .USub a pos) (unA negD ma) := fun X hX B W tk => by
  refine PE.imp (pe_un un_neg (ha X hX B W tk)) ?_
  rintro σ H Q ⟨ρ, F, S, q⟩
  refine ⟨ρ, F, S, q.seq.imp fun x ρ1 H1 F1 e1 S1 q1 v r1 => ?_⟩
  obtain ⟨d, rd, q2⟩ := q1.vw S1 r1
  obtain ⟨z, ez, q3⟩ := q2.op
  cases d with
  | int i =>
    cases ez
    exact ⟨i, rd.int, q3 H1 F1 (Same.refl _) S1 _ (.int _)⟩
  | _ => cases ez
end
end Mi

namespace Mi
open PySem PySem.Spec L2
/-! ### subscripts, slices -/
def ixD : D → D → Option D
  | .lst xs, .int i => atI xs i
  | .rol xs, .int i => atI xs i
  | .tup xs, .int i => atI xs i
  | .str x, .int i => if x.length ≤ sizeLine then (atI x.cps.toList i).map fun ch => .str ⟨#[ch]⟩ else none
  | _, _ => none
theorem Rps.atI {K : PySem.W.Frag} {mg : Str → Option Value} {F : Hp} {ds : List D} {vs : List V} {i : Int} {d : D} (r : Rps K mg F ds vs) (h : L2.atI ds i = some d) : ∃ v, L2.atI vs i = some v ∧ Rp K mg F d v := by
  unfold L2.atI at h ⊢
  rw [← r.length]
  cases q : ixN ds.length i with
  | none => rw [q] at h; cases h
  | some j =>
    rw [q] at h
    exact r.get h
section
variable {c : Cxs} {a b : Expr} {ma mb : M A} {pos : Pos}
theorem ev_ix (ha : EvE c a ma) (hb : EvE c b mb) (hs : noSlice b = true := by rfl) : EvE c (.Subscript a b pos) (binA ixD ma mb) := fun X hX B W tk => by
  refine PE.imp (pe_ix ix_seq (ha X hX B W tk) (hb X hX B W tk) (ix_plain hs)) fun σ H Q h => rd_bin (f := ixD) ?_ h
  intro ρ σ H F dx dy d x y Q S rx ry e k
  unfold ixD at e
  split at e
  · rename_i xs i
    obtain ⟨p, ys, rfl, h1, r1⟩ := rx.lst S.sub
    obtain ⟨v, e1, r2⟩ := r1.atI e
    exact .inl ⟨p, ys, i, v, rfl, ry.int, by rw [hX.K]; exact SqL.of h1, e1, k v H F (Same.refl _) S r2⟩
  · rename_i xs i
    obtain ⟨p, ys, rfl, h1, r1⟩ := rx.rol S.sub
    obtain ⟨v, e1, r2⟩ := r1.atI e
    exact .inl ⟨p, ys, i, v, rfl, ry.int, by rw [hX.K]; exact h1, e1, k v H F (Same.refl _) S r2⟩
  · rename_i xs i
    obtain ⟨p, ys, rfl, h1, r1⟩ := rx.tup S.sub
    obtain ⟨v, e1, r2⟩ := r1.atI e
    exact .inr (.inl ⟨p, ys, i, v, rfl, ry.int, by rw [hX.K]; exact h1, e1, k v H F (Same.refl _) S r2⟩)
  · rename_i x' i
    split at e
    · rename_i hz
      simp only [Option.map_eq_some_iff] at e
      obtain ⟨ch, e1, rfl⟩ := e
      exact .inr (.inr ⟨x', i, ch, rx.str, ry.int, hz, e1, k _ H F (Same.refl _) S (.str _)⟩)
    · cases e
  · cases e
end
/-- a slice's part -/
def prtA (m : Option (M A)) : M (Option Int) := match m with
  | none => ret none
  | some m => bnd m fun x => bnd (view x) fun d => match d with
    | .int i => ret (some i)
    | _ => bad
def cutD (lo hi : Option Int) : D → Option D
  | .lst xs => some (.lst ((xs.drop (HT.sIx xs.length 0 lo)).take (HT.sIx xs.length xs.length hi - HT.sIx xs.length 0 lo)))
  | .rol xs => some (.lst ((xs.drop (HT.sIx xs.length 0 lo)).take (HT.sIx xs.length xs.length hi - HT.sIx xs.length 0 lo)))
  | .tup xs => some (.tup ((xs.drop (HT.sIx xs.length 0 lo)).take (HT.sIx xs.length xs.length hi - HT.sIx xs.length 0 lo)))
  | .str x => if x.length ≤ sizeLine then some (.str (cutS x lo hi)) else none
  | _ => none
def sliceA (m : M A) (lo hi : Option (M A)) : M A := bnd m fun x => bnd (prtA lo) fun l => bnd (prtA hi) fun h => bnd (view x) fun d => bnd (opt (cutD l h d)) fun z => ret (.d z)
inductive EvP (c : Cxs) : Option Expr → Option (M A) → Prop
  | none : EvP c none none
  | some {e : Expr} {m : M A} (h : EvE c e m) : EvP c (some e) (some m)
def rdP (c : Cxs) (B : Bs) (W : WX) (m : M (Option Int)) : TO := fun σ H Q => ∃ ρ F, SOk c.K c.mg B ρ σ H F ∧ okR c B W σ F (fun o _ H' _ => Q o H') (m ρ)
section
variable {c : Cxs} {a b : Expr} {ma mb : M A} {pos p2 : Pos} {lo hi : Option Expr} {ml mh : Option (M A)}
theorem EvP.po {X : Cx} (h : EvP c lo ml) (hX : XF c X) {B : Bs} {W : WX} (tk : Takes X W) : ∃ t, PO X lo t ∧ ∀ σ H Q, rdP c B W (prtA ml) σ H Q → t σ H Q := by
  cases h with
  | none => exact ⟨_, po_none, fun σ H Q ⟨ρ, F, S, q⟩ => q H F (Same.refl _) S⟩
  | some h =>
    refine ⟨_, po_some (h X hX B W tk), ?_⟩
    rintro σ H Q ⟨ρ, F, S, q⟩
    refine ⟨ρ, F, S, q.seq.imp fun x ρ1 H1 F1 e1 S1 q1 v r1 => ?_⟩
    obtain ⟨d, rd, q2⟩ := q1.vw S1 r1
    cases d with
    | int i => exact ⟨i, rd.int, q2 H1 F1 (Same.refl _) S1⟩
    | _ => exact (show False from q2).elim
theorem ev_slice (ha : EvE c a ma) (hl : EvP c lo ml) (hh : EvP c hi mh) : EvE c (.Subscript a (.Slice lo hi none p2) pos) (sliceA ma ml mh) := fun X hX B W tk => by
  obtain ⟨tl, l1, l2⟩ := hl.po hX (B := B) tk
  obtain ⟨th, h1, h2⟩ := hh.po hX (B := B) tk
  refine PE.imp (pe_slice (sl_list.or (sl_tupA.or sl_str)) (ha X hX B W tk) l1 h1) ?_
  rintro σ H Q ⟨ρ, F, S, q⟩
  refine ⟨ρ, F, S, q.seq.imp fun x ρ1 H1 F1 e1 S1 q1 v r1 => l2 _ _ _ ⟨ρ1, F1, S1, q1.seq.imp fun l ρ2 H2 F2 e2 S2 q2 => h2 _ _ _ ⟨ρ2, F2, S2, q2.seq.imp fun u ρ3 H3 F3 e3 S3 q3 => ?_⟩⟩⟩
  obtain ⟨d, rd, q4⟩ := q3.vw S3 (RpA.mono e3 (RpA.mono e2 r1))
  obtain ⟨z, ez, q5⟩ := q4.op
  have cutlen : ∀ (ds : List D) (xs : List V), Rps c.K c.mg F3 ds xs → Rps c.K c.mg F3 ((ds.drop (HT.sIx ds.length 0 l)).take (HT.sIx ds.length ds.length u - HT.sIx ds.length 0 l)) (cutV xs l u) := fun ds xs r => by
    unfold cutV
    rw [← r.length]
    exact (r.drop _).take _
  cases d with
  | lst xs =>
    cases ez
    obtain ⟨p, ys, rfl, h3, r3⟩ := rd.lst S3.sub
    refine .inl ⟨p, ys, rfl, SqL.of h3, fun n hn => ?_⟩
    have hF := S3.freeF hn
    exact q5 _ _ (Same.upd hF) (S3.alloc hn) _ (.lst upd_same (Rps.mono (Same.upd hF) _ _ (cutlen _ _ r3)))
  | rol xs =>
    cases ez
    obtain ⟨p, ys, rfl, h3, r3⟩ := rd.rol S3.sub
    refine .inl ⟨p, ys, rfl, by rw [hX.K]; exact h3, fun n hn => ?_⟩
    have hF := S3.freeF hn
    exact q5 _ _ (Same.upd hF) (S3.alloc hn) _ (.lst upd_same (Rps.mono (Same.upd hF) _ _ (cutlen _ _ r3)))
  | tup xs =>
    cases ez
    have rd' : Rp c.K c.mg F3 (.tup xs) v := by
      cases rd with
      | rp h => exact h
      | cel h => cases h
    obtain ⟨p, ys, rfl, h3, r3⟩ := rd.tup S3.sub
    refine .inr (.inl ⟨p, ys, rfl, by rw [hX.K]; exact h3, fun w => ?_, fun _ n hn => ?_⟩)
    · have el := r3.length
      rw [← el] at w
      refine q5 _ _ (Same.refl _) S3 _ ?_
      show Rp c.K c.mg F3 (.tup ((xs.drop (HT.sIx xs.length 0 l)).take (HT.sIx xs.length xs.length u - HT.sIx xs.length 0 l))) (.ref p)
      rw [w.1, w.2]
      simpa using rd'
    · have hF := S3.freeF hn
      exact q5 _ _ (Same.upd hF) (S3.alloc hn) _ (.tup (SqT.of upd_same) (Rps.mono (Same.upd hF) _ _ (cutlen _ _ r3)))
  | str x =>
    unfold cutD at ez
    simp only at ez
    split at ez
    · rename_i hz
      cases ez
      exact .inr (.inr ⟨x, rd.str, hz, q5 _ _ (Same.refl _) S3 _ (.str _)⟩)
    · cases ez
  | _ => cases ez
end

/-! ### arguments -/
abbrev RpAs (K : PySem.W.Frag) (mg : Str → Option Value) (F : Hp) (σ : L2.St) : List A → List V → Prop := Paired (RpA K mg F σ)
theorem RpAs.mono {K : PySem.W.Frag} {mg : Str → Option Value} {F F' : Hp} {σ : L2.St} (e : Same F F') {as : List A} {vs : List V} (h : RpAs K mg F σ as vs) : RpAs K mg F' σ as vs := Paired.mapP h fun _ _ r => RpA.mono e r
def rdA (c : Cxs) (B : Bs) (W : WX) (m : M (List A)) : TA := fun σ H Q => ∃ ρ F, SOk c.K c.mg B ρ σ H F ∧ okR c B W σ F (fun as _ H' F' => ∀ vs, RpAs c.K c.mg F' σ as vs → Q vs H') (m ρ)
def EvAs (c : Cxs) (es : List Expr) (m : M (List A)) : Prop := ∀ X, XF c X → ∀ B W, Takes X W → PA X es (rdA c B W m)
theorem PA.imp {X : Cx} {es : List Expr} {t t' : TA} (h : PA X es t) (i : ∀ σ H Q, t' σ H Q → t σ H Q) : PA X es t' := ⟨fun pos pins s σ H Q I q => h.run pos pins s σ H Q I (i _ _ _ q)⟩
def asNil : M (List A) := ret []
def asCons (m : M A) (ms : M (List A)) : M (List A) := bnd m fun x => bnd ms fun xs => ret (x :: xs)
section
variable {c : Cxs} {e : Expr} {es : List Expr} {m : M A} {ms : M (List A)} {pos : Pos}
theorem ea_nil : EvAs c [] asNil := fun X hX B W tk => by
  refine PA.imp pa_nil ?_
  rintro σ H Q ⟨ρ, F, S, q⟩
  exact q H F (Same.refl _) S _ .nil
theorem ea_cons (h : EvE c e m) (r : EvAs c es ms) (hs : noStar e = true := by rfl) : EvAs c (e :: es) (asCons m ms) := fun X hX B W tk => by
  refine PA.imp (pa_cons (h X hX B W tk) (r X hX B W tk) (star_cons hs)) ?_
  rintro σ H Q ⟨ρ, F, S, q⟩
  refine ⟨ρ, F, S, q.seq.imp fun x ρ1 H1 F1 e1 S1 q1 v r1 => ⟨ρ1, F1, S1, q1.seq.imp fun xs ρ2 H2 F2 e2 S2 q2 vs r2 => q2 H2 F2 (Same.refl _) S2 _ (.cons (RpA.mono e2 r1) r2)⟩⟩
end
/-- all read now -/
def views : List A → M (List D)
  | [] => ret []
  | x :: xs => bnd (view x) fun d => bnd (views xs) fun ds => ret (d :: ds)
/-- all fixed for ever -/
def frzs : List A → M (List D)
  | [] => ret []
  | x :: xs => bnd (frz x) fun d => bnd (frzs xs) fun ds => ret (d :: ds)
abbrev RpVs (K : PySem.W.Frag) (mg : Str → Option Value) (F H : Hp) : List D → List V → Prop := Paired (RpV K mg F H)
section
variable {c : Cxs} {B : Bs} {W : WX} {σ : L2.St} {H F : Hp} {ρ : List Sl}
theorem okR.vws {β : Type} {k : β → List Sl → Hp → Hp → Prop} (S : SOk c.K c.mg B ρ σ H F) : ∀ {as : List A} {vs : List V} {f : List D → M β}, RpAs c.K c.mg F σ as vs → okR c B W σ F k (bnd (views as) f ρ) →
    ∃ ds, RpVs c.K c.mg F H ds vs ∧ okR c B W σ F k (f ds ρ)
  | [], _, f, .nil, h => ⟨[], .nil, h⟩
  | x :: xs, _, f, .cons r rs, h => by
    have h1 : okR c B W σ F k (bnd (view x) (fun d => bnd (views xs) fun ds => f (d :: ds)) ρ) := by
      have e : bnd (views (x :: xs)) f ρ = bnd (view x) (fun d => bnd (views xs) fun ds => f (d :: ds)) ρ := by
        show bnd (bnd (view x) fun d => bnd (views xs) fun ds => ret (d :: ds)) f ρ = _
        rw [bnd_assoc]
        simp only [bnd_assoc, ret_bnd]
      rw [← e]; exact h
    obtain ⟨d, rd, h2⟩ := h1.vw S r
    obtain ⟨ds, rds, h3⟩ := okR.vws S rs h2
    exact ⟨d :: ds, .cons rd rds, h3⟩
theorem okR.fzs {β : Type} {k : β → List Sl → Hp → Hp → Prop} : ∀ {as : List A} {vs : List V} {f : List D → M β} {ρ : List Sl} {F : Hp}, SOk c.K c.mg B ρ σ H F → RpAs c.K c.mg F σ as vs → okR c B W σ F k (bnd (frzs as) f ρ) →
    ∃ ds ρ' F', Same F F' ∧ SOk c.K c.mg B ρ' σ H F' ∧ Rps c.K c.mg F' ds vs ∧ okR c B W σ F' k (f ds ρ')
  | [], _, f, ρ, F, S, .nil, h => ⟨[], ρ, F, Same.refl _, S, .nil, h⟩
  | x :: xs, _, f, ρ, F, S, .cons r rs, h => by
    have h1 : okR c B W σ F k (bnd (frz x) (fun d => bnd (frzs xs) fun ds => f (d :: ds)) ρ) := by
      have e : bnd (frzs (x :: xs)) f ρ = bnd (frz x) (fun d => bnd (frzs xs) fun ds => f (d :: ds)) ρ := by
        show bnd (bnd (frz x) fun d => bnd (frzs xs) fun ds => ret (d :: ds)) f ρ = _
        rw [bnd_assoc]
        simp only [bnd_assoc, ret_bnd]
      rw [← e]; exact h
    obtain ⟨d, ρ1, F1, e1, S1, rd, h2⟩ := h1.fz S r
    obtain ⟨ds, ρ2, F2, e2, S2, rds, h3⟩ := okR.fzs S1 (RpAs.mono e1 rs) h2
    exact ⟨d :: ds, ρ2, F2, e1.trans e2, S2, .cons (Rp.mono e2 _ _ rd) rds, h3⟩
end
/-! ### displays -/
def tupA (ms : M (List A)) : M A := bnd ms fun as => bnd (frzs as) fun ds => if ds.length ≤ sizeLine then ret (.d (.tup ds)) else bad
def lstA (ms : M (List A)) : M A := bnd ms fun as => bnd (frzs as) fun ds => if ds.length ≤ sizeLine then ret (.d (.lst ds)) else bad
/-- a new object that may change -/
def rdN (c : Cxs) (B : Bs) (W : WX) (m : M D) : TE := fun σ H Q => ∃ ρ F, SOk c.K c.mg B ρ σ H F ∧
  okR c B W σ F (fun d ρ' H' F' => ∀ a, F' a = none → Cont c.K c.mg F' H' a d → B.H0 a = none → (∀ p ∈ B.P, p.1 ≠ a) → (∀ (i : Nat) (k : Bool) (e : D), ρ'[i]? = some (.cel k e) → σ[i]? ≠ some (some (.ref a))) → Q (.ref a) H') (m ρ)
def EvN (c : Cxs) (e : Expr) (m : M D) : Prop := ∀ X, XF c X → ∀ B W, Takes X W → PE X e (rdN c B W m)
def newA (m : M D) : M A := bnd m fun d => ret (.d d)
def lstN (ms : M (List A)) : M D := bnd ms fun as => bnd (frzs as) fun ds => if ds.length ≤ sizeLine then ret (.lst ds) else bad
section
variable {c : Cxs} {e : Expr} {es : List Expr} {m : M A} {ms : M (List A)} {pos : Pos} {x1 : Nat}
theorem ev_tup (h : EvAs c es ms) : EvE c (.Tuple es x1 pos) (tupA ms) := fun X hX B W tk => by
  refine PE.imp (pe_tup (h X hX B W tk)) ?_
  rintro σ H Q ⟨ρ, F, S, q⟩
  refine ⟨ρ, F, S, q.seq.imp fun as ρ1 H1 F1 e1 S1 q1 vs r1 => ?_⟩
  obtain ⟨ds, ρ2, F2, e2, S2, r2, q2⟩ := q1.fzs S1 r1
  split at q2
  · rename_i hz
    refine ⟨by rw [← r2.length]; exact hz, fun p hp => ?_⟩
    have hF := S2.freeF hp
    exact q2 _ _ (Same.upd hF) (S2.alloc hp) _ (.tup (SqT.of upd_same) (Rps.mono (Same.upd hF) _ _ r2))
  · exact (show False from q2).elim
theorem en_lst (h : EvAs c es ms) : EvN c (.List es pos) (lstN ms) := fun X hX B W tk => by
  refine PE.imp (pe_lst (h X hX B W tk)) ?_
  rintro σ H Q ⟨ρ, F, S, q⟩
  refine ⟨ρ, F, S, q.seq.imp fun as ρ1 H1 F1 e1 S1 q1 vs r1 => ?_⟩
  obtain ⟨ds, ρ2, F2, e2, S2, r2, q2⟩ := q1.fzs S1 r1
  split at q2
  · rename_i hz
    refine ⟨by rw [← r2.length]; exact hz, fun p hp => ?_⟩
    refine q2 _ F2 (Same.refl _) (S2.allocH hp) p (S2.freeF hp) (.lst upd_same r2) (S2.free0 hp) (fun q hq z => ?_) fun i k d hi hs => ?_
    · obtain ⟨h1, _⟩ := S2.prot q hq
      rw [z, hp] at h1
      cases h1
    · obtain ⟨a, h1, _, ct, _⟩ := S2.cel i k d hi
      rw [h1] at hs
      cases hs
      obtain ⟨o, ho⟩ := ct.some
      rw [hp] at ho
      cases ho
  · exact (show False from q2).elim
/-- a new object that never will change -/
theorem ev_new {m : M D} (h : EvN c e m) : EvE c e (newA m) := fun X hX B W tk => by
  refine PE.imp (h X hX B W tk) ?_
  rintro σ H Q ⟨ρ, F, S, q⟩
  refine ⟨ρ, F, S, q.seq.imp fun d ρ1 H1 F1 e1 S1 q1 a hF hc h0 hP hs => ?_⟩
  obtain ⟨o, ho⟩ := hc.some
  have e2 : Same F1 (upd F1 a o) := Same.upd hF
  exact q1 H1 _ e2 (S1.fix hF ho h0 hs hP) _ (hc.rp e2 (by rw [upd_same, ho]))
theorem ev_lst (h : EvAs c es ms) : EvE c (.List es pos) (newA (lstN ms)) := ev_new (en_lst h)
end

/-! ### built-in functions -/
def CallD (c : Cxs) (fv : Value) (f : List D → Option D) : Prop := ∀ X, XF c X → ∃ r : List V → Hp → VK → Prop, CallR X fv r ∧
  ∀ (B : Bs) (ρ : List Sl) (σ : L2.St) (H F : Hp) (ds : List D) (d : D) (vs : List V) (Q : VK), SOk c.K c.mg B ρ σ H F → RpVs c.K c.mg F H ds vs → f ds = some d →
    (∀ v H' F', Same F F' → SOk c.K c.mg B ρ σ H' F' → Rp c.K c.mg F' d v → Q v H') → r vs H Q
def cbA (f : List D → Option D) (ms : M (List A)) : M A := bnd ms fun as => bnd (views as) fun ds => bnd (opt (f ds)) fun d => ret (.d d)
section
variable {c : Cxs} {e : Expr} {es : List Expr} {ms : M (List A)} {p pos : Pos} {x : Str} {idn T : String} {f : List D → Option D}
theorem rd_cb {r : List V → Hp → VK → Prop} {B : Bs} {W : WX}
    (h2 : ∀ (ρ : List Sl) (σ : L2.St) (H F : Hp) (ds : List D) (d : D) (vs : List V) (Q : VK), SOk c.K c.mg B ρ σ H F → RpVs c.K c.mg F H ds vs → f ds = some d →
      (∀ v H' F', Same F F' → SOk c.K c.mg B ρ σ H' F' → Rp c.K c.mg F' d v → Q v H') → r vs H Q) {σ : L2.St} {H : Hp} {Q : VK} (h : rdE c B W (cbA f ms) σ H Q) : tCB r (rdA c B W ms) σ H Q := by
  obtain ⟨ρ, F, S, q⟩ := h
  refine ⟨ρ, F, S, q.seq.imp fun as ρ1 H1 F1 e1 S1 q1 vs r1 => ?_⟩
  obtain ⟨ds, r2, q2⟩ := q1.vws S1 r1
  obtain ⟨d, ed, q3⟩ := q2.op
  exact h2 ρ1 σ H1 F1 ds d vs Q S1 r2 ed fun v H' F' e2 S2 r3 => q3 H' F' e2 S2 v r3
theorem gl_of {X : Cx} (hX : XF c X) (h : c.sc.names.lookup x = some .globalImplicit) : Gl X x := by
  show X.env.scope.names.lookup x = some .globalImplicit
  rw [hX.sc]; exact h
theorem ev_callB (hc : CallD c (.builtin idn) f) (ha : EvAs c (e :: es) ms) (hm : c.mg x = none) (hv : bootBuiltins x = some (.builtin idn)) (hg : gbB c.sc x = true) (he : (e :: es).all noStar = true := by rfl) : EvE c (.Call (.Name x p) (e :: es) [] pos) (cbA f ms) := fun X hX B W tk => by
  obtain ⟨r, h1, h2⟩ := hc X hX
  obtain ⟨hg, hdb, hn⟩ := gbB_ok hg
  obtain ⟨he1, he2⟩ := Bool.and_eq_true_iff.mp he
  exact PE.imp (pe_callB h1 (gl_of hX hg) (by rw [hX.mg]; exact hm) hv (ha X hX B W tk) hn hdb (star_cons he1) (star_any he2)) fun σ H Q h => rd_cb (h2 B) h
theorem ev_callTy (hc : CallD c (.type T) f) (ha : EvAs c (e :: es) ms) (hm : c.mg x = none) (hv : bootBuiltins x = some (.type T)) (hg : gbB c.sc x = true) (he : (e :: es).all noStar = true := by rfl) : EvE c (.Call (.Name x p) (e :: es) [] pos) (cbA f ms) := fun X hX B W tk => by
  obtain ⟨r, h1, h2⟩ := hc X hX
  obtain ⟨hg, hdb, hn⟩ := gbB_ok hg
  obtain ⟨he1, he2⟩ := Bool.and_eq_true_iff.mp he
  exact PE.imp (pe_callTy h1 (gl_of hX hg) (by rw [hX.mg]; exact hm) hv (ha X hX B W tk) hn hdb (star_cons he1) (star_any he2)) fun σ H Q h => rd_cb (h2 B) h
theorem CallD.or {fv : Value} {f g : List D → Option D} (hf : CallD c fv f) (hg : CallD c fv g) : CallD c fv (fun ds => match f ds with | some d => some d | none => g ds) := fun X hX => by
  obtain ⟨r, h1, h2⟩ := hf X hX
  obtain ⟨r', h1', h2'⟩ := hg X hX
  refine ⟨fun vs H Q => r vs H Q ∨ r' vs H Q, fun pins s σ H xs us Q I rv q => ?_, fun B ρ σ H F ds d vs Q S rv e k => ?_⟩
  · rcases q with q | q
    · exact h1 pins s σ H xs us Q I rv q
    · exact h1' pins s σ H xs us Q I rv q
  · simp only at e
    split at e
    · rename_i d' q
      cases e
      exact .inl (h2 B ρ σ H F ds d vs Q S rv q k)
    · exact .inr (h2' B ρ σ H F ds d vs Q S rv e k)
def lenD : List D → Option D
  | [.str x] => if x.length ≤ sizeLine then some (.int x.length) else none
  | [.lst xs] => some (.int xs.length)
  | [.rol xs] => some (.int xs.length)
  | [.tup xs] => some (.int xs.length)
  | _ => none
theorem vs1 {K : PySem.W.Frag} {mg : Str → Option Value} {F H : Hp} {d : D} {vs : List V} (r : RpVs K mg F H [d] vs) : ∃ v, vs = [v] ∧ RpV K mg F H d v := by
  cases r with
  | cons h r => cases r; exact ⟨_, rfl, h⟩
theorem vs2 {K : PySem.W.Frag} {mg : Str → Option Value} {F H : Hp} {d e : D} {vs : List V} (r : RpVs K mg F H [d, e] vs) : ∃ v w, vs = [v, w] ∧ RpV K mg F H d v ∧ RpV K mg F H e w := by
  cases r with
  | cons h r =>
    cases r with
    | cons h' r => cases r; exact ⟨_, _, rfl, h, h'⟩
theorem cd_len : CallD c (.builtin "len") lenD := fun X hX => by
  refine ⟨_, call_len, fun B ρ σ H F ds d vs Q S rv e k => ?_⟩
  unfold lenD at e
  split at e
  · rename_i x
    split at e
    · rename_i hz
      cases e
      obtain ⟨v, rfl, r⟩ := vs1 rv
      rw [r.str]
      exact ⟨_, x.length, rfl, ⟨hz, rfl⟩, k _ H F (Same.refl _) S (.int _)⟩
    · cases e
  · rename_i xs
    cases e
    obtain ⟨v, rfl, r⟩ := vs1 rv
    obtain ⟨a, ys, rfl, h1, r1⟩ := r.lst S.sub
    exact ⟨_, ys.length, rfl, .inl ⟨ys, SqL.of h1, rfl⟩, by rw [← r1.length]; exact k _ H F (Same.refl _) S (.int _)⟩
  · rename_i xs
    cases e
    obtain ⟨v, rfl, r⟩ := vs1 rv
    obtain ⟨a, ys, rfl, h1, r1⟩ := r.rol S.sub
    exact ⟨_, ys.length, rfl, .inl ⟨ys, by rw [hX.K]; exact h1, rfl⟩, by rw [← r1.length]; exact k _ H F (Same.refl _) S (.int _)⟩
  · rename_i xs
    cases e
    obtain ⟨v, rfl, r⟩ := vs1 rv
    obtain ⟨a, ys, rfl, h1, r1⟩ := r.tup S.sub
    exact ⟨_, ys.length, rfl, .inr ⟨ys, by rw [hX.K]; exact h1, rfl⟩, by rw [← r1.length]; exact k _ H F (Same.refl _) S (.int _)⟩
  · cases e
def absD : List D → Option D
  | [.int i] => some (.int (if i < 0 then -i else i))
  | _ => none
theorem cd_abs : CallD c (.builtin "abs") absD := fun X hX => by
  refine ⟨_, call_abs, fun B ρ σ H F ds d vs Q S rv e k => ?_⟩
  unfold absD at e
  split at e
  · rename_i i
    cases e
    obtain ⟨v, rfl, r⟩ := vs1 rv
    rw [r.int]
    exact ⟨i, rfl, k _ H F (Same.refl _) S (.int _)⟩
  · cases e
def intD : List D → Option D
  | [.int i] => some (.int i)
  | [.bl b] => some (.int (if b then 1 else 0))
  | _ => none
theorem cd_int : CallD c (.type "int") intD := fun X hX => by
  refine ⟨_, call_int1, fun B ρ σ H F ds d vs Q S rv e k => ?_⟩
  unfold intD at e
  split at e
  · rename_i i
    cases e
    obtain ⟨v, rfl, r⟩ := vs1 rv
    rw [r.int]
    exact .inl ⟨i, rfl, k _ H F (Same.refl _) S (.int _)⟩
  · rename_i b
    cases e
    obtain ⟨v, rfl, r⟩ := vs1 rv
    rw [r.bl]
    exact .inr ⟨b, rfl, k _ H F (Same.refl _) S (.int _)⟩
  · cases e
def allD : List D → Option D
  | [.lst xs] => (xs.mapM asBl).map fun bs => .bl (bs.all id)
  | _ => none
def anyD : List D → Option D
  | [.lst xs] => (xs.mapM asBl).map fun bs => .bl (bs.any id)
  | _ => none
theorem bls_of {K : PySem.W.Frag} {mg : Str → Option Value} {F : Hp} : ∀ {ds : List D} {vs : List V} {bs : List Bool}, Rps K mg F ds vs → ds.mapM asBl = some bs → vs = bs.map V.bl
  | [], _, bs, .nil, h => by simp at h; subst h; rfl
  | d :: ds, _, bs, .cons r rs, h => by
    rw [List.mapM_cons] at h
    cases e : asBl d with
    | none => rw [e] at h; cases h
    | some b =>
      rw [e] at h
      cases e2 : ds.mapM asBl with
      | none => rw [e2] at h; cases h
      | some bs' =>
        rw [e2] at h
        cases h
        have := asBl_some e
        subst this
        cases r
        rw [bls_of rs e2]
        rfl
theorem cd_all (hcm : c.calm = true) : CallD c (.builtin "all") allD := fun X hX => by
  refine ⟨_, cr_all (hX.calm hcm), fun B ρ σ H F ds d vs Q S rv e k => ?_⟩
  unfold allD at e
  split at e
  · rename_i xs
    simp only [Option.map_eq_some_iff] at e
    obtain ⟨bs, e1, rfl⟩ := e
    obtain ⟨v, rfl, r⟩ := vs1 rv
    obtain ⟨a, ys, rfl, h1, r1⟩ := r.lst S.sub
    have := bls_of r1 e1
    subst this
    exact ⟨a, bs, rfl, SqL.of h1, k _ H F (Same.refl _) S (.bl _)⟩
  · cases e
theorem cd_any (hcm : c.calm = true) : CallD c (.builtin "any") anyD := fun X hX => by
  refine ⟨_, cr_any (hX.calm hcm), fun B ρ σ H F ds d vs Q S rv e k => ?_⟩
  unfold anyD at e
  split at e
  · rename_i xs
    simp only [Option.map_eq_some_iff] at e
    obtain ⟨bs, e1, rfl⟩ := e
    obtain ⟨v, rfl, r⟩ := vs1 rv
    obtain ⟨a, ys, rfl, h1, r1⟩ := r.lst S.sub
    have := bls_of r1 e1
    subst this
    exact ⟨a, bs, rfl, SqL.of h1, k _ H F (Same.refl _) S (.bl _)⟩
  · cases e
end
end Mi

namespace Mi
open PySem PySem.Spec L2
/-! ### isinstance of built-in classes -/
def tyN : D → Option String
  | .non => some "NoneType"
  | .bl _ => some "bool"
  | .int _ => some "int"
  | .str _ => some "str"
  | .lst _ => some "list"
  | .rol _ => some "list"
  | .tup _ => some "tuple"
  | .dct _ _ => some "dict"
  | _ => none
def tyNames : List String := ["NoneType", "bool", "int", "str", "list", "tuple", "dict"]
def isT (t n : String) : Bool := t == n || (t == "bool" && n == "int")
theorem kit_tab : (tyNames.all fun t => tyNames.tail.all fun n => decide (kitB t n = some (isT t n))) = true := by decide +kernel
theorem kit_at {t n : String} (ht : t ∈ tyNames) (hn : n ∈ tyNames.tail) : kitB t n = some (isT t n) := of_decide_eq_true (List.all_eq_true.mp (List.all_eq_true.mp kit_tab t ht) n hn)
theorem tyN_mem {d : D} {t : String} (h : tyN d = some t) : t ∈ tyNames := by
  cases d <;> first | (cases h; decide) | cases h
section
variable {K : PySem.W.Frag} {mg : Str → Option Value} {F H : Hp}
theorem sqL_ty {a : Addr} {xs : List V} (h : SqL K H a xs) : TyX K H (.ref a) (.type "list") := by
  rcases h with (h | ⟨o, h⟩) | ⟨o, its, n, h, hc, _⟩
  · exact .base (.lst h)
  · exact .base (.frz h)
  · exact .kList h hc
theorem sqT_ty {a : Addr} {xs : List V} (h : SqT K H a xs) : TyX K H (.ref a) (.type "tuple") := by
  rcases h with (h | ⟨o, h⟩) | ⟨o, its, n, h, hc, _⟩
  · exact .base (.tup h)
  · exact .fTuple h
  · exact .kTuple h hc
theorem tyN_ok {d : D} {v : V} {t : String} (e : Same F H) (r : RpV K mg F H d v) (h : tyN d = some t) : TyX K H v (.type t) := by
  cases d with
  | non => cases h; rw [r.non]; exact .base .non
  | bl x => cases h; rw [r.bl]; exact .base (.bl _)
  | int x => cases h; rw [r.int]; exact .base (.int _)
  | str x => cases h; rw [r.str]; exact .base (.str _)
  | lst xs =>
    cases h
    obtain ⟨a, ys, rfl, h1, r1⟩ := r.lst e
    exact .base (.lst h1)
  | rol xs =>
    cases h
    obtain ⟨a, ys, rfl, h1, r1⟩ := r.rol e
    exact sqL_ty h1
  | tup xs =>
    cases h
    obtain ⟨a, ys, rfl, h1, r1⟩ := r.tup e
    exact sqT_ty h1
  | dct ks vs =>
    cases h
    obtain ⟨a, ys, rfl, h1, l1, r1⟩ := r.dct e
    exact .base (.dK h1)
  | _ => cases h
end
def isiD : List D → Option D
  | [d, .ty n] => match tyN d with
    | some t => if n ∈ tyNames.tail then some (.bl (isT t n)) else none
    | none => none
  | _ => none
section
variable {c : Cxs} {pos : Pos} {x : Str}
theorem cd_isi : CallD c (.builtin "isinstance") isiD := fun X hX => by
  refine ⟨_, call_isi, fun B ρ σ H F ds d vs Q S rv e k => ?_⟩
  unfold isiD at e
  split at e
  · rename_i d' n
    split at e
    · rename_i t ht
      split at e
      · rename_i hn
        cases e
        obtain ⟨v, w, rfl, r1, r2⟩ := vs2 rv
        rw [r2.ty]
        exact ⟨v, .ty n, .type t, .type n, isT t n, rfl, .ty n, by rw [hX.K]; exact tyN_ok S.sub r1 ht, kit_ty (kit_at (tyN_mem ht) hn), k _ H F (Same.refl _) S (.bl _)⟩
      · cases e
    · cases e
  · cases e
/-- a built-in class as a value -/
theorem ev_ty {T : String} (hm : c.mg x = none) (hv : bootBuiltins x = some (.type T)) (hg : gbB c.sc x = true) : EvE c (.Name x pos) (eC (.ty T)) := fun X hX B W tk => by
  obtain ⟨hg, hd, hn⟩ := gbB_ok hg
  refine PE.imp (pe_bltn (v := .ty T) (gl_of hX hg) (by rw [hX.mg]; exact hm) hv rfl hn hd) ?_
  rintro σ H Q ⟨ρ, F, S, q⟩
  exact q H F (Same.refl _) S _ (.ty _)
/-- a class or a def of the text as a value -/
theorem ev_glo (hm : ∃ a, c.mg x = some (.ref a)) (hg : gbB c.sc x = true) : EvE c (.Name x pos) (eC (.glo x)) := fun X hX B W tk => by
  obtain ⟨hg, hd, hn⟩ := gbB_ok hg
  obtain ⟨a, hm⟩ := hm
  refine PE.imp (pe_glob (v := .ref a) (gl_of hX hg) (by rw [hX.mg]; exact hm) rfl hd) ?_
  rintro σ H Q ⟨ρ, F, S, q⟩
  exact q H F (Same.refl _) S _ (.glo hm)
/-- a constant of the module -/
theorem ev_gint {i : Int} (hm : ∃ t, c.mg x = some (.int i t)) (hg : gbB c.sc x = true) : EvE c (.Name x pos) (eC (.int i)) := fun X hX B W tk => by
  obtain ⟨hg, hd, hn⟩ := gbB_ok hg
  obtain ⟨t, hm⟩ := hm
  refine PE.imp (pe_glob (v := .int i) (gl_of hX hg) (by rw [hX.mg]; exact hm) ⟨_, rfl⟩ hd) ?_
  rintro σ H Q ⟨ρ, F, S, q⟩
  exact q H F (Same.refl _) S _ (.int _)
theorem ev_gstr {z : Str} (hm : ∃ t, c.mg x = some (.str z t)) (hg : gbB c.sc x = true) : EvE c (.Name x pos) (eC (.str z)) := fun X hX B W tk => by
  obtain ⟨hg, hd, hn⟩ := gbB_ok hg
  obtain ⟨t, hm⟩ := hm
  refine PE.imp (pe_glob (v := .str z) (gl_of hX hg) (by rw [hX.mg]; exact hm) ⟨_, rfl⟩ hd) ?_
  rintro σ H Q ⟨ρ, F, S, q⟩
  exact q H F (Same.refl _) S _ (.str _)
end

/-! ### in, not in -/
def flatD : D → Bool
  | .non => true
  | .bl _ => true
  | .int _ => true
  | .str _ => true
  | _ => false
def eqF : D → D → Bool
  | .non, .non => true
  | .bl a, .bl b => a == b
  | .bl a, .int b => (if a then 1 else 0) == b
  | .int a, .bl b => a == (if b then 1 else 0)
  | .int a, .int b => a == b
  | .str a, .str b => a == b
  | _, _ => false
def inD (neg : Bool) (x y : D) : Option D :=
  match x, y with
  | .str i, .str j => some (.bl (if neg then (Builtin.Str.occurrences j i 0 j.length 1).isEmpty else !(Builtin.Str.occurrences j i 0 j.length 1).isEmpty))
  | x, .lst ys => if flatD x = true ∧ ys.all flatD = true then some (.bl (if neg then !(ys.any fun y => eqF y x) else ys.any fun y => eqF y x)) else none
  | x, .rol ys => if flatD x = true ∧ ys.all flatD = true then some (.bl (if neg then !(ys.any fun y => eqF y x) else ys.any fun y => eqF y x)) else none
  | x, .tup ys => if flatD x = true ∧ ys.all flatD = true then some (.bl (if neg then !(ys.any fun y => eqF y x) else ys.any fun y => eqF y x)) else none
  | _, _ => none
section
variable {K : PySem.W.Frag} {mg : Str → Option Value} {F H : Hp}
theorem flat_v {d : D} {v : V} (r : RpV K mg F H d v) (h : flatD d = true) : flatV v = true := by
  cases r with
  | rp h' => cases h' <;> first | rfl | cases h
  | cel h' => cases h' <;> cases h
theorem eqF_v {x y : D} {v w : V} (rx : RpV K mg F H x v) (ry : RpV K mg F H y w) (hx : flatD x = true) (hy : flatD y = true) : eqV w v = eqF y x := by
  cases x with
  | non => rw [rx.non]; cases y <;> first | (rw [ry.non]; rfl) | (rw [ry.bl]; rfl) | (rw [ry.int]; rfl) | (rw [ry.str]; rfl) | cases hy
  | bl b => rw [rx.bl]; cases y <;> first | (rw [ry.non]; rfl) | (rw [ry.bl]; rfl) | (rw [ry.int]; rfl) | (rw [ry.str]; rfl) | cases hy
  | int i => rw [rx.int]; cases y <;> first | (rw [ry.non]; rfl) | (rw [ry.bl]; rfl) | (rw [ry.int]; rfl) | (rw [ry.str]; rfl) | cases hy
  | str z => rw [rx.str]; cases y <;> first | (rw [ry.non]; rfl) | (rw [ry.bl]; rfl) | (rw [ry.int]; rfl) | (rw [ry.str]; rfl) | cases hy
  | _ => cases hx
theorem inV_eq {x : D} {v : V} (rx : RpV K mg F H x v) (hx : flatD x = true) : ∀ {ys : List D} {ws : List V}, Rps K mg F ys ws → ys.all flatD = true → ws.all flatV = true ∧ inV v ws = ys.any fun y => eqF y x
  | [], _, .nil, _ => ⟨rfl, rfl⟩
  | y :: ys, _, .cons r rs, h => by
    simp only [List.all_cons, Bool.and_eq_true] at h
    obtain ⟨h1, h2⟩ := inV_eq rx hx rs h.2
    refine ⟨?_, ?_⟩
    · simp only [List.all_cons, Bool.and_eq_true]
      exact ⟨flat_v (.rp (H := H) r) h.1, h1⟩
    · unfold inV at h2 ⊢
      simp only [List.any_cons]
      rw [h2, eqF_v rx (.rp r) hx h.1]
end
section
variable {c : Cxs}
theorem od_in : OpD c (compareOp .In) (inD false) := fun X hX => by
  refine ⟨_, op_in_str.or op_in_seq, fun B ρ σ H F dx dy d x y Q S rx ry e k => ?_⟩
  unfold inD at e
  split at e
  · rename_i i j
    cases e
    exact .inl ⟨i, j, rx.str, ry.str, k _ H F (Same.refl _) S (.bl _)⟩
  · rename_i ys _
    split at e
    · rename_i hc
      cases e
      obtain ⟨a, ws, rfl, h1, r1⟩ := ry.lst S.sub
      obtain ⟨h2, h3⟩ := inV_eq rx hc.1 r1 hc.2
      exact .inr ⟨a, ws, rfl, .inl (SqL.of h1), flat_v rx hc.1, h2, k _ H F (Same.refl _) S (by rw [h3]; exact .bl _)⟩
    · cases e
  · rename_i ys _
    split at e
    · rename_i hc
      cases e
      obtain ⟨a, ws, rfl, h1, r1⟩ := ry.rol S.sub
      obtain ⟨h2, h3⟩ := inV_eq rx hc.1 r1 hc.2
      exact .inr ⟨a, ws, rfl, .inl (by rw [hX.K]; exact h1), flat_v rx hc.1, h2, k _ H F (Same.refl _) S (by rw [h3]; exact .bl _)⟩
    · cases e
  · rename_i ys _
    split at e
    · rename_i hc
      cases e
      obtain ⟨a, ws, rfl, h1, r1⟩ := ry.tup S.sub
      obtain ⟨h2, h3⟩ := inV_eq rx hc.1 r1 hc.2
      exact .inr ⟨a, ws, rfl, .inr (by rw [hX.K]; exact h1), flat_v rx hc.1, h2, k _ H F (Same.refl _) S (by rw [h3]; exact .bl _)⟩
    · cases e
  · cases e
theorem od_nin : OpD c (compareOp .NotIn) (inD true) := fun X hX => by
  refine ⟨_, op_notin_str.or op_notIn_seq, fun B ρ σ H F dx dy d x y Q S rx ry e k => ?_⟩
  unfold inD at e
  split at e
  · rename_i i j
    cases e
    exact .inl ⟨i, j, rx.str, ry.str, k _ H F (Same.refl _) S (by rw [Bool.not_not]; exact .bl _)⟩
  · rename_i ys _
    split at e
    · rename_i hc
      cases e
      obtain ⟨a, ws, rfl, h1, r1⟩ := ry.lst S.sub
      obtain ⟨h2, h3⟩ := inV_eq rx hc.1 r1 hc.2
      exact .inr ⟨a, ws, rfl, .inl (SqL.of h1), flat_v rx hc.1, h2, k _ H F (Same.refl _) S (by rw [h3]; exact .bl _)⟩
    · cases e
  · rename_i ys _
    split at e
    · rename_i hc
      cases e
      obtain ⟨a, ws, rfl, h1, r1⟩ := ry.rol S.sub
      obtain ⟨h2, h3⟩ := inV_eq rx hc.1 r1 hc.2
      exact .inr ⟨a, ws, rfl, .inl (by rw [hX.K]; exact h1), flat_v rx hc.1, h2, k _ H F (Same.refl _) S (by rw [h3]; exact .bl _)⟩
    · cases e
  · rename_i ys _
    split at e
    · rename_i hc
      cases e
      obtain ⟨a, ws, rfl, h1, r1⟩ := ry.tup S.sub
      obtain ⟨h2, h3⟩ := inV_eq rx hc.1 r1 hc.2
      exact .inr ⟨a, ws, rfl, .inr (by rw [hX.K]; exact h1), flat_v rx hc.1, h2, k _ H F (Same.refl _) S (by rw [h3]; exact .bl _)⟩
    · cases e
  · cases e
end

/-! ### methods of built-in classes that change nothing -/
def hasTy (T : String) : D → Bool
  | .str _ => T == "str"
  | .lst _ => T == "list"
  | .rol _ => T == "list"
  | .dct _ _ => T == "dict"
  | _ => false
def MtD (c : Cxs) (idn : String) (f : D → List D → Option D) : Prop := ∀ X, XF c X → ∃ r : V → List V → Hp → VK → Prop, MtR X idn r ∧
  ∀ (B : Bs) (ρ : List Sl) (σ : L2.St) (H F : Hp) (dx : D) (ds : List D) (d : D) (x : V) (vs : List V) (Q : VK), SOk c.K c.mg B ρ σ H F → RpV c.K c.mg F H dx x → RpVs c.K c.mg F H ds vs → f dx ds = some d →
    (∀ v H' F', Same F F' → SOk c.K c.mg B ρ σ H' F' → Rp c.K c.mg F' d v → Q v H') → r x vs H Q
def mtA (T : String) (f : D → List D → Option D) (m : M A) (ms : M (List A)) : M A := bnd m fun x => bnd (view x) fun d0 => if hasTy T d0 = true then bnd ms fun as => bnd (view x) fun dx => bnd (views as) fun ds => bnd (opt (f dx ds)) fun d => ret (.d d) else bad
theorem hasTy_ok {K : PySem.W.Frag} {mg : Str → Option Value} {F H : Hp} {d : D} {v : V} {T : String} (e : Same F H) (r : RpV K mg F H d v) (h : hasTy T d = true) : tyV K T v H := by
  cases d with
  | str x => rw [r.str]; exact eq_of_beq h
  | lst xs =>
    obtain ⟨a, ys, rfl, h1, r1⟩ := r.lst e
    exact .inl ⟨eq_of_beq h, ys, SqL.of h1⟩
  | rol xs =>
    obtain ⟨a, ys, rfl, h1, r1⟩ := r.rol e
    exact .inl ⟨eq_of_beq h, ys, h1⟩
  | dct ks vs =>
    obtain ⟨a, ys, rfl, h1, l1, r1⟩ := r.dct e
    exact .inr (.inr (.inl ⟨eq_of_beq h, .inl ⟨_, h1⟩⟩))
  | _ => cases h
section
variable {c : Cxs} {o e : Expr} {es : List Expr} {mo : M A} {ms : M (List A)} {T idn : String} {name : Str} {apos cpos : Pos} {f : D → List D → Option D}
theorem ev_mt (pa : PlainAttrs T) (slot : Slot T name idn) (hty : typeOf (.builtin idn) = pure (.type "method_descriptor")) (hm : MtD c idn f) (ho : EvE c o mo) (ha : EvAs c (e :: es) ms)
    (hbase : noSuper o = true := by rfl) (hst : (e :: es).all noStar = true := by rfl) (hl : Nat.blt (e :: es).length 30 = true := by rfl) (hline : (apos.endLine == cpos.line) = true := by rfl) :
    EvE c (.Call (.Attribute o name apos) (e :: es) [] cpos) (mtA T f mo ms) := fun X hX B W tk => by
  obtain ⟨r, h1, h2⟩ := hm X hX
  obtain ⟨hs1, hs2⟩ := Bool.and_eq_true_iff.mp hst
  refine PE.imp (pe_bm pa slot hty h1 (ho X hX B W tk) (ha X hX B W tk) (base_plain hbase) (few_args hst hl) hline (star_cons hs1) (star_any hs2)) ?_
  rintro σ H Q ⟨ρ, F, S, q⟩
  refine ⟨ρ, F, S, q.seq.imp fun x ρ1 H1 F1 e1 S1 q1 v r1 => ?_⟩
  obtain ⟨d0, r0, q2⟩ := q1.vw S1 r1
  split at q2
  · rename_i hT
    refine ⟨by rw [hX.K]; exact hasTy_ok S1.sub r0 hT, ⟨ρ1, F1, S1, q2.seq.imp fun as ρ2 H2 F2 e2 S2 q3 vs r2 => ?_⟩⟩
    obtain ⟨dx, rx, q4⟩ := q3.vw S2 (RpA.mono e2 r1)
    obtain ⟨ds, rd, q5⟩ := q4.vws S2 r2
    obtain ⟨d, ed, q6⟩ := q5.op
    exact h2 B ρ2 σ H2 F2 dx ds d v vs Q S2 rx rd ed fun z H3 F3 e3 S3 r3 => q6 H3 F3 e3 S3 z r3
  · exact (show False from q2).elim
def mt0A (T : String) (f : D → List D → Option D) (m : M A) : M A := bnd m fun x => bnd (view x) fun dx => if hasTy T dx = true then bnd (opt (f dx [])) fun d => ret (.d d) else bad
theorem ev_mt0 (pa : PlainAttrs T) (slot : Slot T name idn) (hty : typeOf (.builtin idn) = pure (.type "method_descriptor")) (hm : MtD c idn f) (ho : EvE c o mo)
    (hbase : noSuper o = true := by rfl) (hline : (apos.endLine == cpos.line) = true := by rfl) : EvE c (.Call (.Attribute o name apos) [] [] cpos) (mt0A T f mo) := fun X hX B W tk => by
  obtain ⟨r, h1, h2⟩ := hm X hX
  refine PE.imp (pe_bm0 pa slot hty h1 (ho X hX B W tk) (base_plain hbase) hline) ?_
  rintro σ H Q ⟨ρ, F, S, q⟩
  refine ⟨ρ, F, S, q.seq.imp fun x ρ1 H1 F1 e1 S1 q1 v r1 => ?_⟩
  obtain ⟨dx, rx, q2⟩ := q1.vw S1 r1
  split at q2
  · rename_i hT
    obtain ⟨d, ed, q6⟩ := q2.op
    exact ⟨by rw [hX.K]; exact hasTy_ok S1.sub rx hT, h2 B ρ1 σ H1 F1 dx [] d v [] Q S1 rx .nil ed fun z H3 F3 e3 S3 r3 => q6 H3 F3 e3 S3 z r3⟩
  · exact (show False from q2).elim
end
def asStr : D → Option Str
  | .str b => some b
  | _ => none
theorem strs_of {K : PySem.W.Frag} {mg : Str → Option Value} {F : Hp} : ∀ {ds : List D} {vs : List V} {bs : List Str}, Rps K mg F ds vs → ds.mapM asStr = some bs → vs = bs.map V.str
  | [], _, bs, .nil, h => by simp at h; subst h; rfl
  | d :: ds, _, bs, .cons r rs, h => by
    rw [List.mapM_cons] at h
    cases e : asStr d with
    | none => rw [e] at h; cases h
    | some b =>
      rw [e] at h
      cases e2 : ds.mapM asStr with
      | none => rw [e2] at h; cases h
      | some bs' =>
        rw [e2] at h
        cases h
        cases d with
        | str z => cases e; cases r; rw [strs_of rs e2]; rfl
        | _ => cases e
def joinF (a : Str) (ys : List D) : Option D := match ys.mapM asStr with
  | some zs => if (zs.map (·.length)).sum + zs.length * a.length ≤ 16777216 then some (.str (Txt.join a zs)) else none
  | none => none
def joinD : D → List D → Option D
  | .str a, [.lst ys] => joinF a ys
  | .str a, [.tup ys] => joinF a ys
  | _, _ => none
theorem joinF_some {a : Str} {ys : List D} {d : D} (h : joinF a ys = some d) : ∃ zs, ys.mapM asStr = some zs ∧ (zs.map (·.length)).sum + zs.length * a.length ≤ 16777216 ∧ d = .str (Txt.join a zs) := by
  unfold joinF at h
  split at h
  · rename_i zs e
    split at h
    · rename_i hz
      cases h
      exact ⟨zs, e, hz, rfl⟩
    · cases h
  · cases h
section
variable {c : Cxs}
theorem md_join : MtD c "str.join" joinD := fun X hX => by
  refine ⟨_, mt_join, fun B ρ σ H F dx ds d x vs Q S rx rv e k => ?_⟩
  unfold joinD at e
  split at e
  · rename_i a ys
    obtain ⟨zs, e1, hz, rfl⟩ := joinF_some e
    obtain ⟨v, rfl, r⟩ := vs1 rv
    obtain ⟨p, ws, rfl, h1, r1⟩ := r.lst S.sub
    have := strs_of r1 e1
    subst this
    exact ⟨a, p, zs, rx.str, rfl, .inl (SqL.of h1), hz, k _ H F (Same.refl _) S (.str _)⟩
  · rename_i a ys
    obtain ⟨zs, e1, hz, rfl⟩ := joinF_some e
    obtain ⟨v, rfl, r⟩ := vs1 rv
    obtain ⟨p, ws, rfl, h1, r1⟩ := r.tup S.sub
    have := strs_of r1 e1
    subst this
    exact ⟨a, p, zs, rx.str, rfl, .inr (by rw [hX.K]; exact h1), hz, k _ H F (Same.refl _) S (.str _)⟩
  · cases e
end
end Mi

namespace Mi
open PySem PySem.Spec L2
/-! ### statements -/
inductive Fw where
  | next | brk | cont | ret (d : D) | retn (d : D)
def okS (c : Cxs) (B : Bs) (W : WX) (F : Hp) (E : Ends) : Res Fw → Prop
  | .ok f ρ' => ∀ σ' H' F', Same F F' → SOk c.K c.mg B ρ' σ' H' F' → (match f with
    | .next => E.nx σ' H'
    | .brk => E.bk σ' H'
    | .cont => E.ct σ' H'
    | .ret d => ∀ v, Rp c.K c.mg F' d v → E.rt v H'
    | .retn d => ∀ a, F' a = none → Cont c.K c.mg F' H' a d → B.H0 a = none → E.rt (.ref a) H')
  | .err n ns vs ρ' => ∀ σ' C d H' F', Same F F' → SOk c.K c.mg B ρ' σ' H' F' → ErrR c.K c.mg F' H' n ns vs C d → W C d σ' H'
  | .bad => False
def rdS (c : Cxs) (B : Bs) (W : WX) (m : M Fw) : TS := fun E σ H => ∃ ρ F, SOk c.K c.mg B ρ σ H F ∧ okS c B W F E (m ρ)
def EvS (c : Cxs) (st : Stmt) (m : M Fw) : Prop := ∀ X, XF c X → ∀ B W, Takes X W → PS X st (rdS c B W m)
def EvB (c : Cxs) (st : List Stmt) (m : M Fw) : Prop := ∀ X, XF c X → ∀ B W, Takes X W → PSs X st (rdS c B W m)
theorem PS.imp {X : Cx} {st : Stmt} {t t' : TS} (h : PS X st t) (i : ∀ E σ H, t' E σ H → t E σ H) : PS X st t' := ⟨fun pins s σ H E I q => h.run pins s σ H E I (i _ _ _ q)⟩
theorem PSs.imp {X : Cx} {st : List Stmt} {t t' : TS} (h : PSs X st t) (i : ∀ E σ H, t' E σ H → t E σ H) : PSs X st t' := ⟨fun pins s σ H E I q => h.run pins s σ H E I (i _ _ _ q)⟩
section
variable {c : Cxs} {B : Bs} {W : WX} {E E' : Ends} {σ : L2.St} {F F' H : Hp} {ρ : List Sl}
theorem okS.base {r : Res Fw} (e : Same F F') (h : okS c B W F E r) : okS c B W F' E r := by
  cases r with
  | ok f ρ' => exact fun σ' H' F2 e2 s => h σ' H' F2 (e.trans e2) s
  | err n ns vs ρ' => exact fun σ' C d H' F2 e2 s => h σ' C d H' F2 (e.trans e2) s
  | bad => exact h
theorem okS.seq {α : Type} {m : M α} {f : α → M Fw} (h : okS c B W F E (bnd m f ρ)) : okR c B W σ F (fun a ρ' _ F' => okS c B W F' E (f a ρ')) (m ρ) := by
  unfold bnd at h
  split at h
  · rename_i a ρ' e
    rw [e]
    exact fun H' F' e2 s => okS.base e2 h
  · rename_i n ns vs ρ' e
    rw [e]
    exact fun C d H' F' e2 s er => h σ C d H' F' e2 s er
  · exact h.elim
theorem okS.vw {x : A} {v : V} {f : D → M Fw} (S : SOk c.K c.mg B ρ σ H F) (r : RpA c.K c.mg F σ x v) (h : okS c B W F E (bnd (view x) f ρ)) :
    ∃ d, RpV c.K c.mg F H d v ∧ okS c B W F E (f d ρ) := by
  unfold bnd at h
  split at h
  · rename_i d ρ' e
    obtain ⟨e1, r1⟩ := view_ok S r e
    subst e1
    exact ⟨d, r1, h⟩
  · rename_i e
    exact absurd e view_not_err
  · exact h.elim
theorem okS.fz {x : A} {v : V} {f : D → M Fw} (S : SOk c.K c.mg B ρ σ H F) (r : RpA c.K c.mg F σ x v) (h : okS c B W F E (bnd (frz x) f ρ)) :
    ∃ d ρ' F', Same F F' ∧ SOk c.K c.mg B ρ' σ H F' ∧ Rp c.K c.mg F' d v ∧ okS c B W F' E (f d ρ') := by
  unfold bnd at h
  split at h
  · rename_i d ρ' e
    obtain ⟨F', e1, S1, r1⟩ := frz_ok S r e
    exact ⟨d, ρ', F', e1, S1, r1, h.base e1⟩
  · rename_i e
    exact absurd e frz_not_err
  · exact h.elim
/-- another end of statements -/
theorem okS.ends {r : Res Fw} (h : okS c B W F E r) (hn : ∀ σ' H', E.nx σ' H' → E'.nx σ' H') (hb : ∀ σ' H', E.bk σ' H' → E'.bk σ' H') (hc : ∀ σ' H', E.ct σ' H' → E'.ct σ' H') (hr : ∀ v H', E.rt v H' → E'.rt v H') : okS c B W F E' r := by
  cases r with
  | ok f ρ' =>
    intro σ' H' F' e s
    have := h σ' H' F' e s
    cases f with
    | next => exact hn _ _ this
    | brk => exact hb _ _ this
    | cont => exact hc _ _ this
    | ret d => exact fun v r => hr _ _ (this v r)
    | retn d => exact fun a h1 h2 h3 => hr _ _ (this a h1 h2 h3)
  | err n ns vs ρ' => exact h
  | bad => exact h
end
def seqS (a b : M Fw) : M Fw := fun ρ => match a ρ with
  | .ok .next ρ' => b ρ'
  | r => r
def nextS : M Fw := ret .next
section
variable {c : Cxs} {st : Stmt} {sts : List Stmt} {m n : M Fw} {e : Expr} {me : M A} {pos : Pos}
theorem eb_nil : EvB c [] nextS := fun X hX B W tk => by
  refine PSs.imp pss_nil ?_
  rintro E σ H ⟨ρ, F, S, q⟩
  exact q σ H F (Same.refl _) S
theorem eb_one (h : EvS c st m) : EvB c [st] m := fun X hX B W tk => pss_one (h X hX B W tk)
theorem eb_cons (h : EvS c st m) (r : EvB c sts n) : EvB c (st :: sts) (seqS m n) := fun X hX B W tk => by
  refine PSs.imp (pss_cons (h X hX B W tk) (r X hX B W tk)) ?_
  rintro E σ H ⟨ρ, F, S, q⟩
  refine ⟨ρ, F, S, ?_⟩
  unfold seqS at q
  split at q
  · rename_i ρ' e
    rw [e]
    exact fun σ' H' F' e2 s => ⟨ρ', F', s, q.base e2⟩
  · rename_i hne
    cases hr : m ρ with
    | ok f ρ' =>
      rw [hr] at q
      intro σ' H' F' e2 s
      have := q σ' H' F' e2 s
      cases f with
      | next => exact absurd hr (hne ρ')
      | brk => exact this
      | cont => exact this
      | ret d => exact this
      | retn d => exact this
    | err n ns vs ρ' =>
      rw [hr] at q
      exact q
    | bad =>
      rw [hr] at q
      exact q
def retS (m : M A) : M Fw := bnd m fun a => bnd (frz a) fun d => ret (.ret d)
theorem es_ret (h : EvE c e me) : EvS c (.Return (some e) pos) (retS me) := fun X hX B W tk => by
  refine PS.imp (ps_ret (h X hX B W tk)) ?_
  rintro E σ H ⟨ρ, F, S, q⟩
  refine ⟨ρ, F, S, q.seq.imp fun a ρ1 H1 F1 e1 S1 q1 v r1 => ?_⟩
  obtain ⟨d, ρ2, F2, e2, S2, r2, q2⟩ := q1.fz S1 r1
  exact q2 σ H1 F2 (Same.refl _) S2 v r2
def retNS (m : M D) : M Fw := bnd m fun d => ret (.retn d)
theorem es_retN {mn : M D} (h : EvN c e mn) : EvS c (.Return (some e) pos) (retNS mn) := fun X hX B W tk => by
  refine PS.imp (ps_ret (h X hX B W tk)) ?_
  rintro E σ H ⟨ρ, F, S, q⟩
  refine ⟨ρ, F, S, q.seq.imp fun d ρ1 H1 F1 e1 S1 q1 a hF hc h0 hP hs => ?_⟩
  exact q1 σ H1 F1 (Same.refl _) S1 a hF hc h0
theorem es_ret0 : EvS c (.Return none pos) (ret (.ret .non)) := fun X hX B W tk => by
  refine PS.imp ps_retN ?_
  rintro E σ H ⟨ρ, F, S, q⟩
  exact q σ H F (Same.refl _) S _ .non
theorem es_pass : EvS c (.Pass pos) nextS := fun X hX B W tk => by
  refine PS.imp ps_pass ?_
  rintro E σ H ⟨ρ, F, S, q⟩
  exact q σ H F (Same.refl _) S
theorem es_break : EvS c (.Break pos) (ret .brk) := fun X hX B W tk => by
  refine PS.imp ps_break ?_
  rintro E σ H ⟨ρ, F, S, q⟩
  exact q σ H F (Same.refl _) S
theorem es_continue : EvS c (.Continue pos) (ret .cont) := fun X hX B W tk => by
  refine PS.imp ps_continue ?_
  rintro E σ H ⟨ρ, F, S, q⟩
  exact q σ H F (Same.refl _) S
def dropS (m : M A) : M Fw := bnd m fun _ => ret .next
theorem es_expr (h : EvE c e me) (hs : noComp e = true := by rfl) : EvS c (.Expr e pos) (dropS me) := fun X hX B W tk => by
  refine PS.imp (ps_expr (h X hX B W tk) (swaps_plain hs)) ?_
  rintro E σ H ⟨ρ, F, S, q⟩
  exact ⟨ρ, F, S, q.seq.imp fun a ρ1 H1 F1 e1 S1 q1 v r1 => q1 σ H1 F1 (Same.refl _) S1⟩
def ifS (t : M Bool) (a b : M Fw) : M Fw := bnd t fun x => if x = true then a else b
theorem es_if {t : Expr} {tm : M Bool} {sa sb : List Stmt} {ma mb : M Fw} (ht : EvT c t tm) (ha : EvB c sa ma) (hb : EvB c sb mb) : EvS c (.If t sa sb pos) (ifS tm ma mb) := fun X hX B W tk => by
  refine PS.imp (ps_if (ht X hX B W tk) (ha X hX B W tk) (hb X hX B W tk)) ?_
  rintro E σ H ⟨ρ, F, S, q⟩
  refine ⟨ρ, F, S, q.seq.imp fun x ρ1 H1 F1 e1 S1 q1 => ?_⟩
  cases x with
  | true => exact iteT ⟨ρ1, F1, S1, q1⟩
  | false => exact iteF ⟨ρ1, F1, S1, q1⟩
end

/-! ### stores -/
section
variable {K : PySem.W.Frag} {mg : Str → Option Value} {F H : Hp} {B : Bs} {ρ : List Sl} {σ : L2.St} {a : Addr} {d : D} {v : V} {i : Nat}
theorem SOk.setVal (S : SOk K mg B ρ σ H F) (hi : i < ρ.length) (hk : ∀ d, ρ[i]? ≠ some (.cel true d)) (r : Rp K mg F d v) : SOk K mg B (ρ.set i (.val d)) (σ.set i (some v)) H F := by
  have hi' : i < σ.length := by rw [← S.len]; exact hi
  refine ⟨by simpa using S.len, fun j d' e => ?_, fun j k d' e => ?_, fun j l k k' d' e' b h1 h2 h3 h4 => ?_, S.sub, S.base, S.new, S.keep, fun j b e => ?_, S.prot⟩
  · rcases set_get e with ⟨z1, z, _⟩ | ⟨nj, z⟩
    · cases z
      rw [z1, List.getElem?_set_self hi']
      exact ⟨v, rfl, r⟩
    · rw [List.getElem?_set_ne (Ne.symm nj)]
      exact S.val j d' z
  · rcases set_get e with ⟨z1, z, _⟩ | ⟨nj, z⟩
    · cases z
    · rw [List.getElem?_set_ne (Ne.symm nj)]
      exact S.cel j k d' z
  · rcases set_get h1 with ⟨_, z, _⟩ | ⟨nj, z⟩
    · cases z
    · rcases set_get h2 with ⟨_, z', _⟩ | ⟨nl, z'⟩
      · cases z'
      · rw [List.getElem?_set_ne (Ne.symm nj)] at h3
        rw [List.getElem?_set_ne (Ne.symm nl)] at h4
        exact S.sep _ _ _ _ _ _ b z z' h3 h4
  · obtain ⟨h1, d', h2⟩ := S.ios j b e
    have nj : j ≠ i := fun z => hk d' (by rw [← z]; exact h2)
    exact ⟨by rw [List.getElem?_set_ne (Ne.symm nj)]; exact h1, d', by rw [List.getElem?_set_ne (Ne.symm nj)]; exact h2⟩
theorem SOk.setCel (S : SOk K mg B ρ σ H F) (hi : i < ρ.length) (hk : ∀ d, ρ[i]? ≠ some (.cel true d)) (hF : F a = none) (hc : Cont K mg F H a d) (h0 : B.H0 a = none) (hP : ∀ p ∈ B.P, p.1 ≠ a)
    (hs : ∀ (i : Nat) (k : Bool) (e : D), ρ[i]? = some (.cel k e) → σ[i]? ≠ some (some (.ref a))) : SOk K mg B (ρ.set i (.cel false d)) (σ.set i (some (.ref a))) H F := by
  have hi' : i < σ.length := by rw [← S.len]; exact hi
  refine ⟨by simpa using S.len, fun j d' e => ?_, fun j k d' e => ?_, fun j l k k' d' e' b h1 h2 h3 h4 => ?_, S.sub, S.base, S.new, S.keep, fun j b e => ?_, S.prot⟩
  · rcases set_get e with ⟨z1, z, _⟩ | ⟨nj, z⟩
    · cases z
    · rw [List.getElem?_set_ne (Ne.symm nj)]
      exact S.val j d' z
  · rcases set_get e with ⟨z1, z, _⟩ | ⟨nj, z⟩
    · cases z
      rw [z1, List.getElem?_set_self hi']
      exact ⟨a, rfl, hF, hc, fun z => (Bool.false_ne_true z).elim, fun _ => h0, hP⟩
    · rw [List.getElem?_set_ne (Ne.symm nj)]
      exact S.cel j k d' z
  · rcases set_get h1 with ⟨z1, z, _⟩ | ⟨nj, z⟩
    · rcases set_get h2 with ⟨z1', z', _⟩ | ⟨nl, z'⟩
      · rw [z1, z1']
      · rw [z1, List.getElem?_set_self hi'] at h3
        rw [List.getElem?_set_ne (Ne.symm nl)] at h4
        cases h3
        exact absurd h4 (hs l _ _ z')
    · rcases set_get h2 with ⟨z1', z', _⟩ | ⟨nl, z'⟩
      · rw [z1', List.getElem?_set_self hi'] at h4
        rw [List.getElem?_set_ne (Ne.symm nj)] at h3
        cases h4
        exact absurd h3 (hs j _ _ z)
      · rw [List.getElem?_set_ne (Ne.symm nj)] at h3
        rw [List.getElem?_set_ne (Ne.symm nl)] at h4
        exact S.sep _ _ _ _ _ _ b z z' h3 h4
  · obtain ⟨h1, d', h2⟩ := S.ios j b e
    have nj : j ≠ i := fun z => hk d' (by rw [← z]; exact h2)
    exact ⟨by rw [List.getElem?_set_ne (Ne.symm nj)]; exact h1, d', by rw [List.getElem?_set_ne (Ne.symm nj)]; exact h2⟩
/-- what a slot's object holds is changed -/
theorem SOk.change {o : HO} {d' : D} {k : Bool} (S : SOk K mg B ρ σ H F) (hi : ρ[i]? = some (.cel k d)) (ha : σ[i]? = some (some (.ref a))) (hc : Cont K mg F (upd H a o) a d') : SOk K mg B (ρ.set i (.cel k d')) σ (upd H a o) F := by
  have hl : i < ρ.length := (List.getElem?_eq_some_iff.mp hi).1
  obtain ⟨a', h1, hF, hc0, hk1, hk2, hP⟩ := S.cel i k d hi
  rw [ha] at h1
  cases h1
  refine ⟨by simpa using S.len, fun j d' e => ?_, fun j k d' e => ?_, fun j l k k' d' e' b h1 h2 h3 h4 => ?_, fun b u e => ?_, S.base, S.new, fun b u e z => ?_, fun j b e => ?_, fun p hp => ?_⟩
  · rcases set_get e with ⟨z1, z, _⟩ | ⟨nj, z⟩
    · cases z
    · exact S.val j d' z
  · rcases set_get e with ⟨z1, z, _⟩ | ⟨nj, z⟩
    · cases z
      rw [z1]
      exact ⟨a, ha, hF, hc, hk1, hk2, hP⟩
    · obtain ⟨b, h1, h2, h3, h4⟩ := S.cel j k d' z
      have nb : b ≠ a := fun q => nj (S.sep j i _ _ _ _ a z hi (by rw [h1, q]) ha)
      exact ⟨b, h1, h2, h3.mono (Same.refl _) (upd_ne nb), h4⟩
  · have old : ∀ {s : Sl} (j : Nat) (k : Bool) (d : D), (ρ.set i s)[j]? = some (.cel k d) → ∃ k d, ρ[j]? = some (.cel k d) := fun {s} j k d e => by
      rcases set_get e with ⟨z1, z, _⟩ | ⟨nj, z⟩
      · exact ⟨_, _, by rw [z1]; exact hi⟩
      · exact ⟨_, _, z⟩
    obtain ⟨_, _, e1⟩ := old j _ _ h1
    obtain ⟨_, _, e2⟩ := old l _ _ h2
    exact S.sep _ _ _ _ _ _ b e1 e2 h3 h4
  · have nb : b ≠ a := fun q => by rw [q, hF] at e; cases e
    rw [upd_ne nb]
    exact S.sub b u e
  · by_cases q : b = a
    · subst q
      cases k with
      | true => exact absurd (hk1 rfl) (z i)
      | false => rw [hk2 rfl] at e; cases e
    · rw [upd_ne q]
      exact S.keep b u e z
  · obtain ⟨h1, d', h2⟩ := S.ios j b e
    refine ⟨h1, ?_⟩
    by_cases q : j = i
    · subst q
      rw [hi] at h2
      cases h2
      exact ⟨_, List.getElem?_set_self hl⟩
    · exact ⟨d', by rw [List.getElem?_set_ne (Ne.symm q)]; exact h2⟩
  · obtain ⟨h1, h2⟩ := S.prot p hp
    exact ⟨by rw [upd_ne (hP p hp)]; exact h1, h2⟩
end
/-- a name is bound to data -/
def putV (i : Nat) (d : D) : M Unit := fun ρ => match ρ[i]? with
  | none => .bad
  | some (.cel true _) => .bad
  | some _ => .ok () (ρ.set i (.val d))
def putN (i : Nat) (d : D) : M Unit := fun ρ => match ρ[i]? with
  | none => .bad
  | some (.cel true _) => .bad
  | some _ => .ok () (ρ.set i (.cel false d))
theorem putV_ok {ρ ρ' : List Sl} {i : Nat} {d : D} {u : Unit} (h : putV i d ρ = .ok u ρ') : i < ρ.length ∧ (∀ d, ρ[i]? ≠ some (.cel true d)) ∧ ρ' = ρ.set i (.val d) := by
  unfold putV at h
  split at h
  · cases h
  · cases h
  · rename_i s hne e
    cases h
    refine ⟨(List.getElem?_eq_some_iff.mp e).1, fun d z => ?_, rfl⟩
    rw [e] at z
    exact hne d (Option.some.inj z)
theorem putN_ok {ρ ρ' : List Sl} {i : Nat} {d : D} {u : Unit} (h : putN i d ρ = .ok u ρ') : i < ρ.length ∧ (∀ d, ρ[i]? ≠ some (.cel true d)) ∧ ρ' = ρ.set i (.cel false d) := by
  unfold putN at h
  split at h
  · cases h
  · cases h
  · rename_i s hne e
    cases h
    refine ⟨(List.getElem?_eq_some_iff.mp e).1, fun d z => ?_, rfl⟩
    rw [e] at z
    exact hne d (Option.some.inj z)
theorem putV_ne {ρ ρ' : List Sl} {i : Nat} {d : D} {n ns vs} : putV i d ρ ≠ .err n ns vs ρ' := by
  intro h
  unfold putV at h
  split at h <;> cases h
theorem putN_ne {ρ ρ' : List Sl} {i : Nat} {d : D} {n ns vs} : putN i d ρ ≠ .err n ns vs ρ' := by
  intro h
  unfold putN at h
  split at h <;> cases h
section
variable {c : Cxs} {B : Bs} {W : WX} {E : Ends} {σ : L2.St} {F H : Hp} {ρ : List Sl}
theorem okS.ptv {i : Nat} {d : D} {v : V} {f : Unit → M Fw} (S : SOk c.K c.mg B ρ σ H F) (r : Rp c.K c.mg F d v) (h : okS c B W F E (bnd (putV i d) f ρ)) :
    SOk c.K c.mg B (ρ.set i (.val d)) (σ.set i (some v)) H F ∧ okS c B W F E (f () (ρ.set i (.val d))) := by
  unfold bnd at h
  split at h
  · rename_i u ρ3 e3
    obtain ⟨h1, h2, rfl⟩ := putV_ok e3
    exact ⟨S.setVal h1 h2 r, h⟩
  · rename_i e3
    exact absurd e3 putV_ne
  · exact h.elim
theorem okS.ptn {i : Nat} {d : D} {a : Addr} {f : Unit → M Fw} (S : SOk c.K c.mg B ρ σ H F) (hF : F a = none) (hc : Cont c.K c.mg F H a d) (h0 : B.H0 a = none) (hP : ∀ p ∈ B.P, p.1 ≠ a)
    (hs : ∀ (i : Nat) (k : Bool) (e : D), ρ[i]? = some (.cel k e) → σ[i]? ≠ some (some (.ref a))) (h : okS c B W F E (bnd (putN i d) f ρ)) :
    SOk c.K c.mg B (ρ.set i (.cel false d)) (σ.set i (some (.ref a))) H F ∧ okS c B W F E (f () (ρ.set i (.cel false d))) := by
  unfold bnd at h
  split at h
  · rename_i u ρ3 e3
    obtain ⟨h1, h2, rfl⟩ := putN_ok e3
    exact ⟨S.setCel h1 h2 hF hc h0 hP hs, h⟩
  · rename_i e3
    exact absurd e3 putN_ne
  · exact h.elim
end
def asgS (i : Nat) (m : M A) : M Fw := bnd m fun a => bnd (frz a) fun d => bnd (putV i d) fun _ => ret .next
def asgNS (i : Nat) (m : M D) : M Fw := bnd m fun d => bnd (putN i d) fun _ => ret .next
section
variable {c : Cxs} {e : Expr} {me : M A} {mn : M D} {pos pos' : Pos} {x : Str}
theorem loc_of {X : Cx} (hX : XF c X) (h : Loc c.sc x) : Loc X.env.scope x := by rw [hX.sc]; exact h
theorem es_set (i : Nat) (he : EvE c e me) (hst : stB c.N c.sc c.own i x = true) (hs : noComp e = true := by rfl) :
    EvS c (.Assign [.Name x pos'] e pos) (asgS i me) := fun X hX B W tk => by
  obtain ⟨hi, hx, ho⟩ := stB_ok hst
  refine PS.imp (ps_set (i := i) (by rw [hX.N]; exact hX.nd) (by rw [hX.N]; exact hi) (loc_of hX hx) (he X hX B W tk) (swaps_plain hs) (hX.fn x ho hx)) ?_
  rintro E σ H ⟨ρ, F, S, q⟩
  refine ⟨ρ, F, S, q.seq.imp fun a ρ1 H1 F1 e1 S1 q1 v r1 => ?_⟩
  obtain ⟨d, ρ2, F2, e2, S2, r2, q2⟩ := q1.fz S1 r1
  obtain ⟨S3, q3⟩ := q2.ptv S2 r2
  exact q3 _ H1 F2 (Same.refl _) S3
theorem es_setN (i : Nat) (he : EvN c e mn) (hst : stB c.N c.sc c.own i x = true) (hs : noComp e = true := by rfl) :
    EvS c (.Assign [.Name x pos'] e pos) (asgNS i mn) := fun X hX B W tk => by
  obtain ⟨hi, hx, ho⟩ := stB_ok hst
  refine PS.imp (ps_set (i := i) (by rw [hX.N]; exact hX.nd) (by rw [hX.N]; exact hi) (loc_of hX hx) (he X hX B W tk) (swaps_plain hs) (hX.fn x ho hx)) ?_
  rintro E σ H ⟨ρ, F, S, q⟩
  refine ⟨ρ, F, S, q.seq.imp fun d ρ1 H1 F1 e1 S1 q1 a hF hc h0 hP hs => ?_⟩
  obtain ⟨S3, q3⟩ := q1.ptn S1 hF hc h0 hP hs
  exact q3 _ H1 F1 (Same.refl _) S3
/-- a, b = x, y -/
def par2S (i j : Nat) (ms : M (List A)) : M Fw := bnd ms fun as => bnd (frzs as) fun ds => match ds with
  | [d, e] => bnd (putV i d) fun _ => bnd (putV j e) fun _ => ret .next
  | _ => bad
theorem es_par2 (i j : Nat) {a b : Expr} {x y : Str} {ms : M (List A)} {px py pt pt2 : Pos} {kt k2 : Nat} (ha : EvAs c [a, b] ms) (hw : swN c.sc [.Name x px, .Name y py] [a, b] = some (some [x, y])) (hi : stB c.N c.sc none i x = true) (hj : stB c.N c.sc none j y = true)
    (hx : c.sc.names.lookup x = some .local) (hy : c.sc.names.lookup y = some .local) (hc : c.calm = true := by rfl) (hij : i ≠ j := by decide) :
    EvS c (.Assign [.Tuple [.Name x px, .Name y py] kt pt] (.Tuple [a, b] k2 pt2) pos) (par2S i j ms) := fun X hX B W tk => by
  obtain ⟨hi, _⟩ := stB_ok hi
  obtain ⟨hj, _⟩ := stB_ok hj
  refine PS.imp (ps_par (i := i) (j := j) (hX.calm hc) (by rw [hX.N]; exact hX.nd) (by rw [hX.N]; exact hi) (by rw [hX.N]; exact hj) hij (by rw [hX.sc]; exact hx) (by rw [hX.sc]; exact hy) (ha X hX B W tk) (swN_ok hX.sc hw) rfl) ?_
  rintro E σ H ⟨ρ, F, S, q⟩
  refine ⟨ρ, F, S, q.seq.imp fun as ρ1 H1 F1 e1 S1 q1 vs r1 => ?_⟩
  have q1' : okS c B W F1 E (bnd (frzs as) _ ρ1) := q1
  have q1'' : okR c B W σ F1 (fun (a : List D) ρ' (_ : Hp) F' => okS c B W F' E ((match a with
    | [d, e] => bnd (putV i d) fun _ => bnd (putV j e) fun _ => ret .next
    | _ => bad : M Fw) ρ')) (bnd (frzs as) ret ρ1) := by
    have : bnd (frzs as) ret ρ1 = frzs as ρ1 := by
      unfold bnd ret
      cases frzs as ρ1 <;> rfl
    rw [this]
    exact q1'.seq
  obtain ⟨ds, ρ2, F2, e2, S2, r2, q2⟩ := okR.fzs S1 r1 q1''
  have q3 := q2 H1 F2 (Same.refl _) S2
  cases r2 with
  | nil => exact (show False from q3).elim
  | cons ra r2 =>
    cases r2 with
    | nil => exact (show False from q3).elim
    | cons rb r2 =>
      cases r2 with
      | cons _ _ => exact (show False from q3).elim
      | nil =>
        refine ⟨_, _, rfl, ?_⟩
        obtain ⟨S3, q4⟩ := okS.ptv S2 ra q3
        obtain ⟨S4, q5⟩ := okS.ptv S3 rb q4
        exact q5 _ H1 F2 (Same.refl _) S4
end
end Mi

namespace Mi
open PySem PySem.Spec L2
/-! ### targets -/
/-- the slots outside of vs stay -/
def Out (vs : List Nat) (σ σ' : L2.St) : Prop := σ'.length = σ.length ∧ ∀ j, j ∉ vs → σ'[j]? = σ[j]?
theorem Out.refl (vs : List Nat) (σ : L2.St) : Out vs σ σ := ⟨rfl, fun _ _ => rfl⟩
theorem Out.trans {vs ws : List Nat} {σ σ1 σ2 : L2.St} (a : Out vs σ σ1) (b : Out ws σ1 σ2) : Out (vs ++ ws) σ σ2 := ⟨b.1.trans a.1, fun j h => by
  rw [List.mem_append, not_or] at h
  rw [b.2 j h.2, a.2 j h.1]⟩
theorem Out.set {i : Nat} {σ : L2.St} {x : Option V} : Out [i] σ (σ.set i x) := ⟨by simp, fun j h => by
  rw [List.getElem?_set_ne]
  intro e
  exact h (by simp [e])⟩
def okG (c : Cxs) (B : Bs) (F : Hp) (vs : List Nat) (σ : L2.St) (Q : L2.St → Hp → Prop) : Res Unit → Prop
  | .ok _ ρ' => ∀ σ' H' F', Same F F' → Out vs σ σ' → SOk c.K c.mg B ρ' σ' H' F' → Q σ' H'
  | .err _ _ _ _ => False
  | .bad => False
def rdG (c : Cxs) (B : Bs) (vs : List Nat) (g : D → M Unit) : TG := fun v σ H Q => ∃ ρ F d, SOk c.K c.mg B ρ σ H F ∧ Rp c.K c.mg F d v ∧ okG c B F vs σ Q (g d ρ)
def EvG (c : Cxs) (tg : Expr) (vs : List Nat) (g : D → M Unit) : Prop := ∀ X, XF c X → ∀ B, PG X tg (rdG c B vs g)
def rdGs (c : Cxs) (B : Bs) (vs : List Nat) (g : List D → M Unit) : TGs := fun us σ H Q => ∃ ρ F ds, SOk c.K c.mg B ρ σ H F ∧ Rps c.K c.mg F ds us ∧ okG c B F vs σ Q (g ds ρ)
def EvGs (c : Cxs) (ts : List Expr) (vs : List Nat) (g : List D → M Unit) : Prop := ∀ X, XF c X → ∀ B, PGs X ts (rdGs c B vs g)
theorem PG.imp {X : Cx} {e : Expr} {t t' : TG} (h : PG X e t) (i : ∀ v σ H Q, t' v σ H Q → t v σ H Q) : PG X e t' := ⟨fun pins s σ H v u Q I r q => h.run pins s σ H v u Q I r (i _ _ _ _ q)⟩
theorem PGs.imp {X : Cx} {e : List Expr} {t t' : TGs} (h : PGs X e t) (i : ∀ v σ H Q, t' v σ H Q → t v σ H Q) : PGs X e t' := ⟨fun pins s σ H v u Q I r q => h.run pins s σ H v u Q I r (i _ _ _ _ q)⟩
def gsNil : List D → M Unit
  | [] => ret ()
  | _ :: _ => bad
def gsCons (g : D → M Unit) (gs : List D → M Unit) : List D → M Unit
  | [] => bad
  | d :: ds => bnd (g d) fun _ => gs ds
def gTup (n : Nat) (gs : List D → M Unit) : D → M Unit
  | .tup ds => if ds.length = n then gs ds else bad
  | _ => bad
section
variable {c : Cxs} {e : Expr} {es : List Expr} {g : D → M Unit} {gs : List D → M Unit} {vs ws : List Nat} {pos : Pos} {x : Str}
theorem eg_name (i : Nat) (hst : stB c.N c.sc c.own i x = true) : EvG c (.Name x pos) [i] (putV i) := fun X hX B => by
  obtain ⟨hi, hx, ho⟩ := stB_ok hst
  refine PG.imp (pg_name (i := i) (by rw [hX.N]; exact hX.nd) (by rw [hX.N]; exact hi) (loc_of hX hx) (hX.fn x ho hx)) ?_
  rintro v σ H Q ⟨ρ, F, d, S, r, q⟩
  unfold okG at q
  split at q
  · rename_i u ρ' e
    obtain ⟨h1, h2, rfl⟩ := putV_ok e
    exact q _ H F (Same.refl _) Out.set (S.setVal h1 h2 r)
  · exact q.elim
  · exact q.elim
theorem egs_nil : EvGs c [] [] gsNil := fun X hX B => by
  refine PGs.imp pgs_nil ?_
  rintro us σ H Q ⟨ρ, F, ds, S, r, q⟩
  cases r with
  | nil => exact ⟨rfl, q σ H F (Same.refl _) (Out.refl _ _) S⟩
  | cons _ _ => exact q.elim
theorem egs_cons (h : EvG c e vs g) (hs : EvGs c es ws gs) (hst : noStar e = true := by rfl) : EvGs c (e :: es) (vs ++ ws) (gsCons g gs) := fun X hX B => by
  refine PGs.imp (pgs_cons (h X hX B) (hs X hX B) (assign_cons hst)) ?_
  rintro us σ H Q ⟨ρ, F, ds, S, r, q⟩
  cases r with
  | nil => exact q.elim
  | cons r rs =>
    rename_i d ds v us
    have q' : okG c B F (vs ++ ws) σ Q (bnd (g d) (fun _ => gs ds) ρ) := q
    refine ⟨v, us, rfl, ρ, F, d, S, r, ?_⟩
    unfold bnd at q'
    cases hg : g d ρ with
    | ok u ρ1 =>
      rw [hg] at q'
      intro σ1 H1 F1 e1 o1 S1
      refine ⟨ρ1, F1, ds, S1, Rps.mono e1 _ _ rs, ?_⟩
      have q2 : okG c B F (vs ++ ws) σ Q (gs ds ρ1) := q'
      cases hgs : gs ds ρ1 with
      | ok u' ρ2 =>
        rw [hgs] at q2
        exact fun σ2 H2 F2 e2 o2 S2 => q2 σ2 H2 F2 (e1.trans e2) (o1.trans o2) S2
      | err _ _ _ _ => rw [hgs] at q2; exact q2
      | bad => rw [hgs] at q2; exact q2
    | err _ _ _ _ => rw [hg] at q'; exact q'.elim
    | bad => rw [hg] at q'; exact q'.elim
theorem eg_tup {k n : Nat} (h : EvGs c es vs gs) (hc : c.calm = true := by rfl) (hn : es.length = n := by rfl) (hst : es.all noStar = true := by rfl) : EvG c (.Tuple es k pos) vs (Mi.gTup n gs) := fun X hX B => by
  refine PG.imp (pg_tup (hX.calm hc) (h X hX B) ((assign_len hst).trans hn) (assign_star hst)) ?_
  rintro v σ H Q ⟨ρ, F, d, S, r, q⟩
  cases d with
  | tup ds =>
    unfold Mi.gTup at q
    simp only at q
    split at q
    · rename_i hl
      cases r with
      | tup h r =>
        exact ⟨_, _, rfl, by rw [hX.K]; exact sqT_mono S.sub h, by rw [← r.length]; exact hl, ρ, F, ds, S, r, q⟩
    · exact q.elim
  | _ => exact (show False from q).elim
/-- target = e, any target -/
def asgG (m : M A) (g : D → M Unit) : M Fw := bnd m fun a => bnd (frz a) fun d => fun ρ => match g d ρ with
  | .ok _ ρ' => .ok .next ρ'
  | _ => .bad
theorem es_asg {me : M A} {tg : Expr} (he : EvE c e me) (hg : EvG c tg vs g) (hw : ∀ env : Env, env.scope = c.sc → swappedStores [tg] e env = pure none) (hs : noComp e = true := by rfl) (h1 : noStar tg = true := by rfl) : EvS c (.Assign [tg] e pos) (asgG me g) := fun X hX B W tk => by
  refine PS.imp (ps_asg (he X hX B W tk) (hg X hX B) (sole_plain hs) (hw _ hX.sc) (assign_one h1)) ?_
  rintro E σ H ⟨ρ, F, S, q⟩
  refine ⟨ρ, F, S, q.seq.imp fun a ρ1 H1 F1 e1 S1 q1 v r1 => ?_⟩
  obtain ⟨d, ρ2, F2, e2, S2, r2, q2⟩ := q1.fz S1 r1
  refine ⟨ρ2, F2, d, S2, r2, ?_⟩
  cases hg : g d ρ2 with
  | ok u ρ3 =>
    rw [hg] at q2
    exact fun σ' H' F' e3 _ S3 => q2 σ' H' F' e3 S3
  | err _ _ _ _ => rw [hg] at q2; exact q2
  | bad => rw [hg] at q2; exact q2
end

/-! ### what is walked -/
def WkOk (c : Cxs) (J : It) (ds : List D) (F0 : Hp) : Prop := ∀ (B : Bs) (ρ : List Sl) (σ : L2.St) (H F : Hp), Same F0 F → SOk c.K c.mg B ρ σ H F →
  (∀ i, i < ds.length → J.go i H) ∧ (∀ i, ds.length ≤ i → J.stop i H) ∧ ∀ (i : Nat) (d : D) x H', ds[i]? = some d → J.yld i H x H' → ∃ F', Same F F' ∧ SOk c.K c.mg B ρ σ H' F' ∧ Rp c.K c.mg F' d x
def rdI (c : Cxs) (B : Bs) (W : WX) (m : M (List D)) : TI := fun σ H R => ∃ ρ F, SOk c.K c.mg B ρ σ H F ∧ okR c B W σ F (fun ds ρ' H' F' => ∀ J, WkOk c J ds F' → R J H') (m ρ)
def EvI (c : Cxs) (tg iter : Expr) (m : M (List D)) : Prop := ∀ X, XF c X → ∀ B W, Takes X W → PI X tg iter (rdI c B W m)
theorem PI.imp {X : Cx} {tg e : Expr} {t t' : TI} (h : PI X tg e t) (i : ∀ σ H R, t' σ H R → t σ H R) : PI X tg e t' := ⟨fun pins s σ H R I q => h.run pins s σ H R I (i _ _ _ q)⟩
/-- a list, a tuple or a text -/
def iAny (K : PySem.W.Frag) (tl : TE) : TI := fun σ H R => tl σ H fun x H1 => (∃ a, x = .ref a ∧ (∃ xs, SqL K H1 a xs) ∧ R (Itl K a) H1) ∨ (∃ a, x = .ref a ∧ (∃ xs, SqT K H1 a xs) ∧ R (Itt K a) H1) ∨ ∃ z, x = .str z ∧ R (Its z) H1
section
variable {X : Cx} {tg : Expr}
theorem pi_any {l : Expr} {tl : TE} (hl : PE X l tl) : PI X tg l (iAny X.K tl) := by
  refine ⟨fun pins s σ H R I h => ?_⟩
  refine thn (hl.run pins s σ H _ I h) fun v s1 ⟨x, H1, I1, r1, q1⟩ => ?_
  rcases q1 with ⟨a, e, ⟨xs, hq⟩, q⟩ | ⟨a, e, ⟨xs, hq⟩, q⟩ | ⟨x', ex, q⟩
  · subst e
    cases r1
    obtain ⟨its, rv, p, hz⟩ := I1.list hq
    refine wpAny_pyIter_list p.isList ?_
    refine ⟨s1.heap.objs.size, [s1.heap.objs.size], _, _, H1, rfl, I1.kept (t' := s1.toks) fun b o e => Heap.get?_push_of_some _ e, turn_list a _, ⟨_, Heap.get?_push_size _ rfl, rfl, rfl⟩, fun b hb => ?_, q⟩
    have e : b = s1.heap.objs.size := by simpa using hb
    subst e
    exact I1.fpOk (Nat.le_refl _) (I1.hok.fresh (Nat.le_refl _))
  · subst e
    cases r1
    obtain ⟨its, rv, p, hz⟩ := I1.tuple hq
    refine wpAny_pyIter_tuple (show s1.heap.IsTuple a its.toArray from p) ?_
    refine ⟨s1.heap.objs.size, [s1.heap.objs.size], _, _, H1, rfl, I1.kept (t' := s1.toks) fun b o e => Heap.get?_push_of_some _ e, turn_tuple a _, ⟨_, Heap.get?_push_size _ rfl, rfl, rfl⟩, fun b hb => ?_, q⟩
    have e : b = s1.heap.objs.size := by simpa using hb
    subst e
    exact I1.fpOk (Nat.le_refl _) (I1.hok.fresh (Nat.le_refl _))
  · subst ex
    obtain ⟨t, rfl⟩ := r1
    cases ha : x'.cps.all (· < 128)
    · exact wpAny_pyIter_wide ha (pi_one (tk := s1.toks) I1 _ (turn_str _ x' t "str_iterator" (.inr rfl)) ⟨_, Heap.get?_push_size _ rfl, rfl, rfl⟩ q)
    · exact wpAny_pyIter_ascii ha (pi_one (tk := s1.toks) I1 _ (turn_str _ x' t "str_ascii_iterator" (.inl rfl)) ⟨_, Heap.get?_push_size _ rfl, rfl, rfl⟩ q)
end
def itemsD : D → Option (List D)
  | .lst ds => some ds
  | .rol ds => some ds
  | .tup ds => some ds
  | .str x => some (x.cps.toList.map fun ch => .str ⟨#[ch]⟩)
  | _ => none
def seqI (m : M A) : M (List D) := bnd m fun x => bnd (frz x) fun d => opt (itemsD d)
section
variable {c : Cxs}
theorem wk_list {a : Addr} {xs : List V} {ds : List D} {F : Hp} (h : SqL c.K F a xs) (r : Rps c.K c.mg F ds xs) : WkOk c (Itl c.K a) ds F := fun B ρ σ H F' e S => by
  have hq : SqL c.K H a xs := Same.seq (e.trans S.sub) h
  have hl := r.length
  refine ⟨fun i hi => ?_, fun i hi => ⟨xs, hq, by omega⟩, fun i d x H' hd hy => ?_⟩
  · obtain ⟨v, hv, _⟩ := r.get (List.getElem?_eq_getElem hi)
    exact ⟨xs, v, hq, hv⟩
  · obtain ⟨e1, y⟩ := hy
    subst e1
    obtain ⟨v, hv, rv⟩ := r.get hd
    have := y xs hq
    rw [hv] at this
    cases this
    exact ⟨F', Same.refl _, S, Rp.mono e _ _ rv⟩
theorem wk_tup {a : Addr} {xs : List V} {ds : List D} {F : Hp} (h : SqT c.K F a xs) (r : Rps c.K c.mg F ds xs) : WkOk c (Itt c.K a) ds F := fun B ρ σ H F' e S => by
  have hq : SqT c.K H a xs := sqT_mono (e.trans S.sub) h
  have hl := r.length
  refine ⟨fun i hi => ?_, fun i hi => ⟨xs, hq, by omega⟩, fun i d x H' hd hy => ?_⟩
  · obtain ⟨v, hv, _⟩ := r.get (List.getElem?_eq_getElem hi)
    exact ⟨xs, v, hq, hv⟩
  · obtain ⟨e1, y⟩ := hy
    subst e1
    obtain ⟨v, hv, rv⟩ := r.get hd
    have := y xs hq
    rw [hv] at this
    cases this
    exact ⟨F', Same.refl _, S, Rp.mono e _ _ rv⟩
theorem wk_str {x : Str} {F : Hp} : WkOk c (Its x) (x.cps.toList.map fun ch => .str ⟨#[ch]⟩) F := fun B ρ σ H F' e S => by
  refine ⟨fun i hi => ?_, fun i hi => ?_, fun i d v H' hd hy => ?_⟩
  · show i < x.cps.size
    simpa using hi
  · show x.cps.size ≤ i
    simpa using hi
  · obtain ⟨e1, ch, hc, rfl⟩ := hy
    subst e1
    rw [List.getElem?_map, Array.getElem?_toList, hc] at hd
    cases hd
    exact ⟨F', Same.refl _, S, .str _⟩
theorem wk_range {lo : Int} {n : Nat} {F : Hp} : WkOk c (Itr lo n) ((List.range n).map fun i => .int (lo + (i : Nat))) F := fun B ρ σ H F' e S => by
  refine ⟨fun i hi => ?_, fun i hi => ?_, fun i d v H' hd hy => ?_⟩
  · show i < n
    simpa using hi
  · show n ≤ i
    simpa using hi
  · obtain ⟨e1, rfl⟩ := hy
    subst e1
    rw [List.getElem?_map] at hd
    cases hr : (List.range n)[i]? with
    | none => rw [hr] at hd; cases hd
    | some j =>
      rw [hr] at hd
      cases hd
      have : j = i := by
        obtain ⟨h1, h2⟩ := List.getElem?_eq_some_iff.mp hr
        simpa using h2.symm
      subst this
      exact ⟨F', Same.refl _, S, .int _⟩
variable {tg e : Expr} {me : M A}
theorem ei_seq (h : EvE c e me) : EvI c tg e (seqI me) := fun X hX B W tk => by
  refine PI.imp (pi_any (h X hX B W tk)) ?_
  rintro σ H R ⟨ρ, F, S, q⟩
  refine ⟨ρ, F, S, q.seq.imp fun x ρ1 H1 F1 e1 S1 q1 v r1 => ?_⟩
  obtain ⟨d, ρ2, F2, e2, S2, r2, q2⟩ := q1.fz S1 r1
  unfold itemsD at q2
  rw [hX.K]
  cases r2 with
  | lst h r => exact .inl ⟨_, rfl, ⟨_, SqL.of (S2.sub _ _ h)⟩, q2 H1 F2 (Same.refl _) S2 _ (wk_list (SqL.of h) r)⟩
  | rol h r => exact .inl ⟨_, rfl, ⟨_, Same.seq S2.sub h⟩, q2 H1 F2 (Same.refl _) S2 _ (wk_list h r)⟩
  | tup h r => exact .inr (.inl ⟨_, rfl, ⟨_, sqT_mono S2.sub h⟩, q2 H1 F2 (Same.refl _) S2 _ (wk_tup h r)⟩)
  | str x => exact .inr (.inr ⟨_, rfl, q2 H1 F2 (Same.refl _) S2 _ wk_str⟩)
  | _ => exact (show False from q2).elim
def rng1D : List D → Option (List D)
  | [.int j] => if -(2 ^ 62) ≤ j ∧ j < 2 ^ 62 then some ((List.range j.toNat).map fun i => .int (0 + (i : Nat))) else none
  | _ => none
def rng2D : List D → Option (List D)
  | [.int i, .int j] => if -(2 ^ 62) ≤ i ∧ i < 2 ^ 62 ∧ -(2 ^ 62) ≤ j ∧ j < 2 ^ 62 then some ((List.range (j - i).toNat).map fun k => .int (i + (k : Nat))) else none
  | _ => none
def fnI (f : List D → Option (List D)) (ms : M (List A)) : M (List D) := bnd ms fun as => bnd (views as) fun ds => opt (f ds)
variable {a b : Expr} {ms : M (List A)} {p pos : Pos}
theorem ei_range1 (h : EvAs c [a] ms) (hm : c.mg "range" = none) (hg : gbB c.sc "range" = true) (hs : noStar a = true := by rfl) : EvI c tg (.Call (.Name "range" p) [a] [] pos) (fnI rng1D ms) := fun X hX B W tk => by
  refine PI.imp (pi_range1 (gl_of hX (gbB_ok hg).1) (by rw [hX.mg]; exact hm) (h X hX B W tk) (star_cons hs)) ?_
  rintro σ H R ⟨ρ, F, S, q⟩
  refine ⟨ρ, F, S, q.seq.imp fun as ρ1 H1 F1 e1 S1 q1 vs r1 => ?_⟩
  obtain ⟨ds, rd, q2⟩ := q1.vws S1 r1
  unfold rng1D at q2
  split at q2
  · rename_i j
    split at q2
    · rename_i hb
      obtain ⟨v, rfl, r⟩ := vs1 rd
      exact ⟨j, by rw [r.int], hb.1, hb.2, q2 H1 F1 (Same.refl _) S1 _ wk_range⟩
    · exact (show False from q2).elim
  · exact (show False from q2).elim
theorem ei_range2 (h : EvAs c [a, b] ms) (hm : c.mg "range" = none) (hg : gbB c.sc "range" = true) (hs : noStar a = true := by rfl) (hs2 : noStar b = true := by rfl) : EvI c tg (.Call (.Name "range" p) [a, b] [] pos) (fnI rng2D ms) := fun X hX B W tk => by
  refine PI.imp (pi_range2 (gl_of hX (gbB_ok hg).1) (by rw [hX.mg]; exact hm) (h X hX B W tk) (by rw [star_cons hs, star_cons hs2]; rfl) (star_cons hs2)) ?_
  rintro σ H R ⟨ρ, F, S, q⟩
  refine ⟨ρ, F, S, q.seq.imp fun as ρ1 H1 F1 e1 S1 q1 vs r1 => ?_⟩
  obtain ⟨ds, rd, q2⟩ := q1.vws S1 r1
  unfold rng2D at q2
  split at q2
  · rename_i i j
    split at q2
    · rename_i hb
      obtain ⟨v, w, rfl, r, r'⟩ := vs2 rd
      exact ⟨i, j, by rw [r.int, r'.int], hb, q2 H1 F1 (Same.refl _) S1 _ wk_range⟩
    · exact (show False from q2).elim
  · exact (show False from q2).elim
end

/-! ### for, while -/
def forGo (g : D → M Unit) (b : M Fw) : List D → M Fw
  | [] => ret .next
  | d :: ds => fun ρ => match g d ρ with
    | .ok _ ρ1 => (match b ρ1 with
      | .ok .next ρ' => forGo g b ds ρ'
      | .ok .cont ρ' => forGo g b ds ρ'
      | .ok .brk ρ' => .ok .next ρ'
      | r => r)
    | _ => .bad
def forS (m : M (List D)) (g : D → M Unit) (b : M Fw) : M Fw := bnd m fun ds => forGo g b ds
def whileGo (t : M Bool) (b : M Fw) : Nat → M Fw
  | 0 => bad
  | n + 1 => bnd t fun x => if x = true then fun ρ => (match b ρ with
      | .ok .next ρ' => whileGo t b n ρ'
      | .ok .cont ρ' => whileGo t b n ρ'
      | .ok .brk ρ' => .ok .next ρ'
      | r => r) else ret .next
section
variable {c : Cxs} {tg iter t : Expr} {body : List Stmt} {mi : M (List D)} {vs : List Nat} {g : D → M Unit} {mb : M Fw} {tm : M Bool} {pos : Pos}
/-- a turn's end: on, or out -/
theorem okS.turn {B : Bs} {W : WX} {F : Hp} {E : Ends} {k : M Fw} {N : L2.St → Hp → Prop} {r : Res Fw} (h : okS c B W F E (match r with
      | .ok .next ρ' => k ρ'
      | .ok .cont ρ' => k ρ'
      | .ok .brk ρ' => .ok .next ρ'
      | r => r)) (hN : ∀ ρ' σ' H' F', Same F F' → SOk c.K c.mg B ρ' σ' H' F' → okS c B W F' E (k ρ') → N σ' H') : okS c B W F { E with nx := N, ct := N, bk := E.nx } r := by
  cases r with
  | ok f ρ' =>
    cases f with
    | next => exact fun σ' H' F' e S => hN ρ' σ' H' F' e S (okS.base e h)
    | cont => exact fun σ' H' F' e S => hN ρ' σ' H' F' e S (okS.base e h)
    | brk => exact fun σ' H' F' e S => h σ' H' F' e S
    | ret d => exact fun σ' H' F' e S => h σ' H' F' e S
    | retn d => exact fun σ' H' F' e S => h σ' H' F' e S
  | err n ns vs ρ' => exact h
  | bad => exact h
theorem es_for (hi : EvI c tg iter mi) (hg : EvG c tg vs g) (hb : EvB c body mb) (hc : c.calm = true := by rfl) (hs : noSet iter = true := by rfl) : EvS c (.For tg iter body [] pos) (forS mi g mb) := fun X hX B W tk => by
  refine PS.imp (ps_for hX.pass (hX.calm hc) (hi X hX B W tk) (hg X hX B) (hb X hX B W tk) fun _ => fold_plain hs) ?_
  rintro E σ H ⟨ρ, F, S, q⟩
  refine ⟨ρ, F, S, q.seq.imp fun ds ρ1 H1 F1 e1 S1 q1 J wk => ?_⟩
  refine ⟨fun i m σ H => m = ds.length - i ∧ i ≤ ds.length ∧ ∃ ρ F, Same F1 F ∧ SOk c.K c.mg B ρ σ H F ∧ okS c B W F E (forGo g mb (ds.drop i) ρ), ⟨_, rfl, Nat.zero_le _, ρ1, F1, Same.refl _, S1, by simpa using q1⟩, ?_⟩
  rintro i m σ2 H2 ⟨rfl, hi, ρ2, F2, e2, S2, q2⟩
  obtain ⟨w1, w2, w3⟩ := wk B ρ2 σ2 H2 F2 e2 S2
  by_cases hlt : i < ds.length
  · refine .inr ⟨w1 i hlt, fun σ' H' => ∃ ρ F, Same F1 F ∧ SOk c.K c.mg B ρ σ' H' F ∧ okS c B W F E (forGo g mb (ds.drop (i + 1)) ρ), fun σ' H' p => ⟨ds.length - (i + 1), by omega, rfl, hlt, p⟩, fun x H' hy => ?_⟩
    have hd : ds[i]? = some ds[i] := List.getElem?_eq_getElem hlt
    obtain ⟨F3, e3, S3, r3⟩ := w3 i _ x H' hd hy
    have ed : ds.drop i = ds[i] :: ds.drop (i + 1) := List.drop_eq_getElem_cons hlt
    rw [ed] at q2
    refine ⟨ρ2, F3, ds[i], S3, r3, ?_⟩
    have q3 := okS.base e3 q2
    unfold forGo at q3
    cases hg : g ds[i] ρ2 with
    | ok u ρ4 =>
      rw [hg] at q3
      intro σ4 H4 F4 e4 _ S4
      refine ⟨ρ4, F4, S4, okS.turn (okS.base e4 q3) fun ρ5 σ5 H5 F5 e5 S5 q5 => ⟨ρ5, F5, ((e2.trans e3).trans e4).trans e5, S5, q5⟩⟩
    | err _ _ _ _ => rw [hg] at q3; exact (show False from q3).elim
    | bad => rw [hg] at q3; exact (show False from q3).elim
  · have e : i = ds.length := by omega
    subst e
    refine .inl ⟨w2 _ (Nat.le_refl _), ?_⟩
    rw [List.drop_length] at q2
    exact q2 σ2 H2 F2 (Same.refl _) S2
theorem es_while (n : Nat) (ht : EvT c t tm) (hb : EvB c body mb) : EvS c (.While t body [] pos) (whileGo tm mb n) := fun X hX B W tk => by
  refine PS.imp (ps_while hX.pass (ht X hX B W tk) (hb X hX B W tk)) ?_
  rintro E σ H ⟨ρ, F, S, q⟩
  refine ⟨fun m σ H => ∃ ρ F, SOk c.K c.mg B ρ σ H F ∧ okS c B W F E (whileGo tm mb m ρ), ⟨n, ρ, F, S, q⟩, ?_⟩
  rintro m σ2 H2 ⟨ρ2, F2, S2, q2⟩
  cases m with
  | zero => exact (show False from q2).elim
  | succ m =>
    unfold whileGo at q2
    refine ⟨ρ2, F2, S2, q2.seq.imp fun x ρ3 H3 F3 e3 S3 q3 => ?_⟩
    cases x with
    | false => exact iteF (q3 σ2 H3 F3 (Same.refl _) S3)
    | true =>
      refine iteT ⟨fun σ' H' => ∃ ρ F, SOk c.K c.mg B ρ σ' H' F ∧ okS c B W F E (whileGo tm mb m ρ), fun σ' H' p => ⟨m, Nat.lt_succ_self _, p⟩, ρ3, F3, S3, ?_⟩
      exact okS.turn q3 fun ρ5 σ5 H5 F5 e5 S5 q5 => ⟨ρ5, F5, S5, q5⟩
end

/-! ### stores into changing objects -/
/-- the list of slot s: item i becomes d -/
def setL (s : A) (i d : D) : M Unit := fun ρ => match s, i with
  | .slot s, .int z => (match ρ[s]? with
    | some (.cel k (.lst ds)) => (match ixN ds.length z with
      | some j => .ok () (ρ.set s (.cel k (.lst (ds.set j d))))
      | none => .bad)
    | _ => .bad)
  | _, _ => .bad
def noErr {α : Type} (m : M α) : M α := fun ρ => match m ρ with
  | .ok a ρ' => .ok a ρ'
  | _ => .bad
def subG (mo mi : M A) (d : D) : M Unit := noErr (bnd mo fun o => bnd mi fun i => bnd (view i) fun di => setL o di d)
section
variable {c : Cxs} {o i : Expr} {mo mi : M A} {pos : Pos}
theorem okG.ofR {B : Bs} {F : Hp} {vs : List Nat} {σ : L2.St} {Q : L2.St → Hp → Prop} {m : M Unit} {ρ : List Sl} (h : okG c B F vs σ Q (noErr m ρ)) : okR c B (fun _ _ _ _ => False) σ F (fun _ _ H' _ => Q σ H') (m ρ) := by
  unfold noErr at h
  cases hm : m ρ with
  | ok a ρ' =>
    rw [hm] at h
    exact fun H' F' e S => h σ H' F' e (Out.refl _ _) S
  | err _ _ _ _ => rw [hm] at h; exact h.elim
  | bad => rw [hm] at h; exact h.elim
theorem Takes.any {X : Cx} : Takes X (fun _ _ _ _ => False) := fun _ _ x => by
  obtain ⟨_, _, _, _, _, _, _, _, _, _, _, _, _, _, _, _, z⟩ := x
  exact z.elim
theorem asub_plain {o i : Expr} {pos : Pos} {env : Env} {v : Value} (h : noSlice i = true) : assign (.Subscript o i pos) env v = (do
      let ov ← holding [v] (eval o env)
      let iv ← holding [v, ov] (eval i env)
      standAt pos
      holding [v, ov, iv] (setItem ov iv v)
      release [v, ov, iv] []) := by
  cases i <;> first | rfl | cases h
theorem eg_sub (ho : EvE c o mo) (hi : EvE c i mi) (hs : noSlice i = true := by rfl) : EvG c (.Subscript o i pos) [] (subG mo mi) := fun X hX B => by
  refine PG.imp (pg_sub (ho X hX B _ Takes.any) (hi X hX B _ Takes.any) set_list fun _ => asub_plain hs) ?_
  rintro v σ H Q ⟨ρ, F, d, S, r, q⟩
  refine ⟨ρ, F, S, (okG.ofR q).seq.imp fun a ρ1 H1 F1 e1 S1 q1 x r1 => ⟨ρ1, F1, S1, q1.seq.imp fun b ρ2 H2 F2 e2 S2 q2 y r2 => ?_⟩⟩
  obtain ⟨di, ri, q3⟩ := q2.vw S2 r2
  unfold setL at q3
  split at q3
  · rename_i s z
    split at q3
    · rename_i k ds hs
      split at q3
      · rename_i j hj
        have r1' : σ[s]? = some (some x) := RpA.mono e2 r1
        obtain ⟨p, h1, hF, hc, _⟩ := S2.cel s k _ hs
        rw [h1] at r1'
        cases r1'
        cases hc with
        | lst hl rl =>
          rename_i xs
          refine ⟨p, xs, z, j, rfl, ri.int, hl, by rw [← rl.length]; exact hj, ?_⟩
          exact q3 _ F2 (Same.refl _) (S2.change hs h1 (.lst upd_same (Rps.set (Rp.mono (e1.trans e2) _ _ r) j rl)))
      · exact (show False from q3).elim
    · exact (show False from q3).elim
  · exact (show False from q3).elim
end
/-- xs.append(e) -/
def appL (s : A) (d : D) : M A := fun ρ => match s with
  | .slot s => (match ρ[s]? with
    | some (.cel k (.lst ds)) => if ds.length < sizeLine then .ok (.d .non) (ρ.set s (.cel k (.lst (ds ++ [d])))) else .bad
    | _ => .bad)
  | _ => .bad
/-- a slot's list -/
def isCelL (s : A) : M Unit := fun ρ => match s with
  | .slot s => (match ρ[s]? with
    | some (.cel _ (.lst _)) => .ok () ρ
    | _ => .bad)
  | _ => .bad
def appA (mo me : M A) : M A := bnd mo fun o => bnd (isCelL o) fun _ => bnd me fun a => bnd (frz a) fun d => appL o d
def extL (s : A) (d : D) : M A := fun ρ => match s, d with
  | .slot s, .lst es => (match ρ[s]? with
    | some (.cel k (.lst ds)) => if ds.length + es.length ≤ sizeLine then .ok (.d .non) (ρ.set s (.cel k (.lst (ds ++ es)))) else .bad
    | _ => .bad)
  | _, _ => .bad
def extA (mo me : M A) : M A := bnd mo fun o => bnd (isCelL o) fun _ => bnd me fun a => bnd (frz a) fun d => extL o d
section
variable {c : Cxs} {o e : Expr} {mo me : M A} {apos cpos : Pos}
theorem isCel_ok {B : Bs} {W : WX} {σ : L2.St} {H F : Hp} {ρ : List Sl} {s : A} {v : V} {α : Type} {f : Unit → M α} {k : α → List Sl → Hp → Hp → Prop} (S : SOk c.K c.mg B ρ σ H F) (r : RpA c.K c.mg F σ s v) (h : okR c B W σ F k (bnd (isCelL s) f ρ)) :
    tyV c.K "list" v H ∧ okR c B W σ F k (f () ρ) := by
  unfold bnd isCelL at h
  cases s with
  | d x => exact (show False from h).elim
  | slot i =>
    simp only at h
    split at h
    · rename_i a ρ' e
      split at e
      · rename_i k' ds hs
        cases e
        obtain ⟨p, h1, hF, hc, _⟩ := S.cel i _ _ hs
        have r' : σ[i]? = some (some v) := r
        rw [h1] at r'
        cases r'
        cases hc with
        | lst hl rl => exact ⟨.inl ⟨rfl, _, SqL.of hl⟩, h⟩
      · cases e
    · rename_i e
      split at e <;> cases e
    · exact (show False from h).elim
theorem ev_append (ho : EvE c o mo) (he : EvE c e me) (hbase : noSuper o = true := by rfl) (hs : noStar e = true := by rfl) (hline : (apos.endLine == cpos.line) = true := by rfl) :
    EvE c (.Call (.Attribute o "append" apos) [e] [] cpos) (appA mo me) := fun X hX B W tk => by
  refine PE.imp (pe_bm PySem.F.plainAttrs_list PySem.F.slot_list_append PySem.F.type_list_append mt_append (ho X hX B W tk) (pa_cons (he X hX B W tk) pa_nil (star_cons hs)) (base_plain hbase) (few_args (by simp [hs]) rfl) hline (star_cons hs) rfl) ?_
  rintro σ H Q ⟨ρ, F, S, q⟩
  refine ⟨ρ, F, S, q.seq.imp fun x ρ1 H1 F1 e1 S1 q1 v r1 => ?_⟩
  obtain ⟨ty, q2⟩ := isCel_ok S1 r1 q1
  refine ⟨by rw [hX.K]; exact ty, ρ1, F1, S1, q2.seq.imp fun a ρ2 H2 F2 e2 S2 q3 y r2 => ?_⟩
  obtain ⟨d, ρ3, F3, e3, S3, r3, q4⟩ := q3.fz S2 r2
  cases x with
  | d x => exact (show False from q4).elim
  | slot s =>
    unfold appL at q4
    simp only at q4
    split at q4
    · rename_i k ds hs'
      split at q4
      · rename_i hz
        have r1' : σ[s]? = some (some v) := r1
        obtain ⟨p, h1, hF, hc, _⟩ := S3.cel s k _ hs'
        rw [h1] at r1'
        cases r1'
        cases hc with
        | lst hl rl =>
          rename_i xs
          exact ⟨p, xs, y, rfl, rfl, hl, by rw [← rl.length]; exact hz, q4 _ F3 (Same.refl _) (S3.change hs' h1 (.lst upd_same (rl.append (.cons r3 .nil)))) _ .non⟩
      · exact (show False from q4).elim
    · exact (show False from q4).elim
theorem ev_extend (ho : EvE c o mo) (he : EvE c e me) (hbase : noSuper o = true := by rfl) (hs : noStar e = true := by rfl) (hline : (apos.endLine == cpos.line) = true := by rfl) :
    EvE c (.Call (.Attribute o "extend" apos) [e] [] cpos) (extA mo me) := fun X hX B W tk => by
  refine PE.imp (pe_bm PySem.F.plainAttrs_list PySem.F.slot_list_extend PySem.F.type_list_extend mt_extend (ho X hX B W tk) (pa_cons (he X hX B W tk) pa_nil (star_cons hs)) (base_plain hbase) (few_args (by simp [hs]) rfl) hline (star_cons hs) rfl) ?_
  rintro σ H Q ⟨ρ, F, S, q⟩
  refine ⟨ρ, F, S, q.seq.imp fun x ρ1 H1 F1 e1 S1 q1 v r1 => ?_⟩
  obtain ⟨ty, q2⟩ := isCel_ok S1 r1 q1
  refine ⟨by rw [hX.K]; exact ty, ρ1, F1, S1, q2.seq.imp fun a ρ2 H2 F2 e2 S2 q3 y r2 => ?_⟩
  obtain ⟨d, ρ3, F3, e3, S3, r3, q4⟩ := q3.fz S2 r2
  cases x with
  | d x => exact (show False from by cases d <;> exact q4).elim
  | slot s =>
    cases d with
    | lst es =>
      unfold extL at q4
      simp only at q4
      split at q4
      · rename_i k ds hs'
        split at q4
        · rename_i hz
          have r1' : σ[s]? = some (some v) := r1
          obtain ⟨p, h1, hF, hc, _⟩ := S3.cel s k _ hs'
          rw [h1] at r1'
          cases r1'
          cases hc with
          | lst hl rl =>
            rename_i xs
            cases r3 with
            | lst h3 r3 =>
              rename_i b zs
              exact ⟨p, b, xs, zs, rfl, rfl, hl, S3.sub _ _ h3, by rw [← rl.length, ← r3.length]; exact hz, q4 _ F3 (Same.refl _) (S3.change hs' h1 (.lst upd_same (rl.append r3))) _ .non⟩
        · exact (show False from q4).elim
      · exact (show False from q4).elim
    | _ => exact (show False from q4).elim
end
end Mi

namespace Mi
open PySem PySem.Spec L2
/-! ### comprehensions -/
/-- the slots vs are forgotten -/
def wipeL : List Nat → List Sl → List Sl
  | [], ρ => ρ
  | v :: vs, ρ => (wipeL vs ρ).set v .nil
/-- no changing object stands in the slots vs -/
def clean (vs : List Nat) (ρ : List Sl) : Bool := vs.all fun v => match ρ[v]? with
  | some (.cel _ _) => false
  | some _ => true
  | none => false
/-- the slots vs as they were -/
def backL (ρ0 : List Sl) : List Nat → List Sl → List Sl
  | [], ρ => ρ
  | v :: vs, ρ => (backL ρ0 vs ρ).set v (ρ0.getD v .nil)
def compGo (vs : List Nat) (g : D → M Unit) (t : M Bool) (e : M A) : List D → List D → M (List D)
  | [], acc => ret acc
  | d :: ds, acc => bnd (g d) fun _ => bnd t fun b => if b = true then bnd e fun a => bnd (frz a) fun z => (fun ρ => if clean vs ρ = true ∧ acc.length < sizeLine then compGo vs g t e ds (acc ++ [z]) (wipeL vs ρ) else .bad)
      else (fun ρ => if clean vs ρ = true then compGo vs g t e ds acc (wipeL vs ρ) else .bad)
def compN (vs : List Nat) (m : M (List D)) (g : D → M Unit) (t : M Bool) (e : M A) : M D := bnd m fun ds => fun ρ => if clean vs ρ = true then
    (match compGo vs g t e ds [] (wipeL vs ρ) with
      | .ok acc ρ' => if clean vs ρ' = true then .ok (.lst acc) (backL ρ vs ρ') else .bad
      | _ => .bad) else .bad
section
variable {K : PySem.W.Frag} {mg : Str → Option Value} {F H F' H' : Hp} {B : Bs} {ρ ρ' : List Sl} {σ σ' : L2.St} {vs : List Nat}
theorem wipeL_length : ∀ vs : List Nat, (wipeL vs ρ).length = ρ.length
  | [] => rfl
  | v :: vs => by
    unfold wipeL
    rw [List.length_set]
    exact wipeL_length vs
theorem backL_length (ρ0 : List Sl) : ∀ vs : List Nat, (backL ρ0 vs ρ).length = ρ.length
  | [] => rfl
  | v :: vs => by
    unfold backL
    rw [List.length_set]
    exact backL_length ρ0 vs
theorem clean_at {v : Nat} (h : clean vs ρ = true) (hv : v ∈ vs) : v < ρ.length ∧ ∀ (k : Bool) (d : D), ρ[v]? ≠ some (.cel k d) := by
  have := List.all_eq_true.mp h v hv
  split at this
  · cases this
  · rename_i s hne e
    exact ⟨(List.getElem?_eq_some_iff.mp e).1, fun k d z => hne k d (by rw [e] at z; exact Option.some.inj z)⟩
  · cases this
theorem wipeL_get {i : Nat} : ∀ {vs : List Nat}, (i ∈ vs → i < ρ.length) → (wipeL vs ρ)[i]? = if i ∈ vs then some .nil else ρ[i]?
  | [], _ => by simp [wipeL]
  | v :: vs, h => by
    unfold wipeL
    by_cases e : v = i
    · subst e
      have hl : v < (wipeL vs ρ).length := by rw [wipeL_length]; exact h (by simp)
      rw [List.getElem?_set_self hl]
      simp
    · rw [List.getElem?_set_ne e, wipeL_get (fun z => h (by simp [z]))]
      have : (i ∈ v :: vs) ↔ i ∈ vs := by simp [Ne.symm e]
      simp only [this]
theorem wipe_get {i : Nat} : ∀ {vs : List Nat}, (i ∈ vs → i < σ.length) → (wipe σ vs)[i]? = if i ∈ vs then some none else σ[i]?
  | [], _ => by simp [wipe]
  | v :: vs, h => by
    unfold wipe
    by_cases e : v = i
    · subst e
      have hl : v < (wipe σ vs).length := by rw [wipe_length]; exact h (by simp)
      rw [List.getElem?_set_self hl]
      simp
    · rw [List.getElem?_set_ne e, wipe_get (fun z => h (by simp [z]))]
      have : (i ∈ v :: vs) ↔ i ∈ vs := by simp [Ne.symm e]
      simp only [this]
theorem wipe_out_eq (ho : Out vs (wipe σ vs) σ') (hl : ∀ v ∈ vs, v < σ.length) : wipe σ' vs = wipe σ vs := by
  apply List.ext_getElem?
  intro i
  have hl' : σ'.length = σ.length := by rw [ho.1, wipe_length]
  rw [wipe_get (fun h => by rw [hl']; exact hl i h), wipe_get (hl i)]
  by_cases h : i ∈ vs
  · rw [if_pos h, if_pos h]
  · rw [if_neg h, if_neg h, ho.2 i h, wipe_get (hl i), if_neg h]
theorem backL_get {ρ0 : List Sl} {i : Nat} : ∀ {vs : List Nat}, (i ∈ vs → i < ρ.length) → (backL ρ0 vs ρ)[i]? = if i ∈ vs then some (ρ0.getD i .nil) else ρ[i]?
  | [], _ => by simp [backL]
  | v :: vs, h => by
    unfold backL
    by_cases e : v = i
    · subst e
      have hl : v < (backL ρ0 vs ρ).length := by rw [backL_length]; exact h (by simp)
      rw [List.getElem?_set_self hl]
      simp
    · rw [List.getElem?_set_ne e, backL_get (fun z => h (by simp [z]))]
      have : (i ∈ v :: vs) ↔ i ∈ vs := by simp [Ne.symm e]
      simp only [this]
/-- forgetting slots without changing objects -/
theorem SOk.wipe (S : SOk K mg B ρ σ H F) (h : clean vs ρ = true) : SOk K mg B (wipeL vs ρ) (L2.wipe σ vs) H F := by
  have hl : ∀ v ∈ vs, v < ρ.length := fun v hv => (clean_at h hv).1
  have hl' : ∀ v ∈ vs, v < σ.length := fun v hv => by rw [← S.len]; exact hl v hv
  have gρ : ∀ {i : Nat} {s : Sl}, (wipeL vs ρ)[i]? = some s → s ≠ .nil → i ∉ vs ∧ ρ[i]? = some s := fun {i s} e hs => by
    rw [wipeL_get (hl i)] at e
    by_cases hi : i ∈ vs
    · rw [if_pos hi] at e
      exact absurd (Option.some.inj e).symm hs
    · rw [if_neg hi] at e
      exact ⟨hi, e⟩
  have gσ : ∀ {i : Nat}, i ∉ vs → (L2.wipe σ vs)[i]? = σ[i]? := fun {i} hi => by rw [wipe_get (hl' i), if_neg hi]
  refine ⟨by rw [wipeL_length, wipe_length]; exact S.len, fun i d e => ?_, fun i k d e => ?_, fun i j k l d e a h1 h2 h3 h4 => ?_, S.sub, S.base, S.new, S.keep, fun i a e => ?_, S.prot⟩
  · obtain ⟨h1, h2⟩ := gρ e (by intro z; cases z)
    rw [gσ h1]
    exact S.val i d h2
  · obtain ⟨h1, h2⟩ := gρ e (by intro z; cases z)
    rw [gσ h1]
    exact S.cel i k d h2
  · obtain ⟨n1, e1⟩ := gρ h1 (by intro z; cases z)
    obtain ⟨n2, e2⟩ := gρ h2 (by intro z; cases z)
    rw [gσ n1] at h3
    rw [gσ n2] at h4
    exact S.sep i j k l d e a e1 e2 h3 h4
  · obtain ⟨h1, d, h2⟩ := S.ios i a e
    have ni : i ∉ vs := fun z => (clean_at h z).2 true d h2
    exact ⟨by rw [gσ ni]; exact h1, d, by rw [wipeL_get (hl i), if_neg ni]; exact h2⟩
/-- .. and taking them up again -/
theorem SOk.back {ρ0 : List Sl} {F0 H0 : Hp} (S0 : SOk K mg B ρ0 σ H0 F0) (h0 : clean vs ρ0 = true) (e : Same F0 F) (S : SOk K mg B ρ (L2.wipe σ vs) H F) (h : clean vs ρ = true) : SOk K mg B (backL ρ0 vs ρ) σ H F := by
  have hl : ∀ v ∈ vs, v < ρ.length := fun v hv => (clean_at h hv).1
  have hl0 : ∀ v ∈ vs, v < ρ0.length := fun v hv => (clean_at h0 hv).1
  have hl' : ∀ v ∈ vs, v < σ.length := fun v hv => by rw [← S0.len]; exact hl0 v hv
  have gσ : ∀ {i : Nat}, i ∉ vs → (L2.wipe σ vs)[i]? = σ[i]? := fun {i} hi => by rw [wipe_get (hl' i), if_neg hi]
  have gc : ∀ {i : Nat} {k : Bool} {d : D}, (backL ρ0 vs ρ)[i]? = some (.cel k d) → i ∉ vs ∧ ρ[i]? = some (.cel k d) := fun {i k d} q => by
    rw [backL_get (hl i)] at q
    by_cases hi : i ∈ vs
    · rw [if_pos hi] at q
      have z : ρ0[i]? = some (.cel k d) := by
        have e2 : ρ0.getD i .nil = .cel k d := Option.some.inj q
        rw [List.getD_eq_getElem?_getD] at e2
        cases q2 : ρ0[i]? with
        | none => rw [q2] at e2; cases e2
        | some s => rw [q2] at e2; exact congrArg some e2
      exact absurd z ((clean_at h0 hi).2 k d)
    · rw [if_neg hi] at q
      exact ⟨hi, q⟩
  refine ⟨?_, fun i d q => ?_, fun i k d q => ?_, fun i j k l d e a h1 h2 h3 h4 => ?_, S.sub, S.base, S.new, S.keep, fun i a q => ?_, S.prot⟩
  · rw [backL_length, S.len, wipe_length]
  · rw [backL_get (hl i)] at q
    by_cases hi : i ∈ vs
    · rw [if_pos hi] at q
      have z : ρ0[i]? = some (.val d) := by
        have e2 : ρ0.getD i .nil = .val d := Option.some.inj q
        rw [List.getD_eq_getElem?_getD] at e2
        cases q2 : ρ0[i]? with
        | none => rw [q2] at e2; cases e2
        | some s => rw [q2] at e2; exact congrArg some e2
      obtain ⟨v, h1, r⟩ := S0.val i d z
      exact ⟨v, h1, Rp.mono e _ _ r⟩
    · rw [if_neg hi] at q
      obtain ⟨v, h1, r⟩ := S.val i d q
      exact ⟨v, by rw [← gσ hi]; exact h1, r⟩
  · obtain ⟨n1, e1⟩ := gc q
    obtain ⟨a, h1, h2⟩ := S.cel i k d e1
    exact ⟨a, by rw [← gσ n1]; exact h1, h2⟩
  · obtain ⟨n1, e1⟩ := gc h1
    obtain ⟨n2, e2⟩ := gc h2
    rw [← gσ n1] at h3
    rw [← gσ n2] at h4
    exact S.sep i j k l d e a e1 e2 h3 h4
  · obtain ⟨h1, d, h2⟩ := S.ios i a q
    have ni : i ∉ vs := fun z => (clean_at h z).2 true d h2
    exact ⟨by rw [← gσ ni]; exact h1, d, by rw [backL_get (hl i), if_neg ni]; exact h2⟩
/-- one more object outside of all is watched -/
theorem SOk.watch {a : Addr} {o : HO} (S : SOk K mg B ρ σ H F) (hF : F a = none) (hH : H a = some o) (hs : ∀ (i : Nat) (k : Bool) (e : D), ρ[i]? = some (.cel k e) → σ[i]? ≠ some (some (.ref a))) : SOk K mg { B with P := (a, o) :: B.P } ρ σ H F := by
  refine ⟨S.len, S.val, fun i k d e => ?_, S.sep, S.sub, S.base, S.new, S.keep, S.ios, fun p hp => ?_⟩
  · obtain ⟨b, h1, h2, h3, h4, h5, h6⟩ := S.cel i k d e
    refine ⟨b, h1, h2, h3, h4, h5, fun p hp => ?_⟩
    rcases List.mem_cons.mp hp with rfl | hp
    · intro z
      exact hs i k d e (by rw [h1]; exact congrArg (fun x => some (some (V.ref x))) z.symm)
    · exact h6 p hp
  · rcases List.mem_cons.mp hp with rfl | hp
    · exact ⟨hH, hF⟩
    · exact S.prot p hp
theorem SOk.unwatch {a : Addr} {o : HO} (S : SOk K mg { B with P := (a, o) :: B.P } ρ σ H F) : SOk K mg B ρ σ H F ∧ F a = none ∧ H a = some o ∧ ∀ (i : Nat) (k : Bool) (e : D), ρ[i]? = some (.cel k e) → σ[i]? ≠ some (some (.ref a)) := by
  have hp := S.prot (a, o) (List.mem_cons_self)
  refine ⟨⟨S.len, S.val, fun i k d e => ?_, S.sep, S.sub, S.base, S.new, S.keep, S.ios, fun p hp => S.prot p (List.mem_cons_of_mem _ hp)⟩, hp.2, hp.1, fun i k e q z => ?_⟩
  · obtain ⟨b, h1, h2, h3, h4, h5, h6⟩ := S.cel i k d e
    exact ⟨b, h1, h2, h3, h4, h5, fun p hp => h6 p (List.mem_cons_of_mem _ hp)⟩
  · obtain ⟨b, h1, _, _, _, _, h6⟩ := S.cel i k e q
    rw [h1] at z
    cases z
    exact h6 (a, o) List.mem_cons_self rfl
/-- what is watched changes: an item more -/
theorem SOk.rewatch {a : Addr} {o o' : HO} (S : SOk K mg { B with P := (a, o) :: B.P } ρ σ H F) (h0 : B.H0 a = none) (hP : ∀ p ∈ B.P, p.1 ≠ a) : SOk K mg { B with P := (a, o') :: B.P } ρ σ (upd H a o') F := by
  obtain ⟨S1, hF, hH, hs⟩ := S.unwatch
  have S2 : SOk K mg B ρ σ (upd H a o') F := by
    refine ⟨S1.len, S1.val, fun i k d e => ?_, S1.sep, fun b u e => ?_, S1.base, S1.new, fun b u e z => ?_, S1.ios, fun p hp => ?_⟩
    · obtain ⟨b, h1, h2, h3, h4⟩ := S1.cel i k d e
      have nb : b ≠ a := fun z => hs i k d e (by rw [h1, z])
      exact ⟨b, h1, h2, h3.mono (Same.refl _) (upd_ne nb), h4⟩
    · have nb : b ≠ a := fun z => by rw [z, hF] at e; cases e
      rw [upd_ne nb]
      exact S1.sub b u e
    · have nb : b ≠ a := fun q => by rw [q, h0] at e; cases e
      rw [upd_ne nb]
      exact S1.keep b u e z
    · obtain ⟨h1, h2⟩ := S1.prot p hp
      exact ⟨by rw [upd_ne (hP p hp)]; exact h1, h2⟩
  exact S2.watch hF upd_same hs
end

/-- the context of a comprehension's block -/
abbrev Cxs.blk (c : Cxs) (scope : Scope) : Cxs := { c with sc := relS scope c.sc, own := some scope }
theorem relS_local {scope sc : Scope} {x : Str} (h : scope.names.lookup x = some .local) : (relS scope sc).names.lookup x = some .local := lookup_relS_keep (by decide) h
theorem XF.blk {c : Cxs} {X : Cx} (hX : XF c X) {s : Shared} {H : Hp} {C : Addr} {cl : List (Str × Addr)} {fp : List Addr} {scope : Scope} : XF (c.blk scope) (X.blk s H scope (compEnvC scope cl C X.env) fp) where
  prog := hX.prog
  w := hX.w
  K := hX.K
  mg := hX.mg
  base := hX.base
  room := hX.room
  N := hX.N
  sc := by
    show relabel scope X.env = relS scope c.sc
    rw [← hX.sc]
    rfl
  calm := hX.calm
  nd := hX.nd
  fn := fun x ho _ => by
    show (scope.names.lookup x == some .cell) = true ∨ (relabel scope X.env).names.lookup x = some .local
    have e : relabel scope X.env = relS scope c.sc := by
      rw [← hX.sc]
      rfl
    rw [e]
    cases q : scope.names.lookup x with
    | none =>
      have ho' : (match scope.names.lookup x with | some NameKind.local => true | some .cell => true | _ => false) = true := ho
      rw [q] at ho'
      cases ho'
    | some k =>
      have ho' : (match scope.names.lookup x with | some NameKind.local => true | some .cell => true | _ => false) = true := ho
      rw [q] at ho'
      cases k with
      | «local» => exact .inr (relS_local q)
      | cell => exact .inl rfl
      | _ => cases ho'
  pass := PassesOwn.never
def EvTs (c : Cxs) (ifs : List Expr) (m : M Bool) : Prop := ∀ X, XF c X → ∀ B W, Takes X W → PTs X ifs (rdT c B W m)
theorem PTs.imp {X : Cx} {ifs : List Expr} {t t' : TT} (h : PTs X ifs t) (i : ∀ σ H Q, t' σ H Q → t σ H Q) : PTs X ifs t' := ⟨fun pins s σ H Q I q => h.run pins s σ H Q I (i _ _ _ q)⟩
theorem ets_nil {c : Cxs} : EvTs c [] (ret true) := fun X hX B W tk => by
  refine PTs.imp pts_nil ?_
  rintro σ H Q ⟨ρ, F, S, q⟩
  exact q H F (Same.refl _) S
theorem ets_one {c : Cxs} {e : Expr} {t : M Bool} (h : EvT c e t) : EvTs c [e] t := fun X hX B W tk => pts_one (h X hX B W tk)
section
variable {c : Cxs} {tg iter elt : Expr} {ifs : List Expr} {scope : Scope} {own : List (Str × Nat)} {mi : M (List D)} {gs : List Nat} {g : D → M Unit} {t : M Bool} {e : M A} {pos : Pos}
abbrev W0 : WX := fun _ _ _ _ => False
theorem bnd_ok {α β : Type} {m : M α} {f : α → M β} {ρ ρ' : List Sl} {b : β} (h : bnd m f ρ = .ok b ρ') : ∃ a ρ1, m ρ = .ok a ρ1 ∧ f a ρ1 = .ok b ρ' := by
  unfold bnd at h
  split at h
  · rename_i a ρ1 e
    exact ⟨a, ρ1, e, h⟩
  · cases h
  · cases h
abbrev exG (c : Cxs) (gs : List Nat) (g : D → M Unit) : TG := fun v σ H Q => ∃ B, rdG c B gs g v σ H Q
abbrev exT (c : Cxs) (t : M Bool) : TT := fun σ H Q => ∃ B, rdT c B W0 t σ H Q
abbrev exE (c : Cxs) (e : M A) : TE := fun σ H Q => ∃ B, rdE c B W0 e σ H Q
theorem EvG.ex {c : Cxs} (hg : EvG c tg gs g) {X : Cx} (hX : XF c X) : PG X tg (exG c gs g) := ⟨fun pins s σ H v u Q I r ⟨B, q⟩ => (hg X hX B).run pins s σ H v u Q I r q⟩
theorem EvTs.ex {c : Cxs} (ht : EvTs c ifs t) {X : Cx} (hX : XF c X) : PTs X ifs (exT c t) := ⟨fun pins s σ H Q I ⟨B, q⟩ => (ht X hX B W0 Takes.any).run pins s σ H Q I q⟩
theorem EvE.ex {c : Cxs} {elt : Expr} (he : EvE c elt e) {X : Cx} (hX : XF c X) : PE X elt (exE c e) := ⟨fun pins s σ H Q I ⟨B, q⟩ => (he X hX B W0 Takes.any).run pins s σ H Q I q⟩
theorem backL_len {ρ ρ0 : List Sl} {vs : List Nat} {i : Nat} {k : Bool} {d : D} (h0 : clean vs ρ0 = true) (h : clean vs ρ = true) (q : (backL ρ0 vs ρ)[i]? = some (.cel k d)) : i ∉ vs ∧ ρ[i]? = some (.cel k d) := by
  rw [backL_get (fun hv => (clean_at h hv).1)] at q
  by_cases hi : i ∈ vs
  · rw [if_pos hi] at q
    have z : ρ0[i]? = some (.cel k d) := by
      have e2 : ρ0.getD i .nil = .cel k d := Option.some.inj q
      rw [List.getD_eq_getElem?_getD] at e2
      cases q2 : ρ0[i]? with
      | none => rw [q2] at e2; cases e2
      | some s => rw [q2] at e2; exact congrArg some e2
    exact absurd z ((clean_at h0 hi).2 k d)
  · rw [if_neg hi] at q
    exact ⟨hi, q⟩
/-- the reading of a comprehension by its meaning -/
theorem lc_rd {c' : Cxs} (hK : c'.K = c.K) (hmg : c'.mg = c.mg) {vs : List Nat} (hgs : ∀ v ∈ gs, v ∈ vs) {B : Bs} {W : WX} {σ : L2.St} {H : Hp} {Q : VK} (h : rdN c B W (compN vs mi g t e) σ H Q) :
    tLc (rdI c B W mi) (exG c' gs g) (exT c' t) (exE c' e) vs σ H Q := by
  obtain ⟨ρ, F, S, q⟩ := h
  refine ⟨ρ, F, S, q.seq.imp fun ds ρ1 H1 F1 e1 S1 q1 J wk Dl hD => ?_⟩
  split at q1
  case isFalse => exact (show False from q1).elim
  rename_i hcl
  have hl1 : ∀ v ∈ vs, v < σ.length := fun v hv => by rw [← S1.len]; exact (clean_at hcl hv).1
  have h0 : B.H0 Dl = none := S1.free0 hD
  have hP : ∀ p ∈ B.P, p.1 ≠ Dl := fun p hp z => by
    obtain ⟨h1, _⟩ := S1.prot p hp
    rw [z, hD] at h1
    cases h1
  have hcel : ∀ (i : Nat) (k : Bool) (d : D), ρ1[i]? = some (.cel k d) → σ[i]? ≠ some (some (.ref Dl)) := fun i k d hi hs => by
    obtain ⟨a, h1, _, ct, _⟩ := S1.cel i k d hi
    rw [h1] at hs
    cases hs
    obtain ⟨o, ho⟩ := ct.some
    rw [hD] at ho
    cases ho
  have Sw : SOk c.K c.mg { B with P := (Dl, .lst []) :: B.P } (wipeL vs ρ1) (wipe σ vs) (upd H1 Dl (.lst [])) F1 := ((S1.allocH hD).watch (S1.freeF hD) upd_same hcel).wipe hcl
  have fin : ∃ acc ρ', compGo vs g t e ds [] (wipeL vs ρ1) = .ok acc ρ' ∧ clean vs ρ' = true ∧ okR c B W σ F1 (fun d ρ' H' F' => ∀ a, F' a = none → Cont c.K c.mg F' H' a d → B.H0 a = none → (∀ p ∈ B.P, p.1 ≠ a) → (∀ (i : Nat) (k : Bool) (e : D), ρ'[i]? = some (.cel k e) → σ[i]? ≠ some (some (.ref a))) → Q (.ref a) H') (.ok (.lst acc) (backL ρ1 vs ρ')) := by
    split at q1
    · rename_i acc ρ' ec
      split at q1
      · rename_i hc2
        exact ⟨acc, ρ', ec, hc2, q1⟩
      · exact (show False from q1).elim
    · exact (show False from q1).elim
  obtain ⟨accf, ρf, ef, hcf, qf⟩ := fin
  refine ⟨fun i m H => m = ds.length - i ∧ i ≤ ds.length ∧ ∃ ρ F acc xs, Same F1 F ∧ Rps c.K c.mg F acc xs ∧ SOk c.K c.mg { B with P := (Dl, .lst xs) :: B.P } ρ (wipe σ vs) H F ∧ compGo vs g t e (ds.drop i) acc ρ = .ok accf ρf,
    ⟨_, rfl, Nat.zero_le _, _, F1, [], [], Same.refl _, .nil, Sw, by simpa using ef⟩, ?_⟩
  rintro i m H2 ⟨rfl, hi, ρ2, F2, acc, xs, e2, rx, S2, q2⟩
  obtain ⟨w1, w2, w3⟩ := wk _ ρ2 _ H2 F2 e2 S2
  by_cases hlt : i < ds.length
  · refine .inr ⟨w1 i hlt, fun H' => ∃ ρ F acc xs, Same F1 F ∧ Rps c.K c.mg F acc xs ∧ SOk c.K c.mg { B with P := (Dl, .lst xs) :: B.P } ρ (wipe σ vs) H' F ∧ compGo vs g t e (ds.drop (i + 1)) acc ρ = .ok accf ρf,
      fun H' p => ⟨ds.length - (i + 1), by omega, rfl, hlt, p⟩, fun x H' hy => ?_⟩
    obtain ⟨F3, e3, S3, r3⟩ := w3 i _ x H' (List.getElem?_eq_getElem hlt) hy
    rw [List.drop_eq_getElem_cons hlt] at q2
    unfold compGo at q2
    obtain ⟨_, ρ4, g4, q4⟩ := bnd_ok q2
    obtain ⟨b, ρ5, t5, q5⟩ := bnd_ok q4
    refine ⟨{ B with P := (Dl, .lst xs) :: B.P }, ρ2, F3, ds[i], by rw [hK, hmg]; exact S3, by rw [hK, hmg]; exact r3, ?_⟩
    rw [g4]
    intro σ4 H4 F4 e4 o4 S4
    rw [hK, hmg] at S4
    have ow : Out vs (wipe σ vs) σ4 := ⟨o4.1, fun j hj => o4.2 j fun z => hj (hgs j z)⟩
    have hw : wipe σ4 vs = wipe σ vs := wipe_out_eq ow hl1
    refine ⟨hw, { B with P := (Dl, .lst xs) :: B.P }, ρ4, F4, by rw [hK, hmg]; exact S4, ?_⟩
    rw [t5]
    intro H5 F5 e5 S5
    rw [hK, hmg] at S5
    cases b with
    | false =>
      refine iteF ?_
      rw [if_neg Bool.false_ne_true] at q5
      split at q5
      · rename_i hc5
        refine ⟨_, F5, acc, xs, ((e2.trans e3).trans e4).trans e5, Rps.mono ((e3.trans e4).trans e5) _ _ rx, ?_, q5⟩
        rw [← hw]
        exact S5.wipe hc5
      · cases q5
    | true =>
      rw [if_pos rfl] at q5
      obtain ⟨a, ρ6, a6, q6⟩ := bnd_ok q5
      obtain ⟨z, ρ7, z7, q7⟩ := bnd_ok q6
      refine iteT ⟨{ B with P := (Dl, .lst xs) :: B.P }, ρ5, F5, by rw [hK, hmg]; exact S5, ?_⟩
      rw [a6]
      intro H6 F6 e6 S6 v r6
      rw [hK, hmg] at S6 r6
      obtain ⟨F7, e7, S7, r7⟩ := frz_ok S6 r6 z7
      split at q7
      · rename_i hc7
        obtain ⟨_, _, hD7, _⟩ := S7.unwatch
        have er := ((((e3.trans e4).trans e5).trans e6).trans e7)
        refine ⟨xs, hD7, by rw [← rx.length]; exact hc7.2, wipeL vs ρ7, F7, acc ++ [z], xs ++ [v], e2.trans er, (Rps.mono er _ _ rx).append (.cons r7 .nil), ?_, q7⟩
        rw [← hw]
        exact (S7.rewatch h0 hP).wipe hc7.1
      · cases q7
  · have ei : i = ds.length := by omega
    subst ei
    refine .inl ⟨w2 _ (Nat.le_refl _), ?_⟩
    rw [List.drop_length] at q2
    cases q2
    obtain ⟨S3, hF3, hD3, hs3⟩ := S2.unwatch
    have Sb := SOk.back S1 hcl e2 S3 hcf
    refine qf H2 F2 e2 Sb Dl hF3 (.lst hD3 rx) h0 hP fun i k d hi hs => ?_
    obtain ⟨ni, hi'⟩ := backL_len hcl hcf hi
    refine hs3 i k d hi' ?_
    rw [wipe_get (hl1 i), if_neg ni]
    exact hs
theorem blk_ok {c : Cxs} {X : Cx} (hX : XF c X) (hb : blkC c.N c.sc scope own = true) : BlkOk X.N X.env.scope scope own := by
  rw [hX.N, hX.sc]
  exact blkOk_by hb
theorem en_comp {gs : List Nat} (hi : EvI c tg iter mi) (hb : blkC c.N c.sc scope own = true) (hg : EvG (c.blk scope) tg gs g) (ht : EvTs (c.blk scope) ifs t) (he : EvE (c.blk scope) elt e) (hgs : (gs.all fun v => decide (v ∈ own.map (·.2))) = true := by rfl) (hc : c.calm = true := by rfl)
    (hs : noSet iter = true := by rfl) : EvN c (.ListComp elt [⟨tg, iter, ifs, 0⟩] scope pos) (compN (own.map (·.2)) mi g t e) := fun X hX B W tk =>
  PE.imp (pe_lc (hX.calm hc) (by rw [hX.N]; exact hX.nd) (hi X hX B W tk) (blk_ok hX hb) (fun _ _ _ _ _ => hg.ex hX.blk) (fun _ _ _ _ _ => ht.ex hX.blk) (fun _ _ _ _ _ => he.ex hX.blk) fun _ => fold_plain hs) fun σ H Q h =>
    lc_rd (c' := c.blk scope) rfl rfl (fun v hv => of_decide_eq_true (List.all_eq_true.mp hgs v hv)) h
/-- y = [..] on one line: y changes, or does not -/
theorem es_comp (i : Nat) {y : Str} {py spos : Pos} {gs : List Nat} (hi : EvI c tg iter mi) (hb : blkC c.N c.sc scope own = true) (hg : EvG (c.blk scope) tg gs g) (ht : EvTs (c.blk scope) ifs t) (he : EvE (c.blk scope) elt e) (hcm : cmB c.N c.sc scope i y = true) (hgs : (gs.all fun v => decide (v ∈ own.map (·.2))) = true := by rfl) (hc : c.calm = true := by rfl) (hl : (py.line == pos.line) = true := by rfl) (hs : noSet iter = true := by rfl) : EvS c (.Assign [.Name y py] (.ListComp elt [⟨tg, iter, ifs, 0⟩] scope pos) spos) (asgS i (newA (compN (own.map (·.2)) mi g t e))) := fun X hX B W tk => by
  obtain ⟨hy, hyl, hk, ha⟩ := cmB_ok hcm
  refine PS.imp (ps_setLc (i := i) (hX.calm hc) (by rw [hX.N]; exact hX.nd) (by rw [hX.N]; exact hy) (by rw [hX.sc]; exact hyl) (sw_true (by rw [hX.sc]; exact hk) (by rw [hX.sc]; exact hyl) hl ha) (hi X hX B W tk) (blk_ok hX hb) (fun _ _ _ _ _ => hg.ex hX.blk) (fun _ _ _ _ _ => ht.ex hX.blk) (fun _ _ _ _ _ => he.ex hX.blk) fun _ => fold_plain hs) ?_
  rintro E σ H ⟨ρ, F, S, q⟩
  refine lc_rd (c' := c.blk scope) rfl rfl (fun v hv => of_decide_eq_true (List.all_eq_true.mp hgs v hv)) (B := B) (W := W) ⟨ρ, F, S, ?_⟩
  have q0 : okS c B W F E (bnd (compN (own.map (·.2)) mi g t e) (fun d => bnd (frz (.d d)) fun d => bnd (putV i d) fun _ => ret .next) ρ) := by
    unfold asgS newA at q
    rw [bnd_assoc] at q
    exact q
  refine q0.seq.imp fun d ρ1 H1 F1 e1 S1 q1 a hF hcn h0 hP hs => ?_
  obtain ⟨o, ho⟩ := hcn.some
  have e2 : Same F1 (upd F1 a o) := Same.upd hF
  have S2 := S1.fix hF ho h0 hs hP
  have q2 : okS c B W (upd F1 a o) E (bnd (putV i d) (fun _ => ret .next) ρ1) := okS.base e2 q1
  obtain ⟨S3, q3⟩ := okS.ptv S2 (hcn.rp e2 (by rw [upd_same, ho])) q2
  exact q3 _ H1 _ (Same.refl _) S3
theorem es_compN (i : Nat) {y : Str} {py spos : Pos} {gs : List Nat} (hi : EvI c tg iter mi) (hb : blkC c.N c.sc scope own = true) (hg : EvG (c.blk scope) tg gs g) (ht : EvTs (c.blk scope) ifs t) (he : EvE (c.blk scope) elt e) (hcm : cmB c.N c.sc scope i y = true) (hgs : (gs.all fun v => decide (v ∈ own.map (·.2))) = true := by rfl) (hc : c.calm = true := by rfl) (hl : (py.line == pos.line) = true := by rfl) (hs : noSet iter = true := by rfl) : EvS c (.Assign [.Name y py] (.ListComp elt [⟨tg, iter, ifs, 0⟩] scope pos) spos) (asgNS i (compN (own.map (·.2)) mi g t e)) := fun X hX B W tk => by
  obtain ⟨hy, hyl, hk, ha⟩ := cmB_ok hcm
  refine PS.imp (ps_setLc (i := i) (hX.calm hc) (by rw [hX.N]; exact hX.nd) (by rw [hX.N]; exact hy) (by rw [hX.sc]; exact hyl) (sw_true (by rw [hX.sc]; exact hk) (by rw [hX.sc]; exact hyl) hl ha) (hi X hX B W tk) (blk_ok hX hb) (fun _ _ _ _ _ => hg.ex hX.blk) (fun _ _ _ _ _ => ht.ex hX.blk) (fun _ _ _ _ _ => he.ex hX.blk) fun _ => fold_plain hs) ?_
  rintro E σ H ⟨ρ, F, S, q⟩
  refine lc_rd (c' := c.blk scope) rfl rfl (fun v hv => of_decide_eq_true (List.all_eq_true.mp hgs v hv)) (B := B) (W := W) ⟨ρ, F, S, ?_⟩
  have q0 : okS c B W F E (bnd (compN (own.map (·.2)) mi g t e) (fun d => bnd (putN i d) fun _ => ret .next) ρ) := q
  refine q0.seq.imp fun d ρ1 H1 F1 e1 S1 q1 a hF hcn h0 hP hs => ?_
  obtain ⟨S3, q3⟩ := okS.ptn S1 hF hcn h0 hP hs q1
  exact q3 _ H1 _ (Same.refl _) S3
end
end Mi

namespace Mi
open PySem PySem.Spec L2
/-! ### defs: what they promise, calls -/
inductive FRes where
  | ok (d out : D) | okn (d out : D) | err (c : Str) (ns : List Str) (vs : List D) (out : D) | bad
def ini (io : Option Nat) : Nat → List D → List Sl
  | _, [] => []
  | i, d :: ds => (if io = some i then .cel true d else .val d) :: ini io (i + 1) ds
def outOf (io : Option Nat) (ρ : List Sl) : D := match io with
  | none => .non
  | some i => (cellAt ρ i).getD .non
def runDef (io : Option Nat) (n : Nat) (m : M Fw) (ds : List D) : FRes := match m (ini io 0 ds ++ List.replicate (n - ds.length) .nil) with
  | .ok .next ρ => .ok .non (outOf io ρ)
  | .ok (.ret d) ρ => .ok d (outOf io ρ)
  | .ok (.retn d) ρ => .okn d (outOf io ρ)
  | .err c ns vs ρ => .err c ns vs (outOf io ρ)
  | _ => .bad
structure ArgsR (K : PySem.W.Frag) (mg : Str → Option Value) (F H : Hp) (io : Option Nat) (ds : List D) (vs : List V) : Prop where
  len : ds.length = vs.length
  at_ : ∀ (i : Nat) (d : D), ds[i]? = some d → ∃ v, vs[i]? = some v ∧ (io ≠ some i → Rp K mg F d v) ∧ (io = some i → ∃ a, v = .ref a ∧ F a = none ∧ Cont K mg F H a d)
structure Post (K : PySem.W.Frag) (mg : Str → Option Value) (F H : Hp) (io : Option Nat) (vs : List V) (out : D) (F' H' : Hp) : Prop where
  base : Same F F'
  sub : Same F' H'
  new : ∀ b, F' b ≠ none → F b ≠ none ∨ H b = none
  keep : ∀ b o, H b = some o → (∀ i, io = some i → vs[i]? ≠ some (.ref b)) → H' b = some o
  io : ∀ i, io = some i → ∃ a, vs[i]? = some (.ref a) ∧ F' a = none ∧ Cont K mg F' H' a out
def spOf (K : PySem.W.Frag) (mg : Str → Option Value) (io : Option Nat) (np : Nat) (f : List D → FRes) : Sp := fun vs H Q E =>
  ∃ F ds, vs.length = np ∧ (∀ i, io = some i → i < np) ∧ Same F H ∧ ArgsR K mg F H io ds vs ∧ match f ds with
    | .ok d out => ∀ v H' F', Post K mg F H io vs out F' H' → Rp K mg F' d v → Q v H'
    | .okn d out => ∀ a H' F', Post K mg F H io vs out F' H' → F' a = none → H a = none → Cont K mg F' H' a d → Q (.ref a) H'
    | .err n ns es out => ∀ C dd H' F', Post K mg F H io vs out F' H' → ErrR K mg F' H' n ns es C dd → E C dd H'
    | .bad => False
theorem ini_get {io : Option Nat} : ∀ {ds : List D} {k i : Nat}, (ini io k ds)[i]? = (ds[i]?).map fun d => if io = some (k + i) then .cel true d else .val d
  | [], _, _ => by simp [ini]
  | d :: ds, k, 0 => by simp [ini]
  | d :: ds, k, i + 1 => by
    show (ini io (k + 1) ds)[i]? = _
    rw [ini_get]
    have e : k + 1 + i = k + (i + 1) := by omega
    rw [e]
    rfl
theorem ini_len {io : Option Nat} : ∀ {ds : List D} {k : Nat}, (ini io k ds).length = ds.length
  | [], _ => rfl
  | d :: ds, k => by simp [ini, ini_len]
theorem start_ok {K : PySem.W.Frag} {mg : Str → Option Value} {F H : Hp} {io : Option Nat} {ds : List D} {vs : List V} {N : List Str} (hs : Same F H) (r : ArgsR K mg F H io ds vs) (hl : vs.length ≤ N.length) (hio : ∀ i, io = some i → i < vs.length) :
    ∃ l : List (Nat × Addr), (∀ i a, (i, a) ∈ l ↔ io = some i ∧ vs[i]? = some (.ref a)) ∧ SOk K mg ⟨H, F, l, []⟩ (ini io 0 ds ++ List.replicate (N.length - ds.length) .nil) (L2.start N vs) H F := by
  have gρ : ∀ {i : Nat} {s : Sl}, (ini io 0 ds ++ List.replicate (N.length - ds.length) Sl.nil)[i]? = some s → s ≠ .nil → ∃ d, ds[i]? = some d ∧ s = if io = some i then .cel true d else .val d := fun {i s} e hn => by
    by_cases h : i < (ini io 0 ds).length
    · rw [List.getElem?_append_left h, ini_get] at e
      cases q : ds[i]? with
      | none => rw [q] at e; cases e
      | some d =>
        rw [q] at e
        refine ⟨d, rfl, ?_⟩
        have := Option.some.inj e
        rw [Nat.zero_add] at this
        exact this.symm
    · rw [List.getElem?_append_right (by omega)] at e
      have := List.mem_of_getElem? e
      rw [List.mem_replicate] at this
      exact absurd this.2 hn
  have gσ : ∀ {i : Nat} {v : V}, vs[i]? = some v → (L2.start N vs)[i]? = some (some v) := fun {i v} e => by
    have hi := (List.getElem?_eq_some_iff.mp e).1
    unfold L2.start
    rw [List.getElem?_append_left (by simpa using hi), List.getElem?_map, e]
    rfl
  have lex : ∃ l : List (Nat × Addr), ∀ i a, (i, a) ∈ l ↔ io = some i ∧ vs[i]? = some (.ref a) := by
    cases io with
    | none => exact ⟨[], fun i a => by simp⟩
    | some j =>
      have hj := hio j rfl
      have hd : j < ds.length := by rw [r.len]; exact hj
      obtain ⟨v, h1, _, h3⟩ := r.at_ j _ (List.getElem?_eq_getElem hd)
      obtain ⟨a, rfl, _⟩ := h3 rfl
      refine ⟨[(j, a)], fun i b => ?_⟩
      simp only [List.mem_singleton, Prod.mk.injEq, Option.some.injEq]
      constructor
      · rintro ⟨rfl, rfl⟩
        exact ⟨rfl, h1⟩
      · rintro ⟨rfl, h⟩
        rw [h1] at h
        cases h
        exact ⟨rfl, rfl⟩
  obtain ⟨l, hl'⟩ := lex
  have lenS : (L2.start N vs).length = N.length := by
    unfold L2.start
    rw [List.length_append, List.length_map, List.length_replicate]
    omega
  refine ⟨l, hl', ?_, fun i d e => ?_, fun i k d e => ?_, fun i j k k' d e a h1 h2 h3 h4 => ?_, hs, Same.refl _, fun b e => .inl e, fun b o e _ => e, fun i a e => ?_, fun p hp => by cases hp⟩
  · rw [List.length_append, ini_len, List.length_replicate, lenS, r.len]
    omega
  · obtain ⟨d', h1, h2⟩ := gρ e (by intro z; cases z)
    split at h2
    · cases h2
    · rename_i hne
      cases h2
      obtain ⟨v, h3, h4, _⟩ := r.at_ i _ h1
      exact ⟨v, gσ h3, h4 hne⟩
  · obtain ⟨d', h1, h2⟩ := gρ e (by intro z; cases z)
    split at h2
    · rename_i he
      cases h2
      obtain ⟨v, h3, _, h4⟩ := r.at_ i _ h1
      obtain ⟨a, rfl, h5, h6⟩ := h4 he
      exact ⟨a, gσ h3, h5, h6, fun _ => (hl' i a).mpr ⟨he, h3⟩, (fun z => nomatch z), (fun p hp => nomatch hp)⟩
    · cases h2
  · obtain ⟨d1, e1, e2⟩ := gρ h1 (by intro z; cases z)
    obtain ⟨d2, e3, e4⟩ := gρ h2 (by intro z; cases z)
    split at e2
    · rename_i q1
      split at e4
      · rename_i q2
        rw [q1] at q2
        exact Option.some.inj q2
      · cases e4
    · cases e2
  · obtain ⟨h1, h2⟩ := (hl' i a).mp e
    refine ⟨gσ h2, ?_⟩
    have hi : i < ds.length := by rw [r.len]; exact (List.getElem?_eq_some_iff.mp h2).1
    refine ⟨ds[i], ?_⟩
    rw [List.getElem?_append_left (by rw [ini_len]; exact hi), ini_get, List.getElem?_eq_getElem hi]
    rw [Nat.zero_add, h1]
    simp
theorem post_of {K : PySem.W.Frag} {mg : Str → Option Value} {F H F' H' : Hp} {io : Option Nat} {vs : List V} {l : List (Nat × Addr)} {ρ' : List Sl} {σ' : L2.St} (hl : ∀ i a, (i, a) ∈ l ↔ io = some i ∧ vs[i]? = some (.ref a)) (hio : ∀ i, io = some i → ∃ a, vs[i]? = some (.ref a))
    (S : SOk K mg ⟨H, F, l, []⟩ ρ' σ' H' F') : Post K mg F H io vs (outOf io ρ') F' H' := by
  refine ⟨S.base, S.sub, S.new, fun b o e h => S.keep b o e fun i hi => ?_, fun i hi => ?_⟩
  · obtain ⟨h1, h2⟩ := (hl i b).mp hi
    exact h i h1 h2
  · obtain ⟨a, ha⟩ := hio i hi
    obtain ⟨h1, d, h2⟩ := S.ios i a ((hl i a).mpr ⟨hi, ha⟩)
    obtain ⟨b, h3, h4, h5, _⟩ := S.cel i true d h2
    rw [h1] at h3
    cases h3
    refine ⟨a, ha, h4, ?_⟩
    rw [hi]
    show Cont K mg F' H' a ((cellAt ρ' i).getD .non)
    unfold cellAt
    rw [h2]
    exact h5
section
variable {P : Program} {w : World} {K : PySem.W.Frag} {mg : Str → Option Value} {base : Heap} {x qual : Str} {params : Arguments} {body : List Stmt} {scope : Scope} {dvs : List V} {kws : List (Str × V)} {f : Addr} {fd : FuncData} {N ps : List Str} {k : Nat} {m : M Fw} {io : Option Nat}
abbrev cxs (P : Program) (w : World) (K : PySem.W.Frag) (mg : Str → Option Value) (base : Heap) (k : Nat) (N : List Str) (sc : Scope) : Cxs := ⟨P, w, K, mg, base, k, N, sc, true, none⟩
/-- THE RULE for a def: its body's meaning is its promise -/
theorem def_ok (F : FunD K x qual params body scope dvs kws f fd) (S : FnScope N ps scope) (h : EvB (cxs P w K mg base k N scope) body m) (hp : ps.length ≤ N.length := by decide) :
    FnOk P w K mg base (L2.CX P w) (k + 1) f fd ps (spOf K mg io ps.length (runDef io N.length m)) := by
  refine F.ok S (fun vs H Q E ⟨_, _, e, _⟩ => e) fun cdv A outer s H vs Q E hr hsp => ?_
  obtain ⟨F0, ds, hvl, hio, hs, ar, q⟩ := hsp
  have hX : XF (cxs P w K mg base k N scope) (cxOf (L2.CX P w) P w K mg base N qual scope f cdv A outer s H E) := {
    prog := rfl, w := rfl, K := rfl, mg := rfl, base := rfl, room := hr, N := rfl, sc := rfl, calm := fun _ => rfl, nd := S.nd, fn := fun _ _ _ => .inl rfl, pass := passes_of rfl }
  have tk : Takes (cxOf (L2.CX P w) P w K mg base N qual scope f cdv A outer s H E) (fun cls d _ H => E cls d H) := takes_of rfl rfl rfl rfl
  obtain ⟨l, hl, S0⟩ := start_ok (N := N) hs ar (by rw [hvl]; exact hp) (fun i hi => by rw [hvl]; exact hio i hi)
  have hio' : ∀ i, io = some i → ∃ a, vs[i]? = some (.ref a) := fun i hi => by
    have h1 := hio i hi
    have hd : i < ds.length := by rw [ar.len, hvl]; exact h1
    obtain ⟨v, h2, _, h3⟩ := ar.at_ i _ (List.getElem?_eq_getElem hd)
    obtain ⟨a, rfl, _⟩ := h3 hi
    exact ⟨a, h2⟩
  refine ⟨_, h _ hX ⟨H, F0, l, []⟩ _ tk, _, F0, S0, ?_⟩
  unfold runDef at q
  cases hm : m (ini io 0 ds ++ List.replicate (N.length - ds.length) .nil) with
  | ok fl ρ' =>
    rw [hm] at q
    intro σ' H' F' e S1
    have po := post_of hl hio' S1
    cases fl with
    | next => exact q _ H' F' po .non
    | brk => exact q.elim
    | cont => exact q.elim
    | ret d => exact fun v r => q v H' F' po r
    | retn d => exact fun a h1 h2 h3 => q a H' F' po h1 h3 h2
  | err n ns vs' ρ' =>
    rw [hm] at q
    exact fun σ' C d H' F' e S1 er => q C d H' F' (post_of hl hio' S1) er
  | bad =>
    rw [hm] at q
    exact q
end
/-! ### calls of defs -/
/-- all but the i-th argument fixed -/
def frzX : Nat → List A → M (List D)
  | _, [] => ret []
  | 0, _ :: xs => bnd (frzs xs) fun ds => ret (.non :: ds)
  | i + 1, x :: xs => bnd (frz x) fun d => bnd (frzX i xs) fun ds => ret (d :: ds)
def callP (f : List D → FRes) (ms : M (List A)) : M A := bnd ms fun as => bnd (frzs as) fun ds => fun ρ => match f ds with
  | .ok d _ => .ok (.d d) ρ
  | .err n ns vs _ => .err n ns vs ρ
  | _ => .bad
def callPN (f : List D → FRes) (ms : M (List A)) : M D := bnd ms fun as => bnd (frzs as) fun ds => fun ρ => match f ds with
  | .okn d _ => .ok d ρ
  | .err n ns vs _ => .err n ns vs ρ
  | _ => .bad
/-- the i-th argument is a changing object that the def may change -/
def ioSet (i : Nat) (as : List A) (ds : List D) (ρ : List Sl) : Option (Nat × List D) := match as[i]? with
  | some (.slot s) => (match cellAt ρ s with
    | some d => some (s, ds.set i d)
    | none => none)
  | _ => none
def callI (i : Nat) (f : List D → FRes) (ms : M (List A)) : M A := bnd ms fun as => bnd (frzX i as) fun ds => fun ρ => match ioSet i as ds ρ with
  | some (s, es) => (match f es with
    | .ok d out => .ok (.d d) (putCell ρ s out)
    | .err n ns vs out => .err n ns vs (putCell ρ s out)
    | _ => .bad)
  | none => .bad
def callIN (i : Nat) (f : List D → FRes) (ms : M (List A)) : M D := bnd ms fun as => bnd (frzX i as) fun ds => fun ρ => match ioSet i as ds ρ with
  | some (s, es) => (match f es with
    | .okn d out => .ok d (putCell ρ s out)
    | .err n ns vs out => .err n ns vs (putCell ρ s out)
    | _ => .bad)
  | none => .bad
section
variable {K : PySem.W.Frag} {mg : Str → Option Value} {F H F' H' : Hp} {B : Bs} {ρ : List Sl} {σ : L2.St} {vs : List V} {ds : List D} {out : D}
/-- the caller's state behind a call that changed nothing of his -/
theorem SOk.afterP (S : SOk K mg B ρ σ H F) (p : Post K mg F H none vs out F' H') : SOk K mg B ρ σ H' F' := by
  have kp : ∀ b o, H b = some o → H' b = some o := fun b o e => p.keep b o e fun i hi => by cases hi
  have nf : ∀ b o, H b = some o → F b = none → F' b = none := fun b o e n => by
    cases q : F' b with
    | none => rfl
    | some u =>
      rcases p.new b (by rw [q]; exact fun z => by cases z) with z | z
      · exact absurd n z
      · rw [e] at z; cases z
  refine ⟨S.len, fun i d e => ?_, fun i k d e => ?_, S.sep, p.sub, S.base.trans p.base, fun b e => ?_, fun b o e h => kp b o (S.keep b o e h), S.ios, fun q hq => ?_⟩
  · obtain ⟨v, h1, r⟩ := S.val i d e
    exact ⟨v, h1, Rp.mono p.base _ _ r⟩
  · obtain ⟨a, h1, h2, c, h3⟩ := S.cel i k d e
    obtain ⟨o, ho⟩ := c.some
    exact ⟨a, h1, nf a o ho h2, c.mono p.base (by rw [kp a o ho, ho]), h3⟩
  · rcases p.new b e with z | z
    · exact S.new b z
    · exact .inr (S.free0 z)
  · obtain ⟨h1, h2⟩ := S.prot q hq
    exact ⟨kp _ _ h1, nf _ _ h1 h2⟩
/-- .. that changed what slot s holds -/
theorem SOk.afterI {i s : Nat} {k : Bool} {d : D} {a : Addr} (S : SOk K mg B ρ σ H F) (hs : ρ[s]? = some (.cel k d)) (ha : σ[s]? = some (some (.ref a))) (hv : vs[i]? = some (.ref a)) (p : Post K mg F H (some i) vs out F' H') : SOk K mg B (ρ.set s (.cel k out)) σ H' F' := by
  have hl : s < ρ.length := (List.getElem?_eq_some_iff.mp hs).1
  have kp : ∀ b o, b ≠ a → H b = some o → H' b = some o := fun b o nb e => p.keep b o e fun j hj => by
    cases hj
    rw [hv]
    intro z
    cases z
    exact nb rfl
  have nf : ∀ b o, H b = some o → F b = none → F' b = none := fun b o e n => by
    cases q : F' b with
    | none => rfl
    | some u =>
      rcases p.new b (by rw [q]; exact fun z => by cases z) with z | z
      · exact absurd n z
      · rw [e] at z; cases z
  obtain ⟨a', h1, hF, hc, hk1, hk2, hP⟩ := S.cel s k d hs
  rw [ha] at h1
  cases h1
  obtain ⟨o, ho⟩ := hc.some
  obtain ⟨a', h1', hF', hc'⟩ := p.io i rfl
  rw [hv] at h1'
  cases h1'
  have old : ∀ {t : Sl} (j : Nat) (l : Bool) (e : D), (ρ.set s t)[j]? = some (.cel l e) → ∃ l e, ρ[j]? = some (.cel l e) := fun {t} j l e q => by
    rcases set_get q with ⟨z1, z, _⟩ | ⟨nj, z⟩
    · exact ⟨_, _, by rw [z1]; exact hs⟩
    · exact ⟨_, _, z⟩
  refine ⟨by simpa using S.len, fun j e q => ?_, fun j l e q => ?_, fun j j' l l' e e' b q1 q2 q3 q4 => ?_, p.sub, S.base.trans p.base, fun b e => ?_, fun b u e h => ?_, fun j b e => ?_, fun q hq => ?_⟩
  · rcases set_get q with ⟨z1, z, _⟩ | ⟨nj, z⟩
    · cases z
    · obtain ⟨v, h1, r⟩ := S.val j e z
      exact ⟨v, h1, Rp.mono p.base _ _ r⟩
  · rcases set_get q with ⟨z1, z, _⟩ | ⟨nj, z⟩
    · cases z
      rw [z1]
      exact ⟨a, ha, hF', hc', hk1, hk2, hP⟩
    · obtain ⟨b, h1, h2, c, h3⟩ := S.cel j l e z
      have nb : b ≠ a := fun q => nj (S.sep j s _ _ _ _ a z hs (by rw [h1, q]) ha)
      obtain ⟨u, hu⟩ := c.some
      exact ⟨b, h1, nf b u hu h2, c.mono p.base (by rw [kp b u nb hu, hu]), h3⟩
  · obtain ⟨_, _, e1⟩ := old j _ _ q1
    obtain ⟨_, _, e2⟩ := old j' _ _ q2
    exact S.sep _ _ _ _ _ _ b e1 e2 q3 q4
  · rcases p.new b e with z | z
    · exact S.new b z
    · exact .inr (S.free0 z)
  · by_cases nb : b = a
    · subst nb
      cases k with
      | true => exact absurd (hk1 rfl) (h s)
      | false => rw [hk2 rfl] at e; cases e
    · exact kp b u nb (S.keep b u e h)
  · obtain ⟨h1, d', h2⟩ := S.ios j b e
    refine ⟨h1, ?_⟩
    by_cases q : j = s
    · subst q
      rw [hs] at h2
      cases h2
      exact ⟨_, List.getElem?_set_self hl⟩
    · exact ⟨d', by rw [List.getElem?_set_ne (Ne.symm q)]; exact h2⟩
  · obtain ⟨h1, h2⟩ := S.prot q hq
    exact ⟨kp _ _ (hP q hq) h1, nf _ _ h1 h2⟩
end
section
variable {c : Cxs} {B : Bs} {W : WX} {σ : L2.St} {H : Hp}
theorem okR.fzX {β : Type} {k : β → List Sl → Hp → Hp → Prop} : ∀ {i : Nat} {as : List A} {vs : List V} {f : List D → M β} {ρ : List Sl} {F : Hp}, SOk c.K c.mg B ρ σ H F → RpAs c.K c.mg F σ as vs → okR c B W σ F k (bnd (frzX i as) f ρ) →
    ∃ ds ρ' F', Same F F' ∧ SOk c.K c.mg B ρ' σ H F' ∧ ds.length = vs.length ∧ (∀ (j : Nat) (d : D), j ≠ i → ds[j]? = some d → ∃ v, vs[j]? = some v ∧ Rp c.K c.mg F' d v) ∧ okR c B W σ F' k (f ds ρ')
  | 0, [], _, f, ρ, F, S, .nil, h => ⟨[], ρ, F, Same.refl _, S, rfl, fun j d _ e => by simp at e, h⟩
  | _ + 1, [], _, f, ρ, F, S, .nil, h => ⟨[], ρ, F, Same.refl _, S, rfl, fun j d _ e => by simp at e, h⟩
  | 0, x :: xs, _, f, ρ, F, S, .cons r rs, h => by
    have h1 : okR c B W σ F k (bnd (frzs xs) (fun ds => f (.non :: ds)) ρ) := by
      have e : bnd (frzX 0 (x :: xs)) f ρ = bnd (frzs xs) (fun ds => f (.non :: ds)) ρ := by
        show bnd (bnd (frzs xs) fun ds => ret (.non :: ds)) f ρ = _
        rw [bnd_assoc]
        rfl
      rw [← e]; exact h
    obtain ⟨ds, ρ', F', e, S', rd, q⟩ := okR.fzs S rs h1
    refine ⟨.non :: ds, ρ', F', e, S', by simp [rd.length], fun j d hj hd => ?_, q⟩
    cases j with
    | zero => exact absurd rfl hj
    | succ j =>
      obtain ⟨v, h2, h3⟩ := rd.get (i := j) (by simpa using hd)
      exact ⟨v, by simpa using h2, h3⟩
  | i + 1, x :: xs, _, f, ρ, F, S, .cons r rs, h => by
    have h1 : okR c B W σ F k (bnd (frz x) (fun d => bnd (frzX i xs) fun ds => f (d :: ds)) ρ) := by
      have e : bnd (frzX (i + 1) (x :: xs)) f ρ = bnd (frz x) (fun d => bnd (frzX i xs) fun ds => f (d :: ds)) ρ := by
        show bnd (bnd (frz x) fun d => bnd (frzX i xs) fun ds => ret (d :: ds)) f ρ = _
        rw [bnd_assoc]
        simp only [bnd_assoc, ret_bnd]
      rw [← e]; exact h
    obtain ⟨d, ρ1, F1, e1, S1, rd, h2⟩ := h1.fz S r
    obtain ⟨ds, ρ2, F2, e2, S2, hl, rds, h3⟩ := okR.fzX S1 (RpAs.mono e1 rs) h2
    refine ⟨d :: ds, ρ2, F2, e1.trans e2, S2, by simp [hl], fun j d' hj hd => ?_, h3⟩
    cases j with
    | zero =>
      simp at hd
      subst hd
      exact ⟨_, rfl, Rp.mono e2 _ _ rd⟩
    | succ j =>
      obtain ⟨v, h4, h5⟩ := rds j d' (fun z => hj (by rw [z])) (by simpa using hd)
      exact ⟨v, by simpa using h4, h5⟩
theorem RpAs.get {K : PySem.W.Frag} {mg : Str → Option Value} {F : Hp} : ∀ {as : List A} {vs : List V} {i : Nat} {a : A}, RpAs K mg F σ as vs → as[i]? = some a → ∃ v, vs[i]? = some v ∧ RpA K mg F σ a v
  | [], _, _, _, .nil, e => by simp at e
  | x :: xs, _, 0, _, .cons r rs, e => by
    simp at e
    subst e
    exact ⟨_, rfl, r⟩
  | x :: xs, _, i + 1, _, .cons r rs, e => by
    obtain ⟨v, h1, h2⟩ := RpAs.get (i := i) rs (by simpa using e)
    exact ⟨v, by simpa using h1, h2⟩
theorem putCell_eq {ρ : List Sl} {s : Nat} {k : Bool} {d out : D} (h : ρ[s]? = some (.cel k d)) : putCell ρ s out = ρ.set s (.cel k out) := by
  unfold putCell
  rw [h]
/-- the promise's question at a call, by the call's meaning -/
theorem call_rdP {np : Nat} {f : List D → FRes} {ms : M (List A)} {ρ : List Sl} {F : Hp} {as : List A} {vs : List V} {Q : VK} (hnp : vs.length = np) (S : SOk c.K c.mg B ρ σ H F) (r : RpAs c.K c.mg F σ as vs)
    (q : okR c B W σ F (fun a _ H' F' => ∀ v, RpA c.K c.mg F' σ a v → Q v H') (bnd (frzs as) (fun ds => fun ρ => match f ds with
      | .ok d _ => .ok (.d d) ρ
      | .err n ns vs _ => .err n ns vs ρ
      | _ => .bad) ρ)) : spOf c.K c.mg none np f vs H Q (fun C d H => W C d σ H) := by
  obtain ⟨ds, ρ', F', e, S', rd, q1⟩ := okR.fzs S r q
  refine ⟨F', ds, hnp, (fun i hi => nomatch hi), S'.sub, ⟨rd.length, fun i d hd => ?_⟩, ?_⟩
  · obtain ⟨v, h1, h2⟩ := rd.get hd
    exact ⟨v, h1, fun _ => h2, (fun z => nomatch z)⟩
  · cases hf : f ds with
    | ok d out =>
      rw [hf] at q1
      exact fun v H2 F2 p rv => q1 H2 F2 p.base (S'.afterP p) v rv
    | okn d out =>
      rw [hf] at q1
      exact q1.elim
    | err n ns es out =>
      rw [hf] at q1
      exact fun C dd H2 F2 p er => q1 C dd H2 F2 p.base (S'.afterP p) er
    | bad =>
      rw [hf] at q1
      exact q1
theorem call_rdI {i np : Nat} {f : List D → FRes} {ρ : List Sl} {F : Hp} {as : List A} {vs : List V} {Q : VK} (hnp : vs.length = np) (S : SOk c.K c.mg B ρ σ H F) (r : RpAs c.K c.mg F σ as vs)
    (q : okR c B W σ F (fun a _ H' F' => ∀ v, RpA c.K c.mg F' σ a v → Q v H') (bnd (frzX i as) (fun ds => fun ρ => match ioSet i as ds ρ with
      | some (s, es) => (match f es with
        | .ok d out => .ok (.d d) (putCell ρ s out)
        | .err n ns vs out => .err n ns vs (putCell ρ s out)
        | _ => .bad)
      | none => .bad) ρ)) : spOf c.K c.mg (some i) np f vs H Q (fun C d H => W C d σ H) := by
  obtain ⟨ds, ρ', F', e, S', hl, rd, q1⟩ := okR.fzX S r q
  cases hi : ioSet i as ds ρ' with
  | none => rw [hi] at q1; exact q1.elim
  | some z =>
    obtain ⟨s, es⟩ := z
    rw [hi] at q1
    unfold ioSet at hi
    split at hi
    · rename_i s' ha
      split at hi
      · rename_i d hd
        cases hi
        obtain ⟨k, hk⟩ := cellAt_some hd
        obtain ⟨v, hv, rv⟩ := RpAs.get r ha
        have rv' : σ[s]? = some (some v) := rv
        obtain ⟨a, h1, h2, h3, h4⟩ := S'.cel s k d hk
        rw [h1] at rv'
        cases rv'
        have hiv : i < vs.length := (List.getElem?_eq_some_iff.mp hv).1
        have hid : i < ds.length := by rw [hl]; exact hiv
        refine ⟨F', ds.set i d, hnp, fun j hj => (by cases hj; rw [← hnp]; exact hiv), S'.sub, ⟨by rw [List.length_set]; exact hl, fun j d' hd' => ?_⟩, ?_⟩
        · rcases set_get hd' with ⟨z1, z, _⟩ | ⟨nj, z⟩
          · subst z1
            subst z
            exact ⟨.ref a, hv, fun z => absurd rfl z, fun _ => ⟨a, rfl, h2, h3⟩⟩
          · obtain ⟨v, h5, h6⟩ := rd j d' nj z
            exact ⟨v, h5, fun _ => h6, fun z => absurd (Option.some.inj z).symm nj⟩
        · cases hf : f (ds.set i d) with
          | ok d' out =>
            simp only [hf] at q1
            refine fun v H2 F2 p rv => q1 H2 F2 p.base ?_ v rv
            rw [putCell_eq hk]
            exact S'.afterI hk h1 hv p
          | okn d' out =>
            simp only [hf] at q1
            exact q1.elim
          | err n ns es out =>
            simp only [hf] at q1
            refine fun C dd H2 F2 p er => q1 C dd H2 F2 p.base ?_ er
            rw [putCell_eq hk]
            exact S'.afterI hk h1 hv p
          | bad =>
            simp only [hf] at q1
            exact q1
      · cases hi
    · cases hi
end
end Mi

namespace Mi
open PySem PySem.Spec L2
/-! ### calls by name -/
def pick {α : Type} (is : List Nat) (l : List α) : List α := is.filterMap fun i => l[i]?
def BndP (K : PySem.W.Frag) (fd : FuncData) (ps : List Str) (n : Nat) (ks : List Str) (is : List Nat) (dv : List V) : Prop :=
  ∃ its : List Value, Vals dv its ∧ ∀ (s : Shared) (us ws : List Value), K.In s.heap → us.length = n → ws.length = ks.length → BindsTo s fd ⟨us, ks.zip ws⟩ (ps.zip (pick is (us ++ ws ++ its)))
theorem pick_paired {α β : Type} {R : α → β → Prop} {is : List Nat} {as : List α} {bs : List β} (h : Paired R as bs) : Paired R (pick is as) (pick is bs) := by
  have at_ : ∀ {as : List α} {bs : List β} (i : Nat), Paired R as bs → (as[i]? = none ∧ bs[i]? = none) ∨ ∃ a b, as[i]? = some a ∧ bs[i]? = some b ∧ R a b := by
    intro as
    induction as with
    | nil =>
      intro bs i h
      cases h
      exact .inl ⟨by simp, by simp⟩
    | cons a as ih =>
      intro bs i h
      cases h with
      | cons r rs =>
        cases i with
        | zero => exact .inr ⟨_, _, rfl, rfl, r⟩
        | succ i =>
          rcases ih i rs with ⟨h1, h2⟩ | ⟨x, y, h1, h2, h3⟩
          · exact .inl ⟨by simpa using h1, by simpa using h2⟩
          · exact .inr ⟨x, y, by simpa using h1, by simpa using h2, h3⟩
  unfold pick
  induction is with
  | nil => exact .nil
  | cons i is ih =>
    rcases at_ i h with ⟨h1, h2⟩ | ⟨x, y, h1, h2, h3⟩
    · rw [List.filterMap_cons_none h1, List.filterMap_cons_none h2]
      exact ih
    · rw [List.filterMap_cons_some h1, List.filterMap_cons_some h2]
      exact .cons h3 ih
theorem Paired.app {α β : Type} {R : α → β → Prop} : ∀ {as cs : List α} {bs ds : List β}, Paired R as bs → Paired R cs ds → Paired R (as ++ cs) (bs ++ ds)
  | _, _, _, _, .nil, s => s
  | _, _, _, _, .cons h r, s => .cons h (Paired.app r s)
section
variable {K : PySem.W.Frag} {x qual : Str} {params : Arguments} {body : List Stmt} {scope : Scope} {dvs : List V} {kws : List (Str × V)} {f : Addr} {fd : FuncData} {ps ks : List Str} {n : Nat} {is : List Nat}
/-- no defaults -/
theorem bndP0 (F : FunD K x qual params body scope [] kws f fd)
    (h : ∀ (kV doc pm : Value) (an : Option Addr) (cdv ct : Value) (us ws : List Value), us.length = n → ws.length = ks.length → bindArgs (PySem.W.fnOf x qual params body scope .none kV doc pm an cdv ct) ⟨us, ks.zip ws⟩ = pure (ps.zip (pick is (us ++ ws)))) : BndP K fd ps n ks is [] := by
  obtain ⟨oc, od, dV, kV, doc, pm, an, cdv, ct, osl, rfl, lk, hcd, hD, hK⟩ := F.ex
  rcases hD with ⟨_, rfl⟩ | ⟨e, _⟩
  · refine ⟨[], .nil, fun s us ws X l1 l2 => ?_⟩
    rw [List.append_nil]
    exact .of_eq (h kV doc pm an cdv ct us ws l1 l2)
  · exact absurd rfl e
/-- with defaults -/
theorem bndP1 (F : FunD K x qual params body scope dvs kws f fd) (hd : dvs ≠ [])
    (h : ∀ (T : Addr) (kV doc pm : Value) (an : Option Addr) (cdv ct : Value) (us its ws : List Value), us.length = n → its.length = dvs.length → ws.length = ks.length →
      ∃ k, bindArgs (PySem.W.fnOf x qual params body scope (.ref T) kV doc pm an cdv ct) ⟨us, ks.zip ws⟩ = seqItems? (.ref T) >>= k ∧ k (some its.toArray) = pure (ps.zip (pick is (us ++ ws ++ its)))) : BndP K fd ps n ks is dvs := by
  obtain ⟨oc, od, dV, kV, doc, pm, an, cdv, ct, osl, rfl, lk, hcd, hD, hK⟩ := F.ex
  rcases hD with ⟨e, _⟩ | ⟨_, T, o, its, m, rfl, lT, oT, rT⟩
  · exact absurd e hd
  · refine ⟨its, rT, fun s us ws X l1 l2 => ?_⟩
    obtain ⟨k, e1, e2⟩ := h T kV doc pm an cdv ct us its ws l1 rT.length.symm l2
    refine BindsTo.of_looks fun M => ?_
    rw [e1]
    exact looks_items X lT oT (.of_pure e2)
end
def EvKs (c : Cxs) (kws : List Keyword) (m : M (List A)) : Prop := ∀ X, XF c X → ∀ B W, Takes X W → PK X kws (rdA c B W m)
theorem PK.imp {X : Cx} {kws : List Keyword} {t t' : TA} (h : PK X kws t) (i : ∀ σ H Q, t' σ H Q → t σ H Q) : PK X kws t' := ⟨fun pos pins s σ H Q I q => h.run pos pins s σ H Q I (i _ _ _ q)⟩
def argsM (np n m : Nat) (is : List Nat) (dd : List D) (ms mk : M (List A)) : M (List A) := bnd ms fun as => bnd mk fun zs => if as.length = n ∧ zs.length = m ∧ (pick is (as ++ zs ++ dd.map A.d)).length = np then ret (pick is (as ++ zs ++ dd.map A.d)) else bad
section
variable {c : Cxs} {e : Expr} {m : M A} {kws : List Keyword} {mk ms : M (List A)} {nm : Option Str} {kpos : Pos}
theorem ek_nil : EvKs c [] asNil := fun X hX B W tk => by
  refine PK.imp pk_nil ?_
  rintro σ H Q ⟨ρ, F, S, q⟩
  exact q H F (Same.refl _) S _ .nil
theorem ek_cons (h : EvE c e m) (r : EvKs c kws mk) : EvKs c (⟨nm, e, kpos⟩ :: kws) (asCons m mk) := fun X hX B W tk => by
  refine PK.imp (pk_cons (h X hX B W tk) (r X hX B W tk)) ?_
  rintro σ H Q ⟨ρ, F, S, q⟩
  refine ⟨ρ, F, S, q.seq.imp fun x ρ1 H1 F1 e1 S1 q1 v r1 => ⟨ρ1, F1, S1, q1.seq.imp fun xs ρ2 H2 F2 e2 S2 q2 vs r2 => q2 H2 F2 (Same.refl _) S2 _ (.cons (RpA.mono e2 r1) r2)⟩⟩
theorem Paired.len {α β : Type} {R : α → β → Prop} : ∀ {as : List α} {bs : List β}, Paired R as bs → as.length = bs.length
  | _, _, .nil => rfl
  | _, _, .cons _ r => congrArg Nat.succ (Paired.len r)
/-- the weakest question of a call: values in the parameters' order -/
def tCallG (sp : Sp) (n m : Nat) (is : List Nat) (dv : List V) (E : L2.St → XK) (t tk : TA) : TE := fun σ H Q => t σ H fun vs H1 => tk σ H1 fun zs H2 => vs.length = n ∧ zs.length = m ∧ sp (pick is (vs ++ zs ++ dv)) H2 Q (E σ)
variable {X : Cx} {k n : Nat} {f : Addr} {fd : FuncData} {ps ks : List Str} {is : List Nat} {dv : List V} {sp : Sp} {E : L2.St → XK} {x : Str} {p pos : Pos} {es : List Expr} {t tk : TA}
theorem run_fnG {pins : List (Addr × Obj)} {σ : L2.St} {H : Hp} {s : Shared} {Q : VK} {us ws : List Value} {vs zs : List V} (F : FnOk X.prog X.w X.K X.mg X.base (L2.CX X.prog X.w) k f fd ps sp) (hr : Room k X.A) (hb : BndP X.K fd ps n ks is dv) (hx : PassesAt (L2.CX X.prog X.w) X σ (E σ))
    (I : Inv X pins σ H s) (r : Vals vs us) (rz : Vals zs ws) (l1 : vs.length = n) (l2 : zs.length = ks.length) (h : sp (pick is (vs ++ zs ++ dv)) H Q (E σ)) : wpAny (model X.prog X.w) X.A (call (.ref f) us (ks.zip ws)) (EP X pins σ Q) X.xe s := by
  obtain ⟨its, hd, hb⟩ := hb
  have r2 : Vals (pick is (vs ++ zs ++ dv)) (pick is (us ++ ws ++ its)) := pick_paired ((r.append rz).append hd)
  refine wpAny_call (codeAny_mono (F.run X.A X.stack s H ⟨us, ks.zip ws⟩ _ _ Q (E σ) hr I.env0 (hb s us ws I.kIn (r.length.symm.trans l1) (rz.length.symm.trans l2)) r2 h) fun r s' hq => ?_)
  cases r with
  | error e => exact hx pins H s e s' I hq
  | ok fl =>
    cases fl with
    | ret u => exact I.after hq
    | next => exact False.elim hq
    | brk => exact False.elim hq
    | cont => exact False.elim hq
theorem pe_callG (F : FnOk X.prog X.w X.K X.mg X.base (L2.CX X.prog X.w) k f fd ps sp) (hr : Room k X.A) (hg : Gl X x) (hm : X.mg x = some (.ref f)) (hk : PySem.W.keepIn X.K (.ref f) = true) (hb : BndP X.K fd ps n [] is dv) (hx : ∀ σ, PassesAt (L2.CX X.prog X.w) X σ (E σ))
    (ha : PA X (e :: es) t) (hdb : (x == ("__debug__" : Str)) = false := by decide) (he : starEach (e :: es) X.env = (false, eval e X.env) :: starEach es X.env := by rfl) (hpl : (backTo pos (starEach es X.env)).any (·.1) = false := by rfl) :
    PE X (.Call (.Name x p) (e :: es) [] pos) (tCallG sp n 0 is dv E t tNil) := by
  refine ⟨fun pins s σ H Q I h => ?_⟩
  refine wpAny_Call_Name_kw (ld_glob I hg hm ?_ hdb)
  refine PySem.W.callWith_K (h₀ := X.base) I.ok.mod.kin hk (thn (ha.run pos pins s σ H _ I h) fun us s1 ⟨vs, H1, I1, r, q⟩ => ⟨I1.kIn, ?_⟩) he hpl
  obtain ⟨l1, l2, q⟩ := q
  exact run_fnG (ks := []) (ws := []) (zs := []) F hr hb (hx σ) I1 r .nil l1 rfl q
theorem pe_callG0 (F : FnOk X.prog X.w X.K X.mg X.base (L2.CX X.prog X.w) k f fd ps sp) (hr : Room k X.A) (hg : Gl X x) (hm : X.mg x = some (.ref f)) (hk : PySem.W.keepIn X.K (.ref f) = true) (hb : BndP X.K fd ps 0 [] is dv) (hx : ∀ σ, PassesAt (L2.CX X.prog X.w) X σ (E σ))
    (hdb : (x == ("__debug__" : Str)) = false := by decide) : PE X (.Call (.Name x p) [] [] pos) (tCallG sp 0 0 is dv E tNil tNil) := by
  refine ⟨fun pins s σ H Q I h => ?_⟩
  refine wpAny_Call_Name_kw (ld_glob I hg hm ?_ hdb)
  obtain ⟨l1, l2, q⟩ := h
  exact PySem.W.callWith_K0 I.kIn hk (run_fnG (us := []) (ks := []) (ws := []) (zs := []) F hr hb (hx σ) I .nil .nil l1 rfl q)
theorem pe_callGK (F : FnOk X.prog X.w X.K X.mg X.base (L2.CX X.prog X.w) k f fd ps sp) (hr : Room k X.A) (hg : Gl X x) (hm : X.mg x = some (.ref f)) (hk : PySem.W.keepIn X.K (.ref f) = true) (hb : BndP X.K fd ps n ks is dv) (hx : ∀ σ, PassesAt (L2.CX X.prog X.w) X σ (E σ))
    (ha : PA X (e :: es) t) (hkw : PK X kws tk) (hall : (backToKw pos (keywordEach kws X.env)).all (·.1.isSome) = true := by rfl) (hks : (backToKw pos (keywordEach kws X.env)).filterMap (·.1) = ks := by rfl)
    (hdb : (x == ("__debug__" : Str)) = false := by decide) (he : starEach (e :: es) X.env = (false, eval e X.env) :: starEach es X.env := by rfl)
    (hpl : ((backTo pos (starEach (e :: es) X.env)).any (·.1) || (backToKw pos (keywordEach kws X.env)).any (·.1.isNone)) = false := by rfl) :
    PE X (.Call (.Name x p) (e :: es) kws pos) (tCallG sp n ks.length is dv E t tk) := by
  refine ⟨fun pins s σ H Q I h => ?_⟩
  refine wpAny_Call_Name_kw (ld_glob I hg hm ?_ hdb)
  refine PySem.W.callWith_KW (h₀ := X.base) I.ok.mod.kin hk hall (thn (ha.run pos pins s σ H _ I h) fun us s1 ⟨vs, H1, I1, r, q⟩ => ?_) hpl he
  refine thn (hkw.run pos pins s1 σ H1 _ I1 q) fun ws s2 ⟨zs, H2, I2, rz, l1, l2, q2⟩ => ⟨I2.kIn, ?_⟩
  rw [hks]
  exact run_fnG F hr hb (hx σ) I2 r rz l1 l2 q2
theorem pe_callGK0 (F : FnOk X.prog X.w X.K X.mg X.base (L2.CX X.prog X.w) k f fd ps sp) (hr : Room k X.A) (hg : Gl X x) (hm : X.mg x = some (.ref f)) (hk : PySem.W.keepIn X.K (.ref f) = true) (hb : BndP X.K fd ps 0 ks is dv) (hx : ∀ σ, PassesAt (L2.CX X.prog X.w) X σ (E σ))
    (hkw : PK X kws tk) (hall : (backToKw pos (keywordEach kws X.env)).all (·.1.isSome) = true := by rfl) (hks : (backToKw pos (keywordEach kws X.env)).filterMap (·.1) = ks := by rfl)
    (hdb : (x == ("__debug__" : Str)) = false := by decide) (hpl : ((backTo pos (starEach [] X.env)).any (·.1) || (backToKw pos (keywordEach kws X.env)).any (·.1.isNone)) = false := by rfl) :
    PE X (.Call (.Name x p) [] kws pos) (tCallG sp 0 ks.length is dv E tNil tk) := by
  refine ⟨fun pins s σ H Q I h => ?_⟩
  refine wpAny_Call_Name_kw (ld_glob I hg hm ?_ hdb)
  refine PySem.W.callWith_KW0 (h₀ := X.base) I.ok.mod.kin hk hall ?_ hpl
  refine thn (hkw.run pos pins s σ H _ I h) fun ws s2 ⟨zs, H2, I2, rz, l1, l2, q2⟩ => ⟨I2.kIn, ?_⟩
  rw [hks]
  exact run_fnG (us := []) F hr hb (hx σ) I2 .nil rz l1 l2 q2
end
end Mi

namespace Mi
open PySem PySem.Spec L2
/-! ### calls by their meaning -/
def callA (io : Option Nat) (f : List D → FRes) (ms : M (List A)) : M A := match io with
  | none => callP f ms
  | some i => callI i f ms
def callNA (io : Option Nat) (f : List D → FRes) (ms : M (List A)) : M D := match io with
  | none => callPN f ms
  | some i => callIN i f ms
structure DefF (P : Program) (w : World) (K : PySem.W.Frag) (mg : Str → Option Value) (base : Heap) (x : Str) (fd : FuncData) (ps : List Str) (k : Nat) (io : Option Nat) (f : List D → FRes) : Prop where
  ex : ∃ a, FnOk P w K mg base (L2.CX P w) k a fd ps (spOf K mg io ps.length f) ∧ mg x = some (.ref a) ∧ PySem.W.keepIn K (.ref a) = true
section
variable {c : Cxs} {B : Bs} {W : WX} {σ : L2.St} {H : Hp} {Q : VK} {np n m : Nat} {is : List Nat} {dd : List D} {dv : List V} {ms mk : M (List A)} {io : Option Nat} {f : List D → FRes}
abbrev WEx (W : WX) (σ : L2.St) : XK := fun C d H => W C d σ H
theorem rps_args {F : Hp} : ∀ {ds : List D} {vs : List V}, Rps c.K c.mg F ds vs → RpAs c.K c.mg F σ (ds.map A.d) vs
  | [], _, .nil => .nil
  | _ :: _, _, .cons h r => .cons h (rps_args r)
/-- the arguments of a call -/
theorem args_rd {α : Type} {g : List A → M α} {k : α → List Sl → Hp → Hp → Prop} {ρ : List Sl} {F : Hp} (S : SOk c.K c.mg B ρ σ H F) (hd : ∀ F, Rps c.K c.mg F dd dv) (q : okR c B W σ F k (bnd (argsM np n m is dd ms mk) g ρ)) {R : List V → Hp → Prop}
    (hR : ∀ as vs ρ' H' F', vs.length = np → SOk c.K c.mg B ρ' σ H' F' → RpAs c.K c.mg F' σ as vs → okR c B W σ F' k (g as ρ') → R vs H') :
    rdA c B W ms σ H fun vs H1 => rdA c B W mk σ H1 fun zs H2 => vs.length = n ∧ zs.length = m ∧ R (pick is (vs ++ zs ++ dv)) H2 := by
  have e : bnd (argsM np n m is dd ms mk) g = bnd ms fun as => bnd mk fun zs => bnd (if as.length = n ∧ zs.length = m ∧ (pick is (as ++ zs ++ dd.map A.d)).length = np then ret (pick is (as ++ zs ++ dd.map A.d)) else bad) g := by
    unfold argsM
    rw [bnd_assoc]
    congr
    funext as
    rw [bnd_assoc]
  rw [e] at q
  refine ⟨ρ, F, S, q.seq.imp fun as ρ1 H1 F1 e1 S1 q1 vs r1 => ⟨ρ1, F1, S1, q1.seq.imp fun zs ρ2 H2 F2 e2 S2 q2 us r2 => ?_⟩⟩
  split at q2
  · rename_i hl
    have l1 : vs.length = n := by rw [← Paired.len r1]; exact hl.1
    have l2 : us.length = m := by rw [← Paired.len r2]; exact hl.2.1
    have pr : RpAs c.K c.mg F2 σ (pick is (as ++ zs ++ dd.map A.d)) (pick is (vs ++ us ++ dv)) := pick_paired (Paired.app (Paired.app (RpAs.mono e2 r1) r2) (rps_args (hd F2)))
    exact ⟨l1, l2, hR _ _ ρ2 H2 F2 (by rw [← Paired.len pr]; exact hl.2.2) S2 pr q2⟩
  · exact (show False from q2).elim
theorem call_rd (hd : ∀ F, Rps c.K c.mg F dd dv) (h : rdE c B W (callA io f (argsM np n m is dd ms mk)) σ H Q) : tCallG (spOf c.K c.mg io np f) n m is dv (WEx W) (rdA c B W ms) (rdA c B W mk) σ H Q := by
  obtain ⟨ρ, F, S, q⟩ := h
  cases io with
  | none => exact args_rd S hd q fun as vs ρ' H' F' hl S' r q' => call_rdP (ms := ms) hl S' r q'
  | some i => exact args_rd S hd q fun as vs ρ' H' F' hl S' r q' => call_rdI hl S' r q'
theorem new_cel {ρ : List Sl} {F F' H' : Hp} {a : Addr} (S : SOk c.K c.mg B ρ σ H F) (hH : H a = none) (hF : F' a = none) :
    B.H0 a = none ∧ (∀ p ∈ B.P, p.1 ≠ a) ∧ ∀ (i : Nat) (k : Bool) (e : D), ρ[i]? = some (.cel k e) → σ[i]? ≠ some (some (.ref a)) := by
  refine ⟨S.free0 hH, fun p hp z => ?_, fun i k d hi hs => ?_⟩
  · obtain ⟨h1, _⟩ := S.prot p hp
    rw [z, hH] at h1
    cases h1
  · obtain ⟨b, h1, _, ct, _⟩ := S.cel i k d hi
    rw [h1] at hs
    cases hs
    obtain ⟨o, ho⟩ := ct.some
    rw [hH] at ho
    cases ho
theorem callN_rd (hd : ∀ F, Rps c.K c.mg F dd dv) (h : rdN c B W (callNA io f (argsM np n m is dd ms mk)) σ H Q) : tCallG (spOf c.K c.mg io np f) n m is dv (WEx W) (rdA c B W ms) (rdA c B W mk) σ H Q := by
  obtain ⟨ρ, F, S, q⟩ := h
  cases io with
  | none =>
    refine args_rd (R := fun vs H2 => spOf c.K c.mg none np f vs H2 Q (WEx W σ)) S hd q fun as vs ρ' H' F' hl S' r q' => ?_
    obtain ⟨ds, ρ2, F2, e, S2, rd, q1⟩ := okR.fzs S' r q'
    refine ⟨F2, ds, hl, fun i hi => (nomatch hi), S2.sub, ⟨rd.length, fun i d hd => ?_⟩, ?_⟩
    · obtain ⟨v, h1, h2⟩ := rd.get hd
      exact ⟨v, h1, fun _ => h2, fun z => (nomatch z)⟩
    · cases hf : f ds with
      | okn d out =>
        rw [hf] at q1
        intro a H3 F3 p h1 h2 h3
        obtain ⟨n1, n2, n3⟩ := new_cel (F' := F3) (H' := H3) S2 h2 h1
        exact q1 H3 F3 p.base (S2.afterP p) a h1 h3 n1 n2 n3
      | ok d out =>
        rw [hf] at q1
        exact q1.elim
      | err n ns es out =>
        rw [hf] at q1
        exact fun C dd H2 F2 p er => q1 C dd H2 F2 p.base (S2.afterP p) er
      | bad =>
        rw [hf] at q1
        exact q1
  | some i =>
    refine args_rd (R := fun vs H2 => spOf c.K c.mg (some i) np f vs H2 Q (WEx W σ)) S hd q fun as vs ρ' H' F' hl S' r q' => ?_
    obtain ⟨ds, ρ2, F2, e, S2, hlen, rd, q1⟩ := okR.fzX S' r q'
    cases hi : ioSet i as ds ρ2 with
    | none => rw [hi] at q1; exact q1.elim
    | some z =>
      obtain ⟨s, es⟩ := z
      rw [hi] at q1
      unfold ioSet at hi
      split at hi
      · rename_i s' ha
        split at hi
        · rename_i d hd'
          cases hi
          obtain ⟨k, hk⟩ := cellAt_some hd'
          obtain ⟨v, hv, rv⟩ := RpAs.get r ha
          have rv' : σ[s]? = some (some v) := rv
          obtain ⟨a, h1, h2, h3, h4⟩ := S2.cel s k d hk
          rw [h1] at rv'
          cases rv'
          have hiv : i < vs.length := (List.getElem?_eq_some_iff.mp hv).1
          refine ⟨F2, ds.set i d, hl, fun j hj => (by cases hj; rw [← hl]; exact hiv), S2.sub, ⟨by rw [List.length_set]; exact hlen, fun j d' hd' => ?_⟩, ?_⟩
          · rcases set_get hd' with ⟨z1, z, _⟩ | ⟨nj, z⟩
            · subst z1
              subst z
              exact ⟨.ref a, hv, fun z => absurd rfl z, fun _ => ⟨a, rfl, h2, h3⟩⟩
            · obtain ⟨v, h5, h6⟩ := rd j d' nj z
              exact ⟨v, h5, fun _ => h6, fun z => absurd (Option.some.inj z).symm nj⟩
          · cases hf : f (ds.set i d) with
            | okn d' out =>
              simp only [hf] at q1
              intro b H3 F3 p n1 n2 n3
              obtain ⟨m1, m2, m3⟩ := new_cel (F' := F3) (H' := H3) S2 n2 n1
              have S3 := S2.afterI hk h1 hv p
              rw [← putCell_eq hk] at S3
              refine q1 H3 F3 p.base S3 b n1 n3 m1 m2 fun j k' e' hj hs => ?_
              rw [putCell_eq hk] at hj
              rcases set_get hj with ⟨z1, z, _⟩ | ⟨nj, z⟩
              · rw [z1] at hs
                exact m3 s k d hk hs
              · exact m3 j _ _ z hs
            | ok d' out =>
              simp only [hf] at q1
              exact q1.elim
            | err n ns es out =>
              simp only [hf] at q1
              refine fun C dd H2 F2 p er => q1 C dd H2 F2 p.base ?_ er
              rw [putCell_eq hk]
              exact S2.afterI hk h1 hv p
            | bad =>
              simp only [hf] at q1
              exact q1
        · cases hi
      · cases hi
variable {x : Str} {fd : FuncData} {ps ks : List Str} {k : Nat} {p pos : Pos} {e : Expr} {es : List Expr} {kws : List Keyword}
theorem DefF.at_ {X : Cx} (h : DefF c.P c.w c.K c.mg c.base x fd ps k io f) (hX : XF c X) : ∃ a, FnOk X.prog X.w X.K X.mg X.base (L2.CX X.prog X.w) k a fd ps (spOf c.K c.mg io ps.length f) ∧ X.mg x = some (.ref a) ∧ PySem.W.keepIn X.K (.ref a) = true := by
  obtain ⟨a, h1, h2, h3⟩ := h.ex
  exact ⟨a, by rw [hX.prog, hX.w, hX.K, hX.mg, hX.base]; exact h1, by rw [hX.mg]; exact h2, by rw [hX.K]; exact h3⟩
theorem tNil_rd {R : List V → Hp → Prop} (h : rdA c B W asNil σ H R) : tNil σ H R := by
  obtain ⟨ρ, F, S, q⟩ := h
  exact q H F (Same.refl _) S _ .nil
theorem rdA_mono {R R' : List V → Hp → Prop} (h : rdA c B W ms σ H R) (i : ∀ vs H, R vs H → R' vs H) : rdA c B W ms σ H R' := by
  obtain ⟨ρ, F, S, q⟩ := h
  exact ⟨ρ, F, S, q.imp fun as ρ1 H1 F1 e1 S1 q1 vs r1 => i _ _ (q1 vs r1)⟩
/-- f(e, ..) -/
theorem ev_call {np : Nat} (h : DefF c.P c.w c.K c.mg c.base x fd ps k io f) (hb : BndP c.K fd ps n [] is dv) (hd : ∀ F, Rps c.K c.mg F dd dv) (ha : EvAs c (e :: es) ms) (hg : gbB c.sc x = true) (hk : Nat.ble k c.k = true := by rfl) (he : (e :: es).all noStar = true := by rfl) (hnp : ps.length = np := by rfl) :
    EvE c (.Call (.Name x p) (e :: es) [] pos) (callA io f (argsM np n 0 is dd ms asNil)) := fun X hX B W tk => by
  subst hnp
  obtain ⟨a, h1, h2, h3⟩ := h.at_ hX
  obtain ⟨hg, hdb, _⟩ := gbB_ok hg
  obtain ⟨he1, he2⟩ := Bool.and_eq_true_iff.mp he
  refine PE.imp (pe_callG h1 (hX.room.mono (Nat.le_of_ble_eq_true hk)) (gl_of hX hg) h2 h3 (by rw [hX.K]; exact hb) (fun σ => passAt tk σ) (ha X hX B W tk) hdb (star_cons he1) (star_any he2)) fun σ H Q q => ?_
  exact rdA_mono (call_rd hd q) fun vs H1 q1 => tNil_rd q1
theorem en_call {np : Nat} (h : DefF c.P c.w c.K c.mg c.base x fd ps k io f) (hb : BndP c.K fd ps n [] is dv) (hd : ∀ F, Rps c.K c.mg F dd dv) (ha : EvAs c (e :: es) ms) (hg : gbB c.sc x = true) (hk : Nat.ble k c.k = true := by rfl) (he : (e :: es).all noStar = true := by rfl) (hnp : ps.length = np := by rfl) :
    EvN c (.Call (.Name x p) (e :: es) [] pos) (callNA io f (argsM np n 0 is dd ms asNil)) := fun X hX B W tk => by
  subst hnp
  obtain ⟨a, h1, h2, h3⟩ := h.at_ hX
  obtain ⟨hg, hdb, _⟩ := gbB_ok hg
  obtain ⟨he1, he2⟩ := Bool.and_eq_true_iff.mp he
  refine PE.imp (pe_callG h1 (hX.room.mono (Nat.le_of_ble_eq_true hk)) (gl_of hX hg) h2 h3 (by rw [hX.K]; exact hb) (fun σ => passAt tk σ) (ha X hX B W tk) hdb (star_cons he1) (star_any he2)) fun σ H Q q => ?_
  exact rdA_mono (callN_rd hd q) fun vs H1 q1 => tNil_rd q1
/-- f() -/
theorem ev_call0 {np : Nat} (h : DefF c.P c.w c.K c.mg c.base x fd ps k io f) (hb : BndP c.K fd ps 0 [] is dv) (hd : ∀ F, Rps c.K c.mg F dd dv) (hg : gbB c.sc x = true) (hk : Nat.ble k c.k = true := by rfl) (hnp : ps.length = np := by rfl) :
    EvE c (.Call (.Name x p) [] [] pos) (callA io f (argsM np 0 0 is dd asNil asNil)) := fun X hX B W tk => by
  subst hnp
  obtain ⟨a, h1, h2, h3⟩ := h.at_ hX
  obtain ⟨hg, hdb, _⟩ := gbB_ok hg
  refine PE.imp (pe_callG0 h1 (hX.room.mono (Nat.le_of_ble_eq_true hk)) (gl_of hX hg) h2 h3 (by rw [hX.K]; exact hb) (fun σ => passAt tk σ) hdb) fun σ H Q q => ?_
  exact tNil_rd (rdA_mono (call_rd hd q) fun vs H1 q1 => tNil_rd q1)
/-- f(e, .., k = v, ..) -/
theorem ev_callK {np nk : Nat} (h : DefF c.P c.w c.K c.mg c.base x fd ps k io f) (hb : BndP c.K fd ps n ks is dv) (hd : ∀ F, Rps c.K c.mg F dd dv) (ha : EvAs c (e :: es) ms) (hkw : EvKs c kws mk) (hg : gbB c.sc x = true) (hks : kwB kws ks = true := by decide +kernel) (hk : Nat.ble k c.k = true := by rfl) (he : (e :: es).all noStar = true := by rfl) (hnp : ps.length = np := by rfl) (hnk : ks.length = nk := by rfl) :
    EvE c (.Call (.Name x p) (e :: es) kws pos) (callA io f (argsM np n nk is dd ms mk)) := fun X hX B W tk => by
  subst hnp hnk
  obtain ⟨a, h1, h2, h3⟩ := h.at_ hX
  obtain ⟨hg, hdb, _⟩ := gbB_ok hg
  obtain ⟨k1, k2, k3⟩ := kw_names (pos := pos) (env := X.env) (of_decide_eq_true hks)
  exact PE.imp (pe_callGK h1 (hX.room.mono (Nat.le_of_ble_eq_true hk)) (gl_of hX hg) h2 h3 (by rw [hX.K]; exact hb) (fun σ => passAt tk σ) (ha X hX B W tk) (hkw X hX B W tk) k1 k2 hdb (star_cons (Bool.and_eq_true_iff.mp he).1) (by rw [star_any he, k3]; rfl)) fun σ H Q q => call_rd hd q
theorem ev_callK0 {np nk : Nat} (h : DefF c.P c.w c.K c.mg c.base x fd ps k io f) (hb : BndP c.K fd ps 0 ks is dv) (hd : ∀ F, Rps c.K c.mg F dd dv) (hkw : EvKs c kws mk) (hg : gbB c.sc x = true) (hks : kwB kws ks = true := by decide +kernel) (hk : Nat.ble k c.k = true := by rfl) (hnp : ps.length = np := by rfl) (hnk : ks.length = nk := by rfl) :
    EvE c (.Call (.Name x p) [] kws pos) (callA io f (argsM np 0 nk is dd asNil mk)) := fun X hX B W tk => by
  subst hnp hnk
  obtain ⟨a, h1, h2, h3⟩ := h.at_ hX
  obtain ⟨hg, hdb, _⟩ := gbB_ok hg
  obtain ⟨k1, k2, k3⟩ := kw_names (pos := pos) (env := X.env) (of_decide_eq_true hks)
  exact PE.imp (pe_callGK0 h1 (hX.room.mono (Nat.le_of_ble_eq_true hk)) (gl_of hX hg) h2 h3 (by rw [hX.K]; exact hb) (fun σ => passAt tk σ) (hkw X hX B W tk) k1 k2 hdb (by rw [k3]; rfl)) fun σ H Q q => tNil_rd (call_rd hd q)
end
end Mi

namespace Mi
open PySem PySem.Spec L2
/-! ### is True, is False, of anything -/
def isXD (x y : D) : Option D := match y with
  | .bl b => some (.bl (match x with | .bl a => a == b | _ => false))
  | _ => none
def isnXD (x y : D) : Option D := match y with
  | .bl b => some (.bl (!(match x with | .bl a => a == b | _ => false)))
  | _ => none
theorem plain_bl {x : V} {v : Value} (r : RelV x v) (b : Bool) : plainIs v (.bool b) = true ∧ (v == .bool b) = decide (x = .bl b) := by
  cases x with
  | non => cases r; exact ⟨rfl, by simp⟩
  | bl a => cases r; exact ⟨rfl, by simp [Bool.beq_eq_decide_eq]⟩
  | int i => obtain ⟨t, rfl⟩ := r; exact ⟨rfl, by simp⟩
  | str i => obtain ⟨t, rfl⟩ := r; exact ⟨rfl, by simp⟩
  | byt i => obtain ⟨t, rfl⟩ := r; exact ⟨rfl, by simp⟩
  | flt i => obtain ⟨t, rfl⟩ := r; exact ⟨rfl, by simp⟩
  | ref a => cases r; exact ⟨rfl, by simp⟩
  | ty n => cases r; exact ⟨rfl, by simp⟩
section
variable {X : Cx} {c : Cxs}
theorem op_isX : OpR X (compareOp .Is) (fun x y H Q => ∃ b, y = .bl b ∧ Q (.bl (decide (x = .bl b))) H) := by
  intro pins s σ H x y v u Q I rx ry h
  obtain ⟨b, rfl, q⟩ := h
  cases ry
  obtain ⟨h1, h2⟩ := plain_bl rx b
  exact wpAny_is_plain h1 (by rw [h2]; exact fin_bl I q rfl)
theorem op_isnX : OpR X (compareOp .IsNot) (fun x y H Q => ∃ b, y = .bl b ∧ Q (.bl (!decide (x = .bl b))) H) := by
  intro pins s σ H x y v u Q I rx ry h
  obtain ⟨b, rfl, q⟩ := h
  cases ry
  obtain ⟨h1, h2⟩ := plain_bl rx b
  exact wpAny_isNot_plain h1 (by rw [h2]; exact fin_bl I q rfl)
theorem bl_iff {K : PySem.W.Frag} {mg : Str → Option Value} {F H : Hp} {d : D} {v : V} (r : RpV K mg F H d v) (b : Bool) : decide (v = .bl b) = (match d with | .bl a => a == b | _ => false) := by
  cases r with
  | rp h => cases h <;> simp [Bool.beq_eq_decide_eq]
  | cel h => cases h <;> simp
theorem od_isX : OpD c (compareOp .Is) isXD := fun X hX => by
  refine ⟨_, op_isX, fun B ρ σ H F dx dy d x y Q S rx ry e k => ?_⟩
  unfold isXD at e
  split at e
  · rename_i b
    cases e
    refine ⟨b, ry.bl, ?_⟩
    rw [bl_iff rx]
    exact k _ H F (Same.refl _) S (by cases dx <;> exact .bl _)
  · cases e
theorem od_isnX : OpD c (compareOp .IsNot) isnXD := fun X hX => by
  refine ⟨_, op_isnX, fun B ρ σ H F dx dy d x y Q S rx ry e k => ?_⟩
  unfold isnXD at e
  split at e
  · rename_i b
    cases e
    refine ⟨b, ry.bl, ?_⟩
    rw [bl_iff rx]
    exact k _ H F (Same.refl _) S (by cases dx <;> exact .bl _)
  · cases e
end
/-- more turns than any while of these programs makes -/
def fuel : Nat := 1000000000
end Mi

namespace Mi
open PySem PySem.Spec L2
/-! ### the end -/
theorem rps_ints {K : PySem.W.Frag} {mg : Str → Option Value} {F : Hp} : ∀ ns : List Int, Rps K mg F (ns.map D.int) (ns.map V.int)
  | [] => .nil
  | _ :: ns => .cons (.int _) (rps_ints ns)
theorem sp_law {K : PySem.W.Frag} {mg : Str → Option Value} {f : List D → FRes} {n : Nat} (h : ∀ ns : List Int, ns.length ≤ n → ∃ out, f [.rol (ns.map D.int)] = .ok (.bl true) out)
    (H : Hp) (a : Addr) (ns : List Int) (hl : ns.length ≤ n) (hS : SqL K H a (ns.map V.int)) : spOf K mg none 1 f [.ref a] H (fun v _ => v = .bl true) fun _ _ _ => False := by
  obtain ⟨out, e⟩ := h ns hl
  refine ⟨H, [.rol (ns.map D.int)], rfl, (fun i hi => by cases hi), Same.refl _, ⟨rfl, ?_⟩, ?_⟩
  · intro i d hd
    cases i with
    | zero =>
      cases hd
      exact ⟨_, rfl, fun _ => .rol hS (rps_ints ns), fun z => by cases z⟩
    | succ i => simp at hd
  · rw [e]
    intro v H' F' _ hv
    cases hv
    rfl
theorem cx_law {P : Program} {w : World} {H : Hp} {s : Shared} {u : Value} {s' : Shared} (h : L2.CX P w [] H s (fun _ _ _ => False) u s') : False := by
  obtain ⟨_, _, _, _, _, _, _, _, _, _, _, _, z⟩ := h
  exact z
open PyProof.Rows in
/-- as the layer's end of a law, over a context of exceptions for each world -/
theorem walkW {l : PySem.W.OpenLaw} {n k : Nat} {q : Program} {lo : List Str} {XP : (Str → Option Value) → Heap → Prop} {YP : World → Heap → Prop} {d : DefRec} {x : Str}
    (hn : l.most = some n) (hsz : n ≤ sizeLine) (hnd : d.params.defaults = []) (room : Room k callerA) {f : List D → FRes}
    (plain : ∀ ns : List Int, ns.length ≤ n → ∃ out, f [.rol (ns.map D.int)] = .ok (.bl true) out)
    (G : ∀ (w : World) (mg : Str → Option Value) (a : Addr) (h : Heap), YP w h → h.Ns mainGlobals mg → mg d.name = some (.ref a) → ∃ (K : PySem.W.Frag) (fd : FuncData), K.In h ∧ (∀ (s : Shared) (u : Value), BindsTo s fd ⟨[u], []⟩ [(x, u)]) ∧
      ∀ base : Heap, K.In base → base.Ns mainGlobals mg → FnOk l.prog w K mg base (L2.CX l.prog w) k a fd [x] (spOf K mg none 1 f)) :
    PySem.W.WalkO q lo XP YP l.row.toRowW d [] (fun g us => PySem.call g us) := by
  refine Att.attach_call hn hnd fun w sa sb mg mb a o pm cd doc b us ns N Y ho hd hcd hmg hob hin hlen hg => ?_
  obtain ⟨K, fd, KX, hb, hF⟩ := G w mg a _ Y N.T.g hmg
  refine law_call KX N.T.g N.T.b N.T.builtins N.T.nolimit hg hob hin (Nat.le_trans hlen hsz) room hF hb (fun H _ hS => sp_law plain H b ns hlen hS) fun H e s' z => ?_
  exact cx_law z
end Mi
namespace Mi
open PySem PySem.Spec L2
/-! ### weakest preconditions of meanings -/
abbrev EX : Type := Str → List Str → List D → List Sl → Prop
abbrev noE : EX := fun _ _ _ _ => False
def Wp {α : Type} (m : M α) (ρ : List Sl) (E : EX) (Q : α → List Sl → Prop) : Prop := match m ρ with
  | .ok a ρ' => Q a ρ'
  | .err c ns vs ρ' => E c ns vs ρ'
  | .bad => False
/-- what a call gives -/
def Fp (r : FRes) (E : Str → List Str → List D → D → Prop) (Q : D → D → Prop) : Prop := match r with
  | .ok d o => Q d o
  | .err c ns vs o => E c ns vs o
  | _ => False
def FpN (r : FRes) (E : Str → List Str → List D → D → Prop) (Q : D → D → Prop) : Prop := match r with
  | .okn d o => Q d o
  | .err c ns vs o => E c ns vs o
  | _ => False
/-- a datum to be put into its normal form -/
def Nm {α : Type} (x : α) (P : α → Prop) : Prop := P x
theorem nm_of {α : Type} {x y : α} {P : α → Prop} (h : x = y) (k : P y) : Nm x P := by
  subst h
  exact k
/-- the end of a way: here the steps stop -/
def Fn (P : Prop) : Prop := True → P
theorem here {P : Prop} (h : P) : Fn P := fun _ => h
theorem fn_un {P : Prop} (h : Fn P) : P := h trivial
def Nm2 {α : Type} (x : α) (P : α → Prop) : Prop := P x
theorem nm_a {α : Type} {x : α} {P : α → Prop} (h : Nm2 x P) : Nm x P := h
theorem nm_b {α : Type} {x : α} {P : α → Prop} (h : P x) : Nm2 x P := h
theorem nm_un {α : Type} {x : α} {P : α → Prop} (h : Nm x P) : P x := h
section
variable {α β : Type} {m : M α} {k : α → M β} {ρ ρ' : List Sl} {E : EX} {Q : β → List Sl → Prop} {QA : A → List Sl → Prop} {QB : Bool → List Sl → Prop} {QS : Fw → List Sl → Prop} {QD : D → List Sl → Prop} {QU : Unit → List Sl → Prop} {QL : List A → List Sl → Prop} {QDs : List D → List Sl → Prop}
theorem wp_imp {R : β → List Sl → Prop} {m : M β} (h : Wp m ρ E Q) (i : ∀ a ρ', Q a ρ' → R a ρ') : Wp m ρ E R := by
  unfold Wp at h ⊢
  cases e : m ρ with
  | ok a r => rw [e] at h; exact i _ _ h
  | err c ns vs r => rw [e] at h; exact h
  | bad => rw [e] at h; exact h
theorem wp_bnd (h : Wp m ρ E fun a ρ1 => Wp (k a) ρ1 E Q) : Wp (bnd m k) ρ E Q := by
  unfold Wp bnd at *
  cases e : m ρ with
  | ok a r => rw [e] at h; exact h
  | err c ns vs r => rw [e] at h; exact h
  | bad => rw [e] at h; exact h
theorem wp_ret {b : β} (h : Q b ρ) : Wp (ret b) ρ E Q := h
theorem wp_opt {o : Option β} (h : ∃ b, o = some b ∧ Q b ρ) : Wp (opt o) ρ E Q := by
  obtain ⟨b, rfl, h⟩ := h
  exact h
/-- what is read of a value -/
abbrev Vw (a : A) (ρ : List Sl) (P : D → Prop) : Prop := match a with
  | .d x => P x
  | .slot i => ∃ d, cellAt ρ i = some d ∧ P d
theorem wp_view {a : A} (h : Vw a ρ fun d => QD d ρ) : Wp (view a) ρ E QD := by
  cases a with
  | d x => exact h
  | slot i =>
    obtain ⟨d, e, h⟩ := h
    unfold Wp view
    simp only [e]
    exact h
theorem wp_C {d : D} (h : QA (.d d) ρ) : Wp (eC d) ρ E QA := h
abbrev VarQ (s : Sl) (i : Nat) (Q : A → Prop) : Prop := match s with
  | .val d => Q (.d d)
  | .cel _ _ => Q (.slot i)
  | .nil => False
theorem wp_var1 {i : Nat} {s : Sl} (e : ρ[i]? = some s) (h : VarQ s i fun a => QA a ρ) : Wp (eVar i) ρ E QA := by
  unfold Wp eVar
  rw [e]
  cases s with
  | val d => exact h
  | cel k d => exact h
  | nil => exact h.elim
theorem wp_var {i : Nat} (h : match (generalizing := false) ρ[i]? with
    | some (.val d) => QA (.d d) ρ
    | some (.cel _ _) => QA (.slot i) ρ
    | _ => False) : Wp (eVar i) ρ E QA := by
  unfold Wp eVar
  cases e : ρ[i]? with
  | none => rw [e] at h; exact h.elim
  | some s =>
    rw [e] at h
    cases s with
    | val d => exact h
    | cel k d => exact h
    | nil => exact h.elim
theorem wp_bin {f : D → D → Option D} {ma mb : M A} (h : Wp ma ρ E fun x ρ1 => Wp mb ρ1 E fun y ρ2 => Vw x ρ2 fun dx => Vw y ρ2 fun dy => ∃ d, f dx dy = some d ∧ QA (.d d) ρ2) : Wp (binA f ma mb) ρ E QA :=
  wp_bnd (wp_imp h fun x ρ1 h => wp_bnd (wp_imp h fun y ρ2 h => wp_bnd (wp_view (by
    cases x with
    | d x => exact wp_bnd (wp_view (by
        cases y with
        | d y => exact wp_bnd (wp_opt h)
        | slot j => obtain ⟨d, e, h⟩ := h; exact ⟨d, e, wp_bnd (wp_opt h)⟩))
    | slot i =>
      obtain ⟨d, e, h⟩ := h
      exact ⟨d, e, wp_bnd (wp_view (by
        cases y with
        | d y => exact wp_bnd (wp_opt h)
        | slot j => obtain ⟨d, e, h⟩ := h; exact ⟨d, e, wp_bnd (wp_opt h)⟩))⟩))))
theorem wp_view1 {a : A} {f : D → M β} (h : Vw a ρ fun d => Wp (f d) ρ E Q) : Wp (bnd (view a) f) ρ E Q := wp_bnd (wp_view h)
theorem vw_imp {a : A} {P P' : D → Prop} (h : Vw a ρ P) (i : ∀ d, P d → P' d) : Vw a ρ P' := by
  cases a with
  | d x => exact i _ h
  | slot j => obtain ⟨d, e, h⟩ := h; exact ⟨d, e, i _ h⟩
theorem wp_un {f : D → Option D} {ma : M A} (h : Wp ma ρ E fun x ρ1 => Vw x ρ1 fun dx => ∃ d, f dx = some d ∧ QA (.d d) ρ1) : Wp (unA f ma) ρ E QA :=
  wp_bnd (wp_imp h fun x ρ1 h => wp_view1 (vw_imp h fun d h => wp_bnd (wp_opt h)))
theorem wp_tst {ma : M A} (h : Wp ma ρ E fun x ρ1 => Vw x ρ1 fun dx => ∃ b, truD dx = some b ∧ QB b ρ1) : Wp (tstA ma) ρ E QB :=
  wp_bnd (wp_imp h fun x ρ1 h => wp_view1 (vw_imp h fun d h => wp_opt h))
theorem wp_boolA {t : M Bool} (h : Wp t ρ E fun b ρ1 => QA (.d (.bl b)) ρ1) : Wp (boolA t) ρ E QA := wp_bnd h
theorem wp_blT {ma : M A} (h : Wp ma ρ E fun x ρ1 => Vw x ρ1 fun dx => ∃ b, asBl dx = some b ∧ QB b ρ1) : Wp (blT ma) ρ E QB :=
  wp_bnd (wp_imp h fun x ρ1 h => wp_view1 (vw_imp h fun d h => wp_opt h))
abbrev Ift (b : Bool) (p q : Prop) : Prop := (b = true → p) ∧ (b = false → q)
theorem ift_of {b : Bool} {p q : Prop} {m1 m2 : M β} (h : Ift b (Wp m1 ρ E Q) (Wp m2 ρ E Q)) : Wp (if b = true then m1 else m2) ρ E Q := by
  cases b with
  | true => exact h.1 rfl
  | false => exact h.2 rfl
theorem wp_andT {a b : M Bool} (h : Wp a ρ E fun x ρ1 => Ift x (Wp b ρ1 E QB) (QB false ρ1)) : Wp (andT a b) ρ E QB :=
  wp_bnd (wp_imp h fun x ρ1 h => ift_of (p := True) (q := True) h)
theorem wp_orT {a b : M Bool} (h : Wp a ρ E fun x ρ1 => Ift x (QB true ρ1) (Wp b ρ1 E QB)) : Wp (orT a b) ρ E QB :=
  wp_bnd (wp_imp h fun x ρ1 h => ift_of (p := True) (q := True) h)
theorem wp_notT {a : M Bool} (h : Wp a ρ E fun x ρ1 => QB (!x) ρ1) : Wp (notT a) ρ E QB := wp_bnd h
theorem wp_ifA {t : M Bool} {a b : M A} (h : Wp t ρ E fun x ρ1 => Ift x (Wp a ρ1 E QA) (Wp b ρ1 E QA)) : Wp (ifA t a b) ρ E QA :=
  wp_bnd (wp_imp h fun x ρ1 h => ift_of (p := True) (q := True) h)
theorem wp_ifS {t : M Bool} {a b : M Fw} (h : Wp t ρ E fun x ρ1 => Ift x (Wp a ρ1 E QS) (Wp b ρ1 E QS)) : Wp (ifS t a b) ρ E QS :=
  wp_bnd (wp_imp h fun x ρ1 h => ift_of (p := True) (q := True) h)
theorem wp_andA {a b : M A} (h : Wp a ρ E fun x ρ1 => Vw x ρ1 fun d => ∃ z, asBl d = some z ∧ Ift z (Wp b ρ1 E QA) (QA (.d (.bl false)) ρ1)) : Wp (andA a b) ρ E QA :=
  wp_bnd (wp_imp h fun x ρ1 h => wp_view1 (vw_imp h fun d h => wp_bnd (wp_opt (by obtain ⟨z, e, h⟩ := h; exact ⟨z, e, ift_of (p := True) (q := True) h⟩))))
theorem wp_orA {a b : M A} (h : Wp a ρ E fun x ρ1 => Vw x ρ1 fun d => ∃ z, asBl d = some z ∧ Ift z (QA (.d (.bl true)) ρ1) (Wp b ρ1 E QA)) : Wp (orA a b) ρ E QA :=
  wp_bnd (wp_imp h fun x ρ1 h => wp_view1 (vw_imp h fun d h => wp_bnd (wp_opt (by obtain ⟨z, e, h⟩ := h; exact ⟨z, e, ift_of (p := True) (q := True) h⟩))))
theorem wp_notA {a : M A} (h : Wp a ρ E fun x ρ1 => Vw x ρ1 fun d => ∃ z, asBl d = some z ∧ QA (.d (.bl (!z))) ρ1) : Wp (notA a) ρ E QA :=
  wp_bnd (wp_imp h fun x ρ1 h => wp_view1 (vw_imp h fun d h => wp_bnd (wp_opt h)))
theorem wp_chainT {f g : D → D → Option D} {ma mb md : M A} (h : Wp ma ρ E fun x ρ1 => Wp mb ρ1 E fun y ρ2 => Vw x ρ2 fun dx => Vw y ρ2 fun dy => ∃ z, f dx dy = some z ∧ ∃ b, asBl z = some b ∧
    Ift b (Wp md ρ2 E fun v ρ3 => Vw y ρ3 fun dy => Vw v ρ3 fun dv => ∃ z, g dy dv = some z ∧ ∃ b, asBl z = some b ∧ QB b ρ3) (QB false ρ2)) : Wp (chainT f g ma mb md) ρ E QB := by
  refine wp_bnd (wp_imp h fun x ρ1 h => wp_bnd (wp_imp h fun y ρ2 h => wp_view1 (vw_imp h fun dx h => wp_view1 (vw_imp h fun dy h => ?_))))
  obtain ⟨z, e, b, e2, h⟩ := h
  refine wp_bnd (wp_opt ⟨z, e, wp_bnd (wp_opt ⟨b, e2, ift_of (p := True) (q := True) ⟨fun hb => ?_, h.2⟩⟩)⟩)
  refine wp_bnd (wp_imp (h.1 hb) fun v ρ3 h => wp_view1 (vw_imp h fun dy h => wp_view1 (vw_imp h fun dv h => ?_)))
  obtain ⟨z, e, b, e2, h⟩ := h
  exact wp_bnd (wp_opt ⟨z, e, wp_opt ⟨b, e2, h⟩⟩)
theorem wp_asNil (h : QL [] ρ) : Wp asNil ρ E QL := h
theorem wp_asCons {m1 : M A} {ms : M (List A)} (h : Wp m1 ρ E fun x ρ1 => Wp ms ρ1 E fun xs ρ2 => QL (x :: xs) ρ2) : Wp (asCons m1 ms) ρ E QL :=
  wp_bnd (wp_imp h fun x ρ1 h => wp_bnd h)
abbrev Vws : List A → List Sl → (List D → Prop) → Prop
  | [], _, P => P []
  | x :: xs, ρ, P => Vw x ρ fun d => Vws xs ρ fun ds => P (d :: ds)
theorem wp_views : ∀ {as : List A} {QDs : List D → List Sl → Prop}, Vws as ρ (fun ds => QDs ds ρ) → Wp (views as) ρ E QDs
  | [], _, h => h
  | x :: xs, _, h => wp_view1 (vw_imp h fun d h => wp_bnd (wp_views (QDs := fun ds ρ1 => Wp (ret (d :: ds)) ρ1 E _) h))
theorem vws_imp : ∀ {as : List A} {ρ : List Sl} {P P' : List D → Prop}, Vws as ρ P → (∀ ds, P ds → P' ds) → Vws as ρ P'
  | [], _, _, _, h, i => i _ h
  | x :: xs, _, _, _, h, i => vw_imp h fun d h => vws_imp h fun ds h => i _ h
theorem wp_cb {f : List D → Option D} {ms : M (List A)} (h : Wp ms ρ E fun as ρ1 => Vws as ρ1 fun ds => ∃ d, f ds = some d ∧ QA (.d d) ρ1) : Wp (cbA f ms) ρ E QA :=
  wp_bnd (wp_imp h fun as ρ1 h => wp_bnd (wp_views (QDs := fun ds ρ1 => Wp (bnd (opt (f ds)) fun d => ret (.d d)) ρ1 E QA) (by
    refine vws_imp (ρ := ρ1) h fun ds h => wp_bnd (wp_opt h))))

/-- fixed for ever -/
theorem wp_frzD {x : D} (h : QD x ρ) : Wp (frz (.d x)) ρ E QD := h
theorem wp_frzsNil (h : QDs [] ρ) : Wp (frzs []) ρ E QDs := h
theorem wp_frzsCons {a : A} {as : List A} (h : Wp (frz a) ρ E fun d ρ1 => Wp (frzs as) ρ1 E fun ds ρ2 => QDs (d :: ds) ρ2) : Wp (frzs (a :: as)) ρ E QDs :=
  wp_bnd (wp_imp h fun x ρ1 h => wp_bnd h)
theorem wp_tup {ms : M (List A)} (h : Wp ms ρ E fun as ρ1 => Wp (frzs as) ρ1 E fun ds ρ2 => ds.length ≤ sizeLine ∧ QA (.d (.tup ds)) ρ2) : Wp (tupA ms) ρ E QA :=
  wp_bnd (wp_imp h fun as ρ1 h => wp_bnd (wp_imp h fun ds ρ2 h => by rw [if_pos h.1]; exact h.2))
theorem wp_lst {ms : M (List A)} (h : Wp ms ρ E fun as ρ1 => Wp (frzs as) ρ1 E fun ds ρ2 => ds.length ≤ sizeLine ∧ QD (.lst ds) ρ2) : Wp (lstN ms) ρ E QD :=
  wp_bnd (wp_imp h fun as ρ1 h => wp_bnd (wp_imp h fun ds ρ2 h => by rw [if_pos h.1]; exact h.2))
theorem wp_new {m : M D} (h : Wp m ρ E fun d ρ1 => QA (.d d) ρ1) : Wp (newA m) ρ E QA := wp_bnd h
theorem wp_prtN {QO : Option Int → List Sl → Prop} (h : QO none ρ) : Wp (prtA none) ρ E QO := h
theorem wp_prtS {m : M A} {QO : Option Int → List Sl → Prop} (h : Wp m ρ E fun x ρ1 => Vw x ρ1 fun d => ∃ i, d = .int i ∧ QO (some i) ρ1) : Wp (prtA (some m)) ρ E QO :=
  wp_bnd (wp_imp h fun x ρ1 h => wp_view1 (vw_imp h fun d h => by obtain ⟨i, rfl, h⟩ := h; exact h))
theorem wp_slice {m : M A} {lo hi : Option (M A)} (h : Wp m ρ E fun x ρ1 => Wp (prtA lo) ρ1 E fun l ρ2 => Wp (prtA hi) ρ2 E fun r ρ3 => Vw x ρ3 fun d => ∃ z, cutD l r d = some z ∧ QA (.d z) ρ3) : Wp (sliceA m lo hi) ρ E QA :=
  wp_bnd (wp_imp h fun x ρ1 h => wp_bnd (wp_imp h fun l ρ2 h => wp_bnd (wp_imp h fun r ρ3 h => wp_view1 (vw_imp h fun d h => wp_bnd (wp_opt h)))))
theorem wp_mt {T : String} {f : D → List D → Option D} {m : M A} {ms : M (List A)} (h : Wp m ρ E fun x ρ1 => Vw x ρ1 fun d0 => hasTy T d0 = true ∧ Wp ms ρ1 E fun as ρ2 => Vw x ρ2 fun dx => Vws as ρ2 fun ds => ∃ d, f dx ds = some d ∧ QA (.d d) ρ2) : Wp (mtA T f m ms) ρ E QA :=
  wp_bnd (wp_imp h fun x ρ1 h => wp_view1 (vw_imp h fun d h => by
    rw [if_pos h.1]
    exact wp_bnd (wp_imp h.2 fun as ρ2 h => wp_view1 (vw_imp h fun dx h => wp_bnd (wp_views (QDs := fun ds ρ1 => Wp (bnd (opt (f dx ds)) fun d => ret (.d d)) ρ1 E QA) (vws_imp h fun ds h => wp_bnd (wp_opt (by obtain ⟨d, e, h⟩ := h; exact ⟨d, e, wp_ret h⟩))))))))
theorem wp_mt0 {T : String} {f : D → List D → Option D} {m : M A} (h : Wp m ρ E fun x ρ1 => Vw x ρ1 fun dx => hasTy T dx = true ∧ ∃ d, f dx [] = some d ∧ QA (.d d) ρ1) : Wp (mt0A T f m) ρ E QA :=
  wp_bnd (wp_imp h fun x ρ1 h => wp_view1 (vw_imp h fun d h => by
    rw [if_pos h.1]
    exact wp_bnd (wp_opt h.2)))
def okPut (ρ : List Sl) (i : Nat) : Bool := match ρ[i]? with
  | none => false
  | some (.cel true _) => false
  | some _ => true
theorem wp_putV {i : Nat} {d : D} (h : okPut ρ i = true) (k : Nm (ρ.set i (.val d)) fun r => QU () r) : Wp (putV i d) ρ E QU := by
  unfold okPut at h
  unfold Wp putV
  cases e : ρ[i]? with
  | none => rw [e] at h; cases h
  | some s =>
    rw [e] at h
    cases s with
    | nil => exact k
    | val z => exact k
    | cel b z => cases b with
      | true => cases h
      | false => exact k
theorem wp_putN {i : Nat} {d : D} (h : okPut ρ i = true) (k : Nm (ρ.set i (.cel false d)) fun r => QU () r) : Wp (putN i d) ρ E QU := by
  unfold okPut at h
  unfold Wp putN
  cases e : ρ[i]? with
  | none => rw [e] at h; cases h
  | some s =>
    rw [e] at h
    cases s with
    | nil => exact k
    | val z => exact k
    | cel b z => cases b with
      | true => cases h
      | false => exact k
/-! ### statements -/
theorem wp_seq {a b : M Fw} (h : Wp a ρ E fun f ρ1 => match f with
    | .next => Wp b ρ1 E QS
    | .brk => QS .brk ρ1
    | .cont => QS .cont ρ1
    | .ret d => QS (.ret d) ρ1
    | .retn d => QS (.retn d) ρ1) : Wp (seqS a b) ρ E QS := by
  unfold Wp seqS at *
  cases e : a ρ with
  | ok f r => rw [e] at h; cases f <;> exact h
  | err c ns vs r => rw [e] at h; exact h
  | bad => rw [e] at h; exact h
theorem wp_next (h : QS .next ρ) : Wp nextS ρ E QS := h
theorem wp_retS {m : M A} (h : Wp m ρ E fun a ρ1 => Wp (frz a) ρ1 E fun d ρ2 => QS (.ret d) ρ2) : Wp (retS m) ρ E QS := wp_bnd (wp_imp h fun a ρ1 h => wp_bnd h)
theorem wp_retNS {m : M D} (h : Wp m ρ E fun d ρ1 => QS (.retn d) ρ1) : Wp (retNS m) ρ E QS := wp_bnd h
theorem wp_drop {m : M A} (h : Wp m ρ E fun _ ρ1 => QS .next ρ1) : Wp (dropS m) ρ E QS := wp_bnd h
theorem wp_asg {i : Nat} {m : M A} (h : Wp m ρ E fun a ρ1 => Wp (frz a) ρ1 E fun d ρ2 => Wp (putV i d) ρ2 E fun _ ρ3 => QS .next ρ3) : Wp (asgS i m) ρ E QS :=
  wp_bnd (wp_imp h fun a ρ1 h => wp_bnd (wp_imp h fun d ρ2 h => wp_bnd h))
theorem wp_asgN {i : Nat} {m : M D} (h : Wp m ρ E fun d ρ1 => Wp (putN i d) ρ1 E fun _ ρ3 => QS .next ρ3) : Wp (asgNS i m) ρ E QS :=
  wp_bnd (wp_imp h fun d ρ2 h => wp_bnd h)
theorem wp_par2 {i j : Nat} {ms : M (List A)} (h : Wp ms ρ E fun as ρ1 => Wp (frzs as) ρ1 E fun ds ρ2 => ∃ d e, ds = [d, e] ∧ Wp (putV i d) ρ2 E fun _ ρ3 => Wp (putV j e) ρ3 E fun _ ρ4 => QS .next ρ4) : Wp (par2S i j ms) ρ E QS :=
  wp_bnd (wp_imp h fun as ρ1 h => wp_bnd (wp_imp h fun ds ρ2 h => by
    obtain ⟨d, e, rfl, h⟩ := h
    exact wp_bnd (wp_imp h fun _ ρ3 h => wp_bnd h)))
theorem wp_asgG {m : M A} {g : D → M Unit} (h : Wp m ρ E fun a ρ1 => Wp (frz a) ρ1 E fun d ρ2 => Wp (g d) ρ2 noE fun _ ρ3 => QS .next ρ3) : Wp (asgG m g) ρ E QS :=
  wp_bnd (wp_imp h fun a ρ1 h => wp_bnd (wp_imp h fun d ρ2 h => by
    unfold Wp at h ⊢
    cases e : g d ρ2 with
    | ok u r => rw [e] at h; simp only [e]; exact h
    | err c ns vs r => rw [e] at h; exact h.elim
    | bad => rw [e] at h; exact h.elim))
theorem wp_tgTup {n : Nat} {gs : List D → M Unit} {ds : List D} (h : ds.length = n ∧ Wp (gs ds) ρ E QU) : Wp (gTup n gs (.tup ds)) ρ E QU := by
  show Wp (if ds.length = n then gs ds else bad) ρ E QU
  rw [if_pos h.1]
  exact h.2
theorem wp_gsNil (h : QU () ρ) : Wp (gsNil []) ρ E QU := h
theorem wp_gsCons {g : D → M Unit} {gs : List D → M Unit} {d : D} {ds : List D} (h : Wp (g d) ρ E fun _ ρ1 => Wp (gs ds) ρ1 E QU) : Wp (gsCons g gs (d :: ds)) ρ E QU := wp_bnd h
theorem wp_noErr {m : M β} (h : Wp m ρ noE Q) : Wp (noErr m) ρ E Q := by
  unfold Wp noErr at *
  cases e : m ρ with
  | ok a r => rw [e] at h; exact h
  | err c ns vs r => rw [e] at h; exact h.elim
  | bad => rw [e] at h; exact h.elim
/-- the list in a slot -/
abbrev CelAt (a : A) (ρ : List Sl) (P : Nat → Bool → List D → Prop) : Prop := ∃ s k ds, a = .slot s ∧ ρ[s]? = some (.cel k (.lst ds)) ∧ P s k ds
theorem wp_subG {mo mi : M A} {d : D} (h : Wp mo ρ noE fun o ρ1 => Wp mi ρ1 noE fun i ρ2 => Vw i ρ2 fun di => ∃ s k ds z j, o = .slot s ∧ ρ2[s]? = some (.cel k (.lst ds)) ∧ di = .int z ∧ ixN ds.length z = some j ∧ Nm (ρ2.set s (.cel k (.lst (ds.set j d)))) fun r => QU () r) : Wp (subG mo mi d) ρ E QU :=
  wp_noErr (wp_bnd (wp_imp h fun o ρ1 h => wp_bnd (wp_imp h fun i ρ2 h => wp_view1 (vw_imp h fun di h => by
    obtain ⟨s, k, ds, z, j, rfl, e, rfl, e2, h⟩ := h
    unfold Wp setL
    simp only [e, e2]
    exact h))))
theorem wp_appA {mo me : M A} (h : Wp mo ρ E fun o ρ1 => (∃ s k ds, o = .slot s ∧ ρ1[s]? = some (.cel k (.lst ds))) ∧ Wp me ρ1 E fun a ρ2 => Wp (frz a) ρ2 E fun d ρ3 => ∃ s k ds, o = .slot s ∧ ρ3[s]? = some (.cel k (.lst ds)) ∧ ds.length < sizeLine ∧ Nm (ρ3.set s (.cel k (.lst (ds ++ [d])))) fun r => QA (.d .non) r) : Wp (appA mo me) ρ E QA :=
  wp_bnd (wp_imp h fun o ρ1 h => by
    obtain ⟨⟨s, k, ds, rfl, e⟩, h⟩ := h
    refine wp_bnd ?_
    unfold Wp isCelL
    simp only [e]
    refine wp_bnd (wp_imp h fun a ρ2 h => wp_bnd (wp_imp h fun d ρ3 h => ?_))
    obtain ⟨s', k', ds', e', e2, hl, h⟩ := h
    cases e'
    unfold Wp appL
    simp only [e2, if_pos hl]
    exact h)
theorem wp_seqI {m : M A} (h : Wp m ρ E fun x ρ1 => Wp (frz x) ρ1 E fun d ρ2 => ∃ ds, itemsD d = some ds ∧ QDs ds ρ2) : Wp (seqI m) ρ E QDs := wp_bnd (wp_imp h fun x ρ1 h => wp_bnd (wp_imp h fun d ρ2 h => wp_opt h))
theorem wp_fnI {f : List D → Option (List D)} {ms : M (List A)} (h : Wp ms ρ E fun as ρ1 => Vws as ρ1 fun ds => ∃ zs, f ds = some zs ∧ QDs zs ρ1) : Wp (fnI f ms) ρ E QDs :=
  wp_bnd (wp_imp h fun as ρ1 h => wp_bnd (wp_views (QDs := fun ds ρ1 => Wp (opt (f ds)) ρ1 E QDs) (vws_imp h fun ds h => wp_opt h)))
theorem wp_forS {m : M (List D)} {g : D → M Unit} {b : M Fw} (h : Wp m ρ E fun ds ρ1 => Wp (forGo g b ds) ρ1 E QS) : Wp (forS m g b) ρ E QS := wp_bnd h
/-- a loop by what holds ahead of each turn: I of the items that are left -/
theorem wp_for {g : D → M Unit} {b : M Fw} (I : List D → List Sl → Prop) (fin : ∀ ρ1, I [] ρ1 → QS .next ρ1)
    (step : ∀ d ds ρ1, I (d :: ds) ρ1 → Wp (g d) ρ1 noE fun _ ρ2 => Wp b ρ2 E fun f ρ3 => match f with
      | .next => Fn (I ds ρ3)
      | .cont => Fn (I ds ρ3)
      | .brk => QS .next ρ3
      | .ret d => QS (.ret d) ρ3
      | .retn d => QS (.retn d) ρ3) : ∀ (ds : List D) (ρ : List Sl), I ds ρ → Wp (forGo g b ds) ρ E QS
  | [], ρ, h => fin ρ h
  | d :: ds, ρ, h => by
    have z := step d ds ρ h
    unfold Wp at z ⊢
    unfold forGo
    cases e : g d ρ with
    | ok u r =>
      rw [e] at z
      simp only at z ⊢
      cases e2 : b r with
      | ok f r2 =>
        rw [e2] at z
        cases f with
        | next => exact wp_for I fin step ds r2 (fn_un z)
        | cont => exact wp_for I fin step ds r2 (fn_un z)
        | brk => exact z
        | ret d => exact z
        | retn d => exact z
      | err c ns vs r2 => rw [e2] at z; exact z
      | bad => rw [e2] at z; exact z
    | err c ns vs r => rw [e] at z; exact z.elim
    | bad => rw [e] at z; exact z.elim
/-- a comprehension -/
theorem wp_compGo {vs : List Nat} {g : D → M Unit} {t : M Bool} {e : M A} (I : List D → List D → List Sl → Prop) (fin : ∀ acc ρ1, I [] acc ρ1 → QDs acc ρ1)
    (step : ∀ d ds acc ρ1, I (d :: ds) acc ρ1 → Wp (g d) ρ1 E fun _ ρ2 => Wp t ρ2 E fun b ρ3 => Ift b (Wp e ρ3 E fun a ρ4 => Wp (frz a) ρ4 E fun z ρ5 => clean vs ρ5 = true ∧ acc.length < sizeLine ∧ Nm (wipeL vs ρ5) fun r => Fn (I ds (acc ++ [z]) r)) (clean vs ρ3 = true ∧ Nm (wipeL vs ρ3) fun r => Fn (I ds acc r))) :
    ∀ (ds acc : List D) (ρ : List Sl), I ds acc ρ → Wp (compGo vs g t e ds acc) ρ E QDs
  | [], acc, ρ, h => fin acc ρ h
  | d :: ds, acc, ρ, h => by
    unfold compGo
    refine wp_bnd (wp_imp (step d ds acc ρ h) fun _ ρ2 h => wp_bnd (wp_imp h fun b ρ3 h => ift_of (p := True) (q := True) ⟨fun hb => ?_, fun hb => ?_⟩))
    · refine wp_bnd (wp_imp (h.1 hb) fun a ρ4 h => wp_bnd (wp_imp h fun z ρ5 h => ?_))
      obtain ⟨h1, h2, h3⟩ := h
      have z := wp_compGo I fin step ds _ _ (fn_un (nm_un h3))
      unfold Wp at z ⊢
      simp only [if_pos (And.intro h1 h2)]
      exact z
    · obtain ⟨h1, h3⟩ := h.2 hb
      have z := wp_compGo I fin step ds _ _ (fn_un (nm_un h3))
      unfold Wp at z ⊢
      simp only [if_pos h1]
      exact z
theorem wp_compN {vs : List Nat} {m : M (List D)} {g : D → M Unit} {t : M Bool} {e : M A} (h : Wp m ρ E fun ds ρ1 => clean vs ρ1 = true ∧ Nm (wipeL vs ρ1) fun r => Wp (compGo vs g t e ds []) r noE fun acc ρ2 => clean vs ρ2 = true ∧ Nm (backL ρ1 vs ρ2) fun r2 => QD (.lst acc) r2) : Wp (compN vs m g t e) ρ E QD :=
  wp_bnd (wp_imp h fun ds ρ1 h => by
    obtain ⟨h1, h⟩ := h
    have h := nm_un h
    unfold Wp at h ⊢
    simp only [if_pos h1]
    cases e : compGo vs g t e ds [] (wipeL vs ρ1) with
    | ok acc r => rw [e] at h; simp only [e, if_pos h.1]; exact h.2
    | err c ns vs r => rw [e] at h; exact h.elim
    | bad => rw [e] at h; exact h.elim)
theorem wp_frzXn {i : Nat} (h : QDs [] ρ) : Wp (frzX i []) ρ E QDs := by
  cases i <;> exact h
theorem wp_frzX0 {a : A} {as : List A} (h : Wp (frzs as) ρ E fun ds ρ1 => QDs (.non :: ds) ρ1) : Wp (frzX 0 (a :: as)) ρ E QDs := wp_bnd h
theorem wp_frzXS {i : Nat} {a : A} {as : List A} (h : Wp (frz a) ρ E fun d ρ1 => Wp (frzX i as) ρ1 E fun ds ρ2 => QDs (d :: ds) ρ2) : Wp (frzX (i + 1) (a :: as)) ρ E QDs := wp_bnd (wp_imp h fun d ρ1 h => wp_bnd h)
/-! ### calls -/
theorem wp_args {np n m : Nat} {is : List Nat} {dd : List D} {ms mk : M (List A)} (h : Wp ms ρ E fun as ρ1 => Wp mk ρ1 E fun zs ρ2 => (as.length = n ∧ zs.length = m ∧ (pick is (as ++ zs ++ dd.map A.d)).length = np) ∧ Nm (pick is (as ++ zs ++ dd.map A.d)) fun l => QL l ρ2) : Wp (argsM np n m is dd ms mk) ρ E QL :=
  wp_bnd (wp_imp h fun as ρ1 h => wp_bnd (wp_imp h fun zs ρ2 h => by
    rw [if_pos h.1]
    exact h.2))
abbrev exE1 (E : EX) (ρ : List Sl) : Str → List Str → List D → D → Prop := fun c ns vs _ => E c ns vs ρ
theorem wp_call {f : List D → FRes} {ms : M (List A)} (h : Wp ms ρ E fun as ρ1 => Wp (frzs as) ρ1 E fun ds ρ2 => Fp (f ds) (exE1 E ρ2) fun d _ => QA (.d d) ρ2) : Wp (callA none f ms) ρ E QA :=
  wp_bnd (wp_imp h fun as ρ1 h => wp_bnd (wp_imp h fun ds ρ2 h => by
    unfold Fp at h
    unfold Wp
    cases e : f ds with
    | ok d o => rw [e] at h; simp only [e]; exact h
    | okn d o => rw [e] at h; exact h.elim
    | err c ns vs o => rw [e] at h; simp only [e]; exact h
    | bad => rw [e] at h; exact h.elim))
theorem wp_callN {f : List D → FRes} {ms : M (List A)} (h : Wp ms ρ E fun as ρ1 => Wp (frzs as) ρ1 E fun ds ρ2 => FpN (f ds) (exE1 E ρ2) fun d _ => QD d ρ2) : Wp (callNA none f ms) ρ E QD :=
  wp_bnd (wp_imp h fun as ρ1 h => wp_bnd (wp_imp h fun ds ρ2 h => by
    unfold FpN at h
    unfold Wp
    cases e : f ds with
    | okn d o => rw [e] at h; simp only [e]; exact h
    | ok d o => rw [e] at h; exact h.elim
    | err c ns vs o => rw [e] at h; simp only [e]; exact h
    | bad => rw [e] at h; exact h.elim))
theorem wp_callIO {i : Nat} {f : List D → FRes} {ms : M (List A)} (h : Wp ms ρ E fun as ρ1 => Wp (frzX i as) ρ1 E fun ds ρ2 => ∃ s d0, as[i]? = some (.slot s) ∧ cellAt ρ2 s = some d0 ∧ Nm (ds.set i d0) fun es => Fp (f es) (fun c ns vs o => E c ns vs (putCell ρ2 s o)) fun d o => Nm (putCell ρ2 s o) fun r => QA (.d d) r) : Wp (callA (some i) f ms) ρ E QA :=
  wp_bnd (wp_imp h fun as ρ1 h => wp_bnd (wp_imp h fun ds ρ2 h => by
    obtain ⟨s, d0, e1, e2, h⟩ := h
    have h := nm_un h
    unfold Fp at h
    unfold Wp
    have e3 : ioSet i as ds ρ2 = some (s, ds.set i d0) := by
      unfold ioSet
      simp only [e1, e2]
    simp only [e3]
    cases e : f (ds.set i d0) with
    | ok d o => rw [e] at h; simp only [e]; exact h
    | okn d o => rw [e] at h; exact h.elim
    | err c ns vs o => rw [e] at h; simp only [e]; exact h
    | bad => rw [e] at h; exact h.elim))
/-- a def, by its body -/
theorem fp_run {io : Option Nat} {n : Nat} {mm : M Fw} {ds : List D} {E : Str → List Str → List D → D → Prop} {Q : D → D → Prop} {ρ : List Sl} (hρ : ini io 0 ds ++ List.replicate (n - ds.length) .nil = ρ)
    (h : Wp mm ρ (fun c ns vs r => E c ns vs (outOf io r)) fun f r => match f with
      | .next => Fn (Q .non (outOf io r))
      | .ret d => Fn (Q d (outOf io r))
      | .brk => False
      | .cont => False
      | .retn _ => False) : Fp (runDef io n mm ds) E Q := by
  subst hρ
  unfold Wp at h
  unfold Fp runDef
  cases e : mm (ini io 0 ds ++ List.replicate (n - ds.length) .nil) with
  | ok f r => rw [e] at h; cases f <;> first | exact fn_un h | exact h.elim
  | err c ns vs r => rw [e] at h; exact h
  | bad => rw [e] at h; exact h.elim
theorem fpN_run {io : Option Nat} {n : Nat} {mm : M Fw} {ds : List D} {E : Str → List Str → List D → D → Prop} {Q : D → D → Prop} {ρ : List Sl} (hρ : ini io 0 ds ++ List.replicate (n - ds.length) .nil = ρ)
    (h : Wp mm ρ (fun c ns vs r => E c ns vs (outOf io r)) fun f r => match f with
      | .retn d => Fn (Q d (outOf io r))
      | .next => False
      | .brk => False
      | .cont => False
      | .ret _ => False) : FpN (runDef io n mm ds) E Q := by
  subst hρ
  unfold Wp at h
  unfold FpN runDef
  cases e : mm (ini io 0 ds ++ List.replicate (n - ds.length) .nil) with
  | ok f r => rw [e] at h; cases f <;> first | exact fn_un h | exact h.elim
  | err c ns vs r => rw [e] at h; exact h
  | bad => rw [e] at h; exact h.elim
theorem fp_imp {r : FRes} {E : Str → List Str → List D → D → Prop} {E' : Str → List Str → List D → D → Prop} {Q Q' : D → D → Prop} (h : Fp r E Q) (iE : ∀ c ns vs o, E c ns vs o → E' c ns vs o) (i : ∀ d o, Q d o → Q' d o) : Fp r E' Q' := by
  unfold Fp at *
  cases r with
  | ok d o => exact i _ _ h
  | okn d o => exact h
  | err c ns vs o => exact iE _ _ _ _ h
  | bad => exact h
theorem fp_noE {r : FRes} {E' : Str → List Str → List D → D → Prop} {Q Q' : D → D → Prop} (h : Fp r (fun _ _ _ _ => False) Q) (i : ∀ d o, Q d o → Q' d o) : Fp r E' Q' := fp_imp h (fun _ _ _ _ z => z.elim) i
theorem fpN_noE {r : FRes} {E' : Str → List Str → List D → D → Prop} {Q Q' : D → D → Prop} (h : FpN r (fun _ _ _ _ => False) Q) (i : ∀ d o, Q d o → Q' d o) : FpN r E' Q' := by
  unfold FpN at *
  cases r with
  | ok d o => exact h
  | okn d o => exact i _ _ h
  | err c ns vs o => exact h.elim
  | bad => exact h
theorem fp_ex {r : FRes} {Q : D → D → Prop} (h : Fp r (fun _ _ _ _ => False) Q) : ∃ d o, r = .ok d o ∧ Q d o := by
  unfold Fp at h
  cases r with
  | ok d o => exact ⟨d, o, rfl, h⟩
  | _ => exact h.elim
end

theorem isi_ok {d : D} {t n : String} (h : tyN d = some t) (hn : n ∈ tyNames.tail) : isiD [d, .ty n] = some (.bl (isT t n)) := by
  unfold isiD
  simp only [h, if_pos hn]
theorem eqq_int {i j : Int} : eqqD (.int i) (.int j) = some (.bl (decide (i = j))) := by
  show some (D.bl (i == j)) = _
  rw [show (i == j) = decide (i = j) from by rw [Bool.eq_iff_iff]; simp]
theorem neq_int {i j : Int} : neqD (.int i) (.int j) = some (.bl (!decide (i = j))) := by
  show some (D.bl (!(i == j))) = _
  rw [show (i == j) = decide (i = j) from by rw [Bool.eq_iff_iff]; simp]
theorem eqq_bl {i j : Bool} : eqqD (.bl i) (.bl j) = some (.bl (i == j)) := rfl
theorem neq_bl {i j : Bool} : neqD (.bl i) (.bl j) = some (.bl (!(i == j))) := rfl
theorem mul_int {i j : Int} (h : CMulW i j) : mulD (.int i) (.int j) = some (.int (i * j)) := by
  unfold mulD orD fIC
  simp only [if_pos h]
theorem mod_int {i j : Int} (h : 0 < j) : modD (.int i) (.int j) = some (.int (i % j)) := by
  unfold modD fIC
  simp only [if_pos h]
theorem fdiv_int {i j : Int} (h : CDivW i j) : fdivD (.int i) (.int j) = some (.int (i / j)) := by
  unfold fdivD fIC
  simp only [if_pos h]
theorem pow_int {i j : Int} (h : CPow i j) : powD (.int i) (.int j) = some (.int (i ^ j.toNat)) := by
  unfold powD fIC
  simp only [if_pos h]
theorem add_int {i j : Int} : addD (.int i) (.int j) = some (.int (i + j)) := rfl
theorem sub_int {i j : Int} : subD (.int i) (.int j) = some (.int (i - j)) := rfl
theorem neg_int {i : Int} : negD (.int i) = some (.int (-i)) := rfl
theorem lt_int {i j : Int} : ltD (.int i) (.int j) = some (.bl (decide (i < j))) := rfl
theorem le_int {i j : Int} : leD (.int i) (.int j) = some (.bl (decide (i ≤ j))) := rfl
theorem gt_int {i j : Int} : gtD (.int i) (.int j) = some (.bl (decide (j < i))) := rfl
theorem ge_int {i j : Int} : geD (.int i) (.int j) = some (.bl (decide (j ≤ i))) := rfl
theorem pow_lit {i : Int} {j : Nat} (h1 : j ≤ 1000000) (h2 : i.natAbs < 2 ^ 64) : powD (.int i) (.int (OfNat.ofNat j)) = some (.int (i ^ j)) := by
  exact pow_int (i := i) (j := OfNat.ofNat j) ⟨Int.natCast_nonneg j, Int.ofNat_le.mpr h1, h2⟩
theorem rng1_int {j : Int} (h : -(2 ^ 62) ≤ j ∧ j < 2 ^ 62) : rng1D [.int j] = some ((List.range j.toNat).map fun i => .int (0 + (i : Nat))) := by
  simp only [rng1D, if_pos h]
theorem rng2_int {i j : Int} (h : -(2 ^ 62) ≤ i ∧ i < 2 ^ 62 ∧ -(2 ^ 62) ≤ j ∧ j < 2 ^ 62) : rng2D [.int i, .int j] = some ((List.range (j - i).toNat).map fun k => .int (i + (k : Nat))) := by
  simp only [rng2D, if_pos h]
theorem atI_ok {α : Type} {xs : List α} {i : Int} (h0 : 0 ≤ i) (h1 : i < xs.length) : ∃ x, L2.atI xs i = some x ∧ x ∈ xs := by
  have e : i.toNat < xs.length := by omega
  refine ⟨xs[i.toNat], ?_, List.getElem_mem e⟩
  unfold L2.atI L2.ixN
  rw [if_pos h0, if_pos h1]
  exact List.getElem?_eq_getElem e
theorem ix_str {x : Str} {i : Int} (hl : x.length ≤ sizeLine) (h0 : 0 ≤ i) (h1 : i < x.length) : ∃ ch, ixD (.str x) (.int i) = some (.str ⟨#[ch]⟩) ∧ ch ∈ x.cps.toList := by
  obtain ⟨ch, e, m⟩ := atI_ok (xs := x.cps.toList) h0 (by simpa [Str.length] using h1)
  refine ⟨ch, ?_, m⟩
  show (if x.length ≤ sizeLine then (L2.atI x.cps.toList i).map fun ch => D.str ⟨#[ch]⟩ else none) = _
  rw [if_pos hl, e]
  rfl
theorem ix_lst {xs : List D} {i : Int} (h0 : 0 ≤ i) (h1 : i < xs.length) : ∃ d, ixD (.lst xs) (.int i) = some d ∧ d ∈ xs := atI_ok h0 h1
theorem add_str {x y : Str} (h : x.length + y.length ≤ sizeLine) : addD (.str x) (.str y) = some (.str (x ++ y)) := by
  unfold addD orD
  simp only [fI, orD, addS, if_pos h]
theorem len_app (x y : Str) : (x ++ y).length = x.length + y.length := Array.size_append
theorem len_cut (x : Str) (lo hi : Option Int) : (L2.cutS x lo hi).length ≤ x.length := by
  unfold L2.cutS Str.length
  simp only [List.size_toArray, List.length_take, List.length_drop, Array.length_toList]
  omega
theorem cut_str {x : Str} {lo hi : Option Int} (h : x.length ≤ sizeLine) : cutD lo hi (.str x) = some (.str (L2.cutS x lo hi)) := by
  show (if x.length ≤ sizeLine then some (D.str (L2.cutS x lo hi)) else none) = _
  rw [if_pos h]
theorem len_str {x : Str} (h : x.length ≤ sizeLine) : lenD [.str x] = some (.int x.length) := by
  show (if x.length ≤ sizeLine then some (D.int x.length) else none) = _
  rw [if_pos h]
theorem join_one {zs : List Str} (h1 : ∀ z ∈ zs, z.length = 1) (h2 : zs.length ≤ 1000) : joinD (.str "") [.lst (zs.map D.str)] = some (.str (Txt.join "" zs)) ∧ (Txt.join "" zs).length = zs.length := by
  refine ⟨?_, PySem.W.KT.join_ones zs h1⟩
  have e : (zs.map D.str).mapM asStr = some zs := by
    clear h1 h2
    induction zs with
    | nil => rfl
    | cons z zs ih => rw [List.map_cons, List.mapM_cons, ih]; rfl
  have s : (zs.map (·.length)).sum = zs.length := by
    clear h2 e
    induction zs with
    | nil => rfl
    | cons z zs ih =>
      rw [List.map_cons, List.sum_cons, ih fun w hw => h1 w (List.mem_cons_of_mem _ hw), h1 z List.mem_cons_self, List.length_cons]
      omega
  show joinF "" (zs.map D.str) = _
  unfold joinF
  rw [e]
  show (if _ then _ else _) = _
  rw [if_pos]
  rw [s]
  have : (Str.ofString "").length = 0 := by decide +kernel
  rw [this]
  omega
theorem mul_str {x : Str} {k : Int} (h : 0 ≤ k ∧ k < 16777216 ∧ x.length * k.toNat ≤ sizeLine) : mulD (.str x) (.int k) = some (.str (Txt.mul x k)) := by
  unfold mulD orD
  simp only [fIC, orD, mulL, mulS, if_pos h]
theorem len_mulle {x : Str} {n : Int} {L N : Nat} (hx : x.length ≤ L) (hn : n ≤ (N : Int)) : (Txt.mul x n).length ≤ L * N := PyProof.Rows.len_mul_leN hx hn
theorem strOk_iff {s : Str} : PyData.strOk s = true ↔ ∀ c ∈ s.cps.toList, c < 0x110000 := by
  unfold PyData.strOk
  rw [← Array.all_toList, List.all_eq_true]
  simp only [decide_eq_true_eq]
theorem strOk_app {x y : Str} (h1 : PyData.strOk x = true) (h2 : PyData.strOk y = true) : PyData.strOk (x ++ y) = true := by
  rw [strOk_iff] at *
  intro c hc
  have e : (x ++ y).cps.toList = x.cps.toList ++ y.cps.toList := Array.toList_append
  rw [e] at hc
  rcases List.mem_append.mp hc with h | h
  · exact h1 c h
  · exact h2 c h
theorem strOk_cut {x : Str} {lo hi : Option Int} (h : PyData.strOk x = true) : PyData.strOk (L2.cutS x lo hi) = true := by
  rw [strOk_iff] at *
  intro c hc
  exact h c (List.mem_of_mem_drop (List.mem_of_mem_take hc))
theorem strOk_join {y : Str} (hy : PyData.strOk y = true) : ∀ {zs : List Str}, (∀ z ∈ zs, PyData.strOk z = true) → PyData.strOk (Str.join y zs) = true
  | [], _ => (by show PyData.strOk Str.empty = true; decide +kernel)
  | [z], h => h z List.mem_cons_self
  | z :: w :: zs, h => strOk_app (strOk_app (h z List.mem_cons_self) hy) (strOk_join hy fun v hv => h v (List.mem_cons_of_mem _ hv))
theorem strOk_tjoin {y : Str} (hy : PyData.strOk y = true) {zs : List Str} (h : ∀ z ∈ zs, PyData.strOk z = true) : PyData.strOk (Txt.join y zs) = true := by
  rw [TL.join_eq]
  exact strOk_join hy h
theorem eqq_str {x y : Str} (hx : PyData.strOk x = true) (hy : PyData.strOk y = true) : eqqD (.str x) (.str y) = some (.bl (x == y)) := by
  have s : ∀ z : Str, PyData.strOk z = true → SeqAt.shaped (.str z) = true := fun z hz => by
    show (PyData.strOk z && decide (PyData.depth (.str z) ≤ 64)) = true
    rw [hz]
    rfl
  unfold eqqD eqD
  simp only [toPy, s x hx, s y hy, and_self, if_true]
  rfl
theorem asBl_bl {b : Bool} : asBl (.bl b) = some b := rfl
theorem fp_ok {r : FRes} {d o : D} {E : Str → List Str → List D → D → Prop} {Q : D → D → Prop} (e : r = .ok d o) (h : Q d o) : Fp r E Q := by
  subst e
  exact h
theorem fpN_ok {r : FRes} {d o : D} {E : Str → List Str → List D → D → Prop} {Q : D → D → Prop} (e : r = .okn d o) (h : Q d o) : FpN r E Q := by
  subst e
  exact h
theorem ift_t {p q : Prop} (h : p) : Ift true p q := ⟨fun _ => h, fun z => nomatch z⟩
theorem ift_f {p q : Prop} (h : q) : Ift false p q := ⟨fun z => (nomatch z), fun _ => h⟩
theorem ift_bt {b : Bool} {p q : Prop} (e : b = true) (h : p) : Ift b p q := ⟨fun _ => h, fun z => (Bool.noConfusion (e.symm.trans z))⟩
theorem ift_bf {b : Bool} {p q : Prop} (e : b = false) (h : q) : Ift b p q := ⟨fun z => (Bool.noConfusion (e.symm.trans z)), fun _ => h⟩
theorem ift_nt {p q : Prop} (h : q) : Ift (!true) p q := ⟨fun z => (nomatch z), fun _ => h⟩
theorem ift_nf {p q : Prop} (h : p) : Ift (!false) p q := ⟨fun _ => h, fun z => nomatch z⟩
theorem isi_non_bool : isiD [.non, .ty "bool"] = some (.bl false) := by
  rw [isi_ok (t := "NoneType") rfl (by decide +kernel), show isT "NoneType" "bool" = false from by decide +kernel]
theorem isi_non_int : isiD [.non, .ty "int"] = some (.bl false) := by
  rw [isi_ok (t := "NoneType") rfl (by decide +kernel), show isT "NoneType" "int" = false from by decide +kernel]
theorem isi_non_str : isiD [.non, .ty "str"] = some (.bl false) := by
  rw [isi_ok (t := "NoneType") rfl (by decide +kernel), show isT "NoneType" "str" = false from by decide +kernel]
theorem isi_non_list : isiD [.non, .ty "list"] = some (.bl false) := by
  rw [isi_ok (t := "NoneType") rfl (by decide +kernel), show isT "NoneType" "list" = false from by decide +kernel]
theorem isi_non_tuple : isiD [.non, .ty "tuple"] = some (.bl false) := by
  rw [isi_ok (t := "NoneType") rfl (by decide +kernel), show isT "NoneType" "tuple" = false from by decide +kernel]
theorem isi_non_dict : isiD [.non, .ty "dict"] = some (.bl false) := by
  rw [isi_ok (t := "NoneType") rfl (by decide +kernel), show isT "NoneType" "dict" = false from by decide +kernel]
theorem isi_bl_bool {x : Bool} : isiD [(.bl x), .ty "bool"] = some (.bl true) := by
  rw [isi_ok (t := "bool") rfl (by decide +kernel), show isT "bool" "bool" = true from by decide +kernel]
theorem isi_bl_int {x : Bool} : isiD [(.bl x), .ty "int"] = some (.bl true) := by
  rw [isi_ok (t := "bool") rfl (by decide +kernel), show isT "bool" "int" = true from by decide +kernel]
theorem isi_bl_str {x : Bool} : isiD [(.bl x), .ty "str"] = some (.bl false) := by
  rw [isi_ok (t := "bool") rfl (by decide +kernel), show isT "bool" "str" = false from by decide +kernel]
theorem isi_bl_list {x : Bool} : isiD [(.bl x), .ty "list"] = some (.bl false) := by
  rw [isi_ok (t := "bool") rfl (by decide +kernel), show isT "bool" "list" = false from by decide +kernel]
theorem isi_bl_tuple {x : Bool} : isiD [(.bl x), .ty "tuple"] = some (.bl false) := by
  rw [isi_ok (t := "bool") rfl (by decide +kernel), show isT "bool" "tuple" = false from by decide +kernel]
theorem isi_bl_dict {x : Bool} : isiD [(.bl x), .ty "dict"] = some (.bl false) := by
  rw [isi_ok (t := "bool") rfl (by decide +kernel), show isT "bool" "dict" = false from by decide +kernel]
theorem isi_int_bool {x : Int} : isiD [(.int x), .ty "bool"] = some (.bl false) := by
  rw [isi_ok (t := "int") rfl (by decide +kernel), show isT "int" "bool" = false from by decide +kernel]
theorem isi_int_int {x : Int} : isiD [(.int x), .ty "int"] = some (.bl true) := by
  rw [isi_ok (t := "int") rfl (by decide +kernel), show isT "int" "int" = true from by decide +kernel]
theorem isi_int_str {x : Int} : isiD [(.int x), .ty "str"] = some (.bl false) := by
  rw [isi_ok (t := "int") rfl (by decide +kernel), show isT "int" "str" = false from by decide +kernel]
theorem isi_int_list {x : Int} : isiD [(.int x), .ty "list"] = some (.bl false) := by
  rw [isi_ok (t := "int") rfl (by decide +kernel), show isT "int" "list" = false from by decide +kernel]
theorem isi_int_tuple {x : Int} : isiD [(.int x), .ty "tuple"] = some (.bl false) := by
  rw [isi_ok (t := "int") rfl (by decide +kernel), show isT "int" "tuple" = false from by decide +kernel]
theorem isi_int_dict {x : Int} : isiD [(.int x), .ty "dict"] = some (.bl false) := by
  rw [isi_ok (t := "int") rfl (by decide +kernel), show isT "int" "dict" = false from by decide +kernel]
theorem isi_str_bool {x : Str} : isiD [(.str x), .ty "bool"] = some (.bl false) := by
  rw [isi_ok (t := "str") rfl (by decide +kernel), show isT "str" "bool" = false from by decide +kernel]
theorem isi_str_int {x : Str} : isiD [(.str x), .ty "int"] = some (.bl false) := by
  rw [isi_ok (t := "str") rfl (by decide +kernel), show isT "str" "int" = false from by decide +kernel]
theorem isi_str_str {x : Str} : isiD [(.str x), .ty "str"] = some (.bl true) := by
  rw [isi_ok (t := "str") rfl (by decide +kernel), show isT "str" "str" = true from by decide +kernel]
theorem isi_str_list {x : Str} : isiD [(.str x), .ty "list"] = some (.bl false) := by
  rw [isi_ok (t := "str") rfl (by decide +kernel), show isT "str" "list" = false from by decide +kernel]
theorem isi_str_tuple {x : Str} : isiD [(.str x), .ty "tuple"] = some (.bl false) := by
  rw [isi_ok (t := "str") rfl (by decide +kernel), show isT "str" "tuple" = false from by decide +kernel]
theorem isi_str_dict {x : Str} : isiD [(.str x), .ty "dict"] = some (.bl false) := by
  rw [isi_ok (t := "str") rfl (by decide +kernel), show isT "str" "dict" = false from by decide +kernel]
theorem isi_lst_bool {x : List D} : isiD [(.lst x), .ty "bool"] = some (.bl false) := by
  rw [isi_ok (t := "list") rfl (by decide +kernel), show isT "list" "bool" = false from by decide +kernel]
theorem isi_lst_int {x : List D} : isiD [(.lst x), .ty "int"] = some (.bl false) := by
  rw [isi_ok (t := "list") rfl (by decide +kernel), show isT "list" "int" = false from by decide +kernel]
theorem isi_lst_str {x : List D} : isiD [(.lst x), .ty "str"] = some (.bl false) := by
  rw [isi_ok (t := "list") rfl (by decide +kernel), show isT "list" "str" = false from by decide +kernel]
theorem isi_lst_list {x : List D} : isiD [(.lst x), .ty "list"] = some (.bl true) := by
  rw [isi_ok (t := "list") rfl (by decide +kernel), show isT "list" "list" = true from by decide +kernel]
theorem isi_lst_tuple {x : List D} : isiD [(.lst x), .ty "tuple"] = some (.bl false) := by
  rw [isi_ok (t := "list") rfl (by decide +kernel), show isT "list" "tuple" = false from by decide +kernel]
theorem isi_lst_dict {x : List D} : isiD [(.lst x), .ty "dict"] = some (.bl false) := by
  rw [isi_ok (t := "list") rfl (by decide +kernel), show isT "list" "dict" = false from by decide +kernel]
theorem isi_rol_bool {x : List D} : isiD [(.rol x), .ty "bool"] = some (.bl false) := by
  rw [isi_ok (t := "list") rfl (by decide +kernel), show isT "list" "bool" = false from by decide +kernel]
theorem isi_rol_int {x : List D} : isiD [(.rol x), .ty "int"] = some (.bl false) := by
  rw [isi_ok (t := "list") rfl (by decide +kernel), show isT "list" "int" = false from by decide +kernel]
theorem isi_rol_str {x : List D} : isiD [(.rol x), .ty "str"] = some (.bl false) := by
  rw [isi_ok (t := "list") rfl (by decide +kernel), show isT "list" "str" = false from by decide +kernel]
theorem isi_rol_list {x : List D} : isiD [(.rol x), .ty "list"] = some (.bl true) := by
  rw [isi_ok (t := "list") rfl (by decide +kernel), show isT "list" "list" = true from by decide +kernel]
theorem isi_rol_tuple {x : List D} : isiD [(.rol x), .ty "tuple"] = some (.bl false) := by
  rw [isi_ok (t := "list") rfl (by decide +kernel), show isT "list" "tuple" = false from by decide +kernel]
theorem isi_rol_dict {x : List D} : isiD [(.rol x), .ty "dict"] = some (.bl false) := by
  rw [isi_ok (t := "list") rfl (by decide +kernel), show isT "list" "dict" = false from by decide +kernel]
theorem isi_tup_bool {x : List D} : isiD [(.tup x), .ty "bool"] = some (.bl false) := by
  rw [isi_ok (t := "tuple") rfl (by decide +kernel), show isT "tuple" "bool" = false from by decide +kernel]
theorem isi_tup_int {x : List D} : isiD [(.tup x), .ty "int"] = some (.bl false) := by
  rw [isi_ok (t := "tuple") rfl (by decide +kernel), show isT "tuple" "int" = false from by decide +kernel]
theorem isi_tup_str {x : List D} : isiD [(.tup x), .ty "str"] = some (.bl false) := by
  rw [isi_ok (t := "tuple") rfl (by decide +kernel), show isT "tuple" "str" = false from by decide +kernel]
theorem isi_tup_list {x : List D} : isiD [(.tup x), .ty "list"] = some (.bl false) := by
  rw [isi_ok (t := "tuple") rfl (by decide +kernel), show isT "tuple" "list" = false from by decide +kernel]
theorem isi_tup_tuple {x : List D} : isiD [(.tup x), .ty "tuple"] = some (.bl true) := by
  rw [isi_ok (t := "tuple") rfl (by decide +kernel), show isT "tuple" "tuple" = true from by decide +kernel]
theorem isi_tup_dict {x : List D} : isiD [(.tup x), .ty "dict"] = some (.bl false) := by
  rw [isi_ok (t := "tuple") rfl (by decide +kernel), show isT "tuple" "dict" = false from by decide +kernel]
theorem isi_dct_bool {x : List Key} {y : List D} : isiD [(.dct x y), .ty "bool"] = some (.bl false) := by
  rw [isi_ok (t := "dict") rfl (by decide +kernel), show isT "dict" "bool" = false from by decide +kernel]
theorem isi_dct_int {x : List Key} {y : List D} : isiD [(.dct x y), .ty "int"] = some (.bl false) := by
  rw [isi_ok (t := "dict") rfl (by decide +kernel), show isT "dict" "int" = false from by decide +kernel]
theorem isi_dct_str {x : List Key} {y : List D} : isiD [(.dct x y), .ty "str"] = some (.bl false) := by
  rw [isi_ok (t := "dict") rfl (by decide +kernel), show isT "dict" "str" = false from by decide +kernel]
theorem isi_dct_list {x : List Key} {y : List D} : isiD [(.dct x y), .ty "list"] = some (.bl false) := by
  rw [isi_ok (t := "dict") rfl (by decide +kernel), show isT "dict" "list" = false from by decide +kernel]
theorem isi_dct_tuple {x : List Key} {y : List D} : isiD [(.dct x y), .ty "tuple"] = some (.bl false) := by
  rw [isi_ok (t := "dict") rfl (by decide +kernel), show isT "dict" "tuple" = false from by decide +kernel]
theorem isi_dct_dict {x : List Key} {y : List D} : isiD [(.dct x y), .ty "dict"] = some (.bl true) := by
  rw [isi_ok (t := "dict") rfl (by decide +kernel), show isT "dict" "dict" = true from by decide +kernel]
end Mi
namespace Lw
open PySem L2 Mi
def top (i : Nat) : Stmt := PySem.Challenge.pw_truthwell_k01_kinds_of_any_values.main.body.getD i (.Pass ⟨0, 0, 0, 0⟩)
abbrev s__law_jug : Stmt := (top 8)
abbrev N__law_jug : List Str := ["_law_script", "_law_whole", "_law_cell"]
def m__law_jug : M Fw := (seqS (asgS 1 (eC (.int 59)))
    (seqS (forS (seqI (sliceA (eVar 0) none (some (eC (.int 40))))) (putV 2) (asgS 1 (binA addD (binA addD (binA mulD (eVar 1) (eC (.int 1291))) (binA modD (cbA absD (asCons (cbA intD (asCons (eVar 2) asNil)) asNil)) (binA powD (eC (.int 10)) (eC (.int 40))))) (binA mulD (binA powD (eC (.int 10)) (eC (.int 41))) (cbA intD (asCons (binA ltD (eVar 2) (eC (.int 0))) asNil))))))
    (retNS (lstN (asCons (eVar 1) (asCons (eC (.int 0)) asNil))))))
def f__law_jug : List D → FRes := runDef none 3 m__law_jug
abbrev s__law_pour : Stmt := (top 9)
abbrev N__law_pour : List Str := ["_law_jug_here", "_law_many", "_law_rest"]
def m__law_pour : M Fw := (seqS (ifS (blT (binA eqqD (binA ixD (eVar 0) (eC (.int 0))) (eC (.int 0)))) (seqS (asgG (binA addD (binA ixD (eVar 0) (eC (.int 1))) (eC (.int 1))) (subG (eVar 0) (eC (.int 1))))
    (asgG (binA fdivD (binA powD (binA addD (binA mulD (eC (.int 1013)) (binA ixD (eVar 0) (eC (.int 1)))) (eC (.int 3643))) (eC (.int 13))) (eC (.int 7))) (subG (eVar 0) (eC (.int 0))))) nextS)
    (seqS (asgS 2 (binA ixD (eVar 0) (eC (.int 0))))
    (seqS (asgG (binA fdivD (eVar 2) (eVar 1)) (subG (eVar 0) (eC (.int 0))))
    (retS (binA modD (eVar 2) (eVar 1))))))
def f__law_pour : List D → FRes := runDef (some 0) 3 m__law_pour
abbrev s__law_text : Stmt := (top 10)
abbrev N__law_text : List Str := ["_law_jug_here", "_law_is_odd", "_law_many", "_law_signs", "_law_text_here", "_law_at", "_law_others", "_law_turn"]
def m__law_text : M Fw := (seqS (par2S 1 2 (asCons (binA eqqD (callA (some 0) f__law_pour (argsM 2 2 0 [0, 1] [] (asCons (eVar 0) (asCons (eC (.int 3)) asNil)) asNil)) (eC (.int 0))) (asCons (callA (some 0) f__law_pour (argsM 2 2 0 [0, 1] [] (asCons (eVar 0) (asCons (eC (.int 15)) asNil)) asNil)) asNil)))
    (seqS (asgS 3 (eC (.str "abcdefghijklmnopqrstuvwxyz0123456789")))
    (seqS (asgS 4 (mtA "str" joinD (eC (.str "")) (asCons (newA (compN [7] (fnI rng1D (asCons (eVar 2) asNil)) (putV 7) (ret true) (binA ixD (eVar 3) (callA (some 0) f__law_pour (argsM 2 2 0 [0, 1] [] (asCons (eVar 0) (asCons (eC (.int 36)) asNil)) asNil))))) asNil)))
    (seqS (ifS (orT (notT (tstA (eVar 1))) (blT (binA eqqD (eVar 2) (eC (.int 0))))) (retS (eVar 4)) nextS)
    (seqS (par2S 5 6 (asCons (callA (some 0) f__law_pour (argsM 2 2 0 [0, 1] [] (asCons (eVar 0) (asCons (eVar 2) asNil)) asNil)) (asCons (eC (.str "AMZ_ .-;:|/([")) asNil)))
    (retS (binA addD (binA addD (sliceA (eVar 4) none (some (eVar 5))) (binA ixD (eVar 6) (callA (some 0) f__law_pour (argsM 2 2 0 [0, 1] [] (asCons (eVar 0) (asCons (cbA lenD (asCons (eVar 6) asNil)) asNil)) asNil)))) (sliceA (eVar 4) (some (binA addD (eVar 5) (eC (.int 1)))) none))))))))
def f__law_text : List D → FRes := runDef (some 0) 8 m__law_text
abbrev s__law_value : Stmt := (top 11)
abbrev N__law_value : List Str := ["_law_jug_here", "_law_way", "_law_plain"]
def m__law_value : M Fw := (seqS (asgS 1 (callA (some 0) f__law_pour (argsM 2 2 0 [0, 1] [] (asCons (eVar 0) (asCons (eC (.int 4)) asNil)) asNil)))
    (seqS (ifS (blT (binA eqqD (eVar 1) (eC (.int 0)))) (retS (binA mulD (callA (some 0) f__law_pour (argsM 2 2 0 [0, 1] [] (asCons (eVar 0) (asCons (binA powD (eC (.int 10)) (eC (.int 40))) asNil)) asNil)) (binA subD (eC (.int 1)) (binA mulD (eC (.int 2)) (callA (some 0) f__law_pour (argsM 2 2 0 [0, 1] [] (asCons (eVar 0) (asCons (eC (.int 2)) asNil)) asNil)))))) nextS)
    (seqS (ifS (blT (binA ltD (eVar 1) (eC (.int 3)))) (retS (callA (some 0) f__law_text (argsM 1 1 0 [0] [] (asCons (eVar 0) asNil) asNil))) nextS)
    (seqS (asgS 2 (newA (lstN (asCons (eC .non) (asCons (eC (.bl true)) (asCons (eC (.bl false)) (asCons (eC (.int 0)) (asCons (eC (.int 1)) (asCons (unA negD (eC (.int 1))) (asCons (eC (.str "")) (asCons (eC (.str "a")) (asCons (eC (.str "9a")) (asCons (binA mulD (eC (.str "z")) (eC (.int 12))) (asCons (binA mulD (eC (.str "z")) (eC (.int 13))) (asCons (newA (lstN asNil)) (asCons (newA (lstN (asCons (eC (.str "a")) asNil))) (asCons (tupA (asCons (eC (.str "a")) asNil)) (asCons (tupA (asCons (eC (.int 1)) asNil)) (asCons (newA (lstN (asCons (eC (.int 1)) asNil))) asNil)))))))))))))))))))
    (retS (binA ixD (eVar 2) (callA (some 0) f__law_pour (argsM 2 2 0 [0, 1] [] (asCons (eVar 0) (asCons (cbA lenD (asCons (eVar 2) asNil)) asNil)) asNil))))))))
def f__law_value : List D → FRes := runDef (some 0) 3 m__law_value
abbrev s_is_integer : Stmt := (top 4)
abbrev N_is_integer : List Str := ["value"]
def m_is_integer : M Fw := (retS (andA (cbA isiD (asCons (eVar 0) (asCons (eC (.ty "int")) asNil))) (notA (cbA isiD (asCons (eVar 0) (asCons (eC (.ty "bool")) asNil))))))
def f_is_integer : List D → FRes := runDef none 1 m_is_integer
abbrev s_is_name : Stmt := (top 6)
abbrev N_is_name : List Str := ["value", "sign"]
def m_is_name : M Fw := (seqS (ifS (orT (notT (tstA (cbA isiD (asCons (eVar 0) (asCons (eC (.ty "str")) asNil))))) (notT (chainT leD leD (eC (.int 1)) (cbA lenD (asCons (eVar 0) asNil)) (eC (.int 12))))) (retS (eC (.bl false))) nextS)
    (seqS (ifS (blT (binA (inD true) (binA ixD (eVar 0) (eC (.int 0))) (eC (.str "abcdefghijklmnopqrstuvwxyz")))) (retS (eC (.bl false))) nextS)
    (retS (cbA allD (asCons (newA (compN [1] (seqI (eVar 0)) (putV 1) (ret true) (orA (binA (inD false) (eVar 1) (eC (.str "abcdefghijklmnopqrstuvwxyz"))) (binA (inD false) (eVar 1) (eC (.str "0123456789")))))) asNil)))))
def f_is_name : List D → FRes := runDef none 2 m_is_name
abbrev s__law_is_number : Stmt := (top 12)
abbrev N__law_is_number : List Str := ["_law_value_here"]
def m__law_is_number : M Fw := (retS (andA (cbA isiD (asCons (eVar 0) (asCons (eC (.ty "int")) asNil))) (andA (notA (binA isXD (eVar 0) (eC (.bl true)))) (notA (binA isXD (eVar 0) (eC (.bl false)))))))
def f__law_is_number : List D → FRes := runDef none 1 m__law_is_number
abbrev s_is_within : Stmt := (top 5)
abbrev N_is_within : List Str := ["value", "least", "most"]
def m_is_within : M Fw := (seqS (ifS (notT (tstA (callA none f_is_integer (argsM 1 1 0 [0] [] (asCons (eVar 0) asNil) asNil)))) (retS (eC (.bl false))) nextS)
    (seqS (ifS (andT (blT (binA isnND (eVar 1) (eC .non))) (blT (binA ltD (eVar 0) (eVar 1)))) (retS (eC (.bl false))) nextS)
    (retS (orA (binA isND (eVar 2) (eC .non)) (binA leD (eVar 0) (eVar 2))))))
def f_is_within : List D → FRes := runDef none 3 m_is_within
abbrev s__law_bound : Stmt := (top 14)
abbrev N__law_bound : List Str := ["_law_jug_here", "_law_value_here", "_law_begin"]
def m__law_bound : M Fw := (seqS (asgS 2 (ifA (tstA (callA none f__law_is_number (argsM 1 1 0 [0] [] (asCons (eVar 1) asNil) asNil))) (eVar 1) (eC (.int 0))))
    (retS (binA ixD (newA (lstN (asCons (eC .non) (asCons (eVar 2) (asCons (binA subD (eVar 2) (eC (.int 1))) (asCons (binA addD (eVar 2) (eC (.int 1))) (asCons (binA subD (eVar 2) (binA powD (eC (.int 10)) (eC (.int 41)))) (asCons (binA addD (eVar 2) (binA powD (eC (.int 10)) (eC (.int 41)))) asNil)))))))) (callA (some 0) f__law_pour (argsM 2 2 0 [0, 1] [] (asCons (eVar 0) (asCons (eC (.int 6)) asNil)) asNil)))))
def f__law_bound : List D → FRes := runDef (some 0) 3 m__law_bound
abbrev s__law_within_right : Stmt := (top 15)
abbrev N__law_within_right : List Str := ["_law_jug_here", "_law_value_here", "_law_least", "_law_most", "_law_due", "_law_told"]
def m__law_within_right : M Fw := (seqS (par2S 2 3 (asCons (callA (some 0) f__law_bound (argsM 2 2 0 [0, 1] [] (asCons (eVar 0) (asCons (eVar 1) asNil)) asNil)) (asCons (callA (some 0) f__law_bound (argsM 2 2 0 [0, 1] [] (asCons (eVar 0) (asCons (eVar 1) asNil)) asNil)) asNil)))
    (seqS (asgS 4 (callA none f__law_is_number (argsM 1 1 0 [0] [] (asCons (eVar 1) asNil) asNil)))
    (seqS (ifS (andT (tstA (eVar 4)) (andT (blT (binA isnND (eVar 2) (eC .non))) (blT (binA ltD (eVar 1) (eVar 2))))) (asgS 4 (eC (.bl false))) nextS)
    (seqS (ifS (andT (tstA (eVar 4)) (andT (blT (binA isnND (eVar 3) (eC .non))) (blT (binA ltD (eVar 3) (eVar 1))))) (asgS 4 (eC (.bl false))) nextS)
    (seqS (asgS 5 (callA none f_is_within (argsM 3 0 3 [1, 2, 0] [] asNil (asCons (eVar 3) (asCons (eVar 1) (asCons (eVar 2) asNil))))))
    (retS (andA (cbA isiD (asCons (eVar 5) (asCons (eC (.ty "bool")) asNil))) (binA eqqD (eVar 5) (eVar 4)))))))))
def f__law_within_right : List D → FRes := runDef (some 0) 6 m__law_within_right
abbrev s__law_is_name : Stmt := (top 13)
abbrev N__law_is_name : List Str := ["_law_value_here", "_law_sign"]
def m__law_is_name : M Fw := (seqS (ifS (orT (notT (tstA (cbA isiD (asCons (eVar 0) (asCons (eC (.ty "str")) asNil))))) (orT (blT (binA eqqD (eVar 0) (eC (.str "")))) (orT (blT (binA gtD (cbA lenD (asCons (eVar 0) asNil)) (eC (.int 12)))) (notT (chainT leD leD (eC (.str "a")) (binA ixD (eVar 0) (eC (.int 0))) (eC (.str "z"))))))) (retS (eC (.bl false))) nextS)
    (seqS (forS (seqI (eVar 0)) (putV 1) (ifS (andT (notT (chainT leD leD (eC (.str "a")) (eVar 1) (eC (.str "z")))) (notT (chainT leD leD (eC (.str "0")) (eVar 1) (eC (.str "9"))))) (retS (eC (.bl false))) nextS))
    (retS (eC (.bl true)))))
def f__law_is_name : List D → FRes := runDef none 2 m__law_is_name
abbrev s_law : Stmt := (top 16)
abbrev N_law : List Str := ["_law_script", "_law_jug_here", "_law_turn", "_law_value_here", "_law_told"]
def m_law : M Fw := (seqS (asgNS 1 (callNA none f__law_jug (argsM 1 1 0 [0] [] (asCons (eVar 0) asNil) asNil)))
    (seqS (forS (fnI rng1D (asCons (eC (.int 12)) asNil)) (putV 2) (seqS (asgS 3 (callA (some 0) f__law_value (argsM 1 1 0 [0] [] (asCons (eVar 1) asNil) asNil)))
    (seqS (asgS 4 (newA (lstN (asCons (callA none f_is_integer (argsM 1 0 1 [0] [] asNil (asCons (eVar 3) asNil))) (asCons (callA none f_is_name (argsM 1 0 1 [0] [] asNil (asCons (eVar 3) asNil))) asNil)))))
    (seqS (ifS (orT (blT (binA neqD (eVar 4) (newA (lstN (asCons (callA none f__law_is_number (argsM 1 1 0 [0] [] (asCons (eVar 3) asNil) asNil)) (asCons (callA none f__law_is_name (argsM 1 1 0 [0] [] (asCons (eVar 3) asNil) asNil)) asNil)))))) (orT (notT (tstA (cbA isiD (asCons (binA ixD (eVar 4) (eC (.int 0))) (asCons (eC (.ty "bool")) asNil))))) (notT (tstA (cbA isiD (asCons (binA ixD (eVar 4) (eC (.int 1))) (asCons (eC (.ty "bool")) asNil))))))) (retS (eC (.bl false))) nextS)
    (ifS (orT (notT (tstA (callA (some 0) f__law_within_right (argsM 2 2 0 [0, 1] [] (asCons (eVar 1) (asCons (eVar 3) asNil)) asNil)))) (notT (tstA (callA (some 0) f__law_within_right (argsM 2 2 0 [0, 1] [] (asCons (eVar 1) (asCons (eVar 3) asNil)) asNil))))) (retS (eC (.bl false))) nextS)))))
    (retS (eC (.bl true)))))
def f_law : List D → FRes := runDef none 5 m_law
structure TX (K : PySem.W.Frag) (mg : Str → Option Value) : Prop where
  f_int : mg "int" = none
  f_abs : mg "abs" = none
  f_range : mg "range" = none
  f_len : mg "len" = none
  f_isinstance : mg "isinstance" = none
  f_bool : mg "bool" = none
  f_str : mg "str" = none
  i_MOST_SIGNS : ∃ t, mg "MOST_SIGNS" = some (.int 12 t)
  s_SMALL : ∃ t, mg "SMALL" = some (.str "abcdefghijklmnopqrstuvwxyz" t)
  s_DIGITS : ∃ t, mg "DIGITS" = some (.str "0123456789" t)
  f_all : mg "all" = none
section
variable {P : Program} {w : World} {K : PySem.W.Frag} {mg : Str → Option Value} {base : Heap} (T : TX K mg)
theorem sc__law_jug : FnScope N__law_jug ["_law_script"] (defScope s__law_jug) := ⟨rfl, rfl, rfl, by decide +kernel, rfl, by decide +kernel, by decide +kernel⟩
theorem st__law_jug__law_whole : stB N__law_jug (defScope s__law_jug) none 1 "_law_whole" = true := by decide +kernel
theorem nm__law_jug__law_script : nmB N__law_jug (defScope s__law_jug) 0 "_law_script" = true := by decide +kernel
theorem st__law_jug__law_cell : stB N__law_jug (defScope s__law_jug) none 2 "_law_cell" = true := by decide +kernel
theorem nm__law_jug__law_whole : nmB N__law_jug (defScope s__law_jug) 1 "_law_whole" = true := by decide +kernel
theorem nm__law_jug__law_cell : nmB N__law_jug (defScope s__law_jug) 2 "_law_cell" = true := by decide +kernel
theorem gb__law_jug_int : gbB (defScope s__law_jug) "int" = true := by decide +kernel
theorem gb__law_jug_abs : gbB (defScope s__law_jug) "abs" = true := by decide +kernel
include T in
theorem ok__law_jug {f : Addr} {fd : FuncData} (F : FunD K "_law_jug" "_law_jug" (defArgs s__law_jug) (defBody s__law_jug) (defScope s__law_jug) [] [] f fd) :
    FnOk P w K mg base (L2.CX P w) 1 f fd ["_law_script"] (spOf K mg none 1 f__law_jug) :=
  def_ok (N := N__law_jug) (ps := ["_law_script"]) (k := 0) (m := m__law_jug) (io := none) F sc__law_jug (show EvB (cxs P w K mg base 0 N__law_jug (defScope s__law_jug)) _ m__law_jug from (eb_cons (es_set 1 ev_int st__law_jug__law_whole)
    (eb_cons (es_for (ei_seq (ev_slice (ev_var 0 nm__law_jug__law_script) EvP.none (EvP.some ev_int))) (eg_name 2 st__law_jug__law_cell) (eb_one (es_set 1 (ev_bin od_add (ev_bin od_add (ev_bin od_mul (ev_var 1 nm__law_jug__law_whole) ev_int) (ev_bin od_mod (ev_callB cd_abs (ea_cons (ev_callTy cd_int (ea_cons (ev_var 2 nm__law_jug__law_cell) ea_nil) T.f_int rfl gb__law_jug_int) ea_nil) T.f_abs rfl gb__law_jug_abs) (ev_bin od_pow ev_int ev_int))) (ev_bin od_mul (ev_bin od_pow ev_int ev_int) (ev_callTy cd_int (ea_cons (ev_cmp od_lt (ev_var 2 nm__law_jug__law_cell) ev_int) ea_nil) T.f_int rfl gb__law_jug_int))) st__law_jug__law_whole)))
    (eb_one (es_retN (en_lst (ea_cons (ev_var 1 nm__law_jug__law_whole) (ea_cons ev_int ea_nil))))))))
theorem sc__law_pour : FnScope N__law_pour ["_law_jug_here", "_law_many"] (defScope s__law_pour) := ⟨rfl, rfl, rfl, by decide +kernel, rfl, by decide +kernel, by decide +kernel⟩
theorem nm__law_pour__law_jug_here : nmB N__law_pour (defScope s__law_pour) 0 "_law_jug_here" = true := by decide +kernel
theorem st__law_pour__law_rest : stB N__law_pour (defScope s__law_pour) none 2 "_law_rest" = true := by decide +kernel
theorem nm__law_pour__law_rest : nmB N__law_pour (defScope s__law_pour) 2 "_law_rest" = true := by decide +kernel
theorem nm__law_pour__law_many : nmB N__law_pour (defScope s__law_pour) 1 "_law_many" = true := by decide +kernel
include T in
theorem ok__law_pour {f : Addr} {fd : FuncData} (F : FunD K "_law_pour" "_law_pour" (defArgs s__law_pour) (defBody s__law_pour) (defScope s__law_pour) [] [] f fd) :
    FnOk P w K mg base (L2.CX P w) 1 f fd ["_law_jug_here", "_law_many"] (spOf K mg (some 0) 2 f__law_pour) :=
  def_ok (N := N__law_pour) (ps := ["_law_jug_here", "_law_many"]) (k := 0) (m := m__law_pour) (io := (some 0)) F sc__law_pour (show EvB (cxs P w K mg base 0 N__law_pour (defScope s__law_pour)) _ m__law_pour from (eb_cons (es_if (et_cmp od_eq (ev_ix (ev_var 0 nm__law_pour__law_jug_here) ev_int) ev_int) (eb_cons (es_asg (ev_bin od_add (ev_ix (ev_var 0 nm__law_pour__law_jug_here) ev_int) ev_int) (eg_sub (ev_var 0 nm__law_pour__law_jug_here) ev_int) (fun _ _ => swapped1 rfl))
    (eb_one (es_asg (ev_bin od_fdiv (ev_bin od_pow (ev_bin od_add (ev_bin od_mul ev_int (ev_ix (ev_var 0 nm__law_pour__law_jug_here) ev_int)) ev_int) ev_int) ev_int) (eg_sub (ev_var 0 nm__law_pour__law_jug_here) ev_int) (fun _ _ => swapped1 rfl)))) eb_nil)
    (eb_cons (es_set 2 (ev_ix (ev_var 0 nm__law_pour__law_jug_here) ev_int) st__law_pour__law_rest)
    (eb_cons (es_asg (ev_bin od_fdiv (ev_var 2 nm__law_pour__law_rest) (ev_var 1 nm__law_pour__law_many)) (eg_sub (ev_var 0 nm__law_pour__law_jug_here) ev_int) (fun _ _ => swapped1 rfl))
    (eb_one (es_ret (ev_bin od_mod (ev_var 2 nm__law_pour__law_rest) (ev_var 1 nm__law_pour__law_many))))))))
theorem sc__law_text : FnScope N__law_text ["_law_jug_here"] (defScope s__law_text) := ⟨rfl, rfl, rfl, by decide +kernel, rfl, by decide +kernel, by decide +kernel⟩
theorem nm__law_text__law_jug_here : nmB N__law_text (defScope s__law_text) 0 "_law_jug_here" = true := by decide +kernel
theorem gb__law_text__law_pour : gbB (defScope s__law_text) "_law_pour" = true := by decide +kernel
theorem st__law_text__law_is_odd : stB N__law_text (defScope s__law_text) none 1 "_law_is_odd" = true := by decide +kernel
theorem st__law_text__law_many : stB N__law_text (defScope s__law_text) none 2 "_law_many" = true := by decide +kernel
theorem st__law_text__law_signs : stB N__law_text (defScope s__law_text) none 3 "_law_signs" = true := by decide +kernel
theorem nm__law_text__law_many : nmB N__law_text (defScope s__law_text) 2 "_law_many" = true := by decide +kernel
theorem gb__law_text_range : gbB (defScope s__law_text) "range" = true := by decide +kernel
theorem st__law_text__law_text_here : stB N__law_text (defScope s__law_text) none 4 "_law_text_here" = true := by decide +kernel
theorem nm__law_text__law_is_odd : nmB N__law_text (defScope s__law_text) 1 "_law_is_odd" = true := by decide +kernel
theorem nm__law_text__law_text_here : nmB N__law_text (defScope s__law_text) 4 "_law_text_here" = true := by decide +kernel
theorem st__law_text__law_at : stB N__law_text (defScope s__law_text) none 5 "_law_at" = true := by decide +kernel
theorem st__law_text__law_others : stB N__law_text (defScope s__law_text) none 6 "_law_others" = true := by decide +kernel
theorem nm__law_text__law_at : nmB N__law_text (defScope s__law_text) 5 "_law_at" = true := by decide +kernel
theorem nm__law_text__law_others : nmB N__law_text (defScope s__law_text) 6 "_law_others" = true := by decide +kernel
theorem gb__law_text_len : gbB (defScope s__law_text) "len" = true := by decide +kernel
include T in
theorem ok__law_text {fd__law_pour : FuncData} (d__law_pour : DefF P w K mg base "_law_pour" fd__law_pour ["_law_jug_here", "_law_many"] 1 (some 0) f__law_pour) (b__law_pour_2 : BndP K fd__law_pour ["_law_jug_here", "_law_many"] 2 [] [0, 1] []) {f : Addr} {fd : FuncData} (F : FunD K "_law_text" "_law_text" (defArgs s__law_text) (defBody s__law_text) (defScope s__law_text) [] [] f fd) :
    FnOk P w K mg base (L2.CX P w) 2 f fd ["_law_jug_here"] (spOf K mg (some 0) 1 f__law_text) :=
  def_ok (N := N__law_text) (ps := ["_law_jug_here"]) (k := 1) (m := m__law_text) (io := (some 0)) F sc__law_text (show EvB (cxs P w K mg base 1 N__law_text (defScope s__law_text)) _ m__law_text from (eb_cons (es_par2 1 2 (ea_cons (ev_cmp od_eq (ev_call d__law_pour b__law_pour_2 (fun _ => .nil) (ea_cons (ev_var 0 nm__law_text__law_jug_here) (ea_cons ev_int ea_nil)) gb__law_text__law_pour) ev_int) (ea_cons (ev_call d__law_pour b__law_pour_2 (fun _ => .nil) (ea_cons (ev_var 0 nm__law_text__law_jug_here) (ea_cons ev_int ea_nil)) gb__law_text__law_pour) ea_nil)) (by (show swN (defScope s__law_text) _ _ = _); decide +kernel) st__law_text__law_is_odd st__law_text__law_many rfl rfl)
    (eb_cons (es_set 3 ev_str st__law_text__law_signs)
    (eb_cons (es_set 4 (ev_mt PySem.F.plainAttrs_str PySem.F.slot_str_join PySem.F.type_str_join md_join ev_str (ea_cons (ev_new (en_comp (own := [("_law_turn", 7)]) (ei_range1 (ea_cons (ev_var 2 nm__law_text__law_many) ea_nil) T.f_range gb__law_text_range) (by (show blkC N__law_text (defScope s__law_text) _ _ = true); decide +kernel) (eg_name 7 (by (show stB N__law_text (relS _ (defScope s__law_text)) (some _) _ _ = true); decide +kernel)) ets_nil (ev_ix (ev_var 3 (by (show nmB N__law_text (relS _ (defScope s__law_text)) _ _ = true); decide +kernel)) (ev_call d__law_pour b__law_pour_2 (fun _ => .nil) (ea_cons (ev_var 0 (by (show nmB N__law_text (relS _ (defScope s__law_text)) _ _ = true); decide +kernel)) (ea_cons ev_int ea_nil)) (by (show gbB (relS _ (defScope s__law_text)) _ = true); decide +kernel))))) ea_nil)) st__law_text__law_text_here)
    (eb_cons (es_if (et_w (ew_or (et_not (et_tru (ev_var 1 nm__law_text__law_is_odd))) (ew_or1 (et_cmp od_eq (ev_var 2 nm__law_text__law_many) ev_int)))) (eb_one (es_ret (ev_var 4 nm__law_text__law_text_here))) eb_nil)
    (eb_cons (es_par2 5 6 (ea_cons (ev_call d__law_pour b__law_pour_2 (fun _ => .nil) (ea_cons (ev_var 0 nm__law_text__law_jug_here) (ea_cons (ev_var 2 nm__law_text__law_many) ea_nil)) gb__law_text__law_pour) (ea_cons ev_str ea_nil)) (by (show swN (defScope s__law_text) _ _ = _); decide +kernel) st__law_text__law_at st__law_text__law_others rfl rfl)
    (eb_one (es_ret (ev_bin od_add (ev_bin od_add (ev_slice (ev_var 4 nm__law_text__law_text_here) EvP.none (EvP.some (ev_var 5 nm__law_text__law_at))) (ev_ix (ev_var 6 nm__law_text__law_others) (ev_call d__law_pour b__law_pour_2 (fun _ => .nil) (ea_cons (ev_var 0 nm__law_text__law_jug_here) (ea_cons (ev_callB cd_len (ea_cons (ev_var 6 nm__law_text__law_others) ea_nil) T.f_len rfl gb__law_text_len) ea_nil)) gb__law_text__law_pour))) (ev_slice (ev_var 4 nm__law_text__law_text_here) (EvP.some (ev_bin od_add (ev_var 5 nm__law_text__law_at) ev_int)) EvP.none))))))))))
theorem sc__law_value : FnScope N__law_value ["_law_jug_here"] (defScope s__law_value) := ⟨rfl, rfl, rfl, by decide +kernel, rfl, by decide +kernel, by decide +kernel⟩
theorem nm__law_value__law_jug_here : nmB N__law_value (defScope s__law_value) 0 "_law_jug_here" = true := by decide +kernel
theorem gb__law_value__law_pour : gbB (defScope s__law_value) "_law_pour" = true := by decide +kernel
theorem st__law_value__law_way : stB N__law_value (defScope s__law_value) none 1 "_law_way" = true := by decide +kernel
theorem nm__law_value__law_way : nmB N__law_value (defScope s__law_value) 1 "_law_way" = true := by decide +kernel
theorem gb__law_value__law_text : gbB (defScope s__law_value) "_law_text" = true := by decide +kernel
theorem st__law_value__law_plain : stB N__law_value (defScope s__law_value) none 2 "_law_plain" = true := by decide +kernel
theorem nm__law_value__law_plain : nmB N__law_value (defScope s__law_value) 2 "_law_plain" = true := by decide +kernel
theorem gb__law_value_len : gbB (defScope s__law_value) "len" = true := by decide +kernel
include T in
theorem ok__law_value {fd__law_pour : FuncData} (d__law_pour : DefF P w K mg base "_law_pour" fd__law_pour ["_law_jug_here", "_law_many"] 1 (some 0) f__law_pour) (b__law_pour_2 : BndP K fd__law_pour ["_law_jug_here", "_law_many"] 2 [] [0, 1] []) {fd__law_text : FuncData} (d__law_text : DefF P w K mg base "_law_text" fd__law_text ["_law_jug_here"] 2 (some 0) f__law_text) (b__law_text_1 : BndP K fd__law_text ["_law_jug_here"] 1 [] [0] []) {f : Addr} {fd : FuncData} (F : FunD K "_law_value" "_law_value" (defArgs s__law_value) (defBody s__law_value) (defScope s__law_value) [] [] f fd) :
    FnOk P w K mg base (L2.CX P w) 3 f fd ["_law_jug_here"] (spOf K mg (some 0) 1 f__law_value) :=
  def_ok (N := N__law_value) (ps := ["_law_jug_here"]) (k := 2) (m := m__law_value) (io := (some 0)) F sc__law_value (show EvB (cxs P w K mg base 2 N__law_value (defScope s__law_value)) _ m__law_value from (eb_cons (es_set 1 (ev_call d__law_pour b__law_pour_2 (fun _ => .nil) (ea_cons (ev_var 0 nm__law_value__law_jug_here) (ea_cons ev_int ea_nil)) gb__law_value__law_pour) st__law_value__law_way)
    (eb_cons (es_if (et_cmp od_eq (ev_var 1 nm__law_value__law_way) ev_int) (eb_one (es_ret (ev_bin od_mul (ev_call d__law_pour b__law_pour_2 (fun _ => .nil) (ea_cons (ev_var 0 nm__law_value__law_jug_here) (ea_cons (ev_bin od_pow ev_int ev_int) ea_nil)) gb__law_value__law_pour) (ev_bin od_sub ev_int (ev_bin od_mul ev_int (ev_call d__law_pour b__law_pour_2 (fun _ => .nil) (ea_cons (ev_var 0 nm__law_value__law_jug_here) (ea_cons ev_int ea_nil)) gb__law_value__law_pour)))))) eb_nil)
    (eb_cons (es_if (et_cmp od_lt (ev_var 1 nm__law_value__law_way) ev_int) (eb_one (es_ret (ev_call d__law_text b__law_text_1 (fun _ => .nil) (ea_cons (ev_var 0 nm__law_value__law_jug_here) ea_nil) gb__law_value__law_text))) eb_nil)
    (eb_cons (es_set 2 (ev_new (en_lst (ea_cons ev_non (ea_cons ev_bl (ea_cons ev_bl (ea_cons ev_int (ea_cons ev_int (ea_cons (ev_neg ev_int) (ea_cons ev_str (ea_cons ev_str (ea_cons ev_str (ea_cons (ev_bin od_mul ev_str ev_int) (ea_cons (ev_bin od_mul ev_str ev_int) (ea_cons (ev_new (en_lst ea_nil)) (ea_cons (ev_new (en_lst (ea_cons ev_str ea_nil))) (ea_cons (ev_tup (ea_cons ev_str ea_nil)) (ea_cons (ev_tup (ea_cons ev_int ea_nil)) (ea_cons (ev_new (en_lst (ea_cons ev_int ea_nil))) ea_nil)))))))))))))))))) st__law_value__law_plain)
    (eb_one (es_ret (ev_ix (ev_var 2 nm__law_value__law_plain) (ev_call d__law_pour b__law_pour_2 (fun _ => .nil) (ea_cons (ev_var 0 nm__law_value__law_jug_here) (ea_cons (ev_callB cd_len (ea_cons (ev_var 2 nm__law_value__law_plain) ea_nil) T.f_len rfl gb__law_value_len) ea_nil)) gb__law_value__law_pour)))))))))
theorem sc_is_integer : FnScope N_is_integer ["value"] (defScope s_is_integer) := ⟨rfl, rfl, rfl, by decide +kernel, rfl, by decide +kernel, by decide +kernel⟩
theorem gb_is_integer_int : gbB (defScope s_is_integer) "int" = true := by decide +kernel
theorem nm_is_integer_value : nmB N_is_integer (defScope s_is_integer) 0 "value" = true := by decide +kernel
theorem gb_is_integer_isinstance : gbB (defScope s_is_integer) "isinstance" = true := by decide +kernel
theorem gb_is_integer_bool : gbB (defScope s_is_integer) "bool" = true := by decide +kernel
include T in
theorem ok_is_integer {f : Addr} {fd : FuncData} (F : FunD K "is_integer" "is_integer" (defArgs s_is_integer) (defBody s_is_integer) (defScope s_is_integer) [] [] f fd) :
    FnOk P w K mg base (L2.CX P w) 1 f fd ["value"] (spOf K mg none 1 f_is_integer) :=
  def_ok (N := N_is_integer) (ps := ["value"]) (k := 0) (m := m_is_integer) (io := none) F sc_is_integer (show EvB (cxs P w K mg base 0 N_is_integer (defScope s_is_integer)) _ m_is_integer from (eb_one (es_ret (ev_and (ev_callB cd_isi (ea_cons (ev_var 0 nm_is_integer_value) (ea_cons (ev_ty T.f_int rfl gb_is_integer_int) ea_nil)) T.f_isinstance rfl gb_is_integer_isinstance) (ev_one (ev_not (ev_callB cd_isi (ea_cons (ev_var 0 nm_is_integer_value) (ea_cons (ev_ty T.f_bool rfl gb_is_integer_bool) ea_nil)) T.f_isinstance rfl gb_is_integer_isinstance)))))))
theorem sc_is_name : FnScope N_is_name ["value"] (defScope s_is_name) := ⟨rfl, rfl, rfl, by decide +kernel, rfl, by decide +kernel, by decide +kernel⟩
theorem gb_is_name_str : gbB (defScope s_is_name) "str" = true := by decide +kernel
theorem nm_is_name_value : nmB N_is_name (defScope s_is_name) 0 "value" = true := by decide +kernel
theorem gb_is_name_isinstance : gbB (defScope s_is_name) "isinstance" = true := by decide +kernel
theorem gb_is_name_len : gbB (defScope s_is_name) "len" = true := by decide +kernel
theorem gb_is_name_MOST_SIGNS : gbB (defScope s_is_name) "MOST_SIGNS" = true := by decide +kernel
theorem gb_is_name_SMALL : gbB (defScope s_is_name) "SMALL" = true := by decide +kernel
theorem gb_is_name_all : gbB (defScope s_is_name) "all" = true := by decide +kernel
include T in
theorem ok_is_name {f : Addr} {fd : FuncData} (F : FunD K "is_name" "is_name" (defArgs s_is_name) (defBody s_is_name) (defScope s_is_name) [] [] f fd) :
    FnOk P w K mg base (L2.CX P w) 1 f fd ["value"] (spOf K mg none 1 f_is_name) :=
  def_ok (N := N_is_name) (ps := ["value"]) (k := 0) (m := m_is_name) (io := none) F sc_is_name (show EvB (cxs P w K mg base 0 N_is_name (defScope s_is_name)) _ m_is_name from (eb_cons (es_if (et_w (ew_or (et_not (et_tru (ev_callB cd_isi (ea_cons (ev_var 0 nm_is_name_value) (ea_cons (ev_ty T.f_str rfl gb_is_name_str) ea_nil)) T.f_isinstance rfl gb_is_name_isinstance))) (ew_or1 (et_not (et_chain od_le od_le ev_int (ev_callB cd_len (ea_cons (ev_var 0 nm_is_name_value) ea_nil) T.f_len rfl gb_is_name_len) (ev_gint T.i_MOST_SIGNS gb_is_name_MOST_SIGNS)))))) (eb_one (es_ret ev_bl)) eb_nil)
    (eb_cons (es_if (et_cmp od_nin (ev_ix (ev_var 0 nm_is_name_value) ev_int) (ev_gstr T.s_SMALL gb_is_name_SMALL)) (eb_one (es_ret ev_bl)) eb_nil)
    (eb_one (es_ret (ev_callB (cd_all rfl) (ea_cons (ev_new (en_comp (own := [("sign", 1)]) (ei_seq (ev_var 0 nm_is_name_value)) (by (show blkC N_is_name (defScope s_is_name) _ _ = true); decide +kernel) (eg_name 1 (by (show stB N_is_name (relS _ (defScope s_is_name)) (some _) _ _ = true); decide +kernel)) ets_nil (ev_or (ev_cmp od_in (ev_var 1 (by (show nmB N_is_name (relS _ (defScope s_is_name)) _ _ = true); decide +kernel)) (ev_gstr T.s_SMALL (by (show gbB (relS _ (defScope s_is_name)) _ = true); decide +kernel))) (ev_one (ev_cmp od_in (ev_var 1 (by (show nmB N_is_name (relS _ (defScope s_is_name)) _ _ = true); decide +kernel)) (ev_gstr T.s_DIGITS (by (show gbB (relS _ (defScope s_is_name)) _ = true); decide +kernel))))))) ea_nil) T.f_all rfl gb_is_name_all))))))
theorem sc__law_is_number : FnScope N__law_is_number ["_law_value_here"] (defScope s__law_is_number) := ⟨rfl, rfl, rfl, by decide +kernel, rfl, by decide +kernel, by decide +kernel⟩
theorem gb__law_is_number_int : gbB (defScope s__law_is_number) "int" = true := by decide +kernel
theorem nm__law_is_number__law_value_here : nmB N__law_is_number (defScope s__law_is_number) 0 "_law_value_here" = true := by decide +kernel
theorem gb__law_is_number_isinstance : gbB (defScope s__law_is_number) "isinstance" = true := by decide +kernel
include T in
theorem ok__law_is_number {f : Addr} {fd : FuncData} (F : FunD K "_law_is_number" "_law_is_number" (defArgs s__law_is_number) (defBody s__law_is_number) (defScope s__law_is_number) [] [] f fd) :
    FnOk P w K mg base (L2.CX P w) 1 f fd ["_law_value_here"] (spOf K mg none 1 f__law_is_number) :=
  def_ok (N := N__law_is_number) (ps := ["_law_value_here"]) (k := 0) (m := m__law_is_number) (io := none) F sc__law_is_number (show EvB (cxs P w K mg base 0 N__law_is_number (defScope s__law_is_number)) _ m__law_is_number from (eb_one (es_ret (ev_and (ev_callB cd_isi (ea_cons (ev_var 0 nm__law_is_number__law_value_here) (ea_cons (ev_ty T.f_int rfl gb__law_is_number_int) ea_nil)) T.f_isinstance rfl gb__law_is_number_isinstance) (ev_and (ev_not (ev_cmp od_isX (ev_var 0 nm__law_is_number__law_value_here) ev_bl)) (ev_one (ev_not (ev_cmp od_isX (ev_var 0 nm__law_is_number__law_value_here) ev_bl))))))))
theorem sc_is_within : FnScope N_is_within ["value", "least", "most"] (defScope s_is_within) := ⟨rfl, rfl, rfl, by decide +kernel, rfl, by decide +kernel, by decide +kernel⟩
theorem nm_is_within_value : nmB N_is_within (defScope s_is_within) 0 "value" = true := by decide +kernel
theorem gb_is_within_is_integer : gbB (defScope s_is_within) "is_integer" = true := by decide +kernel
theorem nm_is_within_least : nmB N_is_within (defScope s_is_within) 1 "least" = true := by decide +kernel
theorem nm_is_within_most : nmB N_is_within (defScope s_is_within) 2 "most" = true := by decide +kernel
include T in
theorem ok_is_within {fd_is_integer : FuncData} (d_is_integer : DefF P w K mg base "is_integer" fd_is_integer ["value"] 1 none f_is_integer) (b_is_integer_1 : BndP K fd_is_integer ["value"] 1 [] [0] []) {f : Addr} {fd : FuncData} (F : FunD K "is_within" "is_within" (defArgs s_is_within) (defBody s_is_within) (defScope s_is_within) [] [] f fd) :
    FnOk P w K mg base (L2.CX P w) 2 f fd ["value", "least", "most"] (spOf K mg none 3 f_is_within) :=
  def_ok (N := N_is_within) (ps := ["value", "least", "most"]) (k := 1) (m := m_is_within) (io := none) F sc_is_within (show EvB (cxs P w K mg base 1 N_is_within (defScope s_is_within)) _ m_is_within from (eb_cons (es_if (et_not (et_tru (ev_call d_is_integer b_is_integer_1 (fun _ => .nil) (ea_cons (ev_var 0 nm_is_within_value) ea_nil) gb_is_within_is_integer))) (eb_one (es_ret ev_bl)) eb_nil)
    (eb_cons (es_if (et_w (ew_and (et_cmp od_isnt (ev_var 1 nm_is_within_least) ev_non) (ew_and1 (et_cmp od_lt (ev_var 0 nm_is_within_value) (ev_var 1 nm_is_within_least))))) (eb_one (es_ret ev_bl)) eb_nil)
    (eb_one (es_ret (ev_or (ev_cmp od_is (ev_var 2 nm_is_within_most) ev_non) (ev_one (ev_cmp od_le (ev_var 0 nm_is_within_value) (ev_var 2 nm_is_within_most)))))))))
theorem sc__law_bound : FnScope N__law_bound ["_law_jug_here", "_law_value_here"] (defScope s__law_bound) := ⟨rfl, rfl, rfl, by decide +kernel, rfl, by decide +kernel, by decide +kernel⟩
theorem nm__law_bound__law_value_here : nmB N__law_bound (defScope s__law_bound) 1 "_law_value_here" = true := by decide +kernel
theorem gb__law_bound__law_is_number : gbB (defScope s__law_bound) "_law_is_number" = true := by decide +kernel
theorem st__law_bound__law_begin : stB N__law_bound (defScope s__law_bound) none 2 "_law_begin" = true := by decide +kernel
theorem nm__law_bound__law_begin : nmB N__law_bound (defScope s__law_bound) 2 "_law_begin" = true := by decide +kernel
theorem nm__law_bound__law_jug_here : nmB N__law_bound (defScope s__law_bound) 0 "_law_jug_here" = true := by decide +kernel
theorem gb__law_bound__law_pour : gbB (defScope s__law_bound) "_law_pour" = true := by decide +kernel
include T in
theorem ok__law_bound {fd__law_is_number : FuncData} (d__law_is_number : DefF P w K mg base "_law_is_number" fd__law_is_number ["_law_value_here"] 1 none f__law_is_number) (b__law_is_number_1 : BndP K fd__law_is_number ["_law_value_here"] 1 [] [0] []) {fd__law_pour : FuncData} (d__law_pour : DefF P w K mg base "_law_pour" fd__law_pour ["_law_jug_here", "_law_many"] 1 (some 0) f__law_pour) (b__law_pour_2 : BndP K fd__law_pour ["_law_jug_here", "_law_many"] 2 [] [0, 1] []) {f : Addr} {fd : FuncData} (F : FunD K "_law_bound" "_law_bound" (defArgs s__law_bound) (defBody s__law_bound) (defScope s__law_bound) [] [] f fd) :
    FnOk P w K mg base (L2.CX P w) 2 f fd ["_law_jug_here", "_law_value_here"] (spOf K mg (some 0) 2 f__law_bound) :=
  def_ok (N := N__law_bound) (ps := ["_law_jug_here", "_law_value_here"]) (k := 1) (m := m__law_bound) (io := (some 0)) F sc__law_bound (show EvB (cxs P w K mg base 1 N__law_bound (defScope s__law_bound)) _ m__law_bound from (eb_cons (es_set 2 (ev_if (et_tru (ev_call d__law_is_number b__law_is_number_1 (fun _ => .nil) (ea_cons (ev_var 1 nm__law_bound__law_value_here) ea_nil) gb__law_bound__law_is_number)) (ev_var 1 nm__law_bound__law_value_here) ev_int) st__law_bound__law_begin)
    (eb_one (es_ret (ev_ix (ev_new (en_lst (ea_cons ev_non (ea_cons (ev_var 2 nm__law_bound__law_begin) (ea_cons (ev_bin od_sub (ev_var 2 nm__law_bound__law_begin) ev_int) (ea_cons (ev_bin od_add (ev_var 2 nm__law_bound__law_begin) ev_int) (ea_cons (ev_bin od_sub (ev_var 2 nm__law_bound__law_begin) (ev_bin od_pow ev_int ev_int)) (ea_cons (ev_bin od_add (ev_var 2 nm__law_bound__law_begin) (ev_bin od_pow ev_int ev_int)) ea_nil)))))))) (ev_call d__law_pour b__law_pour_2 (fun _ => .nil) (ea_cons (ev_var 0 nm__law_bound__law_jug_here) (ea_cons ev_int ea_nil)) gb__law_bound__law_pour))))))
theorem sc__law_within_right : FnScope N__law_within_right ["_law_jug_here", "_law_value_here"] (defScope s__law_within_right) := ⟨rfl, rfl, rfl, by decide +kernel, rfl, by decide +kernel, by decide +kernel⟩
theorem nm__law_within_right__law_value_here : nmB N__law_within_right (defScope s__law_within_right) 1 "_law_value_here" = true := by decide +kernel
theorem nm__law_within_right__law_jug_here : nmB N__law_within_right (defScope s__law_within_right) 0 "_law_jug_here" = true := by decide +kernel
theorem gb__law_within_right__law_bound : gbB (defScope s__law_within_right) "_law_bound" = true := by decide +kernel
theorem st__law_within_right__law_least : stB N__law_within_right (defScope s__law_within_right) none 2 "_law_least" = true := by decide +kernel
theorem st__law_within_right__law_most : stB N__law_within_right (defScope s__law_within_right) none 3 "_law_most" = true := by decide +kernel
theorem gb__law_within_right__law_is_number : gbB (defScope s__law_within_right) "_law_is_number" = true := by decide +kernel
theorem st__law_within_right__law_due : stB N__law_within_right (defScope s__law_within_right) none 4 "_law_due" = true := by decide +kernel
theorem nm__law_within_right__law_due : nmB N__law_within_right (defScope s__law_within_right) 4 "_law_due" = true := by decide +kernel
theorem nm__law_within_right__law_least : nmB N__law_within_right (defScope s__law_within_right) 2 "_law_least" = true := by decide +kernel
theorem nm__law_within_right__law_most : nmB N__law_within_right (defScope s__law_within_right) 3 "_law_most" = true := by decide +kernel
theorem gb__law_within_right_is_within : gbB (defScope s__law_within_right) "is_within" = true := by decide +kernel
theorem st__law_within_right__law_told : stB N__law_within_right (defScope s__law_within_right) none 5 "_law_told" = true := by decide +kernel
theorem gb__law_within_right_bool : gbB (defScope s__law_within_right) "bool" = true := by decide +kernel
theorem nm__law_within_right__law_told : nmB N__law_within_right (defScope s__law_within_right) 5 "_law_told" = true := by decide +kernel
theorem gb__law_within_right_isinstance : gbB (defScope s__law_within_right) "isinstance" = true := by decide +kernel
include T in
theorem ok__law_within_right {fd__law_is_number : FuncData} (d__law_is_number : DefF P w K mg base "_law_is_number" fd__law_is_number ["_law_value_here"] 1 none f__law_is_number) (b__law_is_number_1 : BndP K fd__law_is_number ["_law_value_here"] 1 [] [0] []) {fd_is_within : FuncData} (d_is_within : DefF P w K mg base "is_within" fd_is_within ["value", "least", "most"] 2 none f_is_within) (b_is_within_0_most_value_least : BndP K fd_is_within ["value", "least", "most"] 0 ["most", "value", "least"] [1, 2, 0] []) {fd__law_bound : FuncData} (d__law_bound : DefF P w K mg base "_law_bound" fd__law_bound ["_law_jug_here", "_law_value_here"] 2 (some 0) f__law_bound) (b__law_bound_2 : BndP K fd__law_bound ["_law_jug_here", "_law_value_here"] 2 [] [0, 1] []) {f : Addr} {fd : FuncData} (F : FunD K "_law_within_right" "_law_within_right" (defArgs s__law_within_right) (defBody s__law_within_right) (defScope s__law_within_right) [] [] f fd) :
    FnOk P w K mg base (L2.CX P w) 3 f fd ["_law_jug_here", "_law_value_here"] (spOf K mg (some 0) 2 f__law_within_right) :=
  def_ok (N := N__law_within_right) (ps := ["_law_jug_here", "_law_value_here"]) (k := 2) (m := m__law_within_right) (io := (some 0)) F sc__law_within_right (show EvB (cxs P w K mg base 2 N__law_within_right (defScope s__law_within_right)) _ m__law_within_right from (eb_cons (es_par2 2 3 (ea_cons (ev_call d__law_bound b__law_bound_2 (fun _ => .nil) (ea_cons (ev_var 0 nm__law_within_right__law_jug_here) (ea_cons (ev_var 1 nm__law_within_right__law_value_here) ea_nil)) gb__law_within_right__law_bound) (ea_cons (ev_call d__law_bound b__law_bound_2 (fun _ => .nil) (ea_cons (ev_var 0 nm__law_within_right__law_jug_here) (ea_cons (ev_var 1 nm__law_within_right__law_value_here) ea_nil)) gb__law_within_right__law_bound) ea_nil)) (by (show swN (defScope s__law_within_right) _ _ = _); decide +kernel) st__law_within_right__law_least st__law_within_right__law_most rfl rfl)
    (eb_cons (es_set 4 (ev_call d__law_is_number b__law_is_number_1 (fun _ => .nil) (ea_cons (ev_var 1 nm__law_within_right__law_value_here) ea_nil) gb__law_within_right__law_is_number) st__law_within_right__law_due)
    (eb_cons (es_if (et_w (ew_and (et_tru (ev_var 4 nm__law_within_right__law_due)) (ew_and (et_cmp od_isnt (ev_var 2 nm__law_within_right__law_least) ev_non) (ew_and1 (et_cmp od_lt (ev_var 1 nm__law_within_right__law_value_here) (ev_var 2 nm__law_within_right__law_least)))))) (eb_one (es_set 4 ev_bl st__law_within_right__law_due)) eb_nil)
    (eb_cons (es_if (et_w (ew_and (et_tru (ev_var 4 nm__law_within_right__law_due)) (ew_and (et_cmp od_isnt (ev_var 3 nm__law_within_right__law_most) ev_non) (ew_and1 (et_cmp od_lt (ev_var 3 nm__law_within_right__law_most) (ev_var 1 nm__law_within_right__law_value_here)))))) (eb_one (es_set 4 ev_bl st__law_within_right__law_due)) eb_nil)
    (eb_cons (es_set 5 (ev_callK0 d_is_within b_is_within_0_most_value_least (fun _ => .nil) (ek_cons (ev_var 3 nm__law_within_right__law_most) (ek_cons (ev_var 1 nm__law_within_right__law_value_here) (ek_cons (ev_var 2 nm__law_within_right__law_least) ek_nil))) gb__law_within_right_is_within) st__law_within_right__law_told)
    (eb_one (es_ret (ev_and (ev_callB cd_isi (ea_cons (ev_var 5 nm__law_within_right__law_told) (ea_cons (ev_ty T.f_bool rfl gb__law_within_right_bool) ea_nil)) T.f_isinstance rfl gb__law_within_right_isinstance) (ev_one (ev_cmp od_eq (ev_var 5 nm__law_within_right__law_told) (ev_var 4 nm__law_within_right__law_due))))))))))))
theorem sc__law_is_name : FnScope N__law_is_name ["_law_value_here"] (defScope s__law_is_name) := ⟨rfl, rfl, rfl, by decide +kernel, rfl, by decide +kernel, by decide +kernel⟩
theorem gb__law_is_name_str : gbB (defScope s__law_is_name) "str" = true := by decide +kernel
theorem nm__law_is_name__law_value_here : nmB N__law_is_name (defScope s__law_is_name) 0 "_law_value_here" = true := by decide +kernel
theorem gb__law_is_name_isinstance : gbB (defScope s__law_is_name) "isinstance" = true := by decide +kernel
theorem gb__law_is_name_len : gbB (defScope s__law_is_name) "len" = true := by decide +kernel
theorem st__law_is_name__law_sign : stB N__law_is_name (defScope s__law_is_name) none 1 "_law_sign" = true := by decide +kernel
theorem nm__law_is_name__law_sign : nmB N__law_is_name (defScope s__law_is_name) 1 "_law_sign" = true := by decide +kernel
include T in
theorem ok__law_is_name {f : Addr} {fd : FuncData} (F : FunD K "_law_is_name" "_law_is_name" (defArgs s__law_is_name) (defBody s__law_is_name) (defScope s__law_is_name) [] [] f fd) :
    FnOk P w K mg base (L2.CX P w) 1 f fd ["_law_value_here"] (spOf K mg none 1 f__law_is_name) :=
  def_ok (N := N__law_is_name) (ps := ["_law_value_here"]) (k := 0) (m := m__law_is_name) (io := none) F sc__law_is_name (show EvB (cxs P w K mg base 0 N__law_is_name (defScope s__law_is_name)) _ m__law_is_name from (eb_cons (es_if (et_w (ew_or (et_not (et_tru (ev_callB cd_isi (ea_cons (ev_var 0 nm__law_is_name__law_value_here) (ea_cons (ev_ty T.f_str rfl gb__law_is_name_str) ea_nil)) T.f_isinstance rfl gb__law_is_name_isinstance))) (ew_or (et_cmp od_eq (ev_var 0 nm__law_is_name__law_value_here) ev_str) (ew_or (et_cmp od_gt (ev_callB cd_len (ea_cons (ev_var 0 nm__law_is_name__law_value_here) ea_nil) T.f_len rfl gb__law_is_name_len) ev_int) (ew_or1 (et_not (et_chain od_le od_le ev_str (ev_ix (ev_var 0 nm__law_is_name__law_value_here) ev_int) ev_str))))))) (eb_one (es_ret ev_bl)) eb_nil)
    (eb_cons (es_for (ei_seq (ev_var 0 nm__law_is_name__law_value_here)) (eg_name 1 st__law_is_name__law_sign) (eb_one (es_if (et_w (ew_and (et_not (et_chain od_le od_le ev_str (ev_var 1 nm__law_is_name__law_sign) ev_str)) (ew_and1 (et_not (et_chain od_le od_le ev_str (ev_var 1 nm__law_is_name__law_sign) ev_str))))) (eb_one (es_ret ev_bl)) eb_nil)))
    (eb_one (es_ret ev_bl)))))
theorem sc_law : FnScope N_law ["_law_script"] (defScope s_law) := ⟨rfl, rfl, rfl, by decide +kernel, rfl, by decide +kernel, by decide +kernel⟩
theorem nm_law__law_script : nmB N_law (defScope s_law) 0 "_law_script" = true := by decide +kernel
theorem gb_law__law_jug : gbB (defScope s_law) "_law_jug" = true := by decide +kernel
theorem st_law__law_jug_here : stB N_law (defScope s_law) none 1 "_law_jug_here" = true := by decide +kernel
theorem gb_law_range : gbB (defScope s_law) "range" = true := by decide +kernel
theorem st_law__law_turn : stB N_law (defScope s_law) none 2 "_law_turn" = true := by decide +kernel
theorem nm_law__law_jug_here : nmB N_law (defScope s_law) 1 "_law_jug_here" = true := by decide +kernel
theorem gb_law__law_value : gbB (defScope s_law) "_law_value" = true := by decide +kernel
theorem st_law__law_value_here : stB N_law (defScope s_law) none 3 "_law_value_here" = true := by decide +kernel
theorem nm_law__law_value_here : nmB N_law (defScope s_law) 3 "_law_value_here" = true := by decide +kernel
theorem gb_law_is_name : gbB (defScope s_law) "is_name" = true := by decide +kernel
theorem gb_law_is_integer : gbB (defScope s_law) "is_integer" = true := by decide +kernel
theorem st_law__law_told : stB N_law (defScope s_law) none 4 "_law_told" = true := by decide +kernel
theorem nm_law__law_told : nmB N_law (defScope s_law) 4 "_law_told" = true := by decide +kernel
theorem gb_law__law_is_name : gbB (defScope s_law) "_law_is_name" = true := by decide +kernel
theorem gb_law__law_is_number : gbB (defScope s_law) "_law_is_number" = true := by decide +kernel
theorem gb_law_bool : gbB (defScope s_law) "bool" = true := by decide +kernel
theorem gb_law_isinstance : gbB (defScope s_law) "isinstance" = true := by decide +kernel
theorem gb_law__law_within_right : gbB (defScope s_law) "_law_within_right" = true := by decide +kernel
include T in
theorem ok_law {fd__law_jug : FuncData} (d__law_jug : DefF P w K mg base "_law_jug" fd__law_jug ["_law_script"] 1 none f__law_jug) (b__law_jug_1 : BndP K fd__law_jug ["_law_script"] 1 [] [0] []) {fd__law_value : FuncData} (d__law_value : DefF P w K mg base "_law_value" fd__law_value ["_law_jug_here"] 3 (some 0) f__law_value) (b__law_value_1 : BndP K fd__law_value ["_law_jug_here"] 1 [] [0] []) {fd_is_integer : FuncData} (d_is_integer : DefF P w K mg base "is_integer" fd_is_integer ["value"] 1 none f_is_integer) (b_is_integer_0_value : BndP K fd_is_integer ["value"] 0 ["value"] [0] []) {fd_is_name : FuncData} (d_is_name : DefF P w K mg base "is_name" fd_is_name ["value"] 1 none f_is_name) (b_is_name_0_value : BndP K fd_is_name ["value"] 0 ["value"] [0] []) {fd__law_within_right : FuncData} (d__law_within_right : DefF P w K mg base "_law_within_right" fd__law_within_right ["_law_jug_here", "_law_value_here"] 3 (some 0) f__law_within_right) (b__law_within_right_2 : BndP K fd__law_within_right ["_law_jug_here", "_law_value_here"] 2 [] [0, 1] []) {fd__law_is_number : FuncData} (d__law_is_number : DefF P w K mg base "_law_is_number" fd__law_is_number ["_law_value_here"] 1 none f__law_is_number) (b__law_is_number_1 : BndP K fd__law_is_number ["_law_value_here"] 1 [] [0] []) {fd__law_is_name : FuncData} (d__law_is_name : DefF P w K mg base "_law_is_name" fd__law_is_name ["_law_value_here"] 1 none f__law_is_name) (b__law_is_name_1 : BndP K fd__law_is_name ["_law_value_here"] 1 [] [0] []) {f : Addr} {fd : FuncData} (F : FunD K "law" "law" (defArgs s_law) (defBody s_law) (defScope s_law) [] [] f fd) :
    FnOk P w K mg base (L2.CX P w) 4 f fd ["_law_script"] (spOf K mg none 1 f_law) :=
  def_ok (N := N_law) (ps := ["_law_script"]) (k := 3) (m := m_law) (io := none) F sc_law (show EvB (cxs P w K mg base 3 N_law (defScope s_law)) _ m_law from (eb_cons (es_setN 1 (en_call d__law_jug b__law_jug_1 (fun _ => .nil) (ea_cons (ev_var 0 nm_law__law_script) ea_nil) gb_law__law_jug) st_law__law_jug_here)
    (eb_cons (es_for (ei_range1 (ea_cons ev_int ea_nil) T.f_range gb_law_range) (eg_name 2 st_law__law_turn) (eb_cons (es_set 3 (ev_call d__law_value b__law_value_1 (fun _ => .nil) (ea_cons (ev_var 1 nm_law__law_jug_here) ea_nil) gb_law__law_value) st_law__law_value_here)
    (eb_cons (es_set 4 (ev_new (en_lst (ea_cons (ev_callK0 d_is_integer b_is_integer_0_value (fun _ => .nil) (ek_cons (ev_var 3 nm_law__law_value_here) ek_nil) gb_law_is_integer) (ea_cons (ev_callK0 d_is_name b_is_name_0_value (fun _ => .nil) (ek_cons (ev_var 3 nm_law__law_value_here) ek_nil) gb_law_is_name) ea_nil)))) st_law__law_told)
    (eb_cons (es_if (et_w (ew_or (et_cmp od_ne (ev_var 4 nm_law__law_told) (ev_new (en_lst (ea_cons (ev_call d__law_is_number b__law_is_number_1 (fun _ => .nil) (ea_cons (ev_var 3 nm_law__law_value_here) ea_nil) gb_law__law_is_number) (ea_cons (ev_call d__law_is_name b__law_is_name_1 (fun _ => .nil) (ea_cons (ev_var 3 nm_law__law_value_here) ea_nil) gb_law__law_is_name) ea_nil))))) (ew_or (et_not (et_tru (ev_callB cd_isi (ea_cons (ev_ix (ev_var 4 nm_law__law_told) ev_int) (ea_cons (ev_ty T.f_bool rfl gb_law_bool) ea_nil)) T.f_isinstance rfl gb_law_isinstance))) (ew_or1 (et_not (et_tru (ev_callB cd_isi (ea_cons (ev_ix (ev_var 4 nm_law__law_told) ev_int) (ea_cons (ev_ty T.f_bool rfl gb_law_bool) ea_nil)) T.f_isinstance rfl gb_law_isinstance))))))) (eb_one (es_ret ev_bl)) eb_nil)
    (eb_one (es_if (et_w (ew_or (et_not (et_tru (ev_call d__law_within_right b__law_within_right_2 (fun _ => .nil) (ea_cons (ev_var 1 nm_law__law_jug_here) (ea_cons (ev_var 3 nm_law__law_value_here) ea_nil)) gb_law__law_within_right))) (ew_or1 (et_not (et_tru (ev_call d__law_within_right b__law_within_right_2 (fun _ => .nil) (ea_cons (ev_var 1 nm_law__law_jug_here) (ea_cons (ev_var 3 nm_law__law_value_here) ea_nil)) gb_law__law_within_right)))))) (eb_one (es_ret ev_bl)) eb_nil))))))
    (eb_one (es_ret ev_bl)))))
end
end Lw
namespace Lw
open PySem L2 Mi
/-- the jug holds whole numbers, its second one at most k -/
def Jg (k : Nat) (d : D) : Prop := ∃ a b : Int, d = .lst [.int a, .int b] ∧ 0 ≤ a ∧ 0 ≤ b ∧ b ≤ k
theorem Jg.mono {k l : Nat} {d : D} (h : Jg k d) (e : k ≤ l) : Jg l d := by
  obtain ⟨a, b, h1, h2, h3, h4⟩ := h
  exact ⟨a, b, h1, h2, h3, by omega⟩
theorem log2_lt {i : Int} {k : Nat} (h : i.natAbs < 2 ^ k) (h0 : 0 < k) : i.natAbs.log2 < k := by
  by_cases z : i.natAbs = 0
  · rw [z]; simpa using h0
  · exact (Nat.log2_lt z).mpr h
abbrev noX : Str → List Str → List D → D → Prop := fun _ _ _ _ => False
theorem pour_ok {k : Nat} {j : D} {n : Int} (hj : Jg k j) (hk : k < 2 ^ 40) (hn : 0 < n) (hl : n.natAbs.log2 < 9000) :
    ∃ (r : Int) (o : D), f__law_pour [j, .int n] = .ok (.int r) o ∧ 0 ≤ r ∧ r < n ∧ Jg (k + 1) o := by
  have z : Fp (f__law_pour [j, .int n]) noX fun d o => ∃ r : Int, d = .int r ∧ 0 ≤ r ∧ r < n ∧ Jg (k + 1) o := by
    obtain ⟨a, b, rfl, h1, h2, h3⟩ := hj
    have m1 : CMulW 1013 b := by
      have e : (1013 : Int).natAbs.log2 < 20 := by decide
      have e2 : b.natAbs.log2 < 50 := log2_lt (by omega) (by decide)
      show (1013 : Int).natAbs.log2 + b.natAbs.log2 < 1000000
      omega
    refine fp_run (ρ := [.cel true _, .val _, .nil]) rfl ?_
    unfold m__law_pour
    ((repeat (first | (with_reducible refine Mi.wp_seq ?_) | (with_reducible refine Mi.wp_ifS ?_) | (with_reducible refine Mi.wp_asg ?_) | (with_reducible refine Mi.wp_retS ?_) | (with_reducible refine Mi.wp_bin ?_) | ((with_reducible apply Mi.wp_var1); · rfl) | (with_reducible refine Mi.wp_C ?_) | (with_reducible refine Mi.wp_asCons ?_) | (with_reducible refine Mi.wp_asNil ?_) | (with_reducible refine Mi.wp_call ?_) | (with_reducible refine Mi.wp_callIO ?_) | (with_reducible refine Mi.wp_args ?_) | (with_reducible refine Mi.wp_frzXn ?_) | (with_reducible refine Mi.wp_frzX0 ?_) | (with_reducible refine Mi.wp_frzXS ?_) | (with_reducible refine Mi.wp_frzsCons ?_) | (with_reducible refine Mi.wp_frzsNil ?_) | (with_reducible refine Mi.wp_frzD ?_) | (with_reducible refine Mi.wp_boolA ?_) | (with_reducible refine Mi.wp_blT ?_) | (with_reducible refine Mi.wp_tst ?_) | (with_reducible refine Mi.wp_andT ?_) | (with_reducible refine Mi.wp_orT ?_) | (with_reducible refine Mi.wp_notT ?_) | (with_reducible refine Mi.wp_ifA ?_) | (with_reducible refine Mi.wp_andA ?_) | (with_reducible refine Mi.wp_orA ?_) | (with_reducible refine Mi.wp_notA ?_) | (with_reducible refine Mi.wp_chainT ?_) | (with_reducible refine Mi.wp_cb ?_) | (with_reducible refine Mi.wp_un ?_) | (with_reducible refine Mi.wp_next ?_) | (with_reducible refine Mi.wp_asgN ?_) | (with_reducible refine Mi.wp_retNS ?_) | (with_reducible refine Mi.wp_drop ?_) | (with_reducible refine Mi.wp_par2 ?_) | (with_reducible refine Mi.wp_asgG ?_) | (with_reducible refine Mi.wp_subG ?_) | (with_reducible refine Mi.wp_appA ?_) | (with_reducible refine Mi.wp_tup ?_) | (with_reducible refine Mi.wp_lst ?_) | (with_reducible refine Mi.wp_new ?_) | (with_reducible refine Mi.wp_slice ?_) | (with_reducible refine Mi.wp_prtN ?_) | (with_reducible refine Mi.wp_prtS ?_) | (with_reducible refine Mi.wp_mt ?_) | (with_reducible refine Mi.wp_mt0 ?_) | (with_reducible refine Mi.wp_seqI ?_) | (with_reducible refine Mi.wp_compN ?_) | (with_reducible refine Mi.wp_fnI ?_) | (with_reducible refine Mi.wp_forS ?_) | (with_reducible refine Mi.wp_tgTup ?_) | (with_reducible refine Mi.wp_gsCons ?_) | (with_reducible refine Mi.wp_gsNil ?_) | (with_reducible refine Mi.wp_callN ?_) | ((with_reducible apply Mi.wp_putV); · rfl) | ((with_reducible apply Mi.wp_putN); · rfl) | (with_reducible refine Mi.wp_bnd ?_) | (with_reducible refine Mi.wp_ret ?_) | (with_reducible refine Mi.wp_opt ?_) | (with_reducible refine Mi.wp_view ?_) | ((with_reducible refine Mi.nm_a ?_); (try (conv => arg 1; simp only [Mi.putCell, Mi.wipeL, Mi.backL, Mi.pick, List.filterMap_cons, List.filterMap_nil, List.filterMap_cons_some, List.map_nil, List.map_cons, List.append_nil, List.nil_append, List.cons_append, List.getElem?_cons_zero, List.getElem?_cons_succ, List.set_cons_zero, List.set_cons_succ, List.getD_cons_zero, List.getD_cons_succ, Int.reduceToNat])); (with_reducible refine Mi.nm_b ?_)) | (with_reducible refine ⟨_, Mi.add_int, ?_⟩) | (with_reducible refine ⟨_, Mi.sub_int, ?_⟩) | (with_reducible refine ⟨_, Mi.lt_int, ?_⟩) | (with_reducible refine ⟨_, Mi.le_int, ?_⟩) | (with_reducible refine ⟨_, Mi.gt_int, ?_⟩) | (with_reducible refine ⟨_, Mi.ge_int, ?_⟩) | (with_reducible refine ⟨_, Mi.neg_int, ?_⟩) | (with_reducible refine ⟨_, Mi.asBl_bl, ?_⟩) | (with_reducible refine ⟨_, Mi.pow_lit (by decide) (by decide), ?_⟩) | (with_reducible refine ⟨_, Mi.mul_int (by decide), ?_⟩) | (with_reducible refine ⟨_, Mi.mod_int (by decide), ?_⟩) | (with_reducible refine ⟨_, Mi.fdiv_int (by decide), ?_⟩) | (with_reducible refine ⟨_, Mi.eqq_int, ?_⟩) | (with_reducible refine ⟨_, Mi.neq_int, ?_⟩) | (with_reducible refine Mi.ift_t ?_) | (with_reducible refine Mi.ift_f ?_) | (with_reducible refine Mi.ift_nt ?_) | (with_reducible refine Mi.ift_nf ?_) | ((with_reducible refine Mi.ift_bt ?_ ?_); · rfl) | ((with_reducible refine Mi.ift_bf ?_ ?_); · rfl) | (refine ⟨_, _, _, _, _, rfl, rfl, rfl, rfl, ?_⟩) | (refine ⟨_, _, rfl, rfl, ?_⟩) | (refine ⟨_, _, rfl, ?_⟩) | (refine ⟨⟨rfl, rfl, rfl⟩, ?_⟩) | (refine ⟨Nat.le_of_ble_eq_true rfl, ?_⟩) | (refine ⟨by decide, ?_⟩) | (refine ⟨_, rfl, ?_⟩) | (refine ⟨rfl, ?_⟩))); (try (with_reducible refine Mi.here ?_)))
    refine ⟨fun h => ?_, fun h => ?_⟩
    · ((repeat (first | (with_reducible refine Mi.wp_seq ?_) | (with_reducible refine Mi.wp_ifS ?_) | (with_reducible refine Mi.wp_asg ?_) | (with_reducible refine Mi.wp_retS ?_) | (with_reducible refine Mi.wp_bin ?_) | ((with_reducible apply Mi.wp_var1); · rfl) | (with_reducible refine Mi.wp_C ?_) | (with_reducible refine Mi.wp_asCons ?_) | (with_reducible refine Mi.wp_asNil ?_) | (with_reducible refine Mi.wp_call ?_) | (with_reducible refine Mi.wp_callIO ?_) | (with_reducible refine Mi.wp_args ?_) | (with_reducible refine Mi.wp_frzXn ?_) | (with_reducible refine Mi.wp_frzX0 ?_) | (with_reducible refine Mi.wp_frzXS ?_) | (with_reducible refine Mi.wp_frzsCons ?_) | (with_reducible refine Mi.wp_frzsNil ?_) | (with_reducible refine Mi.wp_frzD ?_) | (with_reducible refine Mi.wp_boolA ?_) | (with_reducible refine Mi.wp_blT ?_) | (with_reducible refine Mi.wp_tst ?_) | (with_reducible refine Mi.wp_andT ?_) | (with_reducible refine Mi.wp_orT ?_) | (with_reducible refine Mi.wp_notT ?_) | (with_reducible refine Mi.wp_ifA ?_) | (with_reducible refine Mi.wp_andA ?_) | (with_reducible refine Mi.wp_orA ?_) | (with_reducible refine Mi.wp_notA ?_) | (with_reducible refine Mi.wp_chainT ?_) | (with_reducible refine Mi.wp_cb ?_) | (with_reducible refine Mi.wp_un ?_) | (with_reducible refine Mi.wp_next ?_) | (with_reducible refine Mi.wp_asgN ?_) | (with_reducible refine Mi.wp_retNS ?_) | (with_reducible refine Mi.wp_drop ?_) | (with_reducible refine Mi.wp_par2 ?_) | (with_reducible refine Mi.wp_asgG ?_) | (with_reducible refine Mi.wp_subG ?_) | (with_reducible refine Mi.wp_appA ?_) | (with_reducible refine Mi.wp_tup ?_) | (with_reducible refine Mi.wp_lst ?_) | (with_reducible refine Mi.wp_new ?_) | (with_reducible refine Mi.wp_slice ?_) | (with_reducible refine Mi.wp_prtN ?_) | (with_reducible refine Mi.wp_prtS ?_) | (with_reducible refine Mi.wp_mt ?_) | (with_reducible refine Mi.wp_mt0 ?_) | (with_reducible refine Mi.wp_seqI ?_) | (with_reducible refine Mi.wp_compN ?_) | (with_reducible refine Mi.wp_fnI ?_) | (with_reducible refine Mi.wp_forS ?_) | (with_reducible refine Mi.wp_tgTup ?_) | (with_reducible refine Mi.wp_gsCons ?_) | (with_reducible refine Mi.wp_gsNil ?_) | (with_reducible refine Mi.wp_callN ?_) | ((with_reducible apply Mi.wp_putV); · rfl) | ((with_reducible apply Mi.wp_putN); · rfl) | (with_reducible refine Mi.wp_bnd ?_) | (with_reducible refine Mi.wp_ret ?_) | (with_reducible refine Mi.wp_opt ?_) | (with_reducible refine Mi.wp_view ?_) | ((with_reducible refine Mi.nm_a ?_); (try (conv => arg 1; simp only [Mi.putCell, Mi.wipeL, Mi.backL, Mi.pick, List.filterMap_cons, List.filterMap_nil, List.filterMap_cons_some, List.map_nil, List.map_cons, List.append_nil, List.nil_append, List.cons_append, List.getElem?_cons_zero, List.getElem?_cons_succ, List.set_cons_zero, List.set_cons_succ, List.getD_cons_zero, List.getD_cons_succ, Int.reduceToNat])); (with_reducible refine Mi.nm_b ?_)) | (with_reducible refine ⟨_, Mi.add_int, ?_⟩) | (with_reducible refine ⟨_, Mi.sub_int, ?_⟩) | (with_reducible refine ⟨_, Mi.lt_int, ?_⟩) | (with_reducible refine ⟨_, Mi.le_int, ?_⟩) | (with_reducible refine ⟨_, Mi.gt_int, ?_⟩) | (with_reducible refine ⟨_, Mi.ge_int, ?_⟩) | (with_reducible refine ⟨_, Mi.neg_int, ?_⟩) | (with_reducible refine ⟨_, Mi.asBl_bl, ?_⟩) | (with_reducible refine ⟨_, Mi.pow_lit (by decide) (by decide), ?_⟩) | (with_reducible refine ⟨_, Mi.mul_int (by decide), ?_⟩) | (with_reducible refine ⟨_, Mi.mod_int (by decide), ?_⟩) | (with_reducible refine ⟨_, Mi.fdiv_int (by decide), ?_⟩) | (with_reducible refine ⟨_, Mi.eqq_int, ?_⟩) | (with_reducible refine ⟨_, Mi.neq_int, ?_⟩) | (with_reducible refine Mi.ift_t ?_) | (with_reducible refine Mi.ift_f ?_) | (with_reducible refine Mi.ift_nt ?_) | (with_reducible refine Mi.ift_nf ?_) | ((with_reducible refine Mi.ift_bt ?_ ?_); · rfl) | ((with_reducible refine Mi.ift_bf ?_ ?_); · rfl) | (refine ⟨_, _, _, _, _, rfl, rfl, rfl, rfl, ?_⟩) | (refine ⟨_, _, rfl, rfl, ?_⟩) | (refine ⟨_, _, rfl, ?_⟩) | (refine ⟨⟨rfl, rfl, rfl⟩, ?_⟩) | (refine ⟨Nat.le_of_ble_eq_true rfl, ?_⟩) | (refine ⟨by decide, ?_⟩) | (refine ⟨_, rfl, ?_⟩) | (refine ⟨rfl, ?_⟩))); (try (with_reducible refine Mi.here ?_)))
      refine ⟨_, mul_int (by have e2 : (b + 1).natAbs.log2 < 50 := log2_lt (by omega) (by decide)
                             show (1013 : Int).natAbs.log2 + (b + 1).natAbs.log2 < 1000000
                             have e : (1013 : Int).natAbs.log2 < 20 := by decide
                             omega), ?_⟩
      ((repeat (first | (with_reducible refine Mi.wp_seq ?_) | (with_reducible refine Mi.wp_ifS ?_) | (with_reducible refine Mi.wp_asg ?_) | (with_reducible refine Mi.wp_retS ?_) | (with_reducible refine Mi.wp_bin ?_) | ((with_reducible apply Mi.wp_var1); · rfl) | (with_reducible refine Mi.wp_C ?_) | (with_reducible refine Mi.wp_asCons ?_) | (with_reducible refine Mi.wp_asNil ?_) | (with_reducible refine Mi.wp_call ?_) | (with_reducible refine Mi.wp_callIO ?_) | (with_reducible refine Mi.wp_args ?_) | (with_reducible refine Mi.wp_frzXn ?_) | (with_reducible refine Mi.wp_frzX0 ?_) | (with_reducible refine Mi.wp_frzXS ?_) | (with_reducible refine Mi.wp_frzsCons ?_) | (with_reducible refine Mi.wp_frzsNil ?_) | (with_reducible refine Mi.wp_frzD ?_) | (with_reducible refine Mi.wp_boolA ?_) | (with_reducible refine Mi.wp_blT ?_) | (with_reducible refine Mi.wp_tst ?_) | (with_reducible refine Mi.wp_andT ?_) | (with_reducible refine Mi.wp_orT ?_) | (with_reducible refine Mi.wp_notT ?_) | (with_reducible refine Mi.wp_ifA ?_) | (with_reducible refine Mi.wp_andA ?_) | (with_reducible refine Mi.wp_orA ?_) | (with_reducible refine Mi.wp_notA ?_) | (with_reducible refine Mi.wp_chainT ?_) | (with_reducible refine Mi.wp_cb ?_) | (with_reducible refine Mi.wp_un ?_) | (with_reducible refine Mi.wp_next ?_) | (with_reducible refine Mi.wp_asgN ?_) | (with_reducible refine Mi.wp_retNS ?_) | (with_reducible refine Mi.wp_drop ?_) | (with_reducible refine Mi.wp_par2 ?_) | (with_reducible refine Mi.wp_asgG ?_) | (with_reducible refine Mi.wp_subG ?_) | (with_reducible refine Mi.wp_appA ?_) | (with_reducible refine Mi.wp_tup ?_) | (with_reducible refine Mi.wp_lst ?_) | (with_reducible refine Mi.wp_new ?_) | (with_reducible refine Mi.wp_slice ?_) | (with_reducible refine Mi.wp_prtN ?_) | (with_reducible refine Mi.wp_prtS ?_) | (with_reducible refine Mi.wp_mt ?_) | (with_reducible refine Mi.wp_mt0 ?_) | (with_reducible refine Mi.wp_seqI ?_) | (with_reducible refine Mi.wp_compN ?_) | (with_reducible refine Mi.wp_fnI ?_) | (with_reducible refine Mi.wp_forS ?_) | (with_reducible refine Mi.wp_tgTup ?_) | (with_reducible refine Mi.wp_gsCons ?_) | (with_reducible refine Mi.wp_gsNil ?_) | (with_reducible refine Mi.wp_callN ?_) | ((with_reducible apply Mi.wp_putV); · rfl) | ((with_reducible apply Mi.wp_putN); · rfl) | (with_reducible refine Mi.wp_bnd ?_) | (with_reducible refine Mi.wp_ret ?_) | (with_reducible refine Mi.wp_opt ?_) | (with_reducible refine Mi.wp_view ?_) | ((with_reducible refine Mi.nm_a ?_); (try (conv => arg 1; simp only [Mi.putCell, Mi.wipeL, Mi.backL, Mi.pick, List.filterMap_cons, List.filterMap_nil, List.filterMap_cons_some, List.map_nil, List.map_cons, List.append_nil, List.nil_append, List.cons_append, List.getElem?_cons_zero, List.getElem?_cons_succ, List.set_cons_zero, List.set_cons_succ, List.getD_cons_zero, List.getD_cons_succ, Int.reduceToNat])); (with_reducible refine Mi.nm_b ?_)) | (with_reducible refine ⟨_, Mi.add_int, ?_⟩) | (with_reducible refine ⟨_, Mi.sub_int, ?_⟩) | (with_reducible refine ⟨_, Mi.lt_int, ?_⟩) | (with_reducible refine ⟨_, Mi.le_int, ?_⟩) | (with_reducible refine ⟨_, Mi.gt_int, ?_⟩) | (with_reducible refine ⟨_, Mi.ge_int, ?_⟩) | (with_reducible refine ⟨_, Mi.neg_int, ?_⟩) | (with_reducible refine ⟨_, Mi.asBl_bl, ?_⟩) | (with_reducible refine ⟨_, Mi.pow_lit (by decide) (by decide), ?_⟩) | (with_reducible refine ⟨_, Mi.mul_int (by decide), ?_⟩) | (with_reducible refine ⟨_, Mi.mod_int (by decide), ?_⟩) | (with_reducible refine ⟨_, Mi.fdiv_int (by decide), ?_⟩) | (with_reducible refine ⟨_, Mi.eqq_int, ?_⟩) | (with_reducible refine ⟨_, Mi.neq_int, ?_⟩) | (with_reducible refine Mi.ift_t ?_) | (with_reducible refine Mi.ift_f ?_) | (with_reducible refine Mi.ift_nt ?_) | (with_reducible refine Mi.ift_nf ?_) | ((with_reducible refine Mi.ift_bt ?_ ?_); · rfl) | ((with_reducible refine Mi.ift_bf ?_ ?_); · rfl) | (refine ⟨_, _, _, _, _, rfl, rfl, rfl, rfl, ?_⟩) | (refine ⟨_, _, rfl, rfl, ?_⟩) | (refine ⟨_, _, rfl, ?_⟩) | (refine ⟨⟨rfl, rfl, rfl⟩, ?_⟩) | (refine ⟨Nat.le_of_ble_eq_true rfl, ?_⟩) | (refine ⟨by decide, ?_⟩) | (refine ⟨_, rfl, ?_⟩) | (refine ⟨rfl, ?_⟩))); (try (with_reducible refine Mi.here ?_)))
      refine ⟨_, pow_int (by refine ⟨by decide, by decide, ?_⟩; omega), ?_⟩
      ((repeat (first | (with_reducible refine Mi.wp_seq ?_) | (with_reducible refine Mi.wp_ifS ?_) | (with_reducible refine Mi.wp_asg ?_) | (with_reducible refine Mi.wp_retS ?_) | (with_reducible refine Mi.wp_bin ?_) | ((with_reducible apply Mi.wp_var1); · rfl) | (with_reducible refine Mi.wp_C ?_) | (with_reducible refine Mi.wp_asCons ?_) | (with_reducible refine Mi.wp_asNil ?_) | (with_reducible refine Mi.wp_call ?_) | (with_reducible refine Mi.wp_callIO ?_) | (with_reducible refine Mi.wp_args ?_) | (with_reducible refine Mi.wp_frzXn ?_) | (with_reducible refine Mi.wp_frzX0 ?_) | (with_reducible refine Mi.wp_frzXS ?_) | (with_reducible refine Mi.wp_frzsCons ?_) | (with_reducible refine Mi.wp_frzsNil ?_) | (with_reducible refine Mi.wp_frzD ?_) | (with_reducible refine Mi.wp_boolA ?_) | (with_reducible refine Mi.wp_blT ?_) | (with_reducible refine Mi.wp_tst ?_) | (with_reducible refine Mi.wp_andT ?_) | (with_reducible refine Mi.wp_orT ?_) | (with_reducible refine Mi.wp_notT ?_) | (with_reducible refine Mi.wp_ifA ?_) | (with_reducible refine Mi.wp_andA ?_) | (with_reducible refine Mi.wp_orA ?_) | (with_reducible refine Mi.wp_notA ?_) | (with_reducible refine Mi.wp_chainT ?_) | (with_reducible refine Mi.wp_cb ?_) | (with_reducible refine Mi.wp_un ?_) | (with_reducible refine Mi.wp_next ?_) | (with_reducible refine Mi.wp_asgN ?_) | (with_reducible refine Mi.wp_retNS ?_) | (with_reducible refine Mi.wp_drop ?_) | (with_reducible refine Mi.wp_par2 ?_) | (with_reducible refine Mi.wp_asgG ?_) | (with_reducible refine Mi.wp_subG ?_) | (with_reducible refine Mi.wp_appA ?_) | (with_reducible refine Mi.wp_tup ?_) | (with_reducible refine Mi.wp_lst ?_) | (with_reducible refine Mi.wp_new ?_) | (with_reducible refine Mi.wp_slice ?_) | (with_reducible refine Mi.wp_prtN ?_) | (with_reducible refine Mi.wp_prtS ?_) | (with_reducible refine Mi.wp_mt ?_) | (with_reducible refine Mi.wp_mt0 ?_) | (with_reducible refine Mi.wp_seqI ?_) | (with_reducible refine Mi.wp_compN ?_) | (with_reducible refine Mi.wp_fnI ?_) | (with_reducible refine Mi.wp_forS ?_) | (with_reducible refine Mi.wp_tgTup ?_) | (with_reducible refine Mi.wp_gsCons ?_) | (with_reducible refine Mi.wp_gsNil ?_) | (with_reducible refine Mi.wp_callN ?_) | ((with_reducible apply Mi.wp_putV); · rfl) | ((with_reducible apply Mi.wp_putN); · rfl) | (with_reducible refine Mi.wp_bnd ?_) | (with_reducible refine Mi.wp_ret ?_) | (with_reducible refine Mi.wp_opt ?_) | (with_reducible refine Mi.wp_view ?_) | ((with_reducible refine Mi.nm_a ?_); (try (conv => arg 1; simp only [Mi.putCell, Mi.wipeL, Mi.backL, Mi.pick, List.filterMap_cons, List.filterMap_nil, List.filterMap_cons_some, List.map_nil, List.map_cons, List.append_nil, List.nil_append, List.cons_append, List.getElem?_cons_zero, List.getElem?_cons_succ, List.set_cons_zero, List.set_cons_succ, List.getD_cons_zero, List.getD_cons_succ, Int.reduceToNat])); (with_reducible refine Mi.nm_b ?_)) | (with_reducible refine ⟨_, Mi.add_int, ?_⟩) | (with_reducible refine ⟨_, Mi.sub_int, ?_⟩) | (with_reducible refine ⟨_, Mi.lt_int, ?_⟩) | (with_reducible refine ⟨_, Mi.le_int, ?_⟩) | (with_reducible refine ⟨_, Mi.gt_int, ?_⟩) | (with_reducible refine ⟨_, Mi.ge_int, ?_⟩) | (with_reducible refine ⟨_, Mi.neg_int, ?_⟩) | (with_reducible refine ⟨_, Mi.asBl_bl, ?_⟩) | (with_reducible refine ⟨_, Mi.pow_lit (by decide) (by decide), ?_⟩) | (with_reducible refine ⟨_, Mi.mul_int (by decide), ?_⟩) | (with_reducible refine ⟨_, Mi.mod_int (by decide), ?_⟩) | (with_reducible refine ⟨_, Mi.fdiv_int (by decide), ?_⟩) | (with_reducible refine ⟨_, Mi.eqq_int, ?_⟩) | (with_reducible refine ⟨_, Mi.neq_int, ?_⟩) | (with_reducible refine Mi.ift_t ?_) | (with_reducible refine Mi.ift_f ?_) | (with_reducible refine Mi.ift_nt ?_) | (with_reducible refine Mi.ift_nf ?_) | ((with_reducible refine Mi.ift_bt ?_ ?_); · rfl) | ((with_reducible refine Mi.ift_bf ?_ ?_); · rfl) | (refine ⟨_, _, _, _, _, rfl, rfl, rfl, rfl, ?_⟩) | (refine ⟨_, _, rfl, rfl, ?_⟩) | (refine ⟨_, _, rfl, ?_⟩) | (refine ⟨⟨rfl, rfl, rfl⟩, ?_⟩) | (refine ⟨Nat.le_of_ble_eq_true rfl, ?_⟩) | (refine ⟨by decide, ?_⟩) | (refine ⟨_, rfl, ?_⟩) | (refine ⟨rfl, ?_⟩))); (try (with_reducible refine Mi.here ?_)))
      refine ⟨_, fdiv_int ⟨hn, hl⟩, ?_⟩
      ((repeat (first | (with_reducible refine Mi.wp_seq ?_) | (with_reducible refine Mi.wp_ifS ?_) | (with_reducible refine Mi.wp_asg ?_) | (with_reducible refine Mi.wp_retS ?_) | (with_reducible refine Mi.wp_bin ?_) | ((with_reducible apply Mi.wp_var1); · rfl) | (with_reducible refine Mi.wp_C ?_) | (with_reducible refine Mi.wp_asCons ?_) | (with_reducible refine Mi.wp_asNil ?_) | (with_reducible refine Mi.wp_call ?_) | (with_reducible refine Mi.wp_callIO ?_) | (with_reducible refine Mi.wp_args ?_) | (with_reducible refine Mi.wp_frzXn ?_) | (with_reducible refine Mi.wp_frzX0 ?_) | (with_reducible refine Mi.wp_frzXS ?_) | (with_reducible refine Mi.wp_frzsCons ?_) | (with_reducible refine Mi.wp_frzsNil ?_) | (with_reducible refine Mi.wp_frzD ?_) | (with_reducible refine Mi.wp_boolA ?_) | (with_reducible refine Mi.wp_blT ?_) | (with_reducible refine Mi.wp_tst ?_) | (with_reducible refine Mi.wp_andT ?_) | (with_reducible refine Mi.wp_orT ?_) | (with_reducible refine Mi.wp_notT ?_) | (with_reducible refine Mi.wp_ifA ?_) | (with_reducible refine Mi.wp_andA ?_) | (with_reducible refine Mi.wp_orA ?_) | (with_reducible refine Mi.wp_notA ?_) | (with_reducible refine Mi.wp_chainT ?_) | (with_reducible refine Mi.wp_cb ?_) | (with_reducible refine Mi.wp_un ?_) | (with_reducible refine Mi.wp_next ?_) | (with_reducible refine Mi.wp_asgN ?_) | (with_reducible refine Mi.wp_retNS ?_) | (with_reducible refine Mi.wp_drop ?_) | (with_reducible refine Mi.wp_par2 ?_) | (with_reducible refine Mi.wp_asgG ?_) | (with_reducible refine Mi.wp_subG ?_) | (with_reducible refine Mi.wp_appA ?_) | (with_reducible refine Mi.wp_tup ?_) | (with_reducible refine Mi.wp_lst ?_) | (with_reducible refine Mi.wp_new ?_) | (with_reducible refine Mi.wp_slice ?_) | (with_reducible refine Mi.wp_prtN ?_) | (with_reducible refine Mi.wp_prtS ?_) | (with_reducible refine Mi.wp_mt ?_) | (with_reducible refine Mi.wp_mt0 ?_) | (with_reducible refine Mi.wp_seqI ?_) | (with_reducible refine Mi.wp_compN ?_) | (with_reducible refine Mi.wp_fnI ?_) | (with_reducible refine Mi.wp_forS ?_) | (with_reducible refine Mi.wp_tgTup ?_) | (with_reducible refine Mi.wp_gsCons ?_) | (with_reducible refine Mi.wp_gsNil ?_) | (with_reducible refine Mi.wp_callN ?_) | ((with_reducible apply Mi.wp_putV); · rfl) | ((with_reducible apply Mi.wp_putN); · rfl) | (with_reducible refine Mi.wp_bnd ?_) | (with_reducible refine Mi.wp_ret ?_) | (with_reducible refine Mi.wp_opt ?_) | (with_reducible refine Mi.wp_view ?_) | ((with_reducible refine Mi.nm_a ?_); (try (conv => arg 1; simp only [Mi.putCell, Mi.wipeL, Mi.backL, Mi.pick, List.filterMap_cons, List.filterMap_nil, List.filterMap_cons_some, List.map_nil, List.map_cons, List.append_nil, List.nil_append, List.cons_append, List.getElem?_cons_zero, List.getElem?_cons_succ, List.set_cons_zero, List.set_cons_succ, List.getD_cons_zero, List.getD_cons_succ, Int.reduceToNat])); (with_reducible refine Mi.nm_b ?_)) | (with_reducible refine ⟨_, Mi.add_int, ?_⟩) | (with_reducible refine ⟨_, Mi.sub_int, ?_⟩) | (with_reducible refine ⟨_, Mi.lt_int, ?_⟩) | (with_reducible refine ⟨_, Mi.le_int, ?_⟩) | (with_reducible refine ⟨_, Mi.gt_int, ?_⟩) | (with_reducible refine ⟨_, Mi.ge_int, ?_⟩) | (with_reducible refine ⟨_, Mi.neg_int, ?_⟩) | (with_reducible refine ⟨_, Mi.asBl_bl, ?_⟩) | (with_reducible refine ⟨_, Mi.pow_lit (by decide) (by decide), ?_⟩) | (with_reducible refine ⟨_, Mi.mul_int (by decide), ?_⟩) | (with_reducible refine ⟨_, Mi.mod_int (by decide), ?_⟩) | (with_reducible refine ⟨_, Mi.fdiv_int (by decide), ?_⟩) | (with_reducible refine ⟨_, Mi.eqq_int, ?_⟩) | (with_reducible refine ⟨_, Mi.neq_int, ?_⟩) | (with_reducible refine Mi.ift_t ?_) | (with_reducible refine Mi.ift_f ?_) | (with_reducible refine Mi.ift_nt ?_) | (with_reducible refine Mi.ift_nf ?_) | ((with_reducible refine Mi.ift_bt ?_ ?_); · rfl) | ((with_reducible refine Mi.ift_bf ?_ ?_); · rfl) | (refine ⟨_, _, _, _, _, rfl, rfl, rfl, rfl, ?_⟩) | (refine ⟨_, _, rfl, rfl, ?_⟩) | (refine ⟨_, _, rfl, ?_⟩) | (refine ⟨⟨rfl, rfl, rfl⟩, ?_⟩) | (refine ⟨Nat.le_of_ble_eq_true rfl, ?_⟩) | (refine ⟨by decide, ?_⟩) | (refine ⟨_, rfl, ?_⟩) | (refine ⟨rfl, ?_⟩))); (try (with_reducible refine Mi.here ?_)))
      refine ⟨_, mod_int hn, ?_⟩
      ((repeat (first | (with_reducible refine Mi.wp_seq ?_) | (with_reducible refine Mi.wp_ifS ?_) | (with_reducible refine Mi.wp_asg ?_) | (with_reducible refine Mi.wp_retS ?_) | (with_reducible refine Mi.wp_bin ?_) | ((with_reducible apply Mi.wp_var1); · rfl) | (with_reducible refine Mi.wp_C ?_) | (with_reducible refine Mi.wp_asCons ?_) | (with_reducible refine Mi.wp_asNil ?_) | (with_reducible refine Mi.wp_call ?_) | (with_reducible refine Mi.wp_callIO ?_) | (with_reducible refine Mi.wp_args ?_) | (with_reducible refine Mi.wp_frzXn ?_) | (with_reducible refine Mi.wp_frzX0 ?_) | (with_reducible refine Mi.wp_frzXS ?_) | (with_reducible refine Mi.wp_frzsCons ?_) | (with_reducible refine Mi.wp_frzsNil ?_) | (with_reducible refine Mi.wp_frzD ?_) | (with_reducible refine Mi.wp_boolA ?_) | (with_reducible refine Mi.wp_blT ?_) | (with_reducible refine Mi.wp_tst ?_) | (with_reducible refine Mi.wp_andT ?_) | (with_reducible refine Mi.wp_orT ?_) | (with_reducible refine Mi.wp_notT ?_) | (with_reducible refine Mi.wp_ifA ?_) | (with_reducible refine Mi.wp_andA ?_) | (with_reducible refine Mi.wp_orA ?_) | (with_reducible refine Mi.wp_notA ?_) | (with_reducible refine Mi.wp_chainT ?_) | (with_reducible refine Mi.wp_cb ?_) | (with_reducible refine Mi.wp_un ?_) | (with_reducible refine Mi.wp_next ?_) | (with_reducible refine Mi.wp_asgN ?_) | (with_reducible refine Mi.wp_retNS ?_) | (with_reducible refine Mi.wp_drop ?_) | (with_reducible refine Mi.wp_par2 ?_) | (with_reducible refine Mi.wp_asgG ?_) | (with_reducible refine Mi.wp_subG ?_) | (with_reducible refine Mi.wp_appA ?_) | (with_reducible refine Mi.wp_tup ?_) | (with_reducible refine Mi.wp_lst ?_) | (with_reducible refine Mi.wp_new ?_) | (with_reducible refine Mi.wp_slice ?_) | (with_reducible refine Mi.wp_prtN ?_) | (with_reducible refine Mi.wp_prtS ?_) | (with_reducible refine Mi.wp_mt ?_) | (with_reducible refine Mi.wp_mt0 ?_) | (with_reducible refine Mi.wp_seqI ?_) | (with_reducible refine Mi.wp_compN ?_) | (with_reducible refine Mi.wp_fnI ?_) | (with_reducible refine Mi.wp_forS ?_) | (with_reducible refine Mi.wp_tgTup ?_) | (with_reducible refine Mi.wp_gsCons ?_) | (with_reducible refine Mi.wp_gsNil ?_) | (with_reducible refine Mi.wp_callN ?_) | ((with_reducible apply Mi.wp_putV); · rfl) | ((with_reducible apply Mi.wp_putN); · rfl) | (with_reducible refine Mi.wp_bnd ?_) | (with_reducible refine Mi.wp_ret ?_) | (with_reducible refine Mi.wp_opt ?_) | (with_reducible refine Mi.wp_view ?_) | ((with_reducible refine Mi.nm_a ?_); (try (conv => arg 1; simp only [Mi.putCell, Mi.wipeL, Mi.backL, Mi.pick, List.filterMap_cons, List.filterMap_nil, List.filterMap_cons_some, List.map_nil, List.map_cons, List.append_nil, List.nil_append, List.cons_append, List.getElem?_cons_zero, List.getElem?_cons_succ, List.set_cons_zero, List.set_cons_succ, List.getD_cons_zero, List.getD_cons_succ, Int.reduceToNat])); (with_reducible refine Mi.nm_b ?_)) | (with_reducible refine ⟨_, Mi.add_int, ?_⟩) | (with_reducible refine ⟨_, Mi.sub_int, ?_⟩) | (with_reducible refine ⟨_, Mi.lt_int, ?_⟩) | (with_reducible refine ⟨_, Mi.le_int, ?_⟩) | (with_reducible refine ⟨_, Mi.gt_int, ?_⟩) | (with_reducible refine ⟨_, Mi.ge_int, ?_⟩) | (with_reducible refine ⟨_, Mi.neg_int, ?_⟩) | (with_reducible refine ⟨_, Mi.asBl_bl, ?_⟩) | (with_reducible refine ⟨_, Mi.pow_lit (by decide) (by decide), ?_⟩) | (with_reducible refine ⟨_, Mi.mul_int (by decide), ?_⟩) | (with_reducible refine ⟨_, Mi.mod_int (by decide), ?_⟩) | (with_reducible refine ⟨_, Mi.fdiv_int (by decide), ?_⟩) | (with_reducible refine ⟨_, Mi.eqq_int, ?_⟩) | (with_reducible refine ⟨_, Mi.neq_int, ?_⟩) | (with_reducible refine Mi.ift_t ?_) | (with_reducible refine Mi.ift_f ?_) | (with_reducible refine Mi.ift_nt ?_) | (with_reducible refine Mi.ift_nf ?_) | ((with_reducible refine Mi.ift_bt ?_ ?_); · rfl) | ((with_reducible refine Mi.ift_bf ?_ ?_); · rfl) | (refine ⟨_, _, _, _, _, rfl, rfl, rfl, rfl, ?_⟩) | (refine ⟨_, _, rfl, rfl, ?_⟩) | (refine ⟨_, _, rfl, ?_⟩) | (refine ⟨⟨rfl, rfl, rfl⟩, ?_⟩) | (refine ⟨Nat.le_of_ble_eq_true rfl, ?_⟩) | (refine ⟨by decide, ?_⟩) | (refine ⟨_, rfl, ?_⟩) | (refine ⟨rfl, ?_⟩))); (try (with_reducible refine Mi.here ?_)))
      have hp : (0 : Int) ≤ (1013 * (b + 1) + 3643) ^ 13 / 7 := Int.ediv_nonneg (Int.pow_nonneg (by omega)) (by decide)
      exact ⟨_, rfl, Int.emod_nonneg _ (by omega), Int.emod_lt_of_pos _ hn, _, _, rfl, Int.ediv_nonneg hp (by omega), by omega, by omega⟩
    · ((repeat (first | (with_reducible refine Mi.wp_seq ?_) | (with_reducible refine Mi.wp_ifS ?_) | (with_reducible refine Mi.wp_asg ?_) | (with_reducible refine Mi.wp_retS ?_) | (with_reducible refine Mi.wp_bin ?_) | ((with_reducible apply Mi.wp_var1); · rfl) | (with_reducible refine Mi.wp_C ?_) | (with_reducible refine Mi.wp_asCons ?_) | (with_reducible refine Mi.wp_asNil ?_) | (with_reducible refine Mi.wp_call ?_) | (with_reducible refine Mi.wp_callIO ?_) | (with_reducible refine Mi.wp_args ?_) | (with_reducible refine Mi.wp_frzXn ?_) | (with_reducible refine Mi.wp_frzX0 ?_) | (with_reducible refine Mi.wp_frzXS ?_) | (with_reducible refine Mi.wp_frzsCons ?_) | (with_reducible refine Mi.wp_frzsNil ?_) | (with_reducible refine Mi.wp_frzD ?_) | (with_reducible refine Mi.wp_boolA ?_) | (with_reducible refine Mi.wp_blT ?_) | (with_reducible refine Mi.wp_tst ?_) | (with_reducible refine Mi.wp_andT ?_) | (with_reducible refine Mi.wp_orT ?_) | (with_reducible refine Mi.wp_notT ?_) | (with_reducible refine Mi.wp_ifA ?_) | (with_reducible refine Mi.wp_andA ?_) | (with_reducible refine Mi.wp_orA ?_) | (with_reducible refine Mi.wp_notA ?_) | (with_reducible refine Mi.wp_chainT ?_) | (with_reducible refine Mi.wp_cb ?_) | (with_reducible refine Mi.wp_un ?_) | (with_reducible refine Mi.wp_next ?_) | (with_reducible refine Mi.wp_asgN ?_) | (with_reducible refine Mi.wp_retNS ?_) | (with_reducible refine Mi.wp_drop ?_) | (with_reducible refine Mi.wp_par2 ?_) | (with_reducible refine Mi.wp_asgG ?_) | (with_reducible refine Mi.wp_subG ?_) | (with_reducible refine Mi.wp_appA ?_) | (with_reducible refine Mi.wp_tup ?_) | (with_reducible refine Mi.wp_lst ?_) | (with_reducible refine Mi.wp_new ?_) | (with_reducible refine Mi.wp_slice ?_) | (with_reducible refine Mi.wp_prtN ?_) | (with_reducible refine Mi.wp_prtS ?_) | (with_reducible refine Mi.wp_mt ?_) | (with_reducible refine Mi.wp_mt0 ?_) | (with_reducible refine Mi.wp_seqI ?_) | (with_reducible refine Mi.wp_compN ?_) | (with_reducible refine Mi.wp_fnI ?_) | (with_reducible refine Mi.wp_forS ?_) | (with_reducible refine Mi.wp_tgTup ?_) | (with_reducible refine Mi.wp_gsCons ?_) | (with_reducible refine Mi.wp_gsNil ?_) | (with_reducible refine Mi.wp_callN ?_) | ((with_reducible apply Mi.wp_putV); · rfl) | ((with_reducible apply Mi.wp_putN); · rfl) | (with_reducible refine Mi.wp_bnd ?_) | (with_reducible refine Mi.wp_ret ?_) | (with_reducible refine Mi.wp_opt ?_) | (with_reducible refine Mi.wp_view ?_) | ((with_reducible refine Mi.nm_a ?_); (try (conv => arg 1; simp only [Mi.putCell, Mi.wipeL, Mi.backL, Mi.pick, List.filterMap_cons, List.filterMap_nil, List.filterMap_cons_some, List.map_nil, List.map_cons, List.append_nil, List.nil_append, List.cons_append, List.getElem?_cons_zero, List.getElem?_cons_succ, List.set_cons_zero, List.set_cons_succ, List.getD_cons_zero, List.getD_cons_succ, Int.reduceToNat])); (with_reducible refine Mi.nm_b ?_)) | (with_reducible refine ⟨_, Mi.add_int, ?_⟩) | (with_reducible refine ⟨_, Mi.sub_int, ?_⟩) | (with_reducible refine ⟨_, Mi.lt_int, ?_⟩) | (with_reducible refine ⟨_, Mi.le_int, ?_⟩) | (with_reducible refine ⟨_, Mi.gt_int, ?_⟩) | (with_reducible refine ⟨_, Mi.ge_int, ?_⟩) | (with_reducible refine ⟨_, Mi.neg_int, ?_⟩) | (with_reducible refine ⟨_, Mi.asBl_bl, ?_⟩) | (with_reducible refine ⟨_, Mi.pow_lit (by decide) (by decide), ?_⟩) | (with_reducible refine ⟨_, Mi.mul_int (by decide), ?_⟩) | (with_reducible refine ⟨_, Mi.mod_int (by decide), ?_⟩) | (with_reducible refine ⟨_, Mi.fdiv_int (by decide), ?_⟩) | (with_reducible refine ⟨_, Mi.eqq_int, ?_⟩) | (with_reducible refine ⟨_, Mi.neq_int, ?_⟩) | (with_reducible refine Mi.ift_t ?_) | (with_reducible refine Mi.ift_f ?_) | (with_reducible refine Mi.ift_nt ?_) | (with_reducible refine Mi.ift_nf ?_) | ((with_reducible refine Mi.ift_bt ?_ ?_); · rfl) | ((with_reducible refine Mi.ift_bf ?_ ?_); · rfl) | (refine ⟨_, _, _, _, _, rfl, rfl, rfl, rfl, ?_⟩) | (refine ⟨_, _, rfl, rfl, ?_⟩) | (refine ⟨_, _, rfl, ?_⟩) | (refine ⟨⟨rfl, rfl, rfl⟩, ?_⟩) | (refine ⟨Nat.le_of_ble_eq_true rfl, ?_⟩) | (refine ⟨by decide, ?_⟩) | (refine ⟨_, rfl, ?_⟩) | (refine ⟨rfl, ?_⟩))); (try (with_reducible refine Mi.here ?_)))
      refine ⟨_, fdiv_int ⟨hn, hl⟩, ?_⟩
      ((repeat (first | (with_reducible refine Mi.wp_seq ?_) | (with_reducible refine Mi.wp_ifS ?_) | (with_reducible refine Mi.wp_asg ?_) | (with_reducible refine Mi.wp_retS ?_) | (with_reducible refine Mi.wp_bin ?_) | ((with_reducible apply Mi.wp_var1); · rfl) | (with_reducible refine Mi.wp_C ?_) | (with_reducible refine Mi.wp_asCons ?_) | (with_reducible refine Mi.wp_asNil ?_) | (with_reducible refine Mi.wp_call ?_) | (with_reducible refine Mi.wp_callIO ?_) | (with_reducible refine Mi.wp_args ?_) | (with_reducible refine Mi.wp_frzXn ?_) | (with_reducible refine Mi.wp_frzX0 ?_) | (with_reducible refine Mi.wp_frzXS ?_) | (with_reducible refine Mi.wp_frzsCons ?_) | (with_reducible refine Mi.wp_frzsNil ?_) | (with_reducible refine Mi.wp_frzD ?_) | (with_reducible refine Mi.wp_boolA ?_) | (with_reducible refine Mi.wp_blT ?_) | (with_reducible refine Mi.wp_tst ?_) | (with_reducible refine Mi.wp_andT ?_) | (with_reducible refine Mi.wp_orT ?_) | (with_reducible refine Mi.wp_notT ?_) | (with_reducible refine Mi.wp_ifA ?_) | (with_reducible refine Mi.wp_andA ?_) | (with_reducible refine Mi.wp_orA ?_) | (with_reducible refine Mi.wp_notA ?_) | (with_reducible refine Mi.wp_chainT ?_) | (with_reducible refine Mi.wp_cb ?_) | (with_reducible refine Mi.wp_un ?_) | (with_reducible refine Mi.wp_next ?_) | (with_reducible refine Mi.wp_asgN ?_) | (with_reducible refine Mi.wp_retNS ?_) | (with_reducible refine Mi.wp_drop ?_) | (with_reducible refine Mi.wp_par2 ?_) | (with_reducible refine Mi.wp_asgG ?_) | (with_reducible refine Mi.wp_subG ?_) | (with_reducible refine Mi.wp_appA ?_) | (with_reducible refine Mi.wp_tup ?_) | (with_reducible refine Mi.wp_lst ?_) | (with_reducible refine Mi.wp_new ?_) | (with_reducible refine Mi.wp_slice ?_) | (with_reducible refine Mi.wp_prtN ?_) | (with_reducible refine Mi.wp_prtS ?_) | (with_reducible refine Mi.wp_mt ?_) | (with_reducible refine Mi.wp_mt0 ?_) | (with_reducible refine Mi.wp_seqI ?_) | (with_reducible refine Mi.wp_compN ?_) | (with_reducible refine Mi.wp_fnI ?_) | (with_reducible refine Mi.wp_forS ?_) | (with_reducible refine Mi.wp_tgTup ?_) | (with_reducible refine Mi.wp_gsCons ?_) | (with_reducible refine Mi.wp_gsNil ?_) | (with_reducible refine Mi.wp_callN ?_) | ((with_reducible apply Mi.wp_putV); · rfl) | ((with_reducible apply Mi.wp_putN); · rfl) | (with_reducible refine Mi.wp_bnd ?_) | (with_reducible refine Mi.wp_ret ?_) | (with_reducible refine Mi.wp_opt ?_) | (with_reducible refine Mi.wp_view ?_) | ((with_reducible refine Mi.nm_a ?_); (try (conv => arg 1; simp only [Mi.putCell, Mi.wipeL, Mi.backL, Mi.pick, List.filterMap_cons, List.filterMap_nil, List.filterMap_cons_some, List.map_nil, List.map_cons, List.append_nil, List.nil_append, List.cons_append, List.getElem?_cons_zero, List.getElem?_cons_succ, List.set_cons_zero, List.set_cons_succ, List.getD_cons_zero, List.getD_cons_succ, Int.reduceToNat])); (with_reducible refine Mi.nm_b ?_)) | (with_reducible refine ⟨_, Mi.add_int, ?_⟩) | (with_reducible refine ⟨_, Mi.sub_int, ?_⟩) | (with_reducible refine ⟨_, Mi.lt_int, ?_⟩) | (with_reducible refine ⟨_, Mi.le_int, ?_⟩) | (with_reducible refine ⟨_, Mi.gt_int, ?_⟩) | (with_reducible refine ⟨_, Mi.ge_int, ?_⟩) | (with_reducible refine ⟨_, Mi.neg_int, ?_⟩) | (with_reducible refine ⟨_, Mi.asBl_bl, ?_⟩) | (with_reducible refine ⟨_, Mi.pow_lit (by decide) (by decide), ?_⟩) | (with_reducible refine ⟨_, Mi.mul_int (by decide), ?_⟩) | (with_reducible refine ⟨_, Mi.mod_int (by decide), ?_⟩) | (with_reducible refine ⟨_, Mi.fdiv_int (by decide), ?_⟩) | (with_reducible refine ⟨_, Mi.eqq_int, ?_⟩) | (with_reducible refine ⟨_, Mi.neq_int, ?_⟩) | (with_reducible refine Mi.ift_t ?_) | (with_reducible refine Mi.ift_f ?_) | (with_reducible refine Mi.ift_nt ?_) | (with_reducible refine Mi.ift_nf ?_) | ((with_reducible refine Mi.ift_bt ?_ ?_); · rfl) | ((with_reducible refine Mi.ift_bf ?_ ?_); · rfl) | (refine ⟨_, _, _, _, _, rfl, rfl, rfl, rfl, ?_⟩) | (refine ⟨_, _, rfl, rfl, ?_⟩) | (refine ⟨_, _, rfl, ?_⟩) | (refine ⟨⟨rfl, rfl, rfl⟩, ?_⟩) | (refine ⟨Nat.le_of_ble_eq_true rfl, ?_⟩) | (refine ⟨by decide, ?_⟩) | (refine ⟨_, rfl, ?_⟩) | (refine ⟨rfl, ?_⟩))); (try (with_reducible refine Mi.here ?_)))
      refine ⟨_, mod_int hn, ?_⟩
      ((repeat (first | (with_reducible refine Mi.wp_seq ?_) | (with_reducible refine Mi.wp_ifS ?_) | (with_reducible refine Mi.wp_asg ?_) | (with_reducible refine Mi.wp_retS ?_) | (with_reducible refine Mi.wp_bin ?_) | ((with_reducible apply Mi.wp_var1); · rfl) | (with_reducible refine Mi.wp_C ?_) | (with_reducible refine Mi.wp_asCons ?_) | (with_reducible refine Mi.wp_asNil ?_) | (with_reducible refine Mi.wp_call ?_) | (with_reducible refine Mi.wp_callIO ?_) | (with_reducible refine Mi.wp_args ?_) | (with_reducible refine Mi.wp_frzXn ?_) | (with_reducible refine Mi.wp_frzX0 ?_) | (with_reducible refine Mi.wp_frzXS ?_) | (with_reducible refine Mi.wp_frzsCons ?_) | (with_reducible refine Mi.wp_frzsNil ?_) | (with_reducible refine Mi.wp_frzD ?_) | (with_reducible refine Mi.wp_boolA ?_) | (with_reducible refine Mi.wp_blT ?_) | (with_reducible refine Mi.wp_tst ?_) | (with_reducible refine Mi.wp_andT ?_) | (with_reducible refine Mi.wp_orT ?_) | (with_reducible refine Mi.wp_notT ?_) | (with_reducible refine Mi.wp_ifA ?_) | (with_reducible refine Mi.wp_andA ?_) | (with_reducible refine Mi.wp_orA ?_) | (with_reducible refine Mi.wp_notA ?_) | (with_reducible refine Mi.wp_chainT ?_) | (with_reducible refine Mi.wp_cb ?_) | (with_reducible refine Mi.wp_un ?_) | (with_reducible refine Mi.wp_next ?_) | (with_reducible refine Mi.wp_asgN ?_) | (with_reducible refine Mi.wp_retNS ?_) | (with_reducible refine Mi.wp_drop ?_) | (with_reducible refine Mi.wp_par2 ?_) | (with_reducible refine Mi.wp_asgG ?_) | (with_reducible refine Mi.wp_subG ?_) | (with_reducible refine Mi.wp_appA ?_) | (with_reducible refine Mi.wp_tup ?_) | (with_reducible refine Mi.wp_lst ?_) | (with_reducible refine Mi.wp_new ?_) | (with_reducible refine Mi.wp_slice ?_) | (with_reducible refine Mi.wp_prtN ?_) | (with_reducible refine Mi.wp_prtS ?_) | (with_reducible refine Mi.wp_mt ?_) | (with_reducible refine Mi.wp_mt0 ?_) | (with_reducible refine Mi.wp_seqI ?_) | (with_reducible refine Mi.wp_compN ?_) | (with_reducible refine Mi.wp_fnI ?_) | (with_reducible refine Mi.wp_forS ?_) | (with_reducible refine Mi.wp_tgTup ?_) | (with_reducible refine Mi.wp_gsCons ?_) | (with_reducible refine Mi.wp_gsNil ?_) | (with_reducible refine Mi.wp_callN ?_) | ((with_reducible apply Mi.wp_putV); · rfl) | ((with_reducible apply Mi.wp_putN); · rfl) | (with_reducible refine Mi.wp_bnd ?_) | (with_reducible refine Mi.wp_ret ?_) | (with_reducible refine Mi.wp_opt ?_) | (with_reducible refine Mi.wp_view ?_) | ((with_reducible refine Mi.nm_a ?_); (try (conv => arg 1; simp only [Mi.putCell, Mi.wipeL, Mi.backL, Mi.pick, List.filterMap_cons, List.filterMap_nil, List.filterMap_cons_some, List.map_nil, List.map_cons, List.append_nil, List.nil_append, List.cons_append, List.getElem?_cons_zero, List.getElem?_cons_succ, List.set_cons_zero, List.set_cons_succ, List.getD_cons_zero, List.getD_cons_succ, Int.reduceToNat])); (with_reducible refine Mi.nm_b ?_)) | (with_reducible refine ⟨_, Mi.add_int, ?_⟩) | (with_reducible refine ⟨_, Mi.sub_int, ?_⟩) | (with_reducible refine ⟨_, Mi.lt_int, ?_⟩) | (with_reducible refine ⟨_, Mi.le_int, ?_⟩) | (with_reducible refine ⟨_, Mi.gt_int, ?_⟩) | (with_reducible refine ⟨_, Mi.ge_int, ?_⟩) | (with_reducible refine ⟨_, Mi.neg_int, ?_⟩) | (with_reducible refine ⟨_, Mi.asBl_bl, ?_⟩) | (with_reducible refine ⟨_, Mi.pow_lit (by decide) (by decide), ?_⟩) | (with_reducible refine ⟨_, Mi.mul_int (by decide), ?_⟩) | (with_reducible refine ⟨_, Mi.mod_int (by decide), ?_⟩) | (with_reducible refine ⟨_, Mi.fdiv_int (by decide), ?_⟩) | (with_reducible refine ⟨_, Mi.eqq_int, ?_⟩) | (with_reducible refine ⟨_, Mi.neq_int, ?_⟩) | (with_reducible refine Mi.ift_t ?_) | (with_reducible refine Mi.ift_f ?_) | (with_reducible refine Mi.ift_nt ?_) | (with_reducible refine Mi.ift_nf ?_) | ((with_reducible refine Mi.ift_bt ?_ ?_); · rfl) | ((with_reducible refine Mi.ift_bf ?_ ?_); · rfl) | (refine ⟨_, _, _, _, _, rfl, rfl, rfl, rfl, ?_⟩) | (refine ⟨_, _, rfl, rfl, ?_⟩) | (refine ⟨_, _, rfl, ?_⟩) | (refine ⟨⟨rfl, rfl, rfl⟩, ?_⟩) | (refine ⟨Nat.le_of_ble_eq_true rfl, ?_⟩) | (refine ⟨by decide, ?_⟩) | (refine ⟨_, rfl, ?_⟩) | (refine ⟨rfl, ?_⟩))); (try (with_reducible refine Mi.here ?_)))
      exact ⟨_, rfl, Int.emod_nonneg _ (by omega), Int.emod_lt_of_pos _ hn, _, _, rfl, Int.ediv_nonneg h1 (by omega), by omega, by omega⟩
  obtain ⟨d, o, e, r, rfl, h⟩ := fp_ex z
  exact ⟨r, o, e, h⟩

theorem log2_le {i : Int} {k : Nat} (h0 : 0 ≤ i) (h : i < 2 ^ k) (hk : 0 < k) : i.natAbs.log2 < k := by
  refine log2_lt ?_ hk
  have e : ((i.natAbs : Nat) : Int) = i := Int.natAbs_of_nonneg h0
  have : ((i.natAbs : Nat) : Int) < ((2 ^ k : Nat) : Int) := by rw [e]; simpa using h
  exact Int.ofNat_lt.mp this
theorem jug_step {w c : Int} {e : Nat} (h0 : 0 ≤ w) (h1 : w < 2 ^ e) (he : 140 ≤ e) (hc : 0 ≤ c ∧ c < 10 ^ 42) : 0 ≤ w * 1291 + c ∧ w * 1291 + c < 2 ^ (e + 20) := by
  refine ⟨by omega, ?_⟩
  have h2 : (2 : Int) ^ (e + 20) = 2 ^ e * 1048576 := by rw [Int.pow_add]; rfl
  have h3 : (10 : Int) ^ 42 < 2 ^ 140 := by decide
  have h4 : (2 : Int) ^ 140 ≤ 2 ^ e := by
    have := Nat.pow_le_pow_right (show 0 < 2 by decide) he
    exact_mod_cast this
  omega
theorem jug_c (c : Int) : 0 ≤ (if c < 0 then -c else c) % 10 ^ 40 + (10 : Int) ^ 41 * (if decide (c < 0) = true then 1 else 0) ∧ (if c < 0 then -c else c) % 10 ^ 40 + (10 : Int) ^ 41 * (if decide (c < 0) = true then 1 else 0) < 10 ^ 42 := by
  have h1 := Int.emod_nonneg (if c < 0 then -c else c) (show (10 : Int) ^ 40 ≠ 0 by decide)
  have h2 := Int.emod_lt_of_pos (if c < 0 then -c else c) (show (0 : Int) < 10 ^ 40 by decide)
  have h3 : (10 : Int) ^ 40 + 10 ^ 41 < 10 ^ 42 := by decide
  have h4 : (0 : Int) < 10 ^ 41 := by decide
  generalize (if c < 0 then -c else c) % 10 ^ 40 = z at *
  generalize (10 : Int) ^ 41 = y at *
  split <;> omega
theorem jug_ok (ns : List Int) (hl : ns.length ≤ 63) : ∃ j o, f__law_jug [.rol (ns.map D.int)] = .okn j o ∧ Jg 0 j := by
  have z : FpN (f__law_jug [.rol (ns.map D.int)]) noX fun d _ => Jg 0 d := by
    refine fpN_run (ρ := [.val _, .nil, .nil]) rfl ?_
    unfold m__law_jug
    ((repeat (first | (with_reducible refine Mi.wp_seq ?_) | (with_reducible refine Mi.wp_ifS ?_) | (with_reducible refine Mi.wp_asg ?_) | (with_reducible refine Mi.wp_retS ?_) | (with_reducible refine Mi.wp_bin ?_) | ((with_reducible apply Mi.wp_var1); · rfl) | (with_reducible refine Mi.wp_C ?_) | (with_reducible refine Mi.wp_asCons ?_) | (with_reducible refine Mi.wp_asNil ?_) | (with_reducible refine Mi.wp_call ?_) | (with_reducible refine Mi.wp_callIO ?_) | (with_reducible refine Mi.wp_args ?_) | (with_reducible refine Mi.wp_frzXn ?_) | (with_reducible refine Mi.wp_frzX0 ?_) | (with_reducible refine Mi.wp_frzXS ?_) | (with_reducible refine Mi.wp_frzsCons ?_) | (with_reducible refine Mi.wp_frzsNil ?_) | (with_reducible refine Mi.wp_frzD ?_) | (with_reducible refine Mi.wp_boolA ?_) | (with_reducible refine Mi.wp_blT ?_) | (with_reducible refine Mi.wp_tst ?_) | (with_reducible refine Mi.wp_andT ?_) | (with_reducible refine Mi.wp_orT ?_) | (with_reducible refine Mi.wp_notT ?_) | (with_reducible refine Mi.wp_ifA ?_) | (with_reducible refine Mi.wp_andA ?_) | (with_reducible refine Mi.wp_orA ?_) | (with_reducible refine Mi.wp_notA ?_) | (with_reducible refine Mi.wp_chainT ?_) | (with_reducible refine Mi.wp_cb ?_) | (with_reducible refine Mi.wp_un ?_) | (with_reducible refine Mi.wp_next ?_) | (with_reducible refine Mi.wp_asgN ?_) | (with_reducible refine Mi.wp_retNS ?_) | (with_reducible refine Mi.wp_drop ?_) | (with_reducible refine Mi.wp_par2 ?_) | (with_reducible refine Mi.wp_asgG ?_) | (with_reducible refine Mi.wp_subG ?_) | (with_reducible refine Mi.wp_appA ?_) | (with_reducible refine Mi.wp_tup ?_) | (with_reducible refine Mi.wp_lst ?_) | (with_reducible refine Mi.wp_new ?_) | (with_reducible refine Mi.wp_slice ?_) | (with_reducible refine Mi.wp_prtN ?_) | (with_reducible refine Mi.wp_prtS ?_) | (with_reducible refine Mi.wp_mt ?_) | (with_reducible refine Mi.wp_mt0 ?_) | (with_reducible refine Mi.wp_seqI ?_) | (with_reducible refine Mi.wp_compN ?_) | (with_reducible refine Mi.wp_fnI ?_) | (with_reducible refine Mi.wp_forS ?_) | (with_reducible refine Mi.wp_tgTup ?_) | (with_reducible refine Mi.wp_gsCons ?_) | (with_reducible refine Mi.wp_gsNil ?_) | (with_reducible refine Mi.wp_callN ?_) | ((with_reducible apply Mi.wp_putV); · rfl) | ((with_reducible apply Mi.wp_putN); · rfl) | (with_reducible refine Mi.wp_bnd ?_) | (with_reducible refine Mi.wp_ret ?_) | (with_reducible refine Mi.wp_opt ?_) | (with_reducible refine Mi.wp_view ?_) | ((with_reducible refine Mi.nm_a ?_); (try (conv => arg 1; simp only [Mi.putCell, Mi.wipeL, Mi.backL, Mi.pick, List.filterMap_cons, List.filterMap_nil, List.filterMap_cons_some, List.map_nil, List.map_cons, List.append_nil, List.nil_append, List.cons_append, List.getElem?_cons_zero, List.getElem?_cons_succ, List.set_cons_zero, List.set_cons_succ, List.getD_cons_zero, List.getD_cons_succ, Int.reduceToNat])); (with_reducible refine Mi.nm_b ?_)) | (with_reducible refine ⟨_, Mi.add_int, ?_⟩) | (with_reducible refine ⟨_, Mi.sub_int, ?_⟩) | (with_reducible refine ⟨_, Mi.lt_int, ?_⟩) | (with_reducible refine ⟨_, Mi.le_int, ?_⟩) | (with_reducible refine ⟨_, Mi.gt_int, ?_⟩) | (with_reducible refine ⟨_, Mi.ge_int, ?_⟩) | (with_reducible refine ⟨_, Mi.neg_int, ?_⟩) | (with_reducible refine ⟨_, Mi.asBl_bl, ?_⟩) | (with_reducible refine ⟨_, Mi.pow_lit (by decide) (by decide), ?_⟩) | (with_reducible refine ⟨_, Mi.mul_int (by decide), ?_⟩) | (with_reducible refine ⟨_, Mi.mod_int (by decide), ?_⟩) | (with_reducible refine ⟨_, Mi.fdiv_int (by decide), ?_⟩) | (with_reducible refine ⟨_, Mi.eqq_int, ?_⟩) | (with_reducible refine ⟨_, Mi.neq_int, ?_⟩) | (with_reducible refine Mi.ift_t ?_) | (with_reducible refine Mi.ift_f ?_) | (with_reducible refine Mi.ift_nt ?_) | (with_reducible refine Mi.ift_nf ?_) | ((with_reducible refine Mi.ift_bt ?_ ?_); · rfl) | ((with_reducible refine Mi.ift_bf ?_ ?_); · rfl) | (refine ⟨_, _, _, _, _, rfl, rfl, rfl, rfl, ?_⟩) | (refine ⟨_, _, rfl, rfl, ?_⟩) | (refine ⟨_, _, rfl, ?_⟩) | (refine ⟨⟨rfl, rfl, rfl⟩, ?_⟩) | (refine ⟨Nat.le_of_ble_eq_true rfl, ?_⟩) | (refine ⟨by decide, ?_⟩) | (refine ⟨_, rfl, ?_⟩) | (refine ⟨rfl, ?_⟩))); (try (with_reducible refine Mi.here ?_)))
    refine wp_for (fun ds ρ => ∃ (ms : List Int) (w : Int) (s : Sl), ds = ms.map D.int ∧ ms.length ≤ 63 ∧ ρ = [.val (.rol (ns.map D.int)), .val (.int w), s] ∧ (s = .nil ∨ ∃ d, s = .val d) ∧ 0 ≤ w ∧ w < 2 ^ (2000 - 20 * ms.length)) ?_ ?_ _ _ ?_
    · rintro ρ ⟨ms, w, s, -, -, rfl, -, h0, -⟩
      ((repeat (first | (with_reducible refine Mi.wp_seq ?_) | (with_reducible refine Mi.wp_ifS ?_) | (with_reducible refine Mi.wp_asg ?_) | (with_reducible refine Mi.wp_retS ?_) | (with_reducible refine Mi.wp_bin ?_) | ((with_reducible apply Mi.wp_var1); · rfl) | (with_reducible refine Mi.wp_C ?_) | (with_reducible refine Mi.wp_asCons ?_) | (with_reducible refine Mi.wp_asNil ?_) | (with_reducible refine Mi.wp_call ?_) | (with_reducible refine Mi.wp_callIO ?_) | (with_reducible refine Mi.wp_args ?_) | (with_reducible refine Mi.wp_frzXn ?_) | (with_reducible refine Mi.wp_frzX0 ?_) | (with_reducible refine Mi.wp_frzXS ?_) | (with_reducible refine Mi.wp_frzsCons ?_) | (with_reducible refine Mi.wp_frzsNil ?_) | (with_reducible refine Mi.wp_frzD ?_) | (with_reducible refine Mi.wp_boolA ?_) | (with_reducible refine Mi.wp_blT ?_) | (with_reducible refine Mi.wp_tst ?_) | (with_reducible refine Mi.wp_andT ?_) | (with_reducible refine Mi.wp_orT ?_) | (with_reducible refine Mi.wp_notT ?_) | (with_reducible refine Mi.wp_ifA ?_) | (with_reducible refine Mi.wp_andA ?_) | (with_reducible refine Mi.wp_orA ?_) | (with_reducible refine Mi.wp_notA ?_) | (with_reducible refine Mi.wp_chainT ?_) | (with_reducible refine Mi.wp_cb ?_) | (with_reducible refine Mi.wp_un ?_) | (with_reducible refine Mi.wp_next ?_) | (with_reducible refine Mi.wp_asgN ?_) | (with_reducible refine Mi.wp_retNS ?_) | (with_reducible refine Mi.wp_drop ?_) | (with_reducible refine Mi.wp_par2 ?_) | (with_reducible refine Mi.wp_asgG ?_) | (with_reducible refine Mi.wp_subG ?_) | (with_reducible refine Mi.wp_appA ?_) | (with_reducible refine Mi.wp_tup ?_) | (with_reducible refine Mi.wp_lst ?_) | (with_reducible refine Mi.wp_new ?_) | (with_reducible refine Mi.wp_slice ?_) | (with_reducible refine Mi.wp_prtN ?_) | (with_reducible refine Mi.wp_prtS ?_) | (with_reducible refine Mi.wp_mt ?_) | (with_reducible refine Mi.wp_mt0 ?_) | (with_reducible refine Mi.wp_seqI ?_) | (with_reducible refine Mi.wp_compN ?_) | (with_reducible refine Mi.wp_fnI ?_) | (with_reducible refine Mi.wp_forS ?_) | (with_reducible refine Mi.wp_tgTup ?_) | (with_reducible refine Mi.wp_gsCons ?_) | (with_reducible refine Mi.wp_gsNil ?_) | (with_reducible refine Mi.wp_callN ?_) | ((with_reducible apply Mi.wp_putV); · rfl) | ((with_reducible apply Mi.wp_putN); · rfl) | (with_reducible refine Mi.wp_bnd ?_) | (with_reducible refine Mi.wp_ret ?_) | (with_reducible refine Mi.wp_opt ?_) | (with_reducible refine Mi.wp_view ?_) | ((with_reducible refine Mi.nm_a ?_); (try (conv => arg 1; simp only [Mi.putCell, Mi.wipeL, Mi.backL, Mi.pick, List.filterMap_cons, List.filterMap_nil, List.filterMap_cons_some, List.map_nil, List.map_cons, List.append_nil, List.nil_append, List.cons_append, List.getElem?_cons_zero, List.getElem?_cons_succ, List.set_cons_zero, List.set_cons_succ, List.getD_cons_zero, List.getD_cons_succ, Int.reduceToNat])); (with_reducible refine Mi.nm_b ?_)) | (with_reducible refine ⟨_, Mi.add_int, ?_⟩) | (with_reducible refine ⟨_, Mi.sub_int, ?_⟩) | (with_reducible refine ⟨_, Mi.lt_int, ?_⟩) | (with_reducible refine ⟨_, Mi.le_int, ?_⟩) | (with_reducible refine ⟨_, Mi.gt_int, ?_⟩) | (with_reducible refine ⟨_, Mi.ge_int, ?_⟩) | (with_reducible refine ⟨_, Mi.neg_int, ?_⟩) | (with_reducible refine ⟨_, Mi.asBl_bl, ?_⟩) | (with_reducible refine ⟨_, Mi.pow_lit (by decide) (by decide), ?_⟩) | (with_reducible refine ⟨_, Mi.mul_int (by decide), ?_⟩) | (with_reducible refine ⟨_, Mi.mod_int (by decide), ?_⟩) | (with_reducible refine ⟨_, Mi.fdiv_int (by decide), ?_⟩) | (with_reducible refine ⟨_, Mi.eqq_int, ?_⟩) | (with_reducible refine ⟨_, Mi.neq_int, ?_⟩) | (with_reducible refine Mi.ift_t ?_) | (with_reducible refine Mi.ift_f ?_) | (with_reducible refine Mi.ift_nt ?_) | (with_reducible refine Mi.ift_nf ?_) | ((with_reducible refine Mi.ift_bt ?_ ?_); · rfl) | ((with_reducible refine Mi.ift_bf ?_ ?_); · rfl) | (refine ⟨_, _, _, _, _, rfl, rfl, rfl, rfl, ?_⟩) | (refine ⟨_, _, rfl, rfl, ?_⟩) | (refine ⟨_, _, rfl, ?_⟩) | (refine ⟨⟨rfl, rfl, rfl⟩, ?_⟩) | (refine ⟨Nat.le_of_ble_eq_true rfl, ?_⟩) | (refine ⟨by decide, ?_⟩) | (refine ⟨_, rfl, ?_⟩) | (refine ⟨rfl, ?_⟩))); (try (with_reducible refine Mi.here ?_)))
      exact ⟨_, _, rfl, h0, by omega, by omega⟩
    · rintro d ds ρ ⟨ms, w, s, e, hm, rfl, hs, h0, h1⟩
      cases ms with
      | nil => cases e
      | cons c ms =>
        cases e
        have hw : CMulW w 1291 := by
          show w.natAbs.log2 + (1291 : Int).natAbs.log2 < 1000000
          have e : (1291 : Int).natAbs.log2 < 20 := by decide
          have e2 := log2_le h0 (k := 2000) (Int.lt_of_lt_of_le h1 (by
            have := Nat.pow_le_pow_right (show 0 < 2 by decide) (show 2000 - 20 * (c :: ms).length ≤ 2000 by omega)
            exact_mod_cast this)) (by decide)
          omega
        rcases hs with rfl | ⟨d, rfl⟩
        · ((repeat (first | (with_reducible refine Mi.wp_seq ?_) | (with_reducible refine Mi.wp_ifS ?_) | (with_reducible refine Mi.wp_asg ?_) | (with_reducible refine Mi.wp_retS ?_) | (with_reducible refine Mi.wp_bin ?_) | ((with_reducible apply Mi.wp_var1); · rfl) | (with_reducible refine Mi.wp_C ?_) | (with_reducible refine Mi.wp_asCons ?_) | (with_reducible refine Mi.wp_asNil ?_) | (with_reducible refine Mi.wp_call ?_) | (with_reducible refine Mi.wp_callIO ?_) | (with_reducible refine Mi.wp_args ?_) | (with_reducible refine Mi.wp_frzXn ?_) | (with_reducible refine Mi.wp_frzX0 ?_) | (with_reducible refine Mi.wp_frzXS ?_) | (with_reducible refine Mi.wp_frzsCons ?_) | (with_reducible refine Mi.wp_frzsNil ?_) | (with_reducible refine Mi.wp_frzD ?_) | (with_reducible refine Mi.wp_boolA ?_) | (with_reducible refine Mi.wp_blT ?_) | (with_reducible refine Mi.wp_tst ?_) | (with_reducible refine Mi.wp_andT ?_) | (with_reducible refine Mi.wp_orT ?_) | (with_reducible refine Mi.wp_notT ?_) | (with_reducible refine Mi.wp_ifA ?_) | (with_reducible refine Mi.wp_andA ?_) | (with_reducible refine Mi.wp_orA ?_) | (with_reducible refine Mi.wp_notA ?_) | (with_reducible refine Mi.wp_chainT ?_) | (with_reducible refine Mi.wp_cb ?_) | (with_reducible refine Mi.wp_un ?_) | (with_reducible refine Mi.wp_next ?_) | (with_reducible refine Mi.wp_asgN ?_) | (with_reducible refine Mi.wp_retNS ?_) | (with_reducible refine Mi.wp_drop ?_) | (with_reducible refine Mi.wp_par2 ?_) | (with_reducible refine Mi.wp_asgG ?_) | (with_reducible refine Mi.wp_subG ?_) | (with_reducible refine Mi.wp_appA ?_) | (with_reducible refine Mi.wp_tup ?_) | (with_reducible refine Mi.wp_lst ?_) | (with_reducible refine Mi.wp_new ?_) | (with_reducible refine Mi.wp_slice ?_) | (with_reducible refine Mi.wp_prtN ?_) | (with_reducible refine Mi.wp_prtS ?_) | (with_reducible refine Mi.wp_mt ?_) | (with_reducible refine Mi.wp_mt0 ?_) | (with_reducible refine Mi.wp_seqI ?_) | (with_reducible refine Mi.wp_compN ?_) | (with_reducible refine Mi.wp_fnI ?_) | (with_reducible refine Mi.wp_forS ?_) | (with_reducible refine Mi.wp_tgTup ?_) | (with_reducible refine Mi.wp_gsCons ?_) | (with_reducible refine Mi.wp_gsNil ?_) | (with_reducible refine Mi.wp_callN ?_) | ((with_reducible apply Mi.wp_putV); · rfl) | ((with_reducible apply Mi.wp_putN); · rfl) | (with_reducible refine Mi.wp_bnd ?_) | (with_reducible refine Mi.wp_ret ?_) | (with_reducible refine Mi.wp_opt ?_) | (with_reducible refine Mi.wp_view ?_) | ((with_reducible refine Mi.nm_a ?_); (try (conv => arg 1; simp only [Mi.putCell, Mi.wipeL, Mi.backL, Mi.pick, List.filterMap_cons, List.filterMap_nil, List.filterMap_cons_some, List.map_nil, List.map_cons, List.append_nil, List.nil_append, List.cons_append, List.getElem?_cons_zero, List.getElem?_cons_succ, List.set_cons_zero, List.set_cons_succ, List.getD_cons_zero, List.getD_cons_succ, Int.reduceToNat])); (with_reducible refine Mi.nm_b ?_)) | (with_reducible refine ⟨_, Mi.add_int, ?_⟩) | (with_reducible refine ⟨_, Mi.sub_int, ?_⟩) | (with_reducible refine ⟨_, Mi.lt_int, ?_⟩) | (with_reducible refine ⟨_, Mi.le_int, ?_⟩) | (with_reducible refine ⟨_, Mi.gt_int, ?_⟩) | (with_reducible refine ⟨_, Mi.ge_int, ?_⟩) | (with_reducible refine ⟨_, Mi.neg_int, ?_⟩) | (with_reducible refine ⟨_, Mi.asBl_bl, ?_⟩) | (with_reducible refine ⟨_, Mi.pow_lit (by decide) (by decide), ?_⟩) | (with_reducible refine ⟨_, Mi.mul_int (by decide), ?_⟩) | (with_reducible refine ⟨_, Mi.mod_int (by decide), ?_⟩) | (with_reducible refine ⟨_, Mi.fdiv_int (by decide), ?_⟩) | (with_reducible refine ⟨_, Mi.eqq_int, ?_⟩) | (with_reducible refine ⟨_, Mi.neq_int, ?_⟩) | (with_reducible refine Mi.ift_t ?_) | (with_reducible refine Mi.ift_f ?_) | (with_reducible refine Mi.ift_nt ?_) | (with_reducible refine Mi.ift_nf ?_) | ((with_reducible refine Mi.ift_bt ?_ ?_); · rfl) | ((with_reducible refine Mi.ift_bf ?_ ?_); · rfl) | (refine ⟨_, _, _, _, _, rfl, rfl, rfl, rfl, ?_⟩) | (refine ⟨_, _, rfl, rfl, ?_⟩) | (refine ⟨_, _, rfl, ?_⟩) | (refine ⟨⟨rfl, rfl, rfl⟩, ?_⟩) | (refine ⟨Nat.le_of_ble_eq_true rfl, ?_⟩) | (refine ⟨by decide, ?_⟩) | (refine ⟨_, rfl, ?_⟩) | (refine ⟨rfl, ?_⟩))); (try (with_reducible refine Mi.here ?_)))
          refine ⟨_, mul_int hw, ?_⟩
          ((repeat (first | (with_reducible refine Mi.wp_seq ?_) | (with_reducible refine Mi.wp_ifS ?_) | (with_reducible refine Mi.wp_asg ?_) | (with_reducible refine Mi.wp_retS ?_) | (with_reducible refine Mi.wp_bin ?_) | ((with_reducible apply Mi.wp_var1); · rfl) | (with_reducible refine Mi.wp_C ?_) | (with_reducible refine Mi.wp_asCons ?_) | (with_reducible refine Mi.wp_asNil ?_) | (with_reducible refine Mi.wp_call ?_) | (with_reducible refine Mi.wp_callIO ?_) | (with_reducible refine Mi.wp_args ?_) | (with_reducible refine Mi.wp_frzXn ?_) | (with_reducible refine Mi.wp_frzX0 ?_) | (with_reducible refine Mi.wp_frzXS ?_) | (with_reducible refine Mi.wp_frzsCons ?_) | (with_reducible refine Mi.wp_frzsNil ?_) | (with_reducible refine Mi.wp_frzD ?_) | (with_reducible refine Mi.wp_boolA ?_) | (with_reducible refine Mi.wp_blT ?_) | (with_reducible refine Mi.wp_tst ?_) | (with_reducible refine Mi.wp_andT ?_) | (with_reducible refine Mi.wp_orT ?_) | (with_reducible refine Mi.wp_notT ?_) | (with_reducible refine Mi.wp_ifA ?_) | (with_reducible refine Mi.wp_andA ?_) | (with_reducible refine Mi.wp_orA ?_) | (with_reducible refine Mi.wp_notA ?_) | (with_reducible refine Mi.wp_chainT ?_) | (with_reducible refine Mi.wp_cb ?_) | (with_reducible refine Mi.wp_un ?_) | (with_reducible refine Mi.wp_next ?_) | (with_reducible refine Mi.wp_asgN ?_) | (with_reducible refine Mi.wp_retNS ?_) | (with_reducible refine Mi.wp_drop ?_) | (with_reducible refine Mi.wp_par2 ?_) | (with_reducible refine Mi.wp_asgG ?_) | (with_reducible refine Mi.wp_subG ?_) | (with_reducible refine Mi.wp_appA ?_) | (with_reducible refine Mi.wp_tup ?_) | (with_reducible refine Mi.wp_lst ?_) | (with_reducible refine Mi.wp_new ?_) | (with_reducible refine Mi.wp_slice ?_) | (with_reducible refine Mi.wp_prtN ?_) | (with_reducible refine Mi.wp_prtS ?_) | (with_reducible refine Mi.wp_mt ?_) | (with_reducible refine Mi.wp_mt0 ?_) | (with_reducible refine Mi.wp_seqI ?_) | (with_reducible refine Mi.wp_compN ?_) | (with_reducible refine Mi.wp_fnI ?_) | (with_reducible refine Mi.wp_forS ?_) | (with_reducible refine Mi.wp_tgTup ?_) | (with_reducible refine Mi.wp_gsCons ?_) | (with_reducible refine Mi.wp_gsNil ?_) | (with_reducible refine Mi.wp_callN ?_) | ((with_reducible apply Mi.wp_putV); · rfl) | ((with_reducible apply Mi.wp_putN); · rfl) | (with_reducible refine Mi.wp_bnd ?_) | (with_reducible refine Mi.wp_ret ?_) | (with_reducible refine Mi.wp_opt ?_) | (with_reducible refine Mi.wp_view ?_) | ((with_reducible refine Mi.nm_a ?_); (try (conv => arg 1; simp only [Mi.putCell, Mi.wipeL, Mi.backL, Mi.pick, List.filterMap_cons, List.filterMap_nil, List.filterMap_cons_some, List.map_nil, List.map_cons, List.append_nil, List.nil_append, List.cons_append, List.getElem?_cons_zero, List.getElem?_cons_succ, List.set_cons_zero, List.set_cons_succ, List.getD_cons_zero, List.getD_cons_succ, Int.reduceToNat])); (with_reducible refine Mi.nm_b ?_)) | (with_reducible refine ⟨_, Mi.add_int, ?_⟩) | (with_reducible refine ⟨_, Mi.sub_int, ?_⟩) | (with_reducible refine ⟨_, Mi.lt_int, ?_⟩) | (with_reducible refine ⟨_, Mi.le_int, ?_⟩) | (with_reducible refine ⟨_, Mi.gt_int, ?_⟩) | (with_reducible refine ⟨_, Mi.ge_int, ?_⟩) | (with_reducible refine ⟨_, Mi.neg_int, ?_⟩) | (with_reducible refine ⟨_, Mi.asBl_bl, ?_⟩) | (with_reducible refine ⟨_, Mi.pow_lit (by decide) (by decide), ?_⟩) | (with_reducible refine ⟨_, Mi.mul_int (by decide), ?_⟩) | (with_reducible refine ⟨_, Mi.mod_int (by decide), ?_⟩) | (with_reducible refine ⟨_, Mi.fdiv_int (by decide), ?_⟩) | (with_reducible refine ⟨_, Mi.eqq_int, ?_⟩) | (with_reducible refine ⟨_, Mi.neq_int, ?_⟩) | (with_reducible refine Mi.ift_t ?_) | (with_reducible refine Mi.ift_f ?_) | (with_reducible refine Mi.ift_nt ?_) | (with_reducible refine Mi.ift_nf ?_) | ((with_reducible refine Mi.ift_bt ?_ ?_); · rfl) | ((with_reducible refine Mi.ift_bf ?_ ?_); · rfl) | (refine ⟨_, _, _, _, _, rfl, rfl, rfl, rfl, ?_⟩) | (refine ⟨_, _, rfl, rfl, ?_⟩) | (refine ⟨_, _, rfl, ?_⟩) | (refine ⟨⟨rfl, rfl, rfl⟩, ?_⟩) | (refine ⟨Nat.le_of_ble_eq_true rfl, ?_⟩) | (refine ⟨by decide, ?_⟩) | (refine ⟨_, rfl, ?_⟩) | (refine ⟨rfl, ?_⟩))); (try (with_reducible refine Mi.here ?_)))
          refine ⟨_, mul_int (by split <;> decide), ?_⟩
          ((repeat (first | (with_reducible refine Mi.wp_seq ?_) | (with_reducible refine Mi.wp_ifS ?_) | (with_reducible refine Mi.wp_asg ?_) | (with_reducible refine Mi.wp_retS ?_) | (with_reducible refine Mi.wp_bin ?_) | ((with_reducible apply Mi.wp_var1); · rfl) | (with_reducible refine Mi.wp_C ?_) | (with_reducible refine Mi.wp_asCons ?_) | (with_reducible refine Mi.wp_asNil ?_) | (with_reducible refine Mi.wp_call ?_) | (with_reducible refine Mi.wp_callIO ?_) | (with_reducible refine Mi.wp_args ?_) | (with_reducible refine Mi.wp_frzXn ?_) | (with_reducible refine Mi.wp_frzX0 ?_) | (with_reducible refine Mi.wp_frzXS ?_) | (with_reducible refine Mi.wp_frzsCons ?_) | (with_reducible refine Mi.wp_frzsNil ?_) | (with_reducible refine Mi.wp_frzD ?_) | (with_reducible refine Mi.wp_boolA ?_) | (with_reducible refine Mi.wp_blT ?_) | (with_reducible refine Mi.wp_tst ?_) | (with_reducible refine Mi.wp_andT ?_) | (with_reducible refine Mi.wp_orT ?_) | (with_reducible refine Mi.wp_notT ?_) | (with_reducible refine Mi.wp_ifA ?_) | (with_reducible refine Mi.wp_andA ?_) | (with_reducible refine Mi.wp_orA ?_) | (with_reducible refine Mi.wp_notA ?_) | (with_reducible refine Mi.wp_chainT ?_) | (with_reducible refine Mi.wp_cb ?_) | (with_reducible refine Mi.wp_un ?_) | (with_reducible refine Mi.wp_next ?_) | (with_reducible refine Mi.wp_asgN ?_) | (with_reducible refine Mi.wp_retNS ?_) | (with_reducible refine Mi.wp_drop ?_) | (with_reducible refine Mi.wp_par2 ?_) | (with_reducible refine Mi.wp_asgG ?_) | (with_reducible refine Mi.wp_subG ?_) | (with_reducible refine Mi.wp_appA ?_) | (with_reducible refine Mi.wp_tup ?_) | (with_reducible refine Mi.wp_lst ?_) | (with_reducible refine Mi.wp_new ?_) | (with_reducible refine Mi.wp_slice ?_) | (with_reducible refine Mi.wp_prtN ?_) | (with_reducible refine Mi.wp_prtS ?_) | (with_reducible refine Mi.wp_mt ?_) | (with_reducible refine Mi.wp_mt0 ?_) | (with_reducible refine Mi.wp_seqI ?_) | (with_reducible refine Mi.wp_compN ?_) | (with_reducible refine Mi.wp_fnI ?_) | (with_reducible refine Mi.wp_forS ?_) | (with_reducible refine Mi.wp_tgTup ?_) | (with_reducible refine Mi.wp_gsCons ?_) | (with_reducible refine Mi.wp_gsNil ?_) | (with_reducible refine Mi.wp_callN ?_) | ((with_reducible apply Mi.wp_putV); · rfl) | ((with_reducible apply Mi.wp_putN); · rfl) | (with_reducible refine Mi.wp_bnd ?_) | (with_reducible refine Mi.wp_ret ?_) | (with_reducible refine Mi.wp_opt ?_) | (with_reducible refine Mi.wp_view ?_) | ((with_reducible refine Mi.nm_a ?_); (try (conv => arg 1; simp only [Mi.putCell, Mi.wipeL, Mi.backL, Mi.pick, List.filterMap_cons, List.filterMap_nil, List.filterMap_cons_some, List.map_nil, List.map_cons, List.append_nil, List.nil_append, List.cons_append, List.getElem?_cons_zero, List.getElem?_cons_succ, List.set_cons_zero, List.set_cons_succ, List.getD_cons_zero, List.getD_cons_succ, Int.reduceToNat])); (with_reducible refine Mi.nm_b ?_)) | (with_reducible refine ⟨_, Mi.add_int, ?_⟩) | (with_reducible refine ⟨_, Mi.sub_int, ?_⟩) | (with_reducible refine ⟨_, Mi.lt_int, ?_⟩) | (with_reducible refine ⟨_, Mi.le_int, ?_⟩) | (with_reducible refine ⟨_, Mi.gt_int, ?_⟩) | (with_reducible refine ⟨_, Mi.ge_int, ?_⟩) | (with_reducible refine ⟨_, Mi.neg_int, ?_⟩) | (with_reducible refine ⟨_, Mi.asBl_bl, ?_⟩) | (with_reducible refine ⟨_, Mi.pow_lit (by decide) (by decide), ?_⟩) | (with_reducible refine ⟨_, Mi.mul_int (by decide), ?_⟩) | (with_reducible refine ⟨_, Mi.mod_int (by decide), ?_⟩) | (with_reducible refine ⟨_, Mi.fdiv_int (by decide), ?_⟩) | (with_reducible refine ⟨_, Mi.eqq_int, ?_⟩) | (with_reducible refine ⟨_, Mi.neq_int, ?_⟩) | (with_reducible refine Mi.ift_t ?_) | (with_reducible refine Mi.ift_f ?_) | (with_reducible refine Mi.ift_nt ?_) | (with_reducible refine Mi.ift_nf ?_) | ((with_reducible refine Mi.ift_bt ?_ ?_); · rfl) | ((with_reducible refine Mi.ift_bf ?_ ?_); · rfl) | (refine ⟨_, _, _, _, _, rfl, rfl, rfl, rfl, ?_⟩) | (refine ⟨_, _, rfl, rfl, ?_⟩) | (refine ⟨_, _, rfl, ?_⟩) | (refine ⟨⟨rfl, rfl, rfl⟩, ?_⟩) | (refine ⟨Nat.le_of_ble_eq_true rfl, ?_⟩) | (refine ⟨by decide, ?_⟩) | (refine ⟨_, rfl, ?_⟩) | (refine ⟨rfl, ?_⟩))); (try (with_reducible refine Mi.here ?_)))
          obtain ⟨g1, g2⟩ := jug_step (c := (if c < 0 then -c else c) % 10 ^ 40 + 10 ^ 41 * if decide (c < 0) = true then 1 else 0) h0 h1 (by omega) (jug_c c)
          refine ⟨ms, _, _, rfl, by simp only [List.length_cons] at hm; omega, rfl, .inr ⟨_, rfl⟩, by omega, ?_⟩
          rw [show 2000 - 20 * ms.length = 2000 - 20 * (c :: ms).length + 20 by simp only [List.length_cons] at hm ⊢; omega]
          omega
        · ((repeat (first | (with_reducible refine Mi.wp_seq ?_) | (with_reducible refine Mi.wp_ifS ?_) | (with_reducible refine Mi.wp_asg ?_) | (with_reducible refine Mi.wp_retS ?_) | (with_reducible refine Mi.wp_bin ?_) | ((with_reducible apply Mi.wp_var1); · rfl) | (with_reducible refine Mi.wp_C ?_) | (with_reducible refine Mi.wp_asCons ?_) | (with_reducible refine Mi.wp_asNil ?_) | (with_reducible refine Mi.wp_call ?_) | (with_reducible refine Mi.wp_callIO ?_) | (with_reducible refine Mi.wp_args ?_) | (with_reducible refine Mi.wp_frzXn ?_) | (with_reducible refine Mi.wp_frzX0 ?_) | (with_reducible refine Mi.wp_frzXS ?_) | (with_reducible refine Mi.wp_frzsCons ?_) | (with_reducible refine Mi.wp_frzsNil ?_) | (with_reducible refine Mi.wp_frzD ?_) | (with_reducible refine Mi.wp_boolA ?_) | (with_reducible refine Mi.wp_blT ?_) | (with_reducible refine Mi.wp_tst ?_) | (with_reducible refine Mi.wp_andT ?_) | (with_reducible refine Mi.wp_orT ?_) | (with_reducible refine Mi.wp_notT ?_) | (with_reducible refine Mi.wp_ifA ?_) | (with_reducible refine Mi.wp_andA ?_) | (with_reducible refine Mi.wp_orA ?_) | (with_reducible refine Mi.wp_notA ?_) | (with_reducible refine Mi.wp_chainT ?_) | (with_reducible refine Mi.wp_cb ?_) | (with_reducible refine Mi.wp_un ?_) | (with_reducible refine Mi.wp_next ?_) | (with_reducible refine Mi.wp_asgN ?_) | (with_reducible refine Mi.wp_retNS ?_) | (with_reducible refine Mi.wp_drop ?_) | (with_reducible refine Mi.wp_par2 ?_) | (with_reducible refine Mi.wp_asgG ?_) | (with_reducible refine Mi.wp_subG ?_) | (with_reducible refine Mi.wp_appA ?_) | (with_reducible refine Mi.wp_tup ?_) | (with_reducible refine Mi.wp_lst ?_) | (with_reducible refine Mi.wp_new ?_) | (with_reducible refine Mi.wp_slice ?_) | (with_reducible refine Mi.wp_prtN ?_) | (with_reducible refine Mi.wp_prtS ?_) | (with_reducible refine Mi.wp_mt ?_) | (with_reducible refine Mi.wp_mt0 ?_) | (with_reducible refine Mi.wp_seqI ?_) | (with_reducible refine Mi.wp_compN ?_) | (with_reducible refine Mi.wp_fnI ?_) | (with_reducible refine Mi.wp_forS ?_) | (with_reducible refine Mi.wp_tgTup ?_) | (with_reducible refine Mi.wp_gsCons ?_) | (with_reducible refine Mi.wp_gsNil ?_) | (with_reducible refine Mi.wp_callN ?_) | ((with_reducible apply Mi.wp_putV); · rfl) | ((with_reducible apply Mi.wp_putN); · rfl) | (with_reducible refine Mi.wp_bnd ?_) | (with_reducible refine Mi.wp_ret ?_) | (with_reducible refine Mi.wp_opt ?_) | (with_reducible refine Mi.wp_view ?_) | ((with_reducible refine Mi.nm_a ?_); (try (conv => arg 1; simp only [Mi.putCell, Mi.wipeL, Mi.backL, Mi.pick, List.filterMap_cons, List.filterMap_nil, List.filterMap_cons_some, List.map_nil, List.map_cons, List.append_nil, List.nil_append, List.cons_append, List.getElem?_cons_zero, List.getElem?_cons_succ, List.set_cons_zero, List.set_cons_succ, List.getD_cons_zero, List.getD_cons_succ, Int.reduceToNat])); (with_reducible refine Mi.nm_b ?_)) | (with_reducible refine ⟨_, Mi.add_int, ?_⟩) | (with_reducible refine ⟨_, Mi.sub_int, ?_⟩) | (with_reducible refine ⟨_, Mi.lt_int, ?_⟩) | (with_reducible refine ⟨_, Mi.le_int, ?_⟩) | (with_reducible refine ⟨_, Mi.gt_int, ?_⟩) | (with_reducible refine ⟨_, Mi.ge_int, ?_⟩) | (with_reducible refine ⟨_, Mi.neg_int, ?_⟩) | (with_reducible refine ⟨_, Mi.asBl_bl, ?_⟩) | (with_reducible refine ⟨_, Mi.pow_lit (by decide) (by decide), ?_⟩) | (with_reducible refine ⟨_, Mi.mul_int (by decide), ?_⟩) | (with_reducible refine ⟨_, Mi.mod_int (by decide), ?_⟩) | (with_reducible refine ⟨_, Mi.fdiv_int (by decide), ?_⟩) | (with_reducible refine ⟨_, Mi.eqq_int, ?_⟩) | (with_reducible refine ⟨_, Mi.neq_int, ?_⟩) | (with_reducible refine Mi.ift_t ?_) | (with_reducible refine Mi.ift_f ?_) | (with_reducible refine Mi.ift_nt ?_) | (with_reducible refine Mi.ift_nf ?_) | ((with_reducible refine Mi.ift_bt ?_ ?_); · rfl) | ((with_reducible refine Mi.ift_bf ?_ ?_); · rfl) | (refine ⟨_, _, _, _, _, rfl, rfl, rfl, rfl, ?_⟩) | (refine ⟨_, _, rfl, rfl, ?_⟩) | (refine ⟨_, _, rfl, ?_⟩) | (refine ⟨⟨rfl, rfl, rfl⟩, ?_⟩) | (refine ⟨Nat.le_of_ble_eq_true rfl, ?_⟩) | (refine ⟨by decide, ?_⟩) | (refine ⟨_, rfl, ?_⟩) | (refine ⟨rfl, ?_⟩))); (try (with_reducible refine Mi.here ?_)))
          refine ⟨_, mul_int hw, ?_⟩
          ((repeat (first | (with_reducible refine Mi.wp_seq ?_) | (with_reducible refine Mi.wp_ifS ?_) | (with_reducible refine Mi.wp_asg ?_) | (with_reducible refine Mi.wp_retS ?_) | (with_reducible refine Mi.wp_bin ?_) | ((with_reducible apply Mi.wp_var1); · rfl) | (with_reducible refine Mi.wp_C ?_) | (with_reducible refine Mi.wp_asCons ?_) | (with_reducible refine Mi.wp_asNil ?_) | (with_reducible refine Mi.wp_call ?_) | (with_reducible refine Mi.wp_callIO ?_) | (with_reducible refine Mi.wp_args ?_) | (with_reducible refine Mi.wp_frzXn ?_) | (with_reducible refine Mi.wp_frzX0 ?_) | (with_reducible refine Mi.wp_frzXS ?_) | (with_reducible refine Mi.wp_frzsCons ?_) | (with_reducible refine Mi.wp_frzsNil ?_) | (with_reducible refine Mi.wp_frzD ?_) | (with_reducible refine Mi.wp_boolA ?_) | (with_reducible refine Mi.wp_blT ?_) | (with_reducible refine Mi.wp_tst ?_) | (with_reducible refine Mi.wp_andT ?_) | (with_reducible refine Mi.wp_orT ?_) | (with_reducible refine Mi.wp_notT ?_) | (with_reducible refine Mi.wp_ifA ?_) | (with_reducible refine Mi.wp_andA ?_) | (with_reducible refine Mi.wp_orA ?_) | (with_reducible refine Mi.wp_notA ?_) | (with_reducible refine Mi.wp_chainT ?_) | (with_reducible refine Mi.wp_cb ?_) | (with_reducible refine Mi.wp_un ?_) | (with_reducible refine Mi.wp_next ?_) | (with_reducible refine Mi.wp_asgN ?_) | (with_reducible refine Mi.wp_retNS ?_) | (with_reducible refine Mi.wp_drop ?_) | (with_reducible refine Mi.wp_par2 ?_) | (with_reducible refine Mi.wp_asgG ?_) | (with_reducible refine Mi.wp_subG ?_) | (with_reducible refine Mi.wp_appA ?_) | (with_reducible refine Mi.wp_tup ?_) | (with_reducible refine Mi.wp_lst ?_) | (with_reducible refine Mi.wp_new ?_) | (with_reducible refine Mi.wp_slice ?_) | (with_reducible refine Mi.wp_prtN ?_) | (with_reducible refine Mi.wp_prtS ?_) | (with_reducible refine Mi.wp_mt ?_) | (with_reducible refine Mi.wp_mt0 ?_) | (with_reducible refine Mi.wp_seqI ?_) | (with_reducible refine Mi.wp_compN ?_) | (with_reducible refine Mi.wp_fnI ?_) | (with_reducible refine Mi.wp_forS ?_) | (with_reducible refine Mi.wp_tgTup ?_) | (with_reducible refine Mi.wp_gsCons ?_) | (with_reducible refine Mi.wp_gsNil ?_) | (with_reducible refine Mi.wp_callN ?_) | ((with_reducible apply Mi.wp_putV); · rfl) | ((with_reducible apply Mi.wp_putN); · rfl) | (with_reducible refine Mi.wp_bnd ?_) | (with_reducible refine Mi.wp_ret ?_) | (with_reducible refine Mi.wp_opt ?_) | (with_reducible refine Mi.wp_view ?_) | ((with_reducible refine Mi.nm_a ?_); (try (conv => arg 1; simp only [Mi.putCell, Mi.wipeL, Mi.backL, Mi.pick, List.filterMap_cons, List.filterMap_nil, List.filterMap_cons_some, List.map_nil, List.map_cons, List.append_nil, List.nil_append, List.cons_append, List.getElem?_cons_zero, List.getElem?_cons_succ, List.set_cons_zero, List.set_cons_succ, List.getD_cons_zero, List.getD_cons_succ, Int.reduceToNat])); (with_reducible refine Mi.nm_b ?_)) | (with_reducible refine ⟨_, Mi.add_int, ?_⟩) | (with_reducible refine ⟨_, Mi.sub_int, ?_⟩) | (with_reducible refine ⟨_, Mi.lt_int, ?_⟩) | (with_reducible refine ⟨_, Mi.le_int, ?_⟩) | (with_reducible refine ⟨_, Mi.gt_int, ?_⟩) | (with_reducible refine ⟨_, Mi.ge_int, ?_⟩) | (with_reducible refine ⟨_, Mi.neg_int, ?_⟩) | (with_reducible refine ⟨_, Mi.asBl_bl, ?_⟩) | (with_reducible refine ⟨_, Mi.pow_lit (by decide) (by decide), ?_⟩) | (with_reducible refine ⟨_, Mi.mul_int (by decide), ?_⟩) | (with_reducible refine ⟨_, Mi.mod_int (by decide), ?_⟩) | (with_reducible refine ⟨_, Mi.fdiv_int (by decide), ?_⟩) | (with_reducible refine ⟨_, Mi.eqq_int, ?_⟩) | (with_reducible refine ⟨_, Mi.neq_int, ?_⟩) | (with_reducible refine Mi.ift_t ?_) | (with_reducible refine Mi.ift_f ?_) | (with_reducible refine Mi.ift_nt ?_) | (with_reducible refine Mi.ift_nf ?_) | ((with_reducible refine Mi.ift_bt ?_ ?_); · rfl) | ((with_reducible refine Mi.ift_bf ?_ ?_); · rfl) | (refine ⟨_, _, _, _, _, rfl, rfl, rfl, rfl, ?_⟩) | (refine ⟨_, _, rfl, rfl, ?_⟩) | (refine ⟨_, _, rfl, ?_⟩) | (refine ⟨⟨rfl, rfl, rfl⟩, ?_⟩) | (refine ⟨Nat.le_of_ble_eq_true rfl, ?_⟩) | (refine ⟨by decide, ?_⟩) | (refine ⟨_, rfl, ?_⟩) | (refine ⟨rfl, ?_⟩))); (try (with_reducible refine Mi.here ?_)))
          refine ⟨_, mul_int (by split <;> decide), ?_⟩
          ((repeat (first | (with_reducible refine Mi.wp_seq ?_) | (with_reducible refine Mi.wp_ifS ?_) | (with_reducible refine Mi.wp_asg ?_) | (with_reducible refine Mi.wp_retS ?_) | (with_reducible refine Mi.wp_bin ?_) | ((with_reducible apply Mi.wp_var1); · rfl) | (with_reducible refine Mi.wp_C ?_) | (with_reducible refine Mi.wp_asCons ?_) | (with_reducible refine Mi.wp_asNil ?_) | (with_reducible refine Mi.wp_call ?_) | (with_reducible refine Mi.wp_callIO ?_) | (with_reducible refine Mi.wp_args ?_) | (with_reducible refine Mi.wp_frzXn ?_) | (with_reducible refine Mi.wp_frzX0 ?_) | (with_reducible refine Mi.wp_frzXS ?_) | (with_reducible refine Mi.wp_frzsCons ?_) | (with_reducible refine Mi.wp_frzsNil ?_) | (with_reducible refine Mi.wp_frzD ?_) | (with_reducible refine Mi.wp_boolA ?_) | (with_reducible refine Mi.wp_blT ?_) | (with_reducible refine Mi.wp_tst ?_) | (with_reducible refine Mi.wp_andT ?_) | (with_reducible refine Mi.wp_orT ?_) | (with_reducible refine Mi.wp_notT ?_) | (with_reducible refine Mi.wp_ifA ?_) | (with_reducible refine Mi.wp_andA ?_) | (with_reducible refine Mi.wp_orA ?_) | (with_reducible refine Mi.wp_notA ?_) | (with_reducible refine Mi.wp_chainT ?_) | (with_reducible refine Mi.wp_cb ?_) | (with_reducible refine Mi.wp_un ?_) | (with_reducible refine Mi.wp_next ?_) | (with_reducible refine Mi.wp_asgN ?_) | (with_reducible refine Mi.wp_retNS ?_) | (with_reducible refine Mi.wp_drop ?_) | (with_reducible refine Mi.wp_par2 ?_) | (with_reducible refine Mi.wp_asgG ?_) | (with_reducible refine Mi.wp_subG ?_) | (with_reducible refine Mi.wp_appA ?_) | (with_reducible refine Mi.wp_tup ?_) | (with_reducible refine Mi.wp_lst ?_) | (with_reducible refine Mi.wp_new ?_) | (with_reducible refine Mi.wp_slice ?_) | (with_reducible refine Mi.wp_prtN ?_) | (with_reducible refine Mi.wp_prtS ?_) | (with_reducible refine Mi.wp_mt ?_) | (with_reducible refine Mi.wp_mt0 ?_) | (with_reducible refine Mi.wp_seqI ?_) | (with_reducible refine Mi.wp_compN ?_) | (with_reducible refine Mi.wp_fnI ?_) | (with_reducible refine Mi.wp_forS ?_) | (with_reducible refine Mi.wp_tgTup ?_) | (with_reducible refine Mi.wp_gsCons ?_) | (with_reducible refine Mi.wp_gsNil ?_) | (with_reducible refine Mi.wp_callN ?_) | ((with_reducible apply Mi.wp_putV); · rfl) | ((with_reducible apply Mi.wp_putN); · rfl) | (with_reducible refine Mi.wp_bnd ?_) | (with_reducible refine Mi.wp_ret ?_) | (with_reducible refine Mi.wp_opt ?_) | (with_reducible refine Mi.wp_view ?_) | ((with_reducible refine Mi.nm_a ?_); (try (conv => arg 1; simp only [Mi.putCell, Mi.wipeL, Mi.backL, Mi.pick, List.filterMap_cons, List.filterMap_nil, List.filterMap_cons_some, List.map_nil, List.map_cons, List.append_nil, List.nil_append, List.cons_append, List.getElem?_cons_zero, List.getElem?_cons_succ, List.set_cons_zero, List.set_cons_succ, List.getD_cons_zero, List.getD_cons_succ, Int.reduceToNat])); (with_reducible refine Mi.nm_b ?_)) | (with_reducible refine ⟨_, Mi.add_int, ?_⟩) | (with_reducible refine ⟨_, Mi.sub_int, ?_⟩) | (with_reducible refine ⟨_, Mi.lt_int, ?_⟩) | (with_reducible refine ⟨_, Mi.le_int, ?_⟩) | (with_reducible refine ⟨_, Mi.gt_int, ?_⟩) | (with_reducible refine ⟨_, Mi.ge_int, ?_⟩) | (with_reducible refine ⟨_, Mi.neg_int, ?_⟩) | (with_reducible refine ⟨_, Mi.asBl_bl, ?_⟩) | (with_reducible refine ⟨_, Mi.pow_lit (by decide) (by decide), ?_⟩) | (with_reducible refine ⟨_, Mi.mul_int (by decide), ?_⟩) | (with_reducible refine ⟨_, Mi.mod_int (by decide), ?_⟩) | (with_reducible refine ⟨_, Mi.fdiv_int (by decide), ?_⟩) | (with_reducible refine ⟨_, Mi.eqq_int, ?_⟩) | (with_reducible refine ⟨_, Mi.neq_int, ?_⟩) | (with_reducible refine Mi.ift_t ?_) | (with_reducible refine Mi.ift_f ?_) | (with_reducible refine Mi.ift_nt ?_) | (with_reducible refine Mi.ift_nf ?_) | ((with_reducible refine Mi.ift_bt ?_ ?_); · rfl) | ((with_reducible refine Mi.ift_bf ?_ ?_); · rfl) | (refine ⟨_, _, _, _, _, rfl, rfl, rfl, rfl, ?_⟩) | (refine ⟨_, _, rfl, rfl, ?_⟩) | (refine ⟨_, _, rfl, ?_⟩) | (refine ⟨⟨rfl, rfl, rfl⟩, ?_⟩) | (refine ⟨Nat.le_of_ble_eq_true rfl, ?_⟩) | (refine ⟨by decide, ?_⟩) | (refine ⟨_, rfl, ?_⟩) | (refine ⟨rfl, ?_⟩))); (try (with_reducible refine Mi.here ?_)))
          obtain ⟨g1, g2⟩ := jug_step (c := (if c < 0 then -c else c) % 10 ^ 40 + 10 ^ 41 * if decide (c < 0) = true then 1 else 0) h0 h1 (by omega) (jug_c c)
          refine ⟨ms, _, _, rfl, by simp only [List.length_cons] at hm; omega, rfl, .inr ⟨_, rfl⟩, by omega, ?_⟩
          rw [show 2000 - 20 * ms.length = 2000 - 20 * (c :: ms).length + 20 by simp only [List.length_cons] at hm ⊢; omega]
          omega
    · refine ⟨(ns.drop (HT.sIx (List.map D.int ns).length 0 none)).take (HT.sIx (List.map D.int ns).length (List.map D.int ns).length (some 40) - HT.sIx (List.map D.int ns).length 0 none), 59, .nil, ?_, ?_, rfl, .inl rfl, by decide, ?_⟩
      · rw [List.map_take, List.map_drop]
      · rw [List.length_take, List.length_drop]
        omega
      · refine Int.lt_of_lt_of_le (show (59 : Int) < 2 ^ 100 by decide) ?_
        have := Nat.pow_le_pow_right (show 0 < 2 by decide) (show 100 ≤ 2000 - 20 * ((ns.drop (HT.sIx (List.map D.int ns).length 0 none)).take (HT.sIx (List.map D.int ns).length (List.map D.int ns).length (some 40) - HT.sIx (List.map D.int ns).length 0 none)).length by rw [List.length_take, List.length_drop]; omega)
        exact_mod_cast this
  unfold FpN at z
  cases e : f__law_jug [.rol (ns.map D.int)] with
  | okn d o => rw [e] at z; exact ⟨d, o, rfl, z⟩
  | _ => rw [e] at z; exact z.elim

theorem fp_pour {k : Nat} {j : D} {n : Int} {E : Str → List Str → List D → D → Prop} {Q : D → D → Prop} (hj : Jg k j) (hk : k < 2 ^ 40) (hn : 0 < n) (hl : n.natAbs.log2 < 9000) (h : ∀ r o, 0 ≤ r → r < n → Jg (k + 1) o → Q (.int r) o) :
    Fp (f__law_pour [j, .int n]) E Q := by
  obtain ⟨r, o, e, h0, h1, h2⟩ := pour_ok hj hk hn hl
  exact fp_ok e (h r o h0 h1 h2)
theorem sig_len : (Str.ofString "abcdefghijklmnopqrstuvwxyz0123456789").length = 36 := by decide +kernel
theorem oth_len : (Str.ofString "AMZ_ .-;:|/([").length = 13 := by decide +kernel
def TxOk (s : Str) : Prop := s.length ≤ 100 ∧ PyData.strOk s = true
theorem sig_ok : PyData.strOk (Str.ofString "abcdefghijklmnopqrstuvwxyz0123456789") = true := by decide +kernel
theorem oth_ok : PyData.strOk (Str.ofString "AMZ_ .-;:|/([") = true := by decide +kernel
theorem one_ok {s : Str} {c : Nat} (h : PyData.strOk s = true) (hc : c ∈ s.cps.toList) : PyData.strOk ⟨#[c]⟩ = true := by
  rw [strOk_iff] at *
  intro d hd
  simp only [List.mem_singleton] at hd
  rw [hd]
  exact h c hc
theorem text_ok {k : Nat} {j : D} (hj : Jg k j) (hk : k + 100 < 2 ^ 40) : ∃ (s : Str) (o : D), f__law_text [j] = .ok (.str s) o ∧ TxOk s ∧ Jg (k + 100) o := by
  have z : Fp (f__law_text [j]) noX fun d o => ∃ s : Str, d = .str s ∧ TxOk s ∧ Jg (k + 100) o := by
    refine fp_run (ρ := [.cel true _, .nil, .nil, .nil, .nil, .nil, .nil, .nil]) rfl ?_
    unfold m__law_text
    ((repeat (first | (with_reducible refine Mi.wp_seq ?_) | (with_reducible refine Mi.wp_ifS ?_) | (with_reducible refine Mi.wp_asg ?_) | (with_reducible refine Mi.wp_retS ?_) | (with_reducible refine Mi.wp_bin ?_) | ((with_reducible apply Mi.wp_var1); · rfl) | (with_reducible refine Mi.wp_C ?_) | (with_reducible refine Mi.wp_asCons ?_) | (with_reducible refine Mi.wp_asNil ?_) | (with_reducible refine Mi.wp_call ?_) | (with_reducible refine Mi.wp_callIO ?_) | (with_reducible refine Mi.wp_args ?_) | (with_reducible refine Mi.wp_frzXn ?_) | (with_reducible refine Mi.wp_frzX0 ?_) | (with_reducible refine Mi.wp_frzXS ?_) | (with_reducible refine Mi.wp_frzsCons ?_) | (with_reducible refine Mi.wp_frzsNil ?_) | (with_reducible refine Mi.wp_frzD ?_) | (with_reducible refine Mi.wp_boolA ?_) | (with_reducible refine Mi.wp_blT ?_) | (with_reducible refine Mi.wp_tst ?_) | (with_reducible refine Mi.wp_andT ?_) | (with_reducible refine Mi.wp_orT ?_) | (with_reducible refine Mi.wp_notT ?_) | (with_reducible refine Mi.wp_ifA ?_) | (with_reducible refine Mi.wp_andA ?_) | (with_reducible refine Mi.wp_orA ?_) | (with_reducible refine Mi.wp_notA ?_) | (with_reducible refine Mi.wp_chainT ?_) | (with_reducible refine Mi.wp_cb ?_) | (with_reducible refine Mi.wp_un ?_) | (with_reducible refine Mi.wp_next ?_) | (with_reducible refine Mi.wp_asgN ?_) | (with_reducible refine Mi.wp_retNS ?_) | (with_reducible refine Mi.wp_drop ?_) | (with_reducible refine Mi.wp_par2 ?_) | (with_reducible refine Mi.wp_asgG ?_) | (with_reducible refine Mi.wp_subG ?_) | (with_reducible refine Mi.wp_appA ?_) | (with_reducible refine Mi.wp_tup ?_) | (with_reducible refine Mi.wp_lst ?_) | (with_reducible refine Mi.wp_new ?_) | (with_reducible refine Mi.wp_slice ?_) | (with_reducible refine Mi.wp_prtN ?_) | (with_reducible refine Mi.wp_prtS ?_) | (with_reducible refine Mi.wp_mt ?_) | (with_reducible refine Mi.wp_mt0 ?_) | (with_reducible refine Mi.wp_seqI ?_) | (with_reducible refine Mi.wp_compN ?_) | (with_reducible refine Mi.wp_fnI ?_) | (with_reducible refine Mi.wp_forS ?_) | (with_reducible refine Mi.wp_tgTup ?_) | (with_reducible refine Mi.wp_gsCons ?_) | (with_reducible refine Mi.wp_gsNil ?_) | (with_reducible refine Mi.wp_callN ?_) | ((with_reducible apply Mi.wp_putV); · rfl) | ((with_reducible apply Mi.wp_putN); · rfl) | (with_reducible refine Mi.wp_bnd ?_) | (with_reducible refine Mi.wp_ret ?_) | (with_reducible refine Mi.wp_opt ?_) | (with_reducible refine Mi.wp_view ?_) | ((with_reducible refine Mi.nm_a ?_); (try (conv => arg 1; simp only [Mi.putCell, Mi.wipeL, Mi.backL, Mi.pick, List.filterMap_cons, List.filterMap_nil, List.filterMap_cons_some, List.map_nil, List.map_cons, List.append_nil, List.nil_append, List.cons_append, List.getElem?_cons_zero, List.getElem?_cons_succ, List.set_cons_zero, List.set_cons_succ, List.getD_cons_zero, List.getD_cons_succ, Int.reduceToNat])); (with_reducible refine Mi.nm_b ?_)) | (with_reducible refine ⟨_, Mi.add_int, ?_⟩) | (with_reducible refine ⟨_, Mi.sub_int, ?_⟩) | (with_reducible refine ⟨_, Mi.lt_int, ?_⟩) | (with_reducible refine ⟨_, Mi.le_int, ?_⟩) | (with_reducible refine ⟨_, Mi.gt_int, ?_⟩) | (with_reducible refine ⟨_, Mi.ge_int, ?_⟩) | (with_reducible refine ⟨_, Mi.neg_int, ?_⟩) | (with_reducible refine ⟨_, Mi.asBl_bl, ?_⟩) | (with_reducible refine ⟨_, Mi.pow_lit (by decide) (by decide), ?_⟩) | (with_reducible refine ⟨_, Mi.mul_int (by decide), ?_⟩) | (with_reducible refine ⟨_, Mi.mod_int (by decide), ?_⟩) | (with_reducible refine ⟨_, Mi.fdiv_int (by decide), ?_⟩) | (with_reducible refine ⟨_, Mi.eqq_int, ?_⟩) | (with_reducible refine ⟨_, Mi.neq_int, ?_⟩) | (with_reducible refine Mi.ift_t ?_) | (with_reducible refine Mi.ift_f ?_) | (with_reducible refine Mi.ift_nt ?_) | (with_reducible refine Mi.ift_nf ?_) | ((with_reducible refine Mi.ift_bt ?_ ?_); · rfl) | ((with_reducible refine Mi.ift_bf ?_ ?_); · rfl) | (refine ⟨_, _, _, _, _, rfl, rfl, rfl, rfl, ?_⟩) | (refine ⟨_, _, rfl, rfl, ?_⟩) | (refine ⟨_, _, rfl, ?_⟩) | (refine ⟨⟨rfl, rfl, rfl⟩, ?_⟩) | (refine ⟨Nat.le_of_ble_eq_true rfl, ?_⟩) | (refine ⟨by decide, ?_⟩) | (refine ⟨_, rfl, ?_⟩) | (refine ⟨rfl, ?_⟩))); (try (with_reducible refine Mi.here ?_)))
    refine fp_pour hj (by omega) (by decide) (by decide) fun r1 o1 h0 h1 hj => ?_
    ((repeat (first | (with_reducible refine Mi.wp_seq ?_) | (with_reducible refine Mi.wp_ifS ?_) | (with_reducible refine Mi.wp_asg ?_) | (with_reducible refine Mi.wp_retS ?_) | (with_reducible refine Mi.wp_bin ?_) | ((with_reducible apply Mi.wp_var1); · rfl) | (with_reducible refine Mi.wp_C ?_) | (with_reducible refine Mi.wp_asCons ?_) | (with_reducible refine Mi.wp_asNil ?_) | (with_reducible refine Mi.wp_call ?_) | (with_reducible refine Mi.wp_callIO ?_) | (with_reducible refine Mi.wp_args ?_) | (with_reducible refine Mi.wp_frzXn ?_) | (with_reducible refine Mi.wp_frzX0 ?_) | (with_reducible refine Mi.wp_frzXS ?_) | (with_reducible refine Mi.wp_frzsCons ?_) | (with_reducible refine Mi.wp_frzsNil ?_) | (with_reducible refine Mi.wp_frzD ?_) | (with_reducible refine Mi.wp_boolA ?_) | (with_reducible refine Mi.wp_blT ?_) | (with_reducible refine Mi.wp_tst ?_) | (with_reducible refine Mi.wp_andT ?_) | (with_reducible refine Mi.wp_orT ?_) | (with_reducible refine Mi.wp_notT ?_) | (with_reducible refine Mi.wp_ifA ?_) | (with_reducible refine Mi.wp_andA ?_) | (with_reducible refine Mi.wp_orA ?_) | (with_reducible refine Mi.wp_notA ?_) | (with_reducible refine Mi.wp_chainT ?_) | (with_reducible refine Mi.wp_cb ?_) | (with_reducible refine Mi.wp_un ?_) | (with_reducible refine Mi.wp_next ?_) | (with_reducible refine Mi.wp_asgN ?_) | (with_reducible refine Mi.wp_retNS ?_) | (with_reducible refine Mi.wp_drop ?_) | (with_reducible refine Mi.wp_par2 ?_) | (with_reducible refine Mi.wp_asgG ?_) | (with_reducible refine Mi.wp_subG ?_) | (with_reducible refine Mi.wp_appA ?_) | (with_reducible refine Mi.wp_tup ?_) | (with_reducible refine Mi.wp_lst ?_) | (with_reducible refine Mi.wp_new ?_) | (with_reducible refine Mi.wp_slice ?_) | (with_reducible refine Mi.wp_prtN ?_) | (with_reducible refine Mi.wp_prtS ?_) | (with_reducible refine Mi.wp_mt ?_) | (with_reducible refine Mi.wp_mt0 ?_) | (with_reducible refine Mi.wp_seqI ?_) | (with_reducible refine Mi.wp_compN ?_) | (with_reducible refine Mi.wp_fnI ?_) | (with_reducible refine Mi.wp_forS ?_) | (with_reducible refine Mi.wp_tgTup ?_) | (with_reducible refine Mi.wp_gsCons ?_) | (with_reducible refine Mi.wp_gsNil ?_) | (with_reducible refine Mi.wp_callN ?_) | ((with_reducible apply Mi.wp_putV); · rfl) | ((with_reducible apply Mi.wp_putN); · rfl) | (with_reducible refine Mi.wp_bnd ?_) | (with_reducible refine Mi.wp_ret ?_) | (with_reducible refine Mi.wp_opt ?_) | (with_reducible refine Mi.wp_view ?_) | ((with_reducible refine Mi.nm_a ?_); (try (conv => arg 1; simp only [Mi.putCell, Mi.wipeL, Mi.backL, Mi.pick, List.filterMap_cons, List.filterMap_nil, List.filterMap_cons_some, List.map_nil, List.map_cons, List.append_nil, List.nil_append, List.cons_append, List.getElem?_cons_zero, List.getElem?_cons_succ, List.set_cons_zero, List.set_cons_succ, List.getD_cons_zero, List.getD_cons_succ, Int.reduceToNat])); (with_reducible refine Mi.nm_b ?_)) | (with_reducible refine ⟨_, Mi.add_int, ?_⟩) | (with_reducible refine ⟨_, Mi.sub_int, ?_⟩) | (with_reducible refine ⟨_, Mi.lt_int, ?_⟩) | (with_reducible refine ⟨_, Mi.le_int, ?_⟩) | (with_reducible refine ⟨_, Mi.gt_int, ?_⟩) | (with_reducible refine ⟨_, Mi.ge_int, ?_⟩) | (with_reducible refine ⟨_, Mi.neg_int, ?_⟩) | (with_reducible refine ⟨_, Mi.asBl_bl, ?_⟩) | (with_reducible refine ⟨_, Mi.pow_lit (by decide) (by decide), ?_⟩) | (with_reducible refine ⟨_, Mi.mul_int (by decide), ?_⟩) | (with_reducible refine ⟨_, Mi.mod_int (by decide), ?_⟩) | (with_reducible refine ⟨_, Mi.fdiv_int (by decide), ?_⟩) | (with_reducible refine ⟨_, Mi.eqq_int, ?_⟩) | (with_reducible refine ⟨_, Mi.neq_int, ?_⟩) | (with_reducible refine Mi.ift_t ?_) | (with_reducible refine Mi.ift_f ?_) | (with_reducible refine Mi.ift_nt ?_) | (with_reducible refine Mi.ift_nf ?_) | ((with_reducible refine Mi.ift_bt ?_ ?_); · rfl) | ((with_reducible refine Mi.ift_bf ?_ ?_); · rfl) | (refine ⟨_, _, _, _, _, rfl, rfl, rfl, rfl, ?_⟩) | (refine ⟨_, _, rfl, rfl, ?_⟩) | (refine ⟨_, _, rfl, ?_⟩) | (refine ⟨⟨rfl, rfl, rfl⟩, ?_⟩) | (refine ⟨Nat.le_of_ble_eq_true rfl, ?_⟩) | (refine ⟨by decide, ?_⟩) | (refine ⟨_, rfl, ?_⟩) | (refine ⟨rfl, ?_⟩))); (try (with_reducible refine Mi.here ?_)))
    refine fp_pour hj (by omega) (by decide) (by decide) fun r2 o2 h2 h3 hj => ?_
    ((repeat (first | (with_reducible refine Mi.wp_seq ?_) | (with_reducible refine Mi.wp_ifS ?_) | (with_reducible refine Mi.wp_asg ?_) | (with_reducible refine Mi.wp_retS ?_) | (with_reducible refine Mi.wp_bin ?_) | ((with_reducible apply Mi.wp_var1); · rfl) | (with_reducible refine Mi.wp_C ?_) | (with_reducible refine Mi.wp_asCons ?_) | (with_reducible refine Mi.wp_asNil ?_) | (with_reducible refine Mi.wp_call ?_) | (with_reducible refine Mi.wp_callIO ?_) | (with_reducible refine Mi.wp_args ?_) | (with_reducible refine Mi.wp_frzXn ?_) | (with_reducible refine Mi.wp_frzX0 ?_) | (with_reducible refine Mi.wp_frzXS ?_) | (with_reducible refine Mi.wp_frzsCons ?_) | (with_reducible refine Mi.wp_frzsNil ?_) | (with_reducible refine Mi.wp_frzD ?_) | (with_reducible refine Mi.wp_boolA ?_) | (with_reducible refine Mi.wp_blT ?_) | (with_reducible refine Mi.wp_tst ?_) | (with_reducible refine Mi.wp_andT ?_) | (with_reducible refine Mi.wp_orT ?_) | (with_reducible refine Mi.wp_notT ?_) | (with_reducible refine Mi.wp_ifA ?_) | (with_reducible refine Mi.wp_andA ?_) | (with_reducible refine Mi.wp_orA ?_) | (with_reducible refine Mi.wp_notA ?_) | (with_reducible refine Mi.wp_chainT ?_) | (with_reducible refine Mi.wp_cb ?_) | (with_reducible refine Mi.wp_un ?_) | (with_reducible refine Mi.wp_next ?_) | (with_reducible refine Mi.wp_asgN ?_) | (with_reducible refine Mi.wp_retNS ?_) | (with_reducible refine Mi.wp_drop ?_) | (with_reducible refine Mi.wp_par2 ?_) | (with_reducible refine Mi.wp_asgG ?_) | (with_reducible refine Mi.wp_subG ?_) | (with_reducible refine Mi.wp_appA ?_) | (with_reducible refine Mi.wp_tup ?_) | (with_reducible refine Mi.wp_lst ?_) | (with_reducible refine Mi.wp_new ?_) | (with_reducible refine Mi.wp_slice ?_) | (with_reducible refine Mi.wp_prtN ?_) | (with_reducible refine Mi.wp_prtS ?_) | (with_reducible refine Mi.wp_mt ?_) | (with_reducible refine Mi.wp_mt0 ?_) | (with_reducible refine Mi.wp_seqI ?_) | (with_reducible refine Mi.wp_compN ?_) | (with_reducible refine Mi.wp_fnI ?_) | (with_reducible refine Mi.wp_forS ?_) | (with_reducible refine Mi.wp_tgTup ?_) | (with_reducible refine Mi.wp_gsCons ?_) | (with_reducible refine Mi.wp_gsNil ?_) | (with_reducible refine Mi.wp_callN ?_) | ((with_reducible apply Mi.wp_putV); · rfl) | ((with_reducible apply Mi.wp_putN); · rfl) | (with_reducible refine Mi.wp_bnd ?_) | (with_reducible refine Mi.wp_ret ?_) | (with_reducible refine Mi.wp_opt ?_) | (with_reducible refine Mi.wp_view ?_) | ((with_reducible refine Mi.nm_a ?_); (try (conv => arg 1; simp only [Mi.putCell, Mi.wipeL, Mi.backL, Mi.pick, List.filterMap_cons, List.filterMap_nil, List.filterMap_cons_some, List.map_nil, List.map_cons, List.append_nil, List.nil_append, List.cons_append, List.getElem?_cons_zero, List.getElem?_cons_succ, List.set_cons_zero, List.set_cons_succ, List.getD_cons_zero, List.getD_cons_succ, Int.reduceToNat])); (with_reducible refine Mi.nm_b ?_)) | (with_reducible refine ⟨_, Mi.add_int, ?_⟩) | (with_reducible refine ⟨_, Mi.sub_int, ?_⟩) | (with_reducible refine ⟨_, Mi.lt_int, ?_⟩) | (with_reducible refine ⟨_, Mi.le_int, ?_⟩) | (with_reducible refine ⟨_, Mi.gt_int, ?_⟩) | (with_reducible refine ⟨_, Mi.ge_int, ?_⟩) | (with_reducible refine ⟨_, Mi.neg_int, ?_⟩) | (with_reducible refine ⟨_, Mi.asBl_bl, ?_⟩) | (with_reducible refine ⟨_, Mi.pow_lit (by decide) (by decide), ?_⟩) | (with_reducible refine ⟨_, Mi.mul_int (by decide), ?_⟩) | (with_reducible refine ⟨_, Mi.mod_int (by decide), ?_⟩) | (with_reducible refine ⟨_, Mi.fdiv_int (by decide), ?_⟩) | (with_reducible refine ⟨_, Mi.eqq_int, ?_⟩) | (with_reducible refine ⟨_, Mi.neq_int, ?_⟩) | (with_reducible refine Mi.ift_t ?_) | (with_reducible refine Mi.ift_f ?_) | (with_reducible refine Mi.ift_nt ?_) | (with_reducible refine Mi.ift_nf ?_) | ((with_reducible refine Mi.ift_bt ?_ ?_); · rfl) | ((with_reducible refine Mi.ift_bf ?_ ?_); · rfl) | (refine ⟨_, _, _, _, _, rfl, rfl, rfl, rfl, ?_⟩) | (refine ⟨_, _, rfl, rfl, ?_⟩) | (refine ⟨_, _, rfl, ?_⟩) | (refine ⟨⟨rfl, rfl, rfl⟩, ?_⟩) | (refine ⟨Nat.le_of_ble_eq_true rfl, ?_⟩) | (refine ⟨by decide, ?_⟩) | (refine ⟨_, rfl, ?_⟩) | (refine ⟨rfl, ?_⟩))); (try (with_reducible refine Mi.here ?_)))
    refine ⟨_, rng1_int ⟨by omega, by omega⟩, ?_⟩
    ((repeat (first | (with_reducible refine Mi.wp_seq ?_) | (with_reducible refine Mi.wp_ifS ?_) | (with_reducible refine Mi.wp_asg ?_) | (with_reducible refine Mi.wp_retS ?_) | (with_reducible refine Mi.wp_bin ?_) | ((with_reducible apply Mi.wp_var1); · rfl) | (with_reducible refine Mi.wp_C ?_) | (with_reducible refine Mi.wp_asCons ?_) | (with_reducible refine Mi.wp_asNil ?_) | (with_reducible refine Mi.wp_call ?_) | (with_reducible refine Mi.wp_callIO ?_) | (with_reducible refine Mi.wp_args ?_) | (with_reducible refine Mi.wp_frzXn ?_) | (with_reducible refine Mi.wp_frzX0 ?_) | (with_reducible refine Mi.wp_frzXS ?_) | (with_reducible refine Mi.wp_frzsCons ?_) | (with_reducible refine Mi.wp_frzsNil ?_) | (with_reducible refine Mi.wp_frzD ?_) | (with_reducible refine Mi.wp_boolA ?_) | (with_reducible refine Mi.wp_blT ?_) | (with_reducible refine Mi.wp_tst ?_) | (with_reducible refine Mi.wp_andT ?_) | (with_reducible refine Mi.wp_orT ?_) | (with_reducible refine Mi.wp_notT ?_) | (with_reducible refine Mi.wp_ifA ?_) | (with_reducible refine Mi.wp_andA ?_) | (with_reducible refine Mi.wp_orA ?_) | (with_reducible refine Mi.wp_notA ?_) | (with_reducible refine Mi.wp_chainT ?_) | (with_reducible refine Mi.wp_cb ?_) | (with_reducible refine Mi.wp_un ?_) | (with_reducible refine Mi.wp_next ?_) | (with_reducible refine Mi.wp_asgN ?_) | (with_reducible refine Mi.wp_retNS ?_) | (with_reducible refine Mi.wp_drop ?_) | (with_reducible refine Mi.wp_par2 ?_) | (with_reducible refine Mi.wp_asgG ?_) | (with_reducible refine Mi.wp_subG ?_) | (with_reducible refine Mi.wp_appA ?_) | (with_reducible refine Mi.wp_tup ?_) | (with_reducible refine Mi.wp_lst ?_) | (with_reducible refine Mi.wp_new ?_) | (with_reducible refine Mi.wp_slice ?_) | (with_reducible refine Mi.wp_prtN ?_) | (with_reducible refine Mi.wp_prtS ?_) | (with_reducible refine Mi.wp_mt ?_) | (with_reducible refine Mi.wp_mt0 ?_) | (with_reducible refine Mi.wp_seqI ?_) | (with_reducible refine Mi.wp_compN ?_) | (with_reducible refine Mi.wp_fnI ?_) | (with_reducible refine Mi.wp_forS ?_) | (with_reducible refine Mi.wp_tgTup ?_) | (with_reducible refine Mi.wp_gsCons ?_) | (with_reducible refine Mi.wp_gsNil ?_) | (with_reducible refine Mi.wp_callN ?_) | ((with_reducible apply Mi.wp_putV); · rfl) | ((with_reducible apply Mi.wp_putN); · rfl) | (with_reducible refine Mi.wp_bnd ?_) | (with_reducible refine Mi.wp_ret ?_) | (with_reducible refine Mi.wp_opt ?_) | (with_reducible refine Mi.wp_view ?_) | ((with_reducible refine Mi.nm_a ?_); (try (conv => arg 1; simp only [Mi.putCell, Mi.wipeL, Mi.backL, Mi.pick, List.filterMap_cons, List.filterMap_nil, List.filterMap_cons_some, List.map_nil, List.map_cons, List.append_nil, List.nil_append, List.cons_append, List.getElem?_cons_zero, List.getElem?_cons_succ, List.set_cons_zero, List.set_cons_succ, List.getD_cons_zero, List.getD_cons_succ, Int.reduceToNat])); (with_reducible refine Mi.nm_b ?_)) | (with_reducible refine ⟨_, Mi.add_int, ?_⟩) | (with_reducible refine ⟨_, Mi.sub_int, ?_⟩) | (with_reducible refine ⟨_, Mi.lt_int, ?_⟩) | (with_reducible refine ⟨_, Mi.le_int, ?_⟩) | (with_reducible refine ⟨_, Mi.gt_int, ?_⟩) | (with_reducible refine ⟨_, Mi.ge_int, ?_⟩) | (with_reducible refine ⟨_, Mi.neg_int, ?_⟩) | (with_reducible refine ⟨_, Mi.asBl_bl, ?_⟩) | (with_reducible refine ⟨_, Mi.pow_lit (by decide) (by decide), ?_⟩) | (with_reducible refine ⟨_, Mi.mul_int (by decide), ?_⟩) | (with_reducible refine ⟨_, Mi.mod_int (by decide), ?_⟩) | (with_reducible refine ⟨_, Mi.fdiv_int (by decide), ?_⟩) | (with_reducible refine ⟨_, Mi.eqq_int, ?_⟩) | (with_reducible refine ⟨_, Mi.neq_int, ?_⟩) | (with_reducible refine Mi.ift_t ?_) | (with_reducible refine Mi.ift_f ?_) | (with_reducible refine Mi.ift_nt ?_) | (with_reducible refine Mi.ift_nf ?_) | ((with_reducible refine Mi.ift_bt ?_ ?_); · rfl) | ((with_reducible refine Mi.ift_bf ?_ ?_); · rfl) | (refine ⟨_, _, _, _, _, rfl, rfl, rfl, rfl, ?_⟩) | (refine ⟨_, _, rfl, rfl, ?_⟩) | (refine ⟨_, _, rfl, ?_⟩) | (refine ⟨⟨rfl, rfl, rfl⟩, ?_⟩) | (refine ⟨Nat.le_of_ble_eq_true rfl, ?_⟩) | (refine ⟨by decide, ?_⟩) | (refine ⟨_, rfl, ?_⟩) | (refine ⟨rfl, ?_⟩))); (try (with_reducible refine Mi.here ?_)))
    refine wp_compGo (fun ds acc ρ => ∃ (j : D) (zs : List Str), acc = zs.map D.str ∧ (∀ z ∈ zs, z.length = 1 ∧ PyData.strOk z = true) ∧ (zs.length + ds.length : Nat) = r2.toNat ∧ (∀ d ∈ ds, ∃ i : Int, d = .int i) ∧ Jg (k + 2 + zs.length) j ∧
      ρ = [.cel true j, .val (.bl (decide (r1 = 0))), .val (.int r2), .val (.str (Str.ofString "abcdefghijklmnopqrstuvwxyz0123456789")), .nil, .nil, .nil, .nil]) ?_ ?_ _ _ _ ?_
    · rintro acc ρ ⟨j, zs, rfl, hz, hn, -, hj, rfl⟩
      simp only [List.length_nil, Nat.add_zero] at hn
      have hk2 : k + 2 + zs.length ≤ k + 17 := by omega
      have hj := hj.mono hk2
      obtain ⟨e1, e2⟩ := join_one (fun z h => (hz z h).1) (by omega)
      have e3 : PyData.strOk (Txt.join (Str.ofString "") zs) = true := strOk_tjoin (by decide +kernel) fun z h => (hz z h).2
      ((repeat (first | (with_reducible refine Mi.wp_seq ?_) | (with_reducible refine Mi.wp_ifS ?_) | (with_reducible refine Mi.wp_asg ?_) | (with_reducible refine Mi.wp_retS ?_) | (with_reducible refine Mi.wp_bin ?_) | ((with_reducible apply Mi.wp_var1); · rfl) | (with_reducible refine Mi.wp_C ?_) | (with_reducible refine Mi.wp_asCons ?_) | (with_reducible refine Mi.wp_asNil ?_) | (with_reducible refine Mi.wp_call ?_) | (with_reducible refine Mi.wp_callIO ?_) | (with_reducible refine Mi.wp_args ?_) | (with_reducible refine Mi.wp_frzXn ?_) | (with_reducible refine Mi.wp_frzX0 ?_) | (with_reducible refine Mi.wp_frzXS ?_) | (with_reducible refine Mi.wp_frzsCons ?_) | (with_reducible refine Mi.wp_frzsNil ?_) | (with_reducible refine Mi.wp_frzD ?_) | (with_reducible refine Mi.wp_boolA ?_) | (with_reducible refine Mi.wp_blT ?_) | (with_reducible refine Mi.wp_tst ?_) | (with_reducible refine Mi.wp_andT ?_) | (with_reducible refine Mi.wp_orT ?_) | (with_reducible refine Mi.wp_notT ?_) | (with_reducible refine Mi.wp_ifA ?_) | (with_reducible refine Mi.wp_andA ?_) | (with_reducible refine Mi.wp_orA ?_) | (with_reducible refine Mi.wp_notA ?_) | (with_reducible refine Mi.wp_chainT ?_) | (with_reducible refine Mi.wp_cb ?_) | (with_reducible refine Mi.wp_un ?_) | (with_reducible refine Mi.wp_next ?_) | (with_reducible refine Mi.wp_asgN ?_) | (with_reducible refine Mi.wp_retNS ?_) | (with_reducible refine Mi.wp_drop ?_) | (with_reducible refine Mi.wp_par2 ?_) | (with_reducible refine Mi.wp_asgG ?_) | (with_reducible refine Mi.wp_subG ?_) | (with_reducible refine Mi.wp_appA ?_) | (with_reducible refine Mi.wp_tup ?_) | (with_reducible refine Mi.wp_lst ?_) | (with_reducible refine Mi.wp_new ?_) | (with_reducible refine Mi.wp_slice ?_) | (with_reducible refine Mi.wp_prtN ?_) | (with_reducible refine Mi.wp_prtS ?_) | (with_reducible refine Mi.wp_mt ?_) | (with_reducible refine Mi.wp_mt0 ?_) | (with_reducible refine Mi.wp_seqI ?_) | (with_reducible refine Mi.wp_compN ?_) | (with_reducible refine Mi.wp_fnI ?_) | (with_reducible refine Mi.wp_forS ?_) | (with_reducible refine Mi.wp_tgTup ?_) | (with_reducible refine Mi.wp_gsCons ?_) | (with_reducible refine Mi.wp_gsNil ?_) | (with_reducible refine Mi.wp_callN ?_) | ((with_reducible apply Mi.wp_putV); · rfl) | ((with_reducible apply Mi.wp_putN); · rfl) | (with_reducible refine Mi.wp_bnd ?_) | (with_reducible refine Mi.wp_ret ?_) | (with_reducible refine Mi.wp_opt ?_) | (with_reducible refine Mi.wp_view ?_) | ((with_reducible refine Mi.nm_a ?_); (try (conv => arg 1; simp only [Mi.putCell, Mi.wipeL, Mi.backL, Mi.pick, List.filterMap_cons, List.filterMap_nil, List.filterMap_cons_some, List.map_nil, List.map_cons, List.append_nil, List.nil_append, List.cons_append, List.getElem?_cons_zero, List.getElem?_cons_succ, List.set_cons_zero, List.set_cons_succ, List.getD_cons_zero, List.getD_cons_succ, Int.reduceToNat])); (with_reducible refine Mi.nm_b ?_)) | (with_reducible refine ⟨_, Mi.add_int, ?_⟩) | (with_reducible refine ⟨_, Mi.sub_int, ?_⟩) | (with_reducible refine ⟨_, Mi.lt_int, ?_⟩) | (with_reducible refine ⟨_, Mi.le_int, ?_⟩) | (with_reducible refine ⟨_, Mi.gt_int, ?_⟩) | (with_reducible refine ⟨_, Mi.ge_int, ?_⟩) | (with_reducible refine ⟨_, Mi.neg_int, ?_⟩) | (with_reducible refine ⟨_, Mi.asBl_bl, ?_⟩) | (with_reducible refine ⟨_, Mi.pow_lit (by decide) (by decide), ?_⟩) | (with_reducible refine ⟨_, Mi.mul_int (by decide), ?_⟩) | (with_reducible refine ⟨_, Mi.mod_int (by decide), ?_⟩) | (with_reducible refine ⟨_, Mi.fdiv_int (by decide), ?_⟩) | (with_reducible refine ⟨_, Mi.eqq_int, ?_⟩) | (with_reducible refine ⟨_, Mi.neq_int, ?_⟩) | (with_reducible refine Mi.ift_t ?_) | (with_reducible refine Mi.ift_f ?_) | (with_reducible refine Mi.ift_nt ?_) | (with_reducible refine Mi.ift_nf ?_) | ((with_reducible refine Mi.ift_bt ?_ ?_); · rfl) | ((with_reducible refine Mi.ift_bf ?_ ?_); · rfl) | (refine ⟨_, _, _, _, _, rfl, rfl, rfl, rfl, ?_⟩) | (refine ⟨_, _, rfl, rfl, ?_⟩) | (refine ⟨_, _, rfl, ?_⟩) | (refine ⟨⟨rfl, rfl, rfl⟩, ?_⟩) | (refine ⟨Nat.le_of_ble_eq_true rfl, ?_⟩) | (refine ⟨by decide, ?_⟩) | (refine ⟨_, rfl, ?_⟩) | (refine ⟨rfl, ?_⟩))); (try (with_reducible refine Mi.here ?_)))
      refine ⟨_, e1, ?_⟩
      ((repeat (first | (with_reducible refine Mi.wp_seq ?_) | (with_reducible refine Mi.wp_ifS ?_) | (with_reducible refine Mi.wp_asg ?_) | (with_reducible refine Mi.wp_retS ?_) | (with_reducible refine Mi.wp_bin ?_) | ((with_reducible apply Mi.wp_var1); · rfl) | (with_reducible refine Mi.wp_C ?_) | (with_reducible refine Mi.wp_asCons ?_) | (with_reducible refine Mi.wp_asNil ?_) | (with_reducible refine Mi.wp_call ?_) | (with_reducible refine Mi.wp_callIO ?_) | (with_reducible refine Mi.wp_args ?_) | (with_reducible refine Mi.wp_frzXn ?_) | (with_reducible refine Mi.wp_frzX0 ?_) | (with_reducible refine Mi.wp_frzXS ?_) | (with_reducible refine Mi.wp_frzsCons ?_) | (with_reducible refine Mi.wp_frzsNil ?_) | (with_reducible refine Mi.wp_frzD ?_) | (with_reducible refine Mi.wp_boolA ?_) | (with_reducible refine Mi.wp_blT ?_) | (with_reducible refine Mi.wp_tst ?_) | (with_reducible refine Mi.wp_andT ?_) | (with_reducible refine Mi.wp_orT ?_) | (with_reducible refine Mi.wp_notT ?_) | (with_reducible refine Mi.wp_ifA ?_) | (with_reducible refine Mi.wp_andA ?_) | (with_reducible refine Mi.wp_orA ?_) | (with_reducible refine Mi.wp_notA ?_) | (with_reducible refine Mi.wp_chainT ?_) | (with_reducible refine Mi.wp_cb ?_) | (with_reducible refine Mi.wp_un ?_) | (with_reducible refine Mi.wp_next ?_) | (with_reducible refine Mi.wp_asgN ?_) | (with_reducible refine Mi.wp_retNS ?_) | (with_reducible refine Mi.wp_drop ?_) | (with_reducible refine Mi.wp_par2 ?_) | (with_reducible refine Mi.wp_asgG ?_) | (with_reducible refine Mi.wp_subG ?_) | (with_reducible refine Mi.wp_appA ?_) | (with_reducible refine Mi.wp_tup ?_) | (with_reducible refine Mi.wp_lst ?_) | (with_reducible refine Mi.wp_new ?_) | (with_reducible refine Mi.wp_slice ?_) | (with_reducible refine Mi.wp_prtN ?_) | (with_reducible refine Mi.wp_prtS ?_) | (with_reducible refine Mi.wp_mt ?_) | (with_reducible refine Mi.wp_mt0 ?_) | (with_reducible refine Mi.wp_seqI ?_) | (with_reducible refine Mi.wp_compN ?_) | (with_reducible refine Mi.wp_fnI ?_) | (with_reducible refine Mi.wp_forS ?_) | (with_reducible refine Mi.wp_tgTup ?_) | (with_reducible refine Mi.wp_gsCons ?_) | (with_reducible refine Mi.wp_gsNil ?_) | (with_reducible refine Mi.wp_callN ?_) | ((with_reducible apply Mi.wp_putV); · rfl) | ((with_reducible apply Mi.wp_putN); · rfl) | (with_reducible refine Mi.wp_bnd ?_) | (with_reducible refine Mi.wp_ret ?_) | (with_reducible refine Mi.wp_opt ?_) | (with_reducible refine Mi.wp_view ?_) | ((with_reducible refine Mi.nm_a ?_); (try (conv => arg 1; simp only [Mi.putCell, Mi.wipeL, Mi.backL, Mi.pick, List.filterMap_cons, List.filterMap_nil, List.filterMap_cons_some, List.map_nil, List.map_cons, List.append_nil, List.nil_append, List.cons_append, List.getElem?_cons_zero, List.getElem?_cons_succ, List.set_cons_zero, List.set_cons_succ, List.getD_cons_zero, List.getD_cons_succ, Int.reduceToNat])); (with_reducible refine Mi.nm_b ?_)) | (with_reducible refine ⟨_, Mi.add_int, ?_⟩) | (with_reducible refine ⟨_, Mi.sub_int, ?_⟩) | (with_reducible refine ⟨_, Mi.lt_int, ?_⟩) | (with_reducible refine ⟨_, Mi.le_int, ?_⟩) | (with_reducible refine ⟨_, Mi.gt_int, ?_⟩) | (with_reducible refine ⟨_, Mi.ge_int, ?_⟩) | (with_reducible refine ⟨_, Mi.neg_int, ?_⟩) | (with_reducible refine ⟨_, Mi.asBl_bl, ?_⟩) | (with_reducible refine ⟨_, Mi.pow_lit (by decide) (by decide), ?_⟩) | (with_reducible refine ⟨_, Mi.mul_int (by decide), ?_⟩) | (with_reducible refine ⟨_, Mi.mod_int (by decide), ?_⟩) | (with_reducible refine ⟨_, Mi.fdiv_int (by decide), ?_⟩) | (with_reducible refine ⟨_, Mi.eqq_int, ?_⟩) | (with_reducible refine ⟨_, Mi.neq_int, ?_⟩) | (with_reducible refine Mi.ift_t ?_) | (with_reducible refine Mi.ift_f ?_) | (with_reducible refine Mi.ift_nt ?_) | (with_reducible refine Mi.ift_nf ?_) | ((with_reducible refine Mi.ift_bt ?_ ?_); · rfl) | ((with_reducible refine Mi.ift_bf ?_ ?_); · rfl) | (refine ⟨_, _, _, _, _, rfl, rfl, rfl, rfl, ?_⟩) | (refine ⟨_, _, rfl, rfl, ?_⟩) | (refine ⟨_, _, rfl, ?_⟩) | (refine ⟨⟨rfl, rfl, rfl⟩, ?_⟩) | (refine ⟨Nat.le_of_ble_eq_true rfl, ?_⟩) | (refine ⟨by decide, ?_⟩) | (refine ⟨_, rfl, ?_⟩) | (refine ⟨rfl, ?_⟩))); (try (with_reducible refine Mi.here ?_)))
      refine ⟨fun h => ?_, fun h => ?_⟩
      · ((repeat (first | (with_reducible refine Mi.wp_seq ?_) | (with_reducible refine Mi.wp_ifS ?_) | (with_reducible refine Mi.wp_asg ?_) | (with_reducible refine Mi.wp_retS ?_) | (with_reducible refine Mi.wp_bin ?_) | ((with_reducible apply Mi.wp_var1); · rfl) | (with_reducible refine Mi.wp_C ?_) | (with_reducible refine Mi.wp_asCons ?_) | (with_reducible refine Mi.wp_asNil ?_) | (with_reducible refine Mi.wp_call ?_) | (with_reducible refine Mi.wp_callIO ?_) | (with_reducible refine Mi.wp_args ?_) | (with_reducible refine Mi.wp_frzXn ?_) | (with_reducible refine Mi.wp_frzX0 ?_) | (with_reducible refine Mi.wp_frzXS ?_) | (with_reducible refine Mi.wp_frzsCons ?_) | (with_reducible refine Mi.wp_frzsNil ?_) | (with_reducible refine Mi.wp_frzD ?_) | (with_reducible refine Mi.wp_boolA ?_) | (with_reducible refine Mi.wp_blT ?_) | (with_reducible refine Mi.wp_tst ?_) | (with_reducible refine Mi.wp_andT ?_) | (with_reducible refine Mi.wp_orT ?_) | (with_reducible refine Mi.wp_notT ?_) | (with_reducible refine Mi.wp_ifA ?_) | (with_reducible refine Mi.wp_andA ?_) | (with_reducible refine Mi.wp_orA ?_) | (with_reducible refine Mi.wp_notA ?_) | (with_reducible refine Mi.wp_chainT ?_) | (with_reducible refine Mi.wp_cb ?_) | (with_reducible refine Mi.wp_un ?_) | (with_reducible refine Mi.wp_next ?_) | (with_reducible refine Mi.wp_asgN ?_) | (with_reducible refine Mi.wp_retNS ?_) | (with_reducible refine Mi.wp_drop ?_) | (with_reducible refine Mi.wp_par2 ?_) | (with_reducible refine Mi.wp_asgG ?_) | (with_reducible refine Mi.wp_subG ?_) | (with_reducible refine Mi.wp_appA ?_) | (with_reducible refine Mi.wp_tup ?_) | (with_reducible refine Mi.wp_lst ?_) | (with_reducible refine Mi.wp_new ?_) | (with_reducible refine Mi.wp_slice ?_) | (with_reducible refine Mi.wp_prtN ?_) | (with_reducible refine Mi.wp_prtS ?_) | (with_reducible refine Mi.wp_mt ?_) | (with_reducible refine Mi.wp_mt0 ?_) | (with_reducible refine Mi.wp_seqI ?_) | (with_reducible refine Mi.wp_compN ?_) | (with_reducible refine Mi.wp_fnI ?_) | (with_reducible refine Mi.wp_forS ?_) | (with_reducible refine Mi.wp_tgTup ?_) | (with_reducible refine Mi.wp_gsCons ?_) | (with_reducible refine Mi.wp_gsNil ?_) | (with_reducible refine Mi.wp_callN ?_) | ((with_reducible apply Mi.wp_putV); · rfl) | ((with_reducible apply Mi.wp_putN); · rfl) | (with_reducible refine Mi.wp_bnd ?_) | (with_reducible refine Mi.wp_ret ?_) | (with_reducible refine Mi.wp_opt ?_) | (with_reducible refine Mi.wp_view ?_) | ((with_reducible refine Mi.nm_a ?_); (try (conv => arg 1; simp only [Mi.putCell, Mi.wipeL, Mi.backL, Mi.pick, List.filterMap_cons, List.filterMap_nil, List.filterMap_cons_some, List.map_nil, List.map_cons, List.append_nil, List.nil_append, List.cons_append, List.getElem?_cons_zero, List.getElem?_cons_succ, List.set_cons_zero, List.set_cons_succ, List.getD_cons_zero, List.getD_cons_succ, Int.reduceToNat])); (with_reducible refine Mi.nm_b ?_)) | (with_reducible refine ⟨_, Mi.add_int, ?_⟩) | (with_reducible refine ⟨_, Mi.sub_int, ?_⟩) | (with_reducible refine ⟨_, Mi.lt_int, ?_⟩) | (with_reducible refine ⟨_, Mi.le_int, ?_⟩) | (with_reducible refine ⟨_, Mi.gt_int, ?_⟩) | (with_reducible refine ⟨_, Mi.ge_int, ?_⟩) | (with_reducible refine ⟨_, Mi.neg_int, ?_⟩) | (with_reducible refine ⟨_, Mi.asBl_bl, ?_⟩) | (with_reducible refine ⟨_, Mi.pow_lit (by decide) (by decide), ?_⟩) | (with_reducible refine ⟨_, Mi.mul_int (by decide), ?_⟩) | (with_reducible refine ⟨_, Mi.mod_int (by decide), ?_⟩) | (with_reducible refine ⟨_, Mi.fdiv_int (by decide), ?_⟩) | (with_reducible refine ⟨_, Mi.eqq_int, ?_⟩) | (with_reducible refine ⟨_, Mi.neq_int, ?_⟩) | (with_reducible refine Mi.ift_t ?_) | (with_reducible refine Mi.ift_f ?_) | (with_reducible refine Mi.ift_nt ?_) | (with_reducible refine Mi.ift_nf ?_) | ((with_reducible refine Mi.ift_bt ?_ ?_); · rfl) | ((with_reducible refine Mi.ift_bf ?_ ?_); · rfl) | (refine ⟨_, _, _, _, _, rfl, rfl, rfl, rfl, ?_⟩) | (refine ⟨_, _, rfl, rfl, ?_⟩) | (refine ⟨_, _, rfl, ?_⟩) | (refine ⟨⟨rfl, rfl, rfl⟩, ?_⟩) | (refine ⟨Nat.le_of_ble_eq_true rfl, ?_⟩) | (refine ⟨by decide, ?_⟩) | (refine ⟨_, rfl, ?_⟩) | (refine ⟨rfl, ?_⟩))); (try (with_reducible refine Mi.here ?_)))
        exact ⟨_, rfl, ⟨by rw [e2]; omega, e3⟩, hj.mono (by omega)⟩
      · ((repeat (first | (with_reducible refine Mi.wp_seq ?_) | (with_reducible refine Mi.wp_ifS ?_) | (with_reducible refine Mi.wp_asg ?_) | (with_reducible refine Mi.wp_retS ?_) | (with_reducible refine Mi.wp_bin ?_) | ((with_reducible apply Mi.wp_var1); · rfl) | (with_reducible refine Mi.wp_C ?_) | (with_reducible refine Mi.wp_asCons ?_) | (with_reducible refine Mi.wp_asNil ?_) | (with_reducible refine Mi.wp_call ?_) | (with_reducible refine Mi.wp_callIO ?_) | (with_reducible refine Mi.wp_args ?_) | (with_reducible refine Mi.wp_frzXn ?_) | (with_reducible refine Mi.wp_frzX0 ?_) | (with_reducible refine Mi.wp_frzXS ?_) | (with_reducible refine Mi.wp_frzsCons ?_) | (with_reducible refine Mi.wp_frzsNil ?_) | (with_reducible refine Mi.wp_frzD ?_) | (with_reducible refine Mi.wp_boolA ?_) | (with_reducible refine Mi.wp_blT ?_) | (with_reducible refine Mi.wp_tst ?_) | (with_reducible refine Mi.wp_andT ?_) | (with_reducible refine Mi.wp_orT ?_) | (with_reducible refine Mi.wp_notT ?_) | (with_reducible refine Mi.wp_ifA ?_) | (with_reducible refine Mi.wp_andA ?_) | (with_reducible refine Mi.wp_orA ?_) | (with_reducible refine Mi.wp_notA ?_) | (with_reducible refine Mi.wp_chainT ?_) | (with_reducible refine Mi.wp_cb ?_) | (with_reducible refine Mi.wp_un ?_) | (with_reducible refine Mi.wp_next ?_) | (with_reducible refine Mi.wp_asgN ?_) | (with_reducible refine Mi.wp_retNS ?_) | (with_reducible refine Mi.wp_drop ?_) | (with_reducible refine Mi.wp_par2 ?_) | (with_reducible refine Mi.wp_asgG ?_) | (with_reducible refine Mi.wp_subG ?_) | (with_reducible refine Mi.wp_appA ?_) | (with_reducible refine Mi.wp_tup ?_) | (with_reducible refine Mi.wp_lst ?_) | (with_reducible refine Mi.wp_new ?_) | (with_reducible refine Mi.wp_slice ?_) | (with_reducible refine Mi.wp_prtN ?_) | (with_reducible refine Mi.wp_prtS ?_) | (with_reducible refine Mi.wp_mt ?_) | (with_reducible refine Mi.wp_mt0 ?_) | (with_reducible refine Mi.wp_seqI ?_) | (with_reducible refine Mi.wp_compN ?_) | (with_reducible refine Mi.wp_fnI ?_) | (with_reducible refine Mi.wp_forS ?_) | (with_reducible refine Mi.wp_tgTup ?_) | (with_reducible refine Mi.wp_gsCons ?_) | (with_reducible refine Mi.wp_gsNil ?_) | (with_reducible refine Mi.wp_callN ?_) | ((with_reducible apply Mi.wp_putV); · rfl) | ((with_reducible apply Mi.wp_putN); · rfl) | (with_reducible refine Mi.wp_bnd ?_) | (with_reducible refine Mi.wp_ret ?_) | (with_reducible refine Mi.wp_opt ?_) | (with_reducible refine Mi.wp_view ?_) | ((with_reducible refine Mi.nm_a ?_); (try (conv => arg 1; simp only [Mi.putCell, Mi.wipeL, Mi.backL, Mi.pick, List.filterMap_cons, List.filterMap_nil, List.filterMap_cons_some, List.map_nil, List.map_cons, List.append_nil, List.nil_append, List.cons_append, List.getElem?_cons_zero, List.getElem?_cons_succ, List.set_cons_zero, List.set_cons_succ, List.getD_cons_zero, List.getD_cons_succ, Int.reduceToNat])); (with_reducible refine Mi.nm_b ?_)) | (with_reducible refine ⟨_, Mi.add_int, ?_⟩) | (with_reducible refine ⟨_, Mi.sub_int, ?_⟩) | (with_reducible refine ⟨_, Mi.lt_int, ?_⟩) | (with_reducible refine ⟨_, Mi.le_int, ?_⟩) | (with_reducible refine ⟨_, Mi.gt_int, ?_⟩) | (with_reducible refine ⟨_, Mi.ge_int, ?_⟩) | (with_reducible refine ⟨_, Mi.neg_int, ?_⟩) | (with_reducible refine ⟨_, Mi.asBl_bl, ?_⟩) | (with_reducible refine ⟨_, Mi.pow_lit (by decide) (by decide), ?_⟩) | (with_reducible refine ⟨_, Mi.mul_int (by decide), ?_⟩) | (with_reducible refine ⟨_, Mi.mod_int (by decide), ?_⟩) | (with_reducible refine ⟨_, Mi.fdiv_int (by decide), ?_⟩) | (with_reducible refine ⟨_, Mi.eqq_int, ?_⟩) | (with_reducible refine ⟨_, Mi.neq_int, ?_⟩) | (with_reducible refine Mi.ift_t ?_) | (with_reducible refine Mi.ift_f ?_) | (with_reducible refine Mi.ift_nt ?_) | (with_reducible refine Mi.ift_nf ?_) | ((with_reducible refine Mi.ift_bt ?_ ?_); · rfl) | ((with_reducible refine Mi.ift_bf ?_ ?_); · rfl) | (refine ⟨_, _, _, _, _, rfl, rfl, rfl, rfl, ?_⟩) | (refine ⟨_, _, rfl, rfl, ?_⟩) | (refine ⟨_, _, rfl, ?_⟩) | (refine ⟨⟨rfl, rfl, rfl⟩, ?_⟩) | (refine ⟨Nat.le_of_ble_eq_true rfl, ?_⟩) | (refine ⟨by decide, ?_⟩) | (refine ⟨_, rfl, ?_⟩) | (refine ⟨rfl, ?_⟩))); (try (with_reducible refine Mi.here ?_)))
        refine ⟨fun h => ?_, fun h => ?_⟩
        · ((repeat (first | (with_reducible refine Mi.wp_seq ?_) | (with_reducible refine Mi.wp_ifS ?_) | (with_reducible refine Mi.wp_asg ?_) | (with_reducible refine Mi.wp_retS ?_) | (with_reducible refine Mi.wp_bin ?_) | ((with_reducible apply Mi.wp_var1); · rfl) | (with_reducible refine Mi.wp_C ?_) | (with_reducible refine Mi.wp_asCons ?_) | (with_reducible refine Mi.wp_asNil ?_) | (with_reducible refine Mi.wp_call ?_) | (with_reducible refine Mi.wp_callIO ?_) | (with_reducible refine Mi.wp_args ?_) | (with_reducible refine Mi.wp_frzXn ?_) | (with_reducible refine Mi.wp_frzX0 ?_) | (with_reducible refine Mi.wp_frzXS ?_) | (with_reducible refine Mi.wp_frzsCons ?_) | (with_reducible refine Mi.wp_frzsNil ?_) | (with_reducible refine Mi.wp_frzD ?_) | (with_reducible refine Mi.wp_boolA ?_) | (with_reducible refine Mi.wp_blT ?_) | (with_reducible refine Mi.wp_tst ?_) | (with_reducible refine Mi.wp_andT ?_) | (with_reducible refine Mi.wp_orT ?_) | (with_reducible refine Mi.wp_notT ?_) | (with_reducible refine Mi.wp_ifA ?_) | (with_reducible refine Mi.wp_andA ?_) | (with_reducible refine Mi.wp_orA ?_) | (with_reducible refine Mi.wp_notA ?_) | (with_reducible refine Mi.wp_chainT ?_) | (with_reducible refine Mi.wp_cb ?_) | (with_reducible refine Mi.wp_un ?_) | (with_reducible refine Mi.wp_next ?_) | (with_reducible refine Mi.wp_asgN ?_) | (with_reducible refine Mi.wp_retNS ?_) | (with_reducible refine Mi.wp_drop ?_) | (with_reducible refine Mi.wp_par2 ?_) | (with_reducible refine Mi.wp_asgG ?_) | (with_reducible refine Mi.wp_subG ?_) | (with_reducible refine Mi.wp_appA ?_) | (with_reducible refine Mi.wp_tup ?_) | (with_reducible refine Mi.wp_lst ?_) | (with_reducible refine Mi.wp_new ?_) | (with_reducible refine Mi.wp_slice ?_) | (with_reducible refine Mi.wp_prtN ?_) | (with_reducible refine Mi.wp_prtS ?_) | (with_reducible refine Mi.wp_mt ?_) | (with_reducible refine Mi.wp_mt0 ?_) | (with_reducible refine Mi.wp_seqI ?_) | (with_reducible refine Mi.wp_compN ?_) | (with_reducible refine Mi.wp_fnI ?_) | (with_reducible refine Mi.wp_forS ?_) | (with_reducible refine Mi.wp_tgTup ?_) | (with_reducible refine Mi.wp_gsCons ?_) | (with_reducible refine Mi.wp_gsNil ?_) | (with_reducible refine Mi.wp_callN ?_) | ((with_reducible apply Mi.wp_putV); · rfl) | ((with_reducible apply Mi.wp_putN); · rfl) | (with_reducible refine Mi.wp_bnd ?_) | (with_reducible refine Mi.wp_ret ?_) | (with_reducible refine Mi.wp_opt ?_) | (with_reducible refine Mi.wp_view ?_) | ((with_reducible refine Mi.nm_a ?_); (try (conv => arg 1; simp only [Mi.putCell, Mi.wipeL, Mi.backL, Mi.pick, List.filterMap_cons, List.filterMap_nil, List.filterMap_cons_some, List.map_nil, List.map_cons, List.append_nil, List.nil_append, List.cons_append, List.getElem?_cons_zero, List.getElem?_cons_succ, List.set_cons_zero, List.set_cons_succ, List.getD_cons_zero, List.getD_cons_succ, Int.reduceToNat])); (with_reducible refine Mi.nm_b ?_)) | (with_reducible refine ⟨_, Mi.add_int, ?_⟩) | (with_reducible refine ⟨_, Mi.sub_int, ?_⟩) | (with_reducible refine ⟨_, Mi.lt_int, ?_⟩) | (with_reducible refine ⟨_, Mi.le_int, ?_⟩) | (with_reducible refine ⟨_, Mi.gt_int, ?_⟩) | (with_reducible refine ⟨_, Mi.ge_int, ?_⟩) | (with_reducible refine ⟨_, Mi.neg_int, ?_⟩) | (with_reducible refine ⟨_, Mi.asBl_bl, ?_⟩) | (with_reducible refine ⟨_, Mi.pow_lit (by decide) (by decide), ?_⟩) | (with_reducible refine ⟨_, Mi.mul_int (by decide), ?_⟩) | (with_reducible refine ⟨_, Mi.mod_int (by decide), ?_⟩) | (with_reducible refine ⟨_, Mi.fdiv_int (by decide), ?_⟩) | (with_reducible refine ⟨_, Mi.eqq_int, ?_⟩) | (with_reducible refine ⟨_, Mi.neq_int, ?_⟩) | (with_reducible refine Mi.ift_t ?_) | (with_reducible refine Mi.ift_f ?_) | (with_reducible refine Mi.ift_nt ?_) | (with_reducible refine Mi.ift_nf ?_) | ((with_reducible refine Mi.ift_bt ?_ ?_); · rfl) | ((with_reducible refine Mi.ift_bf ?_ ?_); · rfl) | (refine ⟨_, _, _, _, _, rfl, rfl, rfl, rfl, ?_⟩) | (refine ⟨_, _, rfl, rfl, ?_⟩) | (refine ⟨_, _, rfl, ?_⟩) | (refine ⟨⟨rfl, rfl, rfl⟩, ?_⟩) | (refine ⟨Nat.le_of_ble_eq_true rfl, ?_⟩) | (refine ⟨by decide, ?_⟩) | (refine ⟨_, rfl, ?_⟩) | (refine ⟨rfl, ?_⟩))); (try (with_reducible refine Mi.here ?_)))
          exact ⟨_, rfl, ⟨by rw [e2]; omega, e3⟩, hj.mono (by omega)⟩
        · ((repeat (first | (with_reducible refine Mi.wp_seq ?_) | (with_reducible refine Mi.wp_ifS ?_) | (with_reducible refine Mi.wp_asg ?_) | (with_reducible refine Mi.wp_retS ?_) | (with_reducible refine Mi.wp_bin ?_) | ((with_reducible apply Mi.wp_var1); · rfl) | (with_reducible refine Mi.wp_C ?_) | (with_reducible refine Mi.wp_asCons ?_) | (with_reducible refine Mi.wp_asNil ?_) | (with_reducible refine Mi.wp_call ?_) | (with_reducible refine Mi.wp_callIO ?_) | (with_reducible refine Mi.wp_args ?_) | (with_reducible refine Mi.wp_frzXn ?_) | (with_reducible refine Mi.wp_frzX0 ?_) | (with_reducible refine Mi.wp_frzXS ?_) | (with_reducible refine Mi.wp_frzsCons ?_) | (with_reducible refine Mi.wp_frzsNil ?_) | (with_reducible refine Mi.wp_frzD ?_) | (with_reducible refine Mi.wp_boolA ?_) | (with_reducible refine Mi.wp_blT ?_) | (with_reducible refine Mi.wp_tst ?_) | (with_reducible refine Mi.wp_andT ?_) | (with_reducible refine Mi.wp_orT ?_) | (with_reducible refine Mi.wp_notT ?_) | (with_reducible refine Mi.wp_ifA ?_) | (with_reducible refine Mi.wp_andA ?_) | (with_reducible refine Mi.wp_orA ?_) | (with_reducible refine Mi.wp_notA ?_) | (with_reducible refine Mi.wp_chainT ?_) | (with_reducible refine Mi.wp_cb ?_) | (with_reducible refine Mi.wp_un ?_) | (with_reducible refine Mi.wp_next ?_) | (with_reducible refine Mi.wp_asgN ?_) | (with_reducible refine Mi.wp_retNS ?_) | (with_reducible refine Mi.wp_drop ?_) | (with_reducible refine Mi.wp_par2 ?_) | (with_reducible refine Mi.wp_asgG ?_) | (with_reducible refine Mi.wp_subG ?_) | (with_reducible refine Mi.wp_appA ?_) | (with_reducible refine Mi.wp_tup ?_) | (with_reducible refine Mi.wp_lst ?_) | (with_reducible refine Mi.wp_new ?_) | (with_reducible refine Mi.wp_slice ?_) | (with_reducible refine Mi.wp_prtN ?_) | (with_reducible refine Mi.wp_prtS ?_) | (with_reducible refine Mi.wp_mt ?_) | (with_reducible refine Mi.wp_mt0 ?_) | (with_reducible refine Mi.wp_seqI ?_) | (with_reducible refine Mi.wp_compN ?_) | (with_reducible refine Mi.wp_fnI ?_) | (with_reducible refine Mi.wp_forS ?_) | (with_reducible refine Mi.wp_tgTup ?_) | (with_reducible refine Mi.wp_gsCons ?_) | (with_reducible refine Mi.wp_gsNil ?_) | (with_reducible refine Mi.wp_callN ?_) | ((with_reducible apply Mi.wp_putV); · rfl) | ((with_reducible apply Mi.wp_putN); · rfl) | (with_reducible refine Mi.wp_bnd ?_) | (with_reducible refine Mi.wp_ret ?_) | (with_reducible refine Mi.wp_opt ?_) | (with_reducible refine Mi.wp_view ?_) | ((with_reducible refine Mi.nm_a ?_); (try (conv => arg 1; simp only [Mi.putCell, Mi.wipeL, Mi.backL, Mi.pick, List.filterMap_cons, List.filterMap_nil, List.filterMap_cons_some, List.map_nil, List.map_cons, List.append_nil, List.nil_append, List.cons_append, List.getElem?_cons_zero, List.getElem?_cons_succ, List.set_cons_zero, List.set_cons_succ, List.getD_cons_zero, List.getD_cons_succ, Int.reduceToNat])); (with_reducible refine Mi.nm_b ?_)) | (with_reducible refine ⟨_, Mi.add_int, ?_⟩) | (with_reducible refine ⟨_, Mi.sub_int, ?_⟩) | (with_reducible refine ⟨_, Mi.lt_int, ?_⟩) | (with_reducible refine ⟨_, Mi.le_int, ?_⟩) | (with_reducible refine ⟨_, Mi.gt_int, ?_⟩) | (with_reducible refine ⟨_, Mi.ge_int, ?_⟩) | (with_reducible refine ⟨_, Mi.neg_int, ?_⟩) | (with_reducible refine ⟨_, Mi.asBl_bl, ?_⟩) | (with_reducible refine ⟨_, Mi.pow_lit (by decide) (by decide), ?_⟩) | (with_reducible refine ⟨_, Mi.mul_int (by decide), ?_⟩) | (with_reducible refine ⟨_, Mi.mod_int (by decide), ?_⟩) | (with_reducible refine ⟨_, Mi.fdiv_int (by decide), ?_⟩) | (with_reducible refine ⟨_, Mi.eqq_int, ?_⟩) | (with_reducible refine ⟨_, Mi.neq_int, ?_⟩) | (with_reducible refine Mi.ift_t ?_) | (with_reducible refine Mi.ift_f ?_) | (with_reducible refine Mi.ift_nt ?_) | (with_reducible refine Mi.ift_nf ?_) | ((with_reducible refine Mi.ift_bt ?_ ?_); · rfl) | ((with_reducible refine Mi.ift_bf ?_ ?_); · rfl) | (refine ⟨_, _, _, _, _, rfl, rfl, rfl, rfl, ?_⟩) | (refine ⟨_, _, rfl, rfl, ?_⟩) | (refine ⟨_, _, rfl, ?_⟩) | (refine ⟨⟨rfl, rfl, rfl⟩, ?_⟩) | (refine ⟨Nat.le_of_ble_eq_true rfl, ?_⟩) | (refine ⟨by decide, ?_⟩) | (refine ⟨_, rfl, ?_⟩) | (refine ⟨rfl, ?_⟩))); (try (with_reducible refine Mi.here ?_)))
          have hr : r2 ≠ 0 := of_decide_eq_false h
          refine fp_pour hj (by omega) (by omega) (log2_lt (by omega) (by decide)) fun r3 o3 h6 h7 hj => ?_
          ((repeat (first | (with_reducible refine Mi.wp_seq ?_) | (with_reducible refine Mi.wp_ifS ?_) | (with_reducible refine Mi.wp_asg ?_) | (with_reducible refine Mi.wp_retS ?_) | (with_reducible refine Mi.wp_bin ?_) | ((with_reducible apply Mi.wp_var1); · rfl) | (with_reducible refine Mi.wp_C ?_) | (with_reducible refine Mi.wp_asCons ?_) | (with_reducible refine Mi.wp_asNil ?_) | (with_reducible refine Mi.wp_call ?_) | (with_reducible refine Mi.wp_callIO ?_) | (with_reducible refine Mi.wp_args ?_) | (with_reducible refine Mi.wp_frzXn ?_) | (with_reducible refine Mi.wp_frzX0 ?_) | (with_reducible refine Mi.wp_frzXS ?_) | (with_reducible refine Mi.wp_frzsCons ?_) | (with_reducible refine Mi.wp_frzsNil ?_) | (with_reducible refine Mi.wp_frzD ?_) | (with_reducible refine Mi.wp_boolA ?_) | (with_reducible refine Mi.wp_blT ?_) | (with_reducible refine Mi.wp_tst ?_) | (with_reducible refine Mi.wp_andT ?_) | (with_reducible refine Mi.wp_orT ?_) | (with_reducible refine Mi.wp_notT ?_) | (with_reducible refine Mi.wp_ifA ?_) | (with_reducible refine Mi.wp_andA ?_) | (with_reducible refine Mi.wp_orA ?_) | (with_reducible refine Mi.wp_notA ?_) | (with_reducible refine Mi.wp_chainT ?_) | (with_reducible refine Mi.wp_cb ?_) | (with_reducible refine Mi.wp_un ?_) | (with_reducible refine Mi.wp_next ?_) | (with_reducible refine Mi.wp_asgN ?_) | (with_reducible refine Mi.wp_retNS ?_) | (with_reducible refine Mi.wp_drop ?_) | (with_reducible refine Mi.wp_par2 ?_) | (with_reducible refine Mi.wp_asgG ?_) | (with_reducible refine Mi.wp_subG ?_) | (with_reducible refine Mi.wp_appA ?_) | (with_reducible refine Mi.wp_tup ?_) | (with_reducible refine Mi.wp_lst ?_) | (with_reducible refine Mi.wp_new ?_) | (with_reducible refine Mi.wp_slice ?_) | (with_reducible refine Mi.wp_prtN ?_) | (with_reducible refine Mi.wp_prtS ?_) | (with_reducible refine Mi.wp_mt ?_) | (with_reducible refine Mi.wp_mt0 ?_) | (with_reducible refine Mi.wp_seqI ?_) | (with_reducible refine Mi.wp_compN ?_) | (with_reducible refine Mi.wp_fnI ?_) | (with_reducible refine Mi.wp_forS ?_) | (with_reducible refine Mi.wp_tgTup ?_) | (with_reducible refine Mi.wp_gsCons ?_) | (with_reducible refine Mi.wp_gsNil ?_) | (with_reducible refine Mi.wp_callN ?_) | ((with_reducible apply Mi.wp_putV); · rfl) | ((with_reducible apply Mi.wp_putN); · rfl) | (with_reducible refine Mi.wp_bnd ?_) | (with_reducible refine Mi.wp_ret ?_) | (with_reducible refine Mi.wp_opt ?_) | (with_reducible refine Mi.wp_view ?_) | ((with_reducible refine Mi.nm_a ?_); (try (conv => arg 1; simp only [Mi.putCell, Mi.wipeL, Mi.backL, Mi.pick, List.filterMap_cons, List.filterMap_nil, List.filterMap_cons_some, List.map_nil, List.map_cons, List.append_nil, List.nil_append, List.cons_append, List.getElem?_cons_zero, List.getElem?_cons_succ, List.set_cons_zero, List.set_cons_succ, List.getD_cons_zero, List.getD_cons_succ, Int.reduceToNat])); (with_reducible refine Mi.nm_b ?_)) | (with_reducible refine ⟨_, Mi.add_int, ?_⟩) | (with_reducible refine ⟨_, Mi.sub_int, ?_⟩) | (with_reducible refine ⟨_, Mi.lt_int, ?_⟩) | (with_reducible refine ⟨_, Mi.le_int, ?_⟩) | (with_reducible refine ⟨_, Mi.gt_int, ?_⟩) | (with_reducible refine ⟨_, Mi.ge_int, ?_⟩) | (with_reducible refine ⟨_, Mi.neg_int, ?_⟩) | (with_reducible refine ⟨_, Mi.asBl_bl, ?_⟩) | (with_reducible refine ⟨_, Mi.pow_lit (by decide) (by decide), ?_⟩) | (with_reducible refine ⟨_, Mi.mul_int (by decide), ?_⟩) | (with_reducible refine ⟨_, Mi.mod_int (by decide), ?_⟩) | (with_reducible refine ⟨_, Mi.fdiv_int (by decide), ?_⟩) | (with_reducible refine ⟨_, Mi.eqq_int, ?_⟩) | (with_reducible refine ⟨_, Mi.neq_int, ?_⟩) | (with_reducible refine Mi.ift_t ?_) | (with_reducible refine Mi.ift_f ?_) | (with_reducible refine Mi.ift_nt ?_) | (with_reducible refine Mi.ift_nf ?_) | ((with_reducible refine Mi.ift_bt ?_ ?_); · rfl) | ((with_reducible refine Mi.ift_bf ?_ ?_); · rfl) | (refine ⟨_, _, _, _, _, rfl, rfl, rfl, rfl, ?_⟩) | (refine ⟨_, _, rfl, rfl, ?_⟩) | (refine ⟨_, _, rfl, ?_⟩) | (refine ⟨⟨rfl, rfl, rfl⟩, ?_⟩) | (refine ⟨Nat.le_of_ble_eq_true rfl, ?_⟩) | (refine ⟨by decide, ?_⟩) | (refine ⟨_, rfl, ?_⟩) | (refine ⟨rfl, ?_⟩))); (try (with_reducible refine Mi.here ?_)))
          refine ⟨_, cut_str (by rw [e2]; simp [sizeLine]; omega), ?_⟩
          ((repeat (first | (with_reducible refine Mi.wp_seq ?_) | (with_reducible refine Mi.wp_ifS ?_) | (with_reducible refine Mi.wp_asg ?_) | (with_reducible refine Mi.wp_retS ?_) | (with_reducible refine Mi.wp_bin ?_) | ((with_reducible apply Mi.wp_var1); · rfl) | (with_reducible refine Mi.wp_C ?_) | (with_reducible refine Mi.wp_asCons ?_) | (with_reducible refine Mi.wp_asNil ?_) | (with_reducible refine Mi.wp_call ?_) | (with_reducible refine Mi.wp_callIO ?_) | (with_reducible refine Mi.wp_args ?_) | (with_reducible refine Mi.wp_frzXn ?_) | (with_reducible refine Mi.wp_frzX0 ?_) | (with_reducible refine Mi.wp_frzXS ?_) | (with_reducible refine Mi.wp_frzsCons ?_) | (with_reducible refine Mi.wp_frzsNil ?_) | (with_reducible refine Mi.wp_frzD ?_) | (with_reducible refine Mi.wp_boolA ?_) | (with_reducible refine Mi.wp_blT ?_) | (with_reducible refine Mi.wp_tst ?_) | (with_reducible refine Mi.wp_andT ?_) | (with_reducible refine Mi.wp_orT ?_) | (with_reducible refine Mi.wp_notT ?_) | (with_reducible refine Mi.wp_ifA ?_) | (with_reducible refine Mi.wp_andA ?_) | (with_reducible refine Mi.wp_orA ?_) | (with_reducible refine Mi.wp_notA ?_) | (with_reducible refine Mi.wp_chainT ?_) | (with_reducible refine Mi.wp_cb ?_) | (with_reducible refine Mi.wp_un ?_) | (with_reducible refine Mi.wp_next ?_) | (with_reducible refine Mi.wp_asgN ?_) | (with_reducible refine Mi.wp_retNS ?_) | (with_reducible refine Mi.wp_drop ?_) | (with_reducible refine Mi.wp_par2 ?_) | (with_reducible refine Mi.wp_asgG ?_) | (with_reducible refine Mi.wp_subG ?_) | (with_reducible refine Mi.wp_appA ?_) | (with_reducible refine Mi.wp_tup ?_) | (with_reducible refine Mi.wp_lst ?_) | (with_reducible refine Mi.wp_new ?_) | (with_reducible refine Mi.wp_slice ?_) | (with_reducible refine Mi.wp_prtN ?_) | (with_reducible refine Mi.wp_prtS ?_) | (with_reducible refine Mi.wp_mt ?_) | (with_reducible refine Mi.wp_mt0 ?_) | (with_reducible refine Mi.wp_seqI ?_) | (with_reducible refine Mi.wp_compN ?_) | (with_reducible refine Mi.wp_fnI ?_) | (with_reducible refine Mi.wp_forS ?_) | (with_reducible refine Mi.wp_tgTup ?_) | (with_reducible refine Mi.wp_gsCons ?_) | (with_reducible refine Mi.wp_gsNil ?_) | (with_reducible refine Mi.wp_callN ?_) | ((with_reducible apply Mi.wp_putV); · rfl) | ((with_reducible apply Mi.wp_putN); · rfl) | (with_reducible refine Mi.wp_bnd ?_) | (with_reducible refine Mi.wp_ret ?_) | (with_reducible refine Mi.wp_opt ?_) | (with_reducible refine Mi.wp_view ?_) | ((with_reducible refine Mi.nm_a ?_); (try (conv => arg 1; simp only [Mi.putCell, Mi.wipeL, Mi.backL, Mi.pick, List.filterMap_cons, List.filterMap_nil, List.filterMap_cons_some, List.map_nil, List.map_cons, List.append_nil, List.nil_append, List.cons_append, List.getElem?_cons_zero, List.getElem?_cons_succ, List.set_cons_zero, List.set_cons_succ, List.getD_cons_zero, List.getD_cons_succ, Int.reduceToNat])); (with_reducible refine Mi.nm_b ?_)) | (with_reducible refine ⟨_, Mi.add_int, ?_⟩) | (with_reducible refine ⟨_, Mi.sub_int, ?_⟩) | (with_reducible refine ⟨_, Mi.lt_int, ?_⟩) | (with_reducible refine ⟨_, Mi.le_int, ?_⟩) | (with_reducible refine ⟨_, Mi.gt_int, ?_⟩) | (with_reducible refine ⟨_, Mi.ge_int, ?_⟩) | (with_reducible refine ⟨_, Mi.neg_int, ?_⟩) | (with_reducible refine ⟨_, Mi.asBl_bl, ?_⟩) | (with_reducible refine ⟨_, Mi.pow_lit (by decide) (by decide), ?_⟩) | (with_reducible refine ⟨_, Mi.mul_int (by decide), ?_⟩) | (with_reducible refine ⟨_, Mi.mod_int (by decide), ?_⟩) | (with_reducible refine ⟨_, Mi.fdiv_int (by decide), ?_⟩) | (with_reducible refine ⟨_, Mi.eqq_int, ?_⟩) | (with_reducible refine ⟨_, Mi.neq_int, ?_⟩) | (with_reducible refine Mi.ift_t ?_) | (with_reducible refine Mi.ift_f ?_) | (with_reducible refine Mi.ift_nt ?_) | (with_reducible refine Mi.ift_nf ?_) | ((with_reducible refine Mi.ift_bt ?_ ?_); · rfl) | ((with_reducible refine Mi.ift_bf ?_ ?_); · rfl) | (refine ⟨_, _, _, _, _, rfl, rfl, rfl, rfl, ?_⟩) | (refine ⟨_, _, rfl, rfl, ?_⟩) | (refine ⟨_, _, rfl, ?_⟩) | (refine ⟨⟨rfl, rfl, rfl⟩, ?_⟩) | (refine ⟨Nat.le_of_ble_eq_true rfl, ?_⟩) | (refine ⟨by decide, ?_⟩) | (refine ⟨_, rfl, ?_⟩) | (refine ⟨rfl, ?_⟩))); (try (with_reducible refine Mi.here ?_)))
          refine fp_pour hj (by omega) (by rw [oth_len]; decide) (by rw [oth_len]; decide) fun r4 o4 h8 h9 hj => ?_
          ((repeat (first | (with_reducible refine Mi.wp_seq ?_) | (with_reducible refine Mi.wp_ifS ?_) | (with_reducible refine Mi.wp_asg ?_) | (with_reducible refine Mi.wp_retS ?_) | (with_reducible refine Mi.wp_bin ?_) | ((with_reducible apply Mi.wp_var1); · rfl) | (with_reducible refine Mi.wp_C ?_) | (with_reducible refine Mi.wp_asCons ?_) | (with_reducible refine Mi.wp_asNil ?_) | (with_reducible refine Mi.wp_call ?_) | (with_reducible refine Mi.wp_callIO ?_) | (with_reducible refine Mi.wp_args ?_) | (with_reducible refine Mi.wp_frzXn ?_) | (with_reducible refine Mi.wp_frzX0 ?_) | (with_reducible refine Mi.wp_frzXS ?_) | (with_reducible refine Mi.wp_frzsCons ?_) | (with_reducible refine Mi.wp_frzsNil ?_) | (with_reducible refine Mi.wp_frzD ?_) | (with_reducible refine Mi.wp_boolA ?_) | (with_reducible refine Mi.wp_blT ?_) | (with_reducible refine Mi.wp_tst ?_) | (with_reducible refine Mi.wp_andT ?_) | (with_reducible refine Mi.wp_orT ?_) | (with_reducible refine Mi.wp_notT ?_) | (with_reducible refine Mi.wp_ifA ?_) | (with_reducible refine Mi.wp_andA ?_) | (with_reducible refine Mi.wp_orA ?_) | (with_reducible refine Mi.wp_notA ?_) | (with_reducible refine Mi.wp_chainT ?_) | (with_reducible refine Mi.wp_cb ?_) | (with_reducible refine Mi.wp_un ?_) | (with_reducible refine Mi.wp_next ?_) | (with_reducible refine Mi.wp_asgN ?_) | (with_reducible refine Mi.wp_retNS ?_) | (with_reducible refine Mi.wp_drop ?_) | (with_reducible refine Mi.wp_par2 ?_) | (with_reducible refine Mi.wp_asgG ?_) | (with_reducible refine Mi.wp_subG ?_) | (with_reducible refine Mi.wp_appA ?_) | (with_reducible refine Mi.wp_tup ?_) | (with_reducible refine Mi.wp_lst ?_) | (with_reducible refine Mi.wp_new ?_) | (with_reducible refine Mi.wp_slice ?_) | (with_reducible refine Mi.wp_prtN ?_) | (with_reducible refine Mi.wp_prtS ?_) | (with_reducible refine Mi.wp_mt ?_) | (with_reducible refine Mi.wp_mt0 ?_) | (with_reducible refine Mi.wp_seqI ?_) | (with_reducible refine Mi.wp_compN ?_) | (with_reducible refine Mi.wp_fnI ?_) | (with_reducible refine Mi.wp_forS ?_) | (with_reducible refine Mi.wp_tgTup ?_) | (with_reducible refine Mi.wp_gsCons ?_) | (with_reducible refine Mi.wp_gsNil ?_) | (with_reducible refine Mi.wp_callN ?_) | ((with_reducible apply Mi.wp_putV); · rfl) | ((with_reducible apply Mi.wp_putN); · rfl) | (with_reducible refine Mi.wp_bnd ?_) | (with_reducible refine Mi.wp_ret ?_) | (with_reducible refine Mi.wp_opt ?_) | (with_reducible refine Mi.wp_view ?_) | ((with_reducible refine Mi.nm_a ?_); (try (conv => arg 1; simp only [Mi.putCell, Mi.wipeL, Mi.backL, Mi.pick, List.filterMap_cons, List.filterMap_nil, List.filterMap_cons_some, List.map_nil, List.map_cons, List.append_nil, List.nil_append, List.cons_append, List.getElem?_cons_zero, List.getElem?_cons_succ, List.set_cons_zero, List.set_cons_succ, List.getD_cons_zero, List.getD_cons_succ, Int.reduceToNat])); (with_reducible refine Mi.nm_b ?_)) | (with_reducible refine ⟨_, Mi.add_int, ?_⟩) | (with_reducible refine ⟨_, Mi.sub_int, ?_⟩) | (with_reducible refine ⟨_, Mi.lt_int, ?_⟩) | (with_reducible refine ⟨_, Mi.le_int, ?_⟩) | (with_reducible refine ⟨_, Mi.gt_int, ?_⟩) | (with_reducible refine ⟨_, Mi.ge_int, ?_⟩) | (with_reducible refine ⟨_, Mi.neg_int, ?_⟩) | (with_reducible refine ⟨_, Mi.asBl_bl, ?_⟩) | (with_reducible refine ⟨_, Mi.pow_lit (by decide) (by decide), ?_⟩) | (with_reducible refine ⟨_, Mi.mul_int (by decide), ?_⟩) | (with_reducible refine ⟨_, Mi.mod_int (by decide), ?_⟩) | (with_reducible refine ⟨_, Mi.fdiv_int (by decide), ?_⟩) | (with_reducible refine ⟨_, Mi.eqq_int, ?_⟩) | (with_reducible refine ⟨_, Mi.neq_int, ?_⟩) | (with_reducible refine Mi.ift_t ?_) | (with_reducible refine Mi.ift_f ?_) | (with_reducible refine Mi.ift_nt ?_) | (with_reducible refine Mi.ift_nf ?_) | ((with_reducible refine Mi.ift_bt ?_ ?_); · rfl) | ((with_reducible refine Mi.ift_bf ?_ ?_); · rfl) | (refine ⟨_, _, _, _, _, rfl, rfl, rfl, rfl, ?_⟩) | (refine ⟨_, _, rfl, rfl, ?_⟩) | (refine ⟨_, _, rfl, ?_⟩) | (refine ⟨⟨rfl, rfl, rfl⟩, ?_⟩) | (refine ⟨Nat.le_of_ble_eq_true rfl, ?_⟩) | (refine ⟨by decide, ?_⟩) | (refine ⟨_, rfl, ?_⟩) | (refine ⟨rfl, ?_⟩))); (try (with_reducible refine Mi.here ?_)))
          obtain ⟨ch, e, hch⟩ := ix_str (by rw [oth_len]; decide) h8 h9
          have hch := one_ok oth_ok hch
          refine ⟨_, e, ?_⟩
          ((repeat (first | (with_reducible refine Mi.wp_seq ?_) | (with_reducible refine Mi.wp_ifS ?_) | (with_reducible refine Mi.wp_asg ?_) | (with_reducible refine Mi.wp_retS ?_) | (with_reducible refine Mi.wp_bin ?_) | ((with_reducible apply Mi.wp_var1); · rfl) | (with_reducible refine Mi.wp_C ?_) | (with_reducible refine Mi.wp_asCons ?_) | (with_reducible refine Mi.wp_asNil ?_) | (with_reducible refine Mi.wp_call ?_) | (with_reducible refine Mi.wp_callIO ?_) | (with_reducible refine Mi.wp_args ?_) | (with_reducible refine Mi.wp_frzXn ?_) | (with_reducible refine Mi.wp_frzX0 ?_) | (with_reducible refine Mi.wp_frzXS ?_) | (with_reducible refine Mi.wp_frzsCons ?_) | (with_reducible refine Mi.wp_frzsNil ?_) | (with_reducible refine Mi.wp_frzD ?_) | (with_reducible refine Mi.wp_boolA ?_) | (with_reducible refine Mi.wp_blT ?_) | (with_reducible refine Mi.wp_tst ?_) | (with_reducible refine Mi.wp_andT ?_) | (with_reducible refine Mi.wp_orT ?_) | (with_reducible refine Mi.wp_notT ?_) | (with_reducible refine Mi.wp_ifA ?_) | (with_reducible refine Mi.wp_andA ?_) | (with_reducible refine Mi.wp_orA ?_) | (with_reducible refine Mi.wp_notA ?_) | (with_reducible refine Mi.wp_chainT ?_) | (with_reducible refine Mi.wp_cb ?_) | (with_reducible refine Mi.wp_un ?_) | (with_reducible refine Mi.wp_next ?_) | (with_reducible refine Mi.wp_asgN ?_) | (with_reducible refine Mi.wp_retNS ?_) | (with_reducible refine Mi.wp_drop ?_) | (with_reducible refine Mi.wp_par2 ?_) | (with_reducible refine Mi.wp_asgG ?_) | (with_reducible refine Mi.wp_subG ?_) | (with_reducible refine Mi.wp_appA ?_) | (with_reducible refine Mi.wp_tup ?_) | (with_reducible refine Mi.wp_lst ?_) | (with_reducible refine Mi.wp_new ?_) | (with_reducible refine Mi.wp_slice ?_) | (with_reducible refine Mi.wp_prtN ?_) | (with_reducible refine Mi.wp_prtS ?_) | (with_reducible refine Mi.wp_mt ?_) | (with_reducible refine Mi.wp_mt0 ?_) | (with_reducible refine Mi.wp_seqI ?_) | (with_reducible refine Mi.wp_compN ?_) | (with_reducible refine Mi.wp_fnI ?_) | (with_reducible refine Mi.wp_forS ?_) | (with_reducible refine Mi.wp_tgTup ?_) | (with_reducible refine Mi.wp_gsCons ?_) | (with_reducible refine Mi.wp_gsNil ?_) | (with_reducible refine Mi.wp_callN ?_) | ((with_reducible apply Mi.wp_putV); · rfl) | ((with_reducible apply Mi.wp_putN); · rfl) | (with_reducible refine Mi.wp_bnd ?_) | (with_reducible refine Mi.wp_ret ?_) | (with_reducible refine Mi.wp_opt ?_) | (with_reducible refine Mi.wp_view ?_) | ((with_reducible refine Mi.nm_a ?_); (try (conv => arg 1; simp only [Mi.putCell, Mi.wipeL, Mi.backL, Mi.pick, List.filterMap_cons, List.filterMap_nil, List.filterMap_cons_some, List.map_nil, List.map_cons, List.append_nil, List.nil_append, List.cons_append, List.getElem?_cons_zero, List.getElem?_cons_succ, List.set_cons_zero, List.set_cons_succ, List.getD_cons_zero, List.getD_cons_succ, Int.reduceToNat])); (with_reducible refine Mi.nm_b ?_)) | (with_reducible refine ⟨_, Mi.add_int, ?_⟩) | (with_reducible refine ⟨_, Mi.sub_int, ?_⟩) | (with_reducible refine ⟨_, Mi.lt_int, ?_⟩) | (with_reducible refine ⟨_, Mi.le_int, ?_⟩) | (with_reducible refine ⟨_, Mi.gt_int, ?_⟩) | (with_reducible refine ⟨_, Mi.ge_int, ?_⟩) | (with_reducible refine ⟨_, Mi.neg_int, ?_⟩) | (with_reducible refine ⟨_, Mi.asBl_bl, ?_⟩) | (with_reducible refine ⟨_, Mi.pow_lit (by decide) (by decide), ?_⟩) | (with_reducible refine ⟨_, Mi.mul_int (by decide), ?_⟩) | (with_reducible refine ⟨_, Mi.mod_int (by decide), ?_⟩) | (with_reducible refine ⟨_, Mi.fdiv_int (by decide), ?_⟩) | (with_reducible refine ⟨_, Mi.eqq_int, ?_⟩) | (with_reducible refine ⟨_, Mi.neq_int, ?_⟩) | (with_reducible refine Mi.ift_t ?_) | (with_reducible refine Mi.ift_f ?_) | (with_reducible refine Mi.ift_nt ?_) | (with_reducible refine Mi.ift_nf ?_) | ((with_reducible refine Mi.ift_bt ?_ ?_); · rfl) | ((with_reducible refine Mi.ift_bf ?_ ?_); · rfl) | (refine ⟨_, _, _, _, _, rfl, rfl, rfl, rfl, ?_⟩) | (refine ⟨_, _, rfl, rfl, ?_⟩) | (refine ⟨_, _, rfl, ?_⟩) | (refine ⟨⟨rfl, rfl, rfl⟩, ?_⟩) | (refine ⟨Nat.le_of_ble_eq_true rfl, ?_⟩) | (refine ⟨by decide, ?_⟩) | (refine ⟨_, rfl, ?_⟩) | (refine ⟨rfl, ?_⟩))); (try (with_reducible refine Mi.here ?_)))
          have l1 := len_cut (Txt.join (Str.ofString "") zs) none (some r3)
          have l2 := len_cut (Txt.join (Str.ofString "") zs) (some (r3 + 1)) none
          have l3 : (⟨#[ch]⟩ : Str).length = 1 := rfl
          refine ⟨_, add_str (by rw [l3]; simp [sizeLine]; omega), ?_⟩
          ((repeat (first | (with_reducible refine Mi.wp_seq ?_) | (with_reducible refine Mi.wp_ifS ?_) | (with_reducible refine Mi.wp_asg ?_) | (with_reducible refine Mi.wp_retS ?_) | (with_reducible refine Mi.wp_bin ?_) | ((with_reducible apply Mi.wp_var1); · rfl) | (with_reducible refine Mi.wp_C ?_) | (with_reducible refine Mi.wp_asCons ?_) | (with_reducible refine Mi.wp_asNil ?_) | (with_reducible refine Mi.wp_call ?_) | (with_reducible refine Mi.wp_callIO ?_) | (with_reducible refine Mi.wp_args ?_) | (with_reducible refine Mi.wp_frzXn ?_) | (with_reducible refine Mi.wp_frzX0 ?_) | (with_reducible refine Mi.wp_frzXS ?_) | (with_reducible refine Mi.wp_frzsCons ?_) | (with_reducible refine Mi.wp_frzsNil ?_) | (with_reducible refine Mi.wp_frzD ?_) | (with_reducible refine Mi.wp_boolA ?_) | (with_reducible refine Mi.wp_blT ?_) | (with_reducible refine Mi.wp_tst ?_) | (with_reducible refine Mi.wp_andT ?_) | (with_reducible refine Mi.wp_orT ?_) | (with_reducible refine Mi.wp_notT ?_) | (with_reducible refine Mi.wp_ifA ?_) | (with_reducible refine Mi.wp_andA ?_) | (with_reducible refine Mi.wp_orA ?_) | (with_reducible refine Mi.wp_notA ?_) | (with_reducible refine Mi.wp_chainT ?_) | (with_reducible refine Mi.wp_cb ?_) | (with_reducible refine Mi.wp_un ?_) | (with_reducible refine Mi.wp_next ?_) | (with_reducible refine Mi.wp_asgN ?_) | (with_reducible refine Mi.wp_retNS ?_) | (with_reducible refine Mi.wp_drop ?_) | (with_reducible refine Mi.wp_par2 ?_) | (with_reducible refine Mi.wp_asgG ?_) | (with_reducible refine Mi.wp_subG ?_) | (with_reducible refine Mi.wp_appA ?_) | (with_reducible refine Mi.wp_tup ?_) | (with_reducible refine Mi.wp_lst ?_) | (with_reducible refine Mi.wp_new ?_) | (with_reducible refine Mi.wp_slice ?_) | (with_reducible refine Mi.wp_prtN ?_) | (with_reducible refine Mi.wp_prtS ?_) | (with_reducible refine Mi.wp_mt ?_) | (with_reducible refine Mi.wp_mt0 ?_) | (with_reducible refine Mi.wp_seqI ?_) | (with_reducible refine Mi.wp_compN ?_) | (with_reducible refine Mi.wp_fnI ?_) | (with_reducible refine Mi.wp_forS ?_) | (with_reducible refine Mi.wp_tgTup ?_) | (with_reducible refine Mi.wp_gsCons ?_) | (with_reducible refine Mi.wp_gsNil ?_) | (with_reducible refine Mi.wp_callN ?_) | ((with_reducible apply Mi.wp_putV); · rfl) | ((with_reducible apply Mi.wp_putN); · rfl) | (with_reducible refine Mi.wp_bnd ?_) | (with_reducible refine Mi.wp_ret ?_) | (with_reducible refine Mi.wp_opt ?_) | (with_reducible refine Mi.wp_view ?_) | ((with_reducible refine Mi.nm_a ?_); (try (conv => arg 1; simp only [Mi.putCell, Mi.wipeL, Mi.backL, Mi.pick, List.filterMap_cons, List.filterMap_nil, List.filterMap_cons_some, List.map_nil, List.map_cons, List.append_nil, List.nil_append, List.cons_append, List.getElem?_cons_zero, List.getElem?_cons_succ, List.set_cons_zero, List.set_cons_succ, List.getD_cons_zero, List.getD_cons_succ, Int.reduceToNat])); (with_reducible refine Mi.nm_b ?_)) | (with_reducible refine ⟨_, Mi.add_int, ?_⟩) | (with_reducible refine ⟨_, Mi.sub_int, ?_⟩) | (with_reducible refine ⟨_, Mi.lt_int, ?_⟩) | (with_reducible refine ⟨_, Mi.le_int, ?_⟩) | (with_reducible refine ⟨_, Mi.gt_int, ?_⟩) | (with_reducible refine ⟨_, Mi.ge_int, ?_⟩) | (with_reducible refine ⟨_, Mi.neg_int, ?_⟩) | (with_reducible refine ⟨_, Mi.asBl_bl, ?_⟩) | (with_reducible refine ⟨_, Mi.pow_lit (by decide) (by decide), ?_⟩) | (with_reducible refine ⟨_, Mi.mul_int (by decide), ?_⟩) | (with_reducible refine ⟨_, Mi.mod_int (by decide), ?_⟩) | (with_reducible refine ⟨_, Mi.fdiv_int (by decide), ?_⟩) | (with_reducible refine ⟨_, Mi.eqq_int, ?_⟩) | (with_reducible refine ⟨_, Mi.neq_int, ?_⟩) | (with_reducible refine Mi.ift_t ?_) | (with_reducible refine Mi.ift_f ?_) | (with_reducible refine Mi.ift_nt ?_) | (with_reducible refine Mi.ift_nf ?_) | ((with_reducible refine Mi.ift_bt ?_ ?_); · rfl) | ((with_reducible refine Mi.ift_bf ?_ ?_); · rfl) | (refine ⟨_, _, _, _, _, rfl, rfl, rfl, rfl, ?_⟩) | (refine ⟨_, _, rfl, rfl, ?_⟩) | (refine ⟨_, _, rfl, ?_⟩) | (refine ⟨⟨rfl, rfl, rfl⟩, ?_⟩) | (refine ⟨Nat.le_of_ble_eq_true rfl, ?_⟩) | (refine ⟨by decide, ?_⟩) | (refine ⟨_, rfl, ?_⟩) | (refine ⟨rfl, ?_⟩))); (try (with_reducible refine Mi.here ?_)))
          refine ⟨_, cut_str (by rw [e2]; simp [sizeLine]; omega), ?_⟩
          ((repeat (first | (with_reducible refine Mi.wp_seq ?_) | (with_reducible refine Mi.wp_ifS ?_) | (with_reducible refine Mi.wp_asg ?_) | (with_reducible refine Mi.wp_retS ?_) | (with_reducible refine Mi.wp_bin ?_) | ((with_reducible apply Mi.wp_var1); · rfl) | (with_reducible refine Mi.wp_C ?_) | (with_reducible refine Mi.wp_asCons ?_) | (with_reducible refine Mi.wp_asNil ?_) | (with_reducible refine Mi.wp_call ?_) | (with_reducible refine Mi.wp_callIO ?_) | (with_reducible refine Mi.wp_args ?_) | (with_reducible refine Mi.wp_frzXn ?_) | (with_reducible refine Mi.wp_frzX0 ?_) | (with_reducible refine Mi.wp_frzXS ?_) | (with_reducible refine Mi.wp_frzsCons ?_) | (with_reducible refine Mi.wp_frzsNil ?_) | (with_reducible refine Mi.wp_frzD ?_) | (with_reducible refine Mi.wp_boolA ?_) | (with_reducible refine Mi.wp_blT ?_) | (with_reducible refine Mi.wp_tst ?_) | (with_reducible refine Mi.wp_andT ?_) | (with_reducible refine Mi.wp_orT ?_) | (with_reducible refine Mi.wp_notT ?_) | (with_reducible refine Mi.wp_ifA ?_) | (with_reducible refine Mi.wp_andA ?_) | (with_reducible refine Mi.wp_orA ?_) | (with_reducible refine Mi.wp_notA ?_) | (with_reducible refine Mi.wp_chainT ?_) | (with_reducible refine Mi.wp_cb ?_) | (with_reducible refine Mi.wp_un ?_) | (with_reducible refine Mi.wp_next ?_) | (with_reducible refine Mi.wp_asgN ?_) | (with_reducible refine Mi.wp_retNS ?_) | (with_reducible refine Mi.wp_drop ?_) | (with_reducible refine Mi.wp_par2 ?_) | (with_reducible refine Mi.wp_asgG ?_) | (with_reducible refine Mi.wp_subG ?_) | (with_reducible refine Mi.wp_appA ?_) | (with_reducible refine Mi.wp_tup ?_) | (with_reducible refine Mi.wp_lst ?_) | (with_reducible refine Mi.wp_new ?_) | (with_reducible refine Mi.wp_slice ?_) | (with_reducible refine Mi.wp_prtN ?_) | (with_reducible refine Mi.wp_prtS ?_) | (with_reducible refine Mi.wp_mt ?_) | (with_reducible refine Mi.wp_mt0 ?_) | (with_reducible refine Mi.wp_seqI ?_) | (with_reducible refine Mi.wp_compN ?_) | (with_reducible refine Mi.wp_fnI ?_) | (with_reducible refine Mi.wp_forS ?_) | (with_reducible refine Mi.wp_tgTup ?_) | (with_reducible refine Mi.wp_gsCons ?_) | (with_reducible refine Mi.wp_gsNil ?_) | (with_reducible refine Mi.wp_callN ?_) | ((with_reducible apply Mi.wp_putV); · rfl) | ((with_reducible apply Mi.wp_putN); · rfl) | (with_reducible refine Mi.wp_bnd ?_) | (with_reducible refine Mi.wp_ret ?_) | (with_reducible refine Mi.wp_opt ?_) | (with_reducible refine Mi.wp_view ?_) | ((with_reducible refine Mi.nm_a ?_); (try (conv => arg 1; simp only [Mi.putCell, Mi.wipeL, Mi.backL, Mi.pick, List.filterMap_cons, List.filterMap_nil, List.filterMap_cons_some, List.map_nil, List.map_cons, List.append_nil, List.nil_append, List.cons_append, List.getElem?_cons_zero, List.getElem?_cons_succ, List.set_cons_zero, List.set_cons_succ, List.getD_cons_zero, List.getD_cons_succ, Int.reduceToNat])); (with_reducible refine Mi.nm_b ?_)) | (with_reducible refine ⟨_, Mi.add_int, ?_⟩) | (with_reducible refine ⟨_, Mi.sub_int, ?_⟩) | (with_reducible refine ⟨_, Mi.lt_int, ?_⟩) | (with_reducible refine ⟨_, Mi.le_int, ?_⟩) | (with_reducible refine ⟨_, Mi.gt_int, ?_⟩) | (with_reducible refine ⟨_, Mi.ge_int, ?_⟩) | (with_reducible refine ⟨_, Mi.neg_int, ?_⟩) | (with_reducible refine ⟨_, Mi.asBl_bl, ?_⟩) | (with_reducible refine ⟨_, Mi.pow_lit (by decide) (by decide), ?_⟩) | (with_reducible refine ⟨_, Mi.mul_int (by decide), ?_⟩) | (with_reducible refine ⟨_, Mi.mod_int (by decide), ?_⟩) | (with_reducible refine ⟨_, Mi.fdiv_int (by decide), ?_⟩) | (with_reducible refine ⟨_, Mi.eqq_int, ?_⟩) | (with_reducible refine ⟨_, Mi.neq_int, ?_⟩) | (with_reducible refine Mi.ift_t ?_) | (with_reducible refine Mi.ift_f ?_) | (with_reducible refine Mi.ift_nt ?_) | (with_reducible refine Mi.ift_nf ?_) | ((with_reducible refine Mi.ift_bt ?_ ?_); · rfl) | ((with_reducible refine Mi.ift_bf ?_ ?_); · rfl) | (refine ⟨_, _, _, _, _, rfl, rfl, rfl, rfl, ?_⟩) | (refine ⟨_, _, rfl, rfl, ?_⟩) | (refine ⟨_, _, rfl, ?_⟩) | (refine ⟨⟨rfl, rfl, rfl⟩, ?_⟩) | (refine ⟨Nat.le_of_ble_eq_true rfl, ?_⟩) | (refine ⟨by decide, ?_⟩) | (refine ⟨_, rfl, ?_⟩) | (refine ⟨rfl, ?_⟩))); (try (with_reducible refine Mi.here ?_)))
          refine ⟨_, add_str (by rw [len_app, l3]; simp [sizeLine]; omega), ?_⟩
          ((repeat (first | (with_reducible refine Mi.wp_seq ?_) | (with_reducible refine Mi.wp_ifS ?_) | (with_reducible refine Mi.wp_asg ?_) | (with_reducible refine Mi.wp_retS ?_) | (with_reducible refine Mi.wp_bin ?_) | ((with_reducible apply Mi.wp_var1); · rfl) | (with_reducible refine Mi.wp_C ?_) | (with_reducible refine Mi.wp_asCons ?_) | (with_reducible refine Mi.wp_asNil ?_) | (with_reducible refine Mi.wp_call ?_) | (with_reducible refine Mi.wp_callIO ?_) | (with_reducible refine Mi.wp_args ?_) | (with_reducible refine Mi.wp_frzXn ?_) | (with_reducible refine Mi.wp_frzX0 ?_) | (with_reducible refine Mi.wp_frzXS ?_) | (with_reducible refine Mi.wp_frzsCons ?_) | (with_reducible refine Mi.wp_frzsNil ?_) | (with_reducible refine Mi.wp_frzD ?_) | (with_reducible refine Mi.wp_boolA ?_) | (with_reducible refine Mi.wp_blT ?_) | (with_reducible refine Mi.wp_tst ?_) | (with_reducible refine Mi.wp_andT ?_) | (with_reducible refine Mi.wp_orT ?_) | (with_reducible refine Mi.wp_notT ?_) | (with_reducible refine Mi.wp_ifA ?_) | (with_reducible refine Mi.wp_andA ?_) | (with_reducible refine Mi.wp_orA ?_) | (with_reducible refine Mi.wp_notA ?_) | (with_reducible refine Mi.wp_chainT ?_) | (with_reducible refine Mi.wp_cb ?_) | (with_reducible refine Mi.wp_un ?_) | (with_reducible refine Mi.wp_next ?_) | (with_reducible refine Mi.wp_asgN ?_) | (with_reducible refine Mi.wp_retNS ?_) | (with_reducible refine Mi.wp_drop ?_) | (with_reducible refine Mi.wp_par2 ?_) | (with_reducible refine Mi.wp_asgG ?_) | (with_reducible refine Mi.wp_subG ?_) | (with_reducible refine Mi.wp_appA ?_) | (with_reducible refine Mi.wp_tup ?_) | (with_reducible refine Mi.wp_lst ?_) | (with_reducible refine Mi.wp_new ?_) | (with_reducible refine Mi.wp_slice ?_) | (with_reducible refine Mi.wp_prtN ?_) | (with_reducible refine Mi.wp_prtS ?_) | (with_reducible refine Mi.wp_mt ?_) | (with_reducible refine Mi.wp_mt0 ?_) | (with_reducible refine Mi.wp_seqI ?_) | (with_reducible refine Mi.wp_compN ?_) | (with_reducible refine Mi.wp_fnI ?_) | (with_reducible refine Mi.wp_forS ?_) | (with_reducible refine Mi.wp_tgTup ?_) | (with_reducible refine Mi.wp_gsCons ?_) | (with_reducible refine Mi.wp_gsNil ?_) | (with_reducible refine Mi.wp_callN ?_) | ((with_reducible apply Mi.wp_putV); · rfl) | ((with_reducible apply Mi.wp_putN); · rfl) | (with_reducible refine Mi.wp_bnd ?_) | (with_reducible refine Mi.wp_ret ?_) | (with_reducible refine Mi.wp_opt ?_) | (with_reducible refine Mi.wp_view ?_) | ((with_reducible refine Mi.nm_a ?_); (try (conv => arg 1; simp only [Mi.putCell, Mi.wipeL, Mi.backL, Mi.pick, List.filterMap_cons, List.filterMap_nil, List.filterMap_cons_some, List.map_nil, List.map_cons, List.append_nil, List.nil_append, List.cons_append, List.getElem?_cons_zero, List.getElem?_cons_succ, List.set_cons_zero, List.set_cons_succ, List.getD_cons_zero, List.getD_cons_succ, Int.reduceToNat])); (with_reducible refine Mi.nm_b ?_)) | (with_reducible refine ⟨_, Mi.add_int, ?_⟩) | (with_reducible refine ⟨_, Mi.sub_int, ?_⟩) | (with_reducible refine ⟨_, Mi.lt_int, ?_⟩) | (with_reducible refine ⟨_, Mi.le_int, ?_⟩) | (with_reducible refine ⟨_, Mi.gt_int, ?_⟩) | (with_reducible refine ⟨_, Mi.ge_int, ?_⟩) | (with_reducible refine ⟨_, Mi.neg_int, ?_⟩) | (with_reducible refine ⟨_, Mi.asBl_bl, ?_⟩) | (with_reducible refine ⟨_, Mi.pow_lit (by decide) (by decide), ?_⟩) | (with_reducible refine ⟨_, Mi.mul_int (by decide), ?_⟩) | (with_reducible refine ⟨_, Mi.mod_int (by decide), ?_⟩) | (with_reducible refine ⟨_, Mi.fdiv_int (by decide), ?_⟩) | (with_reducible refine ⟨_, Mi.eqq_int, ?_⟩) | (with_reducible refine ⟨_, Mi.neq_int, ?_⟩) | (with_reducible refine Mi.ift_t ?_) | (with_reducible refine Mi.ift_f ?_) | (with_reducible refine Mi.ift_nt ?_) | (with_reducible refine Mi.ift_nf ?_) | ((with_reducible refine Mi.ift_bt ?_ ?_); · rfl) | ((with_reducible refine Mi.ift_bf ?_ ?_); · rfl) | (refine ⟨_, _, _, _, _, rfl, rfl, rfl, rfl, ?_⟩) | (refine ⟨_, _, rfl, rfl, ?_⟩) | (refine ⟨_, _, rfl, ?_⟩) | (refine ⟨⟨rfl, rfl, rfl⟩, ?_⟩) | (refine ⟨Nat.le_of_ble_eq_true rfl, ?_⟩) | (refine ⟨by decide, ?_⟩) | (refine ⟨_, rfl, ?_⟩) | (refine ⟨rfl, ?_⟩))); (try (with_reducible refine Mi.here ?_)))
          exact ⟨_, rfl, ⟨by rw [len_app, len_app, l3]; omega, strOk_app (strOk_app (strOk_cut e3) hch) (strOk_cut e3)⟩, hj.mono (by omega)⟩
    · rintro d ds acc ρ ⟨j, zs, rfl, hz, hn, hi, hj, rfl⟩
      simp only [List.length_cons] at hn
      ((repeat (first | (with_reducible refine Mi.wp_seq ?_) | (with_reducible refine Mi.wp_ifS ?_) | (with_reducible refine Mi.wp_asg ?_) | (with_reducible refine Mi.wp_retS ?_) | (with_reducible refine Mi.wp_bin ?_) | ((with_reducible apply Mi.wp_var1); · rfl) | (with_reducible refine Mi.wp_C ?_) | (with_reducible refine Mi.wp_asCons ?_) | (with_reducible refine Mi.wp_asNil ?_) | (with_reducible refine Mi.wp_call ?_) | (with_reducible refine Mi.wp_callIO ?_) | (with_reducible refine Mi.wp_args ?_) | (with_reducible refine Mi.wp_frzXn ?_) | (with_reducible refine Mi.wp_frzX0 ?_) | (with_reducible refine Mi.wp_frzXS ?_) | (with_reducible refine Mi.wp_frzsCons ?_) | (with_reducible refine Mi.wp_frzsNil ?_) | (with_reducible refine Mi.wp_frzD ?_) | (with_reducible refine Mi.wp_boolA ?_) | (with_reducible refine Mi.wp_blT ?_) | (with_reducible refine Mi.wp_tst ?_) | (with_reducible refine Mi.wp_andT ?_) | (with_reducible refine Mi.wp_orT ?_) | (with_reducible refine Mi.wp_notT ?_) | (with_reducible refine Mi.wp_ifA ?_) | (with_reducible refine Mi.wp_andA ?_) | (with_reducible refine Mi.wp_orA ?_) | (with_reducible refine Mi.wp_notA ?_) | (with_reducible refine Mi.wp_chainT ?_) | (with_reducible refine Mi.wp_cb ?_) | (with_reducible refine Mi.wp_un ?_) | (with_reducible refine Mi.wp_next ?_) | (with_reducible refine Mi.wp_asgN ?_) | (with_reducible refine Mi.wp_retNS ?_) | (with_reducible refine Mi.wp_drop ?_) | (with_reducible refine Mi.wp_par2 ?_) | (with_reducible refine Mi.wp_asgG ?_) | (with_reducible refine Mi.wp_subG ?_) | (with_reducible refine Mi.wp_appA ?_) | (with_reducible refine Mi.wp_tup ?_) | (with_reducible refine Mi.wp_lst ?_) | (with_reducible refine Mi.wp_new ?_) | (with_reducible refine Mi.wp_slice ?_) | (with_reducible refine Mi.wp_prtN ?_) | (with_reducible refine Mi.wp_prtS ?_) | (with_reducible refine Mi.wp_mt ?_) | (with_reducible refine Mi.wp_mt0 ?_) | (with_reducible refine Mi.wp_seqI ?_) | (with_reducible refine Mi.wp_compN ?_) | (with_reducible refine Mi.wp_fnI ?_) | (with_reducible refine Mi.wp_forS ?_) | (with_reducible refine Mi.wp_tgTup ?_) | (with_reducible refine Mi.wp_gsCons ?_) | (with_reducible refine Mi.wp_gsNil ?_) | (with_reducible refine Mi.wp_callN ?_) | ((with_reducible apply Mi.wp_putV); · rfl) | ((with_reducible apply Mi.wp_putN); · rfl) | (with_reducible refine Mi.wp_bnd ?_) | (with_reducible refine Mi.wp_ret ?_) | (with_reducible refine Mi.wp_opt ?_) | (with_reducible refine Mi.wp_view ?_) | ((with_reducible refine Mi.nm_a ?_); (try (conv => arg 1; simp only [Mi.putCell, Mi.wipeL, Mi.backL, Mi.pick, List.filterMap_cons, List.filterMap_nil, List.filterMap_cons_some, List.map_nil, List.map_cons, List.append_nil, List.nil_append, List.cons_append, List.getElem?_cons_zero, List.getElem?_cons_succ, List.set_cons_zero, List.set_cons_succ, List.getD_cons_zero, List.getD_cons_succ, Int.reduceToNat])); (with_reducible refine Mi.nm_b ?_)) | (with_reducible refine ⟨_, Mi.add_int, ?_⟩) | (with_reducible refine ⟨_, Mi.sub_int, ?_⟩) | (with_reducible refine ⟨_, Mi.lt_int, ?_⟩) | (with_reducible refine ⟨_, Mi.le_int, ?_⟩) | (with_reducible refine ⟨_, Mi.gt_int, ?_⟩) | (with_reducible refine ⟨_, Mi.ge_int, ?_⟩) | (with_reducible refine ⟨_, Mi.neg_int, ?_⟩) | (with_reducible refine ⟨_, Mi.asBl_bl, ?_⟩) | (with_reducible refine ⟨_, Mi.pow_lit (by decide) (by decide), ?_⟩) | (with_reducible refine ⟨_, Mi.mul_int (by decide), ?_⟩) | (with_reducible refine ⟨_, Mi.mod_int (by decide), ?_⟩) | (with_reducible refine ⟨_, Mi.fdiv_int (by decide), ?_⟩) | (with_reducible refine ⟨_, Mi.eqq_int, ?_⟩) | (with_reducible refine ⟨_, Mi.neq_int, ?_⟩) | (with_reducible refine Mi.ift_t ?_) | (with_reducible refine Mi.ift_f ?_) | (with_reducible refine Mi.ift_nt ?_) | (with_reducible refine Mi.ift_nf ?_) | ((with_reducible refine Mi.ift_bt ?_ ?_); · rfl) | ((with_reducible refine Mi.ift_bf ?_ ?_); · rfl) | (refine ⟨_, _, _, _, _, rfl, rfl, rfl, rfl, ?_⟩) | (refine ⟨_, _, rfl, rfl, ?_⟩) | (refine ⟨_, _, rfl, ?_⟩) | (refine ⟨⟨rfl, rfl, rfl⟩, ?_⟩) | (refine ⟨Nat.le_of_ble_eq_true rfl, ?_⟩) | (refine ⟨by decide, ?_⟩) | (refine ⟨_, rfl, ?_⟩) | (refine ⟨rfl, ?_⟩))); (try (with_reducible refine Mi.here ?_)))
      refine fp_pour hj (by omega) (by decide) (by decide) fun r o h4 h5 hj => ?_
      ((repeat (first | (with_reducible refine Mi.wp_seq ?_) | (with_reducible refine Mi.wp_ifS ?_) | (with_reducible refine Mi.wp_asg ?_) | (with_reducible refine Mi.wp_retS ?_) | (with_reducible refine Mi.wp_bin ?_) | ((with_reducible apply Mi.wp_var1); · rfl) | (with_reducible refine Mi.wp_C ?_) | (with_reducible refine Mi.wp_asCons ?_) | (with_reducible refine Mi.wp_asNil ?_) | (with_reducible refine Mi.wp_call ?_) | (with_reducible refine Mi.wp_callIO ?_) | (with_reducible refine Mi.wp_args ?_) | (with_reducible refine Mi.wp_frzXn ?_) | (with_reducible refine Mi.wp_frzX0 ?_) | (with_reducible refine Mi.wp_frzXS ?_) | (with_reducible refine Mi.wp_frzsCons ?_) | (with_reducible refine Mi.wp_frzsNil ?_) | (with_reducible refine Mi.wp_frzD ?_) | (with_reducible refine Mi.wp_boolA ?_) | (with_reducible refine Mi.wp_blT ?_) | (with_reducible refine Mi.wp_tst ?_) | (with_reducible refine Mi.wp_andT ?_) | (with_reducible refine Mi.wp_orT ?_) | (with_reducible refine Mi.wp_notT ?_) | (with_reducible refine Mi.wp_ifA ?_) | (with_reducible refine Mi.wp_andA ?_) | (with_reducible refine Mi.wp_orA ?_) | (with_reducible refine Mi.wp_notA ?_) | (with_reducible refine Mi.wp_chainT ?_) | (with_reducible refine Mi.wp_cb ?_) | (with_reducible refine Mi.wp_un ?_) | (with_reducible refine Mi.wp_next ?_) | (with_reducible refine Mi.wp_asgN ?_) | (with_reducible refine Mi.wp_retNS ?_) | (with_reducible refine Mi.wp_drop ?_) | (with_reducible refine Mi.wp_par2 ?_) | (with_reducible refine Mi.wp_asgG ?_) | (with_reducible refine Mi.wp_subG ?_) | (with_reducible refine Mi.wp_appA ?_) | (with_reducible refine Mi.wp_tup ?_) | (with_reducible refine Mi.wp_lst ?_) | (with_reducible refine Mi.wp_new ?_) | (with_reducible refine Mi.wp_slice ?_) | (with_reducible refine Mi.wp_prtN ?_) | (with_reducible refine Mi.wp_prtS ?_) | (with_reducible refine Mi.wp_mt ?_) | (with_reducible refine Mi.wp_mt0 ?_) | (with_reducible refine Mi.wp_seqI ?_) | (with_reducible refine Mi.wp_compN ?_) | (with_reducible refine Mi.wp_fnI ?_) | (with_reducible refine Mi.wp_forS ?_) | (with_reducible refine Mi.wp_tgTup ?_) | (with_reducible refine Mi.wp_gsCons ?_) | (with_reducible refine Mi.wp_gsNil ?_) | (with_reducible refine Mi.wp_callN ?_) | ((with_reducible apply Mi.wp_putV); · rfl) | ((with_reducible apply Mi.wp_putN); · rfl) | (with_reducible refine Mi.wp_bnd ?_) | (with_reducible refine Mi.wp_ret ?_) | (with_reducible refine Mi.wp_opt ?_) | (with_reducible refine Mi.wp_view ?_) | ((with_reducible refine Mi.nm_a ?_); (try (conv => arg 1; simp only [Mi.putCell, Mi.wipeL, Mi.backL, Mi.pick, List.filterMap_cons, List.filterMap_nil, List.filterMap_cons_some, List.map_nil, List.map_cons, List.append_nil, List.nil_append, List.cons_append, List.getElem?_cons_zero, List.getElem?_cons_succ, List.set_cons_zero, List.set_cons_succ, List.getD_cons_zero, List.getD_cons_succ, Int.reduceToNat])); (with_reducible refine Mi.nm_b ?_)) | (with_reducible refine ⟨_, Mi.add_int, ?_⟩) | (with_reducible refine ⟨_, Mi.sub_int, ?_⟩) | (with_reducible refine ⟨_, Mi.lt_int, ?_⟩) | (with_reducible refine ⟨_, Mi.le_int, ?_⟩) | (with_reducible refine ⟨_, Mi.gt_int, ?_⟩) | (with_reducible refine ⟨_, Mi.ge_int, ?_⟩) | (with_reducible refine ⟨_, Mi.neg_int, ?_⟩) | (with_reducible refine ⟨_, Mi.asBl_bl, ?_⟩) | (with_reducible refine ⟨_, Mi.pow_lit (by decide) (by decide), ?_⟩) | (with_reducible refine ⟨_, Mi.mul_int (by decide), ?_⟩) | (with_reducible refine ⟨_, Mi.mod_int (by decide), ?_⟩) | (with_reducible refine ⟨_, Mi.fdiv_int (by decide), ?_⟩) | (with_reducible refine ⟨_, Mi.eqq_int, ?_⟩) | (with_reducible refine ⟨_, Mi.neq_int, ?_⟩) | (with_reducible refine Mi.ift_t ?_) | (with_reducible refine Mi.ift_f ?_) | (with_reducible refine Mi.ift_nt ?_) | (with_reducible refine Mi.ift_nf ?_) | ((with_reducible refine Mi.ift_bt ?_ ?_); · rfl) | ((with_reducible refine Mi.ift_bf ?_ ?_); · rfl) | (refine ⟨_, _, _, _, _, rfl, rfl, rfl, rfl, ?_⟩) | (refine ⟨_, _, rfl, rfl, ?_⟩) | (refine ⟨_, _, rfl, ?_⟩) | (refine ⟨⟨rfl, rfl, rfl⟩, ?_⟩) | (refine ⟨Nat.le_of_ble_eq_true rfl, ?_⟩) | (refine ⟨by decide, ?_⟩) | (refine ⟨_, rfl, ?_⟩) | (refine ⟨rfl, ?_⟩))); (try (with_reducible refine Mi.here ?_)))
      obtain ⟨ch, e, hch⟩ := ix_str (x := Str.ofString "abcdefghijklmnopqrstuvwxyz0123456789") (by rw [sig_len]; decide) h4 (by rw [sig_len]; exact h5)
      refine ⟨_, e, ?_⟩
      ((repeat (first | (with_reducible refine Mi.wp_seq ?_) | (with_reducible refine Mi.wp_ifS ?_) | (with_reducible refine Mi.wp_asg ?_) | (with_reducible refine Mi.wp_retS ?_) | (with_reducible refine Mi.wp_bin ?_) | ((with_reducible apply Mi.wp_var1); · rfl) | (with_reducible refine Mi.wp_C ?_) | (with_reducible refine Mi.wp_asCons ?_) | (with_reducible refine Mi.wp_asNil ?_) | (with_reducible refine Mi.wp_call ?_) | (with_reducible refine Mi.wp_callIO ?_) | (with_reducible refine Mi.wp_args ?_) | (with_reducible refine Mi.wp_frzXn ?_) | (with_reducible refine Mi.wp_frzX0 ?_) | (with_reducible refine Mi.wp_frzXS ?_) | (with_reducible refine Mi.wp_frzsCons ?_) | (with_reducible refine Mi.wp_frzsNil ?_) | (with_reducible refine Mi.wp_frzD ?_) | (with_reducible refine Mi.wp_boolA ?_) | (with_reducible refine Mi.wp_blT ?_) | (with_reducible refine Mi.wp_tst ?_) | (with_reducible refine Mi.wp_andT ?_) | (with_reducible refine Mi.wp_orT ?_) | (with_reducible refine Mi.wp_notT ?_) | (with_reducible refine Mi.wp_ifA ?_) | (with_reducible refine Mi.wp_andA ?_) | (with_reducible refine Mi.wp_orA ?_) | (with_reducible refine Mi.wp_notA ?_) | (with_reducible refine Mi.wp_chainT ?_) | (with_reducible refine Mi.wp_cb ?_) | (with_reducible refine Mi.wp_un ?_) | (with_reducible refine Mi.wp_next ?_) | (with_reducible refine Mi.wp_asgN ?_) | (with_reducible refine Mi.wp_retNS ?_) | (with_reducible refine Mi.wp_drop ?_) | (with_reducible refine Mi.wp_par2 ?_) | (with_reducible refine Mi.wp_asgG ?_) | (with_reducible refine Mi.wp_subG ?_) | (with_reducible refine Mi.wp_appA ?_) | (with_reducible refine Mi.wp_tup ?_) | (with_reducible refine Mi.wp_lst ?_) | (with_reducible refine Mi.wp_new ?_) | (with_reducible refine Mi.wp_slice ?_) | (with_reducible refine Mi.wp_prtN ?_) | (with_reducible refine Mi.wp_prtS ?_) | (with_reducible refine Mi.wp_mt ?_) | (with_reducible refine Mi.wp_mt0 ?_) | (with_reducible refine Mi.wp_seqI ?_) | (with_reducible refine Mi.wp_compN ?_) | (with_reducible refine Mi.wp_fnI ?_) | (with_reducible refine Mi.wp_forS ?_) | (with_reducible refine Mi.wp_tgTup ?_) | (with_reducible refine Mi.wp_gsCons ?_) | (with_reducible refine Mi.wp_gsNil ?_) | (with_reducible refine Mi.wp_callN ?_) | ((with_reducible apply Mi.wp_putV); · rfl) | ((with_reducible apply Mi.wp_putN); · rfl) | (with_reducible refine Mi.wp_bnd ?_) | (with_reducible refine Mi.wp_ret ?_) | (with_reducible refine Mi.wp_opt ?_) | (with_reducible refine Mi.wp_view ?_) | ((with_reducible refine Mi.nm_a ?_); (try (conv => arg 1; simp only [Mi.putCell, Mi.wipeL, Mi.backL, Mi.pick, List.filterMap_cons, List.filterMap_nil, List.filterMap_cons_some, List.map_nil, List.map_cons, List.append_nil, List.nil_append, List.cons_append, List.getElem?_cons_zero, List.getElem?_cons_succ, List.set_cons_zero, List.set_cons_succ, List.getD_cons_zero, List.getD_cons_succ, Int.reduceToNat])); (with_reducible refine Mi.nm_b ?_)) | (with_reducible refine ⟨_, Mi.add_int, ?_⟩) | (with_reducible refine ⟨_, Mi.sub_int, ?_⟩) | (with_reducible refine ⟨_, Mi.lt_int, ?_⟩) | (with_reducible refine ⟨_, Mi.le_int, ?_⟩) | (with_reducible refine ⟨_, Mi.gt_int, ?_⟩) | (with_reducible refine ⟨_, Mi.ge_int, ?_⟩) | (with_reducible refine ⟨_, Mi.neg_int, ?_⟩) | (with_reducible refine ⟨_, Mi.asBl_bl, ?_⟩) | (with_reducible refine ⟨_, Mi.pow_lit (by decide) (by decide), ?_⟩) | (with_reducible refine ⟨_, Mi.mul_int (by decide), ?_⟩) | (with_reducible refine ⟨_, Mi.mod_int (by decide), ?_⟩) | (with_reducible refine ⟨_, Mi.fdiv_int (by decide), ?_⟩) | (with_reducible refine ⟨_, Mi.eqq_int, ?_⟩) | (with_reducible refine ⟨_, Mi.neq_int, ?_⟩) | (with_reducible refine Mi.ift_t ?_) | (with_reducible refine Mi.ift_f ?_) | (with_reducible refine Mi.ift_nt ?_) | (with_reducible refine Mi.ift_nf ?_) | ((with_reducible refine Mi.ift_bt ?_ ?_); · rfl) | ((with_reducible refine Mi.ift_bf ?_ ?_); · rfl) | (refine ⟨_, _, _, _, _, rfl, rfl, rfl, rfl, ?_⟩) | (refine ⟨_, _, rfl, rfl, ?_⟩) | (refine ⟨_, _, rfl, ?_⟩) | (refine ⟨⟨rfl, rfl, rfl⟩, ?_⟩) | (refine ⟨Nat.le_of_ble_eq_true rfl, ?_⟩) | (refine ⟨by decide, ?_⟩) | (refine ⟨_, rfl, ?_⟩) | (refine ⟨rfl, ?_⟩))); (try (with_reducible refine Mi.here ?_)))
      refine ⟨by simp [sizeLine]; omega, ?_⟩
      ((repeat (first | (with_reducible refine Mi.wp_seq ?_) | (with_reducible refine Mi.wp_ifS ?_) | (with_reducible refine Mi.wp_asg ?_) | (with_reducible refine Mi.wp_retS ?_) | (with_reducible refine Mi.wp_bin ?_) | ((with_reducible apply Mi.wp_var1); · rfl) | (with_reducible refine Mi.wp_C ?_) | (with_reducible refine Mi.wp_asCons ?_) | (with_reducible refine Mi.wp_asNil ?_) | (with_reducible refine Mi.wp_call ?_) | (with_reducible refine Mi.wp_callIO ?_) | (with_reducible refine Mi.wp_args ?_) | (with_reducible refine Mi.wp_frzXn ?_) | (with_reducible refine Mi.wp_frzX0 ?_) | (with_reducible refine Mi.wp_frzXS ?_) | (with_reducible refine Mi.wp_frzsCons ?_) | (with_reducible refine Mi.wp_frzsNil ?_) | (with_reducible refine Mi.wp_frzD ?_) | (with_reducible refine Mi.wp_boolA ?_) | (with_reducible refine Mi.wp_blT ?_) | (with_reducible refine Mi.wp_tst ?_) | (with_reducible refine Mi.wp_andT ?_) | (with_reducible refine Mi.wp_orT ?_) | (with_reducible refine Mi.wp_notT ?_) | (with_reducible refine Mi.wp_ifA ?_) | (with_reducible refine Mi.wp_andA ?_) | (with_reducible refine Mi.wp_orA ?_) | (with_reducible refine Mi.wp_notA ?_) | (with_reducible refine Mi.wp_chainT ?_) | (with_reducible refine Mi.wp_cb ?_) | (with_reducible refine Mi.wp_un ?_) | (with_reducible refine Mi.wp_next ?_) | (with_reducible refine Mi.wp_asgN ?_) | (with_reducible refine Mi.wp_retNS ?_) | (with_reducible refine Mi.wp_drop ?_) | (with_reducible refine Mi.wp_par2 ?_) | (with_reducible refine Mi.wp_asgG ?_) | (with_reducible refine Mi.wp_subG ?_) | (with_reducible refine Mi.wp_appA ?_) | (with_reducible refine Mi.wp_tup ?_) | (with_reducible refine Mi.wp_lst ?_) | (with_reducible refine Mi.wp_new ?_) | (with_reducible refine Mi.wp_slice ?_) | (with_reducible refine Mi.wp_prtN ?_) | (with_reducible refine Mi.wp_prtS ?_) | (with_reducible refine Mi.wp_mt ?_) | (with_reducible refine Mi.wp_mt0 ?_) | (with_reducible refine Mi.wp_seqI ?_) | (with_reducible refine Mi.wp_compN ?_) | (with_reducible refine Mi.wp_fnI ?_) | (with_reducible refine Mi.wp_forS ?_) | (with_reducible refine Mi.wp_tgTup ?_) | (with_reducible refine Mi.wp_gsCons ?_) | (with_reducible refine Mi.wp_gsNil ?_) | (with_reducible refine Mi.wp_callN ?_) | ((with_reducible apply Mi.wp_putV); · rfl) | ((with_reducible apply Mi.wp_putN); · rfl) | (with_reducible refine Mi.wp_bnd ?_) | (with_reducible refine Mi.wp_ret ?_) | (with_reducible refine Mi.wp_opt ?_) | (with_reducible refine Mi.wp_view ?_) | ((with_reducible refine Mi.nm_a ?_); (try (conv => arg 1; simp only [Mi.putCell, Mi.wipeL, Mi.backL, Mi.pick, List.filterMap_cons, List.filterMap_nil, List.filterMap_cons_some, List.map_nil, List.map_cons, List.append_nil, List.nil_append, List.cons_append, List.getElem?_cons_zero, List.getElem?_cons_succ, List.set_cons_zero, List.set_cons_succ, List.getD_cons_zero, List.getD_cons_succ, Int.reduceToNat])); (with_reducible refine Mi.nm_b ?_)) | (with_reducible refine ⟨_, Mi.add_int, ?_⟩) | (with_reducible refine ⟨_, Mi.sub_int, ?_⟩) | (with_reducible refine ⟨_, Mi.lt_int, ?_⟩) | (with_reducible refine ⟨_, Mi.le_int, ?_⟩) | (with_reducible refine ⟨_, Mi.gt_int, ?_⟩) | (with_reducible refine ⟨_, Mi.ge_int, ?_⟩) | (with_reducible refine ⟨_, Mi.neg_int, ?_⟩) | (with_reducible refine ⟨_, Mi.asBl_bl, ?_⟩) | (with_reducible refine ⟨_, Mi.pow_lit (by decide) (by decide), ?_⟩) | (with_reducible refine ⟨_, Mi.mul_int (by decide), ?_⟩) | (with_reducible refine ⟨_, Mi.mod_int (by decide), ?_⟩) | (with_reducible refine ⟨_, Mi.fdiv_int (by decide), ?_⟩) | (with_reducible refine ⟨_, Mi.eqq_int, ?_⟩) | (with_reducible refine ⟨_, Mi.neq_int, ?_⟩) | (with_reducible refine Mi.ift_t ?_) | (with_reducible refine Mi.ift_f ?_) | (with_reducible refine Mi.ift_nt ?_) | (with_reducible refine Mi.ift_nf ?_) | ((with_reducible refine Mi.ift_bt ?_ ?_); · rfl) | ((with_reducible refine Mi.ift_bf ?_ ?_); · rfl) | (refine ⟨_, _, _, _, _, rfl, rfl, rfl, rfl, ?_⟩) | (refine ⟨_, _, rfl, rfl, ?_⟩) | (refine ⟨_, _, rfl, ?_⟩) | (refine ⟨⟨rfl, rfl, rfl⟩, ?_⟩) | (refine ⟨Nat.le_of_ble_eq_true rfl, ?_⟩) | (refine ⟨by decide, ?_⟩) | (refine ⟨_, rfl, ?_⟩) | (refine ⟨rfl, ?_⟩))); (try (with_reducible refine Mi.here ?_)))
      refine ⟨o, zs ++ [⟨#[ch]⟩], by simp, ?_, by simp; omega, fun d hd => hi d (List.mem_cons_of_mem _ hd), by rw [List.length_append]; exact hj, rfl⟩
      intro z hz'
      rcases List.mem_append.mp hz' with hz' | hz'
      · exact hz z hz'
      · rw [List.mem_singleton.mp hz']; exact ⟨rfl, one_ok sig_ok hch⟩
    · exact ⟨o2, [], rfl, by simp, by simp, by simp, hj, rfl⟩
  obtain ⟨d, o, e, r, rfl, h⟩ := fp_ex z
  exact ⟨r, o, e, h⟩
end Lw
namespace Lw
open PySem L2 Mi
def VOk : D → Prop
  | .int _ => True
  | .non => True
  | .bl _ => True
  | .lst _ => True
  | .tup _ => True
  | .str s => TxOk s
  | _ => False
theorem fp_text {k : Nat} {j : D} {E : Str → List Str → List D → D → Prop} {Q : D → D → Prop} (hj : Jg k j) (hk : k + 100 < 2 ^ 40) (h : ∀ (s : Str) o, TxOk s → Jg (k + 100) o → Q (.str s) o) :
    Fp (f__law_text [j]) E Q := by
  obtain ⟨s, o, e, h0, h1⟩ := text_ok hj hk
  exact fp_ok e (h s o h0 h1)
theorem plain_ix {r : Int} {P : Prop} (h0 : 0 ≤ r) (h1 : r < 16) (h : ∀ d, ixD (.lst [D.non, D.bl true, D.bl false, D.int 0, D.int 1, D.int (-1), D.str (Str.ofString ""), D.str (Str.ofString "a"), D.str (Str.ofString "9a"), D.str (Txt.mul (Str.ofString "z") 12), D.str (Txt.mul (Str.ofString "z") 13), D.lst [], D.lst [D.str (Str.ofString "a")], D.tup [D.str (Str.ofString "a")], D.tup [D.int 1], D.lst [D.int 1]]) (.int r) = some d → VOk d → P) : P := by
  obtain ⟨d, e, m⟩ := ix_lst (xs := [D.non, D.bl true, D.bl false, D.int 0, D.int 1, D.int (-1), D.str (Str.ofString ""), D.str (Str.ofString "a"), D.str (Str.ofString "9a"), D.str (Txt.mul (Str.ofString "z") 12), D.str (Txt.mul (Str.ofString "z") 13), D.lst [], D.lst [D.str (Str.ofString "a")], D.tup [D.str (Str.ofString "a")], D.tup [D.int 1], D.lst [D.int 1]]) h0 h1
  refine h d e ?_
  simp only [List.mem_cons, List.not_mem_nil, or_false] at m
  rcases m with rfl | rfl | rfl | rfl | rfl | rfl | rfl | rfl | rfl | rfl | rfl | rfl | rfl | rfl | rfl | rfl <;> first | trivial | exact ⟨by decide +kernel, by decide +kernel⟩
theorem value_ok {k : Nat} {j : D} (hj : Jg k j) (hk : k + 200 < 2 ^ 40) : ∃ (d : D) (o : D), f__law_value [j] = .ok d o ∧ VOk d ∧ Jg (k + 200) o := by
  have z : Fp (f__law_value [j]) noX fun d o => VOk d ∧ Jg (k + 200) o := by
    refine fp_run (ρ := [.cel true _, .nil, .nil]) rfl ?_
    unfold m__law_value
    ((repeat (first | (with_reducible refine Mi.wp_seq ?_) | (with_reducible refine Mi.wp_ifS ?_) | (with_reducible refine Mi.wp_asg ?_) | (with_reducible refine Mi.wp_retS ?_) | (with_reducible refine Mi.wp_bin ?_) | ((with_reducible apply Mi.wp_var1); · rfl) | (with_reducible refine Mi.wp_C ?_) | (with_reducible refine Mi.wp_asCons ?_) | (with_reducible refine Mi.wp_asNil ?_) | (with_reducible refine Mi.wp_call ?_) | (with_reducible refine Mi.wp_callIO ?_) | (with_reducible refine Mi.wp_args ?_) | (with_reducible refine Mi.wp_frzXn ?_) | (with_reducible refine Mi.wp_frzX0 ?_) | (with_reducible refine Mi.wp_frzXS ?_) | (with_reducible refine Mi.wp_frzsCons ?_) | (with_reducible refine Mi.wp_frzsNil ?_) | (with_reducible refine Mi.wp_frzD ?_) | (with_reducible refine Mi.wp_boolA ?_) | (with_reducible refine Mi.wp_blT ?_) | (with_reducible refine Mi.wp_tst ?_) | (with_reducible refine Mi.wp_andT ?_) | (with_reducible refine Mi.wp_orT ?_) | (with_reducible refine Mi.wp_notT ?_) | (with_reducible refine Mi.wp_ifA ?_) | (with_reducible refine Mi.wp_andA ?_) | (with_reducible refine Mi.wp_orA ?_) | (with_reducible refine Mi.wp_notA ?_) | (with_reducible refine Mi.wp_chainT ?_) | (with_reducible refine Mi.wp_cb ?_) | (with_reducible refine Mi.wp_un ?_) | (with_reducible refine Mi.wp_next ?_) | (with_reducible refine Mi.wp_asgN ?_) | (with_reducible refine Mi.wp_retNS ?_) | (with_reducible refine Mi.wp_drop ?_) | (with_reducible refine Mi.wp_par2 ?_) | (with_reducible refine Mi.wp_asgG ?_) | (with_reducible refine Mi.wp_subG ?_) | (with_reducible refine Mi.wp_appA ?_) | (with_reducible refine Mi.wp_tup ?_) | (with_reducible refine Mi.wp_lst ?_) | (with_reducible refine Mi.wp_new ?_) | (with_reducible refine Mi.wp_slice ?_) | (with_reducible refine Mi.wp_prtN ?_) | (with_reducible refine Mi.wp_prtS ?_) | (with_reducible refine Mi.wp_mt ?_) | (with_reducible refine Mi.wp_mt0 ?_) | (with_reducible refine Mi.wp_seqI ?_) | (with_reducible refine Mi.wp_compN ?_) | (with_reducible refine Mi.wp_fnI ?_) | (with_reducible refine Mi.wp_forS ?_) | (with_reducible refine Mi.wp_tgTup ?_) | (with_reducible refine Mi.wp_gsCons ?_) | (with_reducible refine Mi.wp_gsNil ?_) | (with_reducible refine Mi.wp_callN ?_) | ((with_reducible apply Mi.wp_putV); · rfl) | ((with_reducible apply Mi.wp_putN); · rfl) | (with_reducible refine Mi.wp_bnd ?_) | (with_reducible refine Mi.wp_ret ?_) | (with_reducible refine Mi.wp_opt ?_) | (with_reducible refine Mi.wp_view ?_) | ((with_reducible refine Mi.nm_a ?_); (try (conv => arg 1; simp only [Mi.putCell, Mi.wipeL, Mi.backL, Mi.pick, List.filterMap_cons, List.filterMap_nil, List.filterMap_cons_some, List.map_nil, List.map_cons, List.append_nil, List.nil_append, List.cons_append, List.getElem?_cons_zero, List.getElem?_cons_succ, List.set_cons_zero, List.set_cons_succ, List.getD_cons_zero, List.getD_cons_succ, Int.reduceToNat])); (with_reducible refine Mi.nm_b ?_)) | (with_reducible refine ⟨_, Mi.add_int, ?_⟩) | (with_reducible refine ⟨_, Mi.sub_int, ?_⟩) | (with_reducible refine ⟨_, Mi.lt_int, ?_⟩) | (with_reducible refine ⟨_, Mi.le_int, ?_⟩) | (with_reducible refine ⟨_, Mi.gt_int, ?_⟩) | (with_reducible refine ⟨_, Mi.ge_int, ?_⟩) | (with_reducible refine ⟨_, Mi.neg_int, ?_⟩) | (with_reducible refine ⟨_, Mi.asBl_bl, ?_⟩) | (with_reducible refine ⟨_, Mi.pow_lit (by decide) (by decide), ?_⟩) | (with_reducible refine ⟨_, Mi.mul_int (by decide), ?_⟩) | (with_reducible refine ⟨_, Mi.mod_int (by decide), ?_⟩) | (with_reducible refine ⟨_, Mi.fdiv_int (by decide), ?_⟩) | (with_reducible refine ⟨_, Mi.eqq_int, ?_⟩) | (with_reducible refine ⟨_, Mi.neq_int, ?_⟩) | (with_reducible refine Mi.ift_t ?_) | (with_reducible refine Mi.ift_f ?_) | (with_reducible refine Mi.ift_nt ?_) | (with_reducible refine Mi.ift_nf ?_) | ((with_reducible refine Mi.ift_bt ?_ ?_); · rfl) | ((with_reducible refine Mi.ift_bf ?_ ?_); · rfl) | (refine ⟨_, _, _, _, _, rfl, rfl, rfl, rfl, ?_⟩) | (refine ⟨_, _, rfl, rfl, ?_⟩) | (refine ⟨_, _, rfl, ?_⟩) | (refine ⟨⟨rfl, rfl, rfl⟩, ?_⟩) | (refine ⟨Nat.le_of_ble_eq_true rfl, ?_⟩) | (refine ⟨by decide, ?_⟩) | (refine ⟨_, rfl, ?_⟩) | (refine ⟨rfl, ?_⟩))); (try (with_reducible refine Mi.here ?_)))
    refine fp_pour hj (by omega) (by decide) (by decide) fun r1 o1 h0 h1 hj => ?_
    ((repeat (first | (with_reducible refine Mi.wp_seq ?_) | (with_reducible refine Mi.wp_ifS ?_) | (with_reducible refine Mi.wp_asg ?_) | (with_reducible refine Mi.wp_retS ?_) | (with_reducible refine Mi.wp_bin ?_) | ((with_reducible apply Mi.wp_var1); · rfl) | (with_reducible refine Mi.wp_C ?_) | (with_reducible refine Mi.wp_asCons ?_) | (with_reducible refine Mi.wp_asNil ?_) | (with_reducible refine Mi.wp_call ?_) | (with_reducible refine Mi.wp_callIO ?_) | (with_reducible refine Mi.wp_args ?_) | (with_reducible refine Mi.wp_frzXn ?_) | (with_reducible refine Mi.wp_frzX0 ?_) | (with_reducible refine Mi.wp_frzXS ?_) | (with_reducible refine Mi.wp_frzsCons ?_) | (with_reducible refine Mi.wp_frzsNil ?_) | (with_reducible refine Mi.wp_frzD ?_) | (with_reducible refine Mi.wp_boolA ?_) | (with_reducible refine Mi.wp_blT ?_) | (with_reducible refine Mi.wp_tst ?_) | (with_reducible refine Mi.wp_andT ?_) | (with_reducible refine Mi.wp_orT ?_) | (with_reducible refine Mi.wp_notT ?_) | (with_reducible refine Mi.wp_ifA ?_) | (with_reducible refine Mi.wp_andA ?_) | (with_reducible refine Mi.wp_orA ?_) | (with_reducible refine Mi.wp_notA ?_) | (with_reducible refine Mi.wp_chainT ?_) | (with_reducible refine Mi.wp_cb ?_) | (with_reducible refine Mi.wp_un ?_) | (with_reducible refine Mi.wp_next ?_) | (with_reducible refine Mi.wp_asgN ?_) | (with_reducible refine Mi.wp_retNS ?_) | (with_reducible refine Mi.wp_drop ?_) | (with_reducible refine Mi.wp_par2 ?_) | (with_reducible refine Mi.wp_asgG ?_) | (with_reducible refine Mi.wp_subG ?_) | (with_reducible refine Mi.wp_appA ?_) | (with_reducible refine Mi.wp_tup ?_) | (with_reducible refine Mi.wp_lst ?_) | (with_reducible refine Mi.wp_new ?_) | (with_reducible refine Mi.wp_slice ?_) | (with_reducible refine Mi.wp_prtN ?_) | (with_reducible refine Mi.wp_prtS ?_) | (with_reducible refine Mi.wp_mt ?_) | (with_reducible refine Mi.wp_mt0 ?_) | (with_reducible refine Mi.wp_seqI ?_) | (with_reducible refine Mi.wp_compN ?_) | (with_reducible refine Mi.wp_fnI ?_) | (with_reducible refine Mi.wp_forS ?_) | (with_reducible refine Mi.wp_tgTup ?_) | (with_reducible refine Mi.wp_gsCons ?_) | (with_reducible refine Mi.wp_gsNil ?_) | (with_reducible refine Mi.wp_callN ?_) | ((with_reducible apply Mi.wp_putV); · rfl) | ((with_reducible apply Mi.wp_putN); · rfl) | (with_reducible refine Mi.wp_bnd ?_) | (with_reducible refine Mi.wp_ret ?_) | (with_reducible refine Mi.wp_opt ?_) | (with_reducible refine Mi.wp_view ?_) | ((with_reducible refine Mi.nm_a ?_); (try (conv => arg 1; simp only [Mi.putCell, Mi.wipeL, Mi.backL, Mi.pick, List.filterMap_cons, List.filterMap_nil, List.filterMap_cons_some, List.map_nil, List.map_cons, List.append_nil, List.nil_append, List.cons_append, List.getElem?_cons_zero, List.getElem?_cons_succ, List.set_cons_zero, List.set_cons_succ, List.getD_cons_zero, List.getD_cons_succ, Int.reduceToNat])); (with_reducible refine Mi.nm_b ?_)) | (with_reducible refine ⟨_, Mi.add_int, ?_⟩) | (with_reducible refine ⟨_, Mi.sub_int, ?_⟩) | (with_reducible refine ⟨_, Mi.lt_int, ?_⟩) | (with_reducible refine ⟨_, Mi.le_int, ?_⟩) | (with_reducible refine ⟨_, Mi.gt_int, ?_⟩) | (with_reducible refine ⟨_, Mi.ge_int, ?_⟩) | (with_reducible refine ⟨_, Mi.neg_int, ?_⟩) | (with_reducible refine ⟨_, Mi.asBl_bl, ?_⟩) | (with_reducible refine ⟨_, Mi.pow_lit (by decide) (by decide), ?_⟩) | (with_reducible refine ⟨_, Mi.mul_int (by decide), ?_⟩) | (with_reducible refine ⟨_, Mi.mod_int (by decide), ?_⟩) | (with_reducible refine ⟨_, Mi.fdiv_int (by decide), ?_⟩) | (with_reducible refine ⟨_, Mi.eqq_int, ?_⟩) | (with_reducible refine ⟨_, Mi.neq_int, ?_⟩) | (with_reducible refine Mi.ift_t ?_) | (with_reducible refine Mi.ift_f ?_) | (with_reducible refine Mi.ift_nt ?_) | (with_reducible refine Mi.ift_nf ?_) | ((with_reducible refine Mi.ift_bt ?_ ?_); · rfl) | ((with_reducible refine Mi.ift_bf ?_ ?_); · rfl) | (refine ⟨_, _, _, _, _, rfl, rfl, rfl, rfl, ?_⟩) | (refine ⟨_, _, rfl, rfl, ?_⟩) | (refine ⟨_, _, rfl, ?_⟩) | (refine ⟨⟨rfl, rfl, rfl⟩, ?_⟩) | (refine ⟨Nat.le_of_ble_eq_true rfl, ?_⟩) | (refine ⟨by decide, ?_⟩) | (refine ⟨_, rfl, ?_⟩) | (refine ⟨rfl, ?_⟩))); (try (with_reducible refine Mi.here ?_)))
    refine ⟨fun h => ?_, fun h => ?_⟩
    · ((repeat (first | (with_reducible refine Mi.wp_seq ?_) | (with_reducible refine Mi.wp_ifS ?_) | (with_reducible refine Mi.wp_asg ?_) | (with_reducible refine Mi.wp_retS ?_) | (with_reducible refine Mi.wp_bin ?_) | ((with_reducible apply Mi.wp_var1); · rfl) | (with_reducible refine Mi.wp_C ?_) | (with_reducible refine Mi.wp_asCons ?_) | (with_reducible refine Mi.wp_asNil ?_) | (with_reducible refine Mi.wp_call ?_) | (with_reducible refine Mi.wp_callIO ?_) | (with_reducible refine Mi.wp_args ?_) | (with_reducible refine Mi.wp_frzXn ?_) | (with_reducible refine Mi.wp_frzX0 ?_) | (with_reducible refine Mi.wp_frzXS ?_) | (with_reducible refine Mi.wp_frzsCons ?_) | (with_reducible refine Mi.wp_frzsNil ?_) | (with_reducible refine Mi.wp_frzD ?_) | (with_reducible refine Mi.wp_boolA ?_) | (with_reducible refine Mi.wp_blT ?_) | (with_reducible refine Mi.wp_tst ?_) | (with_reducible refine Mi.wp_andT ?_) | (with_reducible refine Mi.wp_orT ?_) | (with_reducible refine Mi.wp_notT ?_) | (with_reducible refine Mi.wp_ifA ?_) | (with_reducible refine Mi.wp_andA ?_) | (with_reducible refine Mi.wp_orA ?_) | (with_reducible refine Mi.wp_notA ?_) | (with_reducible refine Mi.wp_chainT ?_) | (with_reducible refine Mi.wp_cb ?_) | (with_reducible refine Mi.wp_un ?_) | (with_reducible refine Mi.wp_next ?_) | (with_reducible refine Mi.wp_asgN ?_) | (with_reducible refine Mi.wp_retNS ?_) | (with_reducible refine Mi.wp_drop ?_) | (with_reducible refine Mi.wp_par2 ?_) | (with_reducible refine Mi.wp_asgG ?_) | (with_reducible refine Mi.wp_subG ?_) | (with_reducible refine Mi.wp_appA ?_) | (with_reducible refine Mi.wp_tup ?_) | (with_reducible refine Mi.wp_lst ?_) | (with_reducible refine Mi.wp_new ?_) | (with_reducible refine Mi.wp_slice ?_) | (with_reducible refine Mi.wp_prtN ?_) | (with_reducible refine Mi.wp_prtS ?_) | (with_reducible refine Mi.wp_mt ?_) | (with_reducible refine Mi.wp_mt0 ?_) | (with_reducible refine Mi.wp_seqI ?_) | (with_reducible refine Mi.wp_compN ?_) | (with_reducible refine Mi.wp_fnI ?_) | (with_reducible refine Mi.wp_forS ?_) | (with_reducible refine Mi.wp_tgTup ?_) | (with_reducible refine Mi.wp_gsCons ?_) | (with_reducible refine Mi.wp_gsNil ?_) | (with_reducible refine Mi.wp_callN ?_) | ((with_reducible apply Mi.wp_putV); · rfl) | ((with_reducible apply Mi.wp_putN); · rfl) | (with_reducible refine Mi.wp_bnd ?_) | (with_reducible refine Mi.wp_ret ?_) | (with_reducible refine Mi.wp_opt ?_) | (with_reducible refine Mi.wp_view ?_) | ((with_reducible refine Mi.nm_a ?_); (try (conv => arg 1; simp only [Mi.putCell, Mi.wipeL, Mi.backL, Mi.pick, List.filterMap_cons, List.filterMap_nil, List.filterMap_cons_some, List.map_nil, List.map_cons, List.append_nil, List.nil_append, List.cons_append, List.getElem?_cons_zero, List.getElem?_cons_succ, List.set_cons_zero, List.set_cons_succ, List.getD_cons_zero, List.getD_cons_succ, Int.reduceToNat])); (with_reducible refine Mi.nm_b ?_)) | (with_reducible refine ⟨_, Mi.add_int, ?_⟩) | (with_reducible refine ⟨_, Mi.sub_int, ?_⟩) | (with_reducible refine ⟨_, Mi.lt_int, ?_⟩) | (with_reducible refine ⟨_, Mi.le_int, ?_⟩) | (with_reducible refine ⟨_, Mi.gt_int, ?_⟩) | (with_reducible refine ⟨_, Mi.ge_int, ?_⟩) | (with_reducible refine ⟨_, Mi.neg_int, ?_⟩) | (with_reducible refine ⟨_, Mi.asBl_bl, ?_⟩) | (with_reducible refine ⟨_, Mi.pow_lit (by decide) (by decide), ?_⟩) | (with_reducible refine ⟨_, Mi.mul_int (by decide), ?_⟩) | (with_reducible refine ⟨_, Mi.mod_int (by decide), ?_⟩) | (with_reducible refine ⟨_, Mi.fdiv_int (by decide), ?_⟩) | (with_reducible refine ⟨_, Mi.eqq_int, ?_⟩) | (with_reducible refine ⟨_, Mi.neq_int, ?_⟩) | (with_reducible refine Mi.ift_t ?_) | (with_reducible refine Mi.ift_f ?_) | (with_reducible refine Mi.ift_nt ?_) | (with_reducible refine Mi.ift_nf ?_) | ((with_reducible refine Mi.ift_bt ?_ ?_); · rfl) | ((with_reducible refine Mi.ift_bf ?_ ?_); · rfl) | (refine ⟨_, _, _, _, _, rfl, rfl, rfl, rfl, ?_⟩) | (refine ⟨_, _, rfl, rfl, ?_⟩) | (refine ⟨_, _, rfl, ?_⟩) | (refine ⟨⟨rfl, rfl, rfl⟩, ?_⟩) | (refine ⟨Nat.le_of_ble_eq_true rfl, ?_⟩) | (refine ⟨by decide, ?_⟩) | (refine ⟨_, rfl, ?_⟩) | (refine ⟨rfl, ?_⟩))); (try (with_reducible refine Mi.here ?_)))
      refine fp_pour hj (by omega) (by decide) (by decide) fun r2 o2 h2 h3 hj => ?_
      ((repeat (first | (with_reducible refine Mi.wp_seq ?_) | (with_reducible refine Mi.wp_ifS ?_) | (with_reducible refine Mi.wp_asg ?_) | (with_reducible refine Mi.wp_retS ?_) | (with_reducible refine Mi.wp_bin ?_) | ((with_reducible apply Mi.wp_var1); · rfl) | (with_reducible refine Mi.wp_C ?_) | (with_reducible refine Mi.wp_asCons ?_) | (with_reducible refine Mi.wp_asNil ?_) | (with_reducible refine Mi.wp_call ?_) | (with_reducible refine Mi.wp_callIO ?_) | (with_reducible refine Mi.wp_args ?_) | (with_reducible refine Mi.wp_frzXn ?_) | (with_reducible refine Mi.wp_frzX0 ?_) | (with_reducible refine Mi.wp_frzXS ?_) | (with_reducible refine Mi.wp_frzsCons ?_) | (with_reducible refine Mi.wp_frzsNil ?_) | (with_reducible refine Mi.wp_frzD ?_) | (with_reducible refine Mi.wp_boolA ?_) | (with_reducible refine Mi.wp_blT ?_) | (with_reducible refine Mi.wp_tst ?_) | (with_reducible refine Mi.wp_andT ?_) | (with_reducible refine Mi.wp_orT ?_) | (with_reducible refine Mi.wp_notT ?_) | (with_reducible refine Mi.wp_ifA ?_) | (with_reducible refine Mi.wp_andA ?_) | (with_reducible refine Mi.wp_orA ?_) | (with_reducible refine Mi.wp_notA ?_) | (with_reducible refine Mi.wp_chainT ?_) | (with_reducible refine Mi.wp_cb ?_) | (with_reducible refine Mi.wp_un ?_) | (with_reducible refine Mi.wp_next ?_) | (with_reducible refine Mi.wp_asgN ?_) | (with_reducible refine Mi.wp_retNS ?_) | (with_reducible refine Mi.wp_drop ?_) | (with_reducible refine Mi.wp_par2 ?_) | (with_reducible refine Mi.wp_asgG ?_) | (with_reducible refine Mi.wp_subG ?_) | (with_reducible refine Mi.wp_appA ?_) | (with_reducible refine Mi.wp_tup ?_) | (with_reducible refine Mi.wp_lst ?_) | (with_reducible refine Mi.wp_new ?_) | (with_reducible refine Mi.wp_slice ?_) | (with_reducible refine Mi.wp_prtN ?_) | (with_reducible refine Mi.wp_prtS ?_) | (with_reducible refine Mi.wp_mt ?_) | (with_reducible refine Mi.wp_mt0 ?_) | (with_reducible refine Mi.wp_seqI ?_) | (with_reducible refine Mi.wp_compN ?_) | (with_reducible refine Mi.wp_fnI ?_) | (with_reducible refine Mi.wp_forS ?_) | (with_reducible refine Mi.wp_tgTup ?_) | (with_reducible refine Mi.wp_gsCons ?_) | (with_reducible refine Mi.wp_gsNil ?_) | (with_reducible refine Mi.wp_callN ?_) | ((with_reducible apply Mi.wp_putV); · rfl) | ((with_reducible apply Mi.wp_putN); · rfl) | (with_reducible refine Mi.wp_bnd ?_) | (with_reducible refine Mi.wp_ret ?_) | (with_reducible refine Mi.wp_opt ?_) | (with_reducible refine Mi.wp_view ?_) | ((with_reducible refine Mi.nm_a ?_); (try (conv => arg 1; simp only [Mi.putCell, Mi.wipeL, Mi.backL, Mi.pick, List.filterMap_cons, List.filterMap_nil, List.filterMap_cons_some, List.map_nil, List.map_cons, List.append_nil, List.nil_append, List.cons_append, List.getElem?_cons_zero, List.getElem?_cons_succ, List.set_cons_zero, List.set_cons_succ, List.getD_cons_zero, List.getD_cons_succ, Int.reduceToNat])); (with_reducible refine Mi.nm_b ?_)) | (with_reducible refine ⟨_, Mi.add_int, ?_⟩) | (with_reducible refine ⟨_, Mi.sub_int, ?_⟩) | (with_reducible refine ⟨_, Mi.lt_int, ?_⟩) | (with_reducible refine ⟨_, Mi.le_int, ?_⟩) | (with_reducible refine ⟨_, Mi.gt_int, ?_⟩) | (with_reducible refine ⟨_, Mi.ge_int, ?_⟩) | (with_reducible refine ⟨_, Mi.neg_int, ?_⟩) | (with_reducible refine ⟨_, Mi.asBl_bl, ?_⟩) | (with_reducible refine ⟨_, Mi.pow_lit (by decide) (by decide), ?_⟩) | (with_reducible refine ⟨_, Mi.mul_int (by decide), ?_⟩) | (with_reducible refine ⟨_, Mi.mod_int (by decide), ?_⟩) | (with_reducible refine ⟨_, Mi.fdiv_int (by decide), ?_⟩) | (with_reducible refine ⟨_, Mi.eqq_int, ?_⟩) | (with_reducible refine ⟨_, Mi.neq_int, ?_⟩) | (with_reducible refine Mi.ift_t ?_) | (with_reducible refine Mi.ift_f ?_) | (with_reducible refine Mi.ift_nt ?_) | (with_reducible refine Mi.ift_nf ?_) | ((with_reducible refine Mi.ift_bt ?_ ?_); · rfl) | ((with_reducible refine Mi.ift_bf ?_ ?_); · rfl) | (refine ⟨_, _, _, _, _, rfl, rfl, rfl, rfl, ?_⟩) | (refine ⟨_, _, rfl, rfl, ?_⟩) | (refine ⟨_, _, rfl, ?_⟩) | (refine ⟨⟨rfl, rfl, rfl⟩, ?_⟩) | (refine ⟨Nat.le_of_ble_eq_true rfl, ?_⟩) | (refine ⟨by decide, ?_⟩) | (refine ⟨_, rfl, ?_⟩) | (refine ⟨rfl, ?_⟩))); (try (with_reducible refine Mi.here ?_)))
      refine fp_pour hj (by omega) (by decide) (by decide) fun r3 o3 h4 h5 hj => ?_
      ((repeat (first | (with_reducible refine Mi.wp_seq ?_) | (with_reducible refine Mi.wp_ifS ?_) | (with_reducible refine Mi.wp_asg ?_) | (with_reducible refine Mi.wp_retS ?_) | (with_reducible refine Mi.wp_bin ?_) | ((with_reducible apply Mi.wp_var1); · rfl) | (with_reducible refine Mi.wp_C ?_) | (with_reducible refine Mi.wp_asCons ?_) | (with_reducible refine Mi.wp_asNil ?_) | (with_reducible refine Mi.wp_call ?_) | (with_reducible refine Mi.wp_callIO ?_) | (with_reducible refine Mi.wp_args ?_) | (with_reducible refine Mi.wp_frzXn ?_) | (with_reducible refine Mi.wp_frzX0 ?_) | (with_reducible refine Mi.wp_frzXS ?_) | (with_reducible refine Mi.wp_frzsCons ?_) | (with_reducible refine Mi.wp_frzsNil ?_) | (with_reducible refine Mi.wp_frzD ?_) | (with_reducible refine Mi.wp_boolA ?_) | (with_reducible refine Mi.wp_blT ?_) | (with_reducible refine Mi.wp_tst ?_) | (with_reducible refine Mi.wp_andT ?_) | (with_reducible refine Mi.wp_orT ?_) | (with_reducible refine Mi.wp_notT ?_) | (with_reducible refine Mi.wp_ifA ?_) | (with_reducible refine Mi.wp_andA ?_) | (with_reducible refine Mi.wp_orA ?_) | (with_reducible refine Mi.wp_notA ?_) | (with_reducible refine Mi.wp_chainT ?_) | (with_reducible refine Mi.wp_cb ?_) | (with_reducible refine Mi.wp_un ?_) | (with_reducible refine Mi.wp_next ?_) | (with_reducible refine Mi.wp_asgN ?_) | (with_reducible refine Mi.wp_retNS ?_) | (with_reducible refine Mi.wp_drop ?_) | (with_reducible refine Mi.wp_par2 ?_) | (with_reducible refine Mi.wp_asgG ?_) | (with_reducible refine Mi.wp_subG ?_) | (with_reducible refine Mi.wp_appA ?_) | (with_reducible refine Mi.wp_tup ?_) | (with_reducible refine Mi.wp_lst ?_) | (with_reducible refine Mi.wp_new ?_) | (with_reducible refine Mi.wp_slice ?_) | (with_reducible refine Mi.wp_prtN ?_) | (with_reducible refine Mi.wp_prtS ?_) | (with_reducible refine Mi.wp_mt ?_) | (with_reducible refine Mi.wp_mt0 ?_) | (with_reducible refine Mi.wp_seqI ?_) | (with_reducible refine Mi.wp_compN ?_) | (with_reducible refine Mi.wp_fnI ?_) | (with_reducible refine Mi.wp_forS ?_) | (with_reducible refine Mi.wp_tgTup ?_) | (with_reducible refine Mi.wp_gsCons ?_) | (with_reducible refine Mi.wp_gsNil ?_) | (with_reducible refine Mi.wp_callN ?_) | ((with_reducible apply Mi.wp_putV); · rfl) | ((with_reducible apply Mi.wp_putN); · rfl) | (with_reducible refine Mi.wp_bnd ?_) | (with_reducible refine Mi.wp_ret ?_) | (with_reducible refine Mi.wp_opt ?_) | (with_reducible refine Mi.wp_view ?_) | ((with_reducible refine Mi.nm_a ?_); (try (conv => arg 1; simp only [Mi.putCell, Mi.wipeL, Mi.backL, Mi.pick, List.filterMap_cons, List.filterMap_nil, List.filterMap_cons_some, List.map_nil, List.map_cons, List.append_nil, List.nil_append, List.cons_append, List.getElem?_cons_zero, List.getElem?_cons_succ, List.set_cons_zero, List.set_cons_succ, List.getD_cons_zero, List.getD_cons_succ, Int.reduceToNat])); (with_reducible refine Mi.nm_b ?_)) | (with_reducible refine ⟨_, Mi.add_int, ?_⟩) | (with_reducible refine ⟨_, Mi.sub_int, ?_⟩) | (with_reducible refine ⟨_, Mi.lt_int, ?_⟩) | (with_reducible refine ⟨_, Mi.le_int, ?_⟩) | (with_reducible refine ⟨_, Mi.gt_int, ?_⟩) | (with_reducible refine ⟨_, Mi.ge_int, ?_⟩) | (with_reducible refine ⟨_, Mi.neg_int, ?_⟩) | (with_reducible refine ⟨_, Mi.asBl_bl, ?_⟩) | (with_reducible refine ⟨_, Mi.pow_lit (by decide) (by decide), ?_⟩) | (with_reducible refine ⟨_, Mi.mul_int (by decide), ?_⟩) | (with_reducible refine ⟨_, Mi.mod_int (by decide), ?_⟩) | (with_reducible refine ⟨_, Mi.fdiv_int (by decide), ?_⟩) | (with_reducible refine ⟨_, Mi.eqq_int, ?_⟩) | (with_reducible refine ⟨_, Mi.neq_int, ?_⟩) | (with_reducible refine Mi.ift_t ?_) | (with_reducible refine Mi.ift_f ?_) | (with_reducible refine Mi.ift_nt ?_) | (with_reducible refine Mi.ift_nf ?_) | ((with_reducible refine Mi.ift_bt ?_ ?_); · rfl) | ((with_reducible refine Mi.ift_bf ?_ ?_); · rfl) | (refine ⟨_, _, _, _, _, rfl, rfl, rfl, rfl, ?_⟩) | (refine ⟨_, _, rfl, rfl, ?_⟩) | (refine ⟨_, _, rfl, ?_⟩) | (refine ⟨⟨rfl, rfl, rfl⟩, ?_⟩) | (refine ⟨Nat.le_of_ble_eq_true rfl, ?_⟩) | (refine ⟨by decide, ?_⟩) | (refine ⟨_, rfl, ?_⟩) | (refine ⟨rfl, ?_⟩))); (try (with_reducible refine Mi.here ?_)))
      refine ⟨_, mul_int (show CMulW 2 r3 from by
        have e2 : r3.natAbs.log2 < 50 := log2_lt (by omega) (by decide)
        show (2 : Int).natAbs.log2 + r3.natAbs.log2 < 1000000
        have e : (2 : Int).natAbs.log2 < 20 := by decide
        omega), ?_⟩
      ((repeat (first | (with_reducible refine Mi.wp_seq ?_) | (with_reducible refine Mi.wp_ifS ?_) | (with_reducible refine Mi.wp_asg ?_) | (with_reducible refine Mi.wp_retS ?_) | (with_reducible refine Mi.wp_bin ?_) | ((with_reducible apply Mi.wp_var1); · rfl) | (with_reducible refine Mi.wp_C ?_) | (with_reducible refine Mi.wp_asCons ?_) | (with_reducible refine Mi.wp_asNil ?_) | (with_reducible refine Mi.wp_call ?_) | (with_reducible refine Mi.wp_callIO ?_) | (with_reducible refine Mi.wp_args ?_) | (with_reducible refine Mi.wp_frzXn ?_) | (with_reducible refine Mi.wp_frzX0 ?_) | (with_reducible refine Mi.wp_frzXS ?_) | (with_reducible refine Mi.wp_frzsCons ?_) | (with_reducible refine Mi.wp_frzsNil ?_) | (with_reducible refine Mi.wp_frzD ?_) | (with_reducible refine Mi.wp_boolA ?_) | (with_reducible refine Mi.wp_blT ?_) | (with_reducible refine Mi.wp_tst ?_) | (with_reducible refine Mi.wp_andT ?_) | (with_reducible refine Mi.wp_orT ?_) | (with_reducible refine Mi.wp_notT ?_) | (with_reducible refine Mi.wp_ifA ?_) | (with_reducible refine Mi.wp_andA ?_) | (with_reducible refine Mi.wp_orA ?_) | (with_reducible refine Mi.wp_notA ?_) | (with_reducible refine Mi.wp_chainT ?_) | (with_reducible refine Mi.wp_cb ?_) | (with_reducible refine Mi.wp_un ?_) | (with_reducible refine Mi.wp_next ?_) | (with_reducible refine Mi.wp_asgN ?_) | (with_reducible refine Mi.wp_retNS ?_) | (with_reducible refine Mi.wp_drop ?_) | (with_reducible refine Mi.wp_par2 ?_) | (with_reducible refine Mi.wp_asgG ?_) | (with_reducible refine Mi.wp_subG ?_) | (with_reducible refine Mi.wp_appA ?_) | (with_reducible refine Mi.wp_tup ?_) | (with_reducible refine Mi.wp_lst ?_) | (with_reducible refine Mi.wp_new ?_) | (with_reducible refine Mi.wp_slice ?_) | (with_reducible refine Mi.wp_prtN ?_) | (with_reducible refine Mi.wp_prtS ?_) | (with_reducible refine Mi.wp_mt ?_) | (with_reducible refine Mi.wp_mt0 ?_) | (with_reducible refine Mi.wp_seqI ?_) | (with_reducible refine Mi.wp_compN ?_) | (with_reducible refine Mi.wp_fnI ?_) | (with_reducible refine Mi.wp_forS ?_) | (with_reducible refine Mi.wp_tgTup ?_) | (with_reducible refine Mi.wp_gsCons ?_) | (with_reducible refine Mi.wp_gsNil ?_) | (with_reducible refine Mi.wp_callN ?_) | ((with_reducible apply Mi.wp_putV); · rfl) | ((with_reducible apply Mi.wp_putN); · rfl) | (with_reducible refine Mi.wp_bnd ?_) | (with_reducible refine Mi.wp_ret ?_) | (with_reducible refine Mi.wp_opt ?_) | (with_reducible refine Mi.wp_view ?_) | ((with_reducible refine Mi.nm_a ?_); (try (conv => arg 1; simp only [Mi.putCell, Mi.wipeL, Mi.backL, Mi.pick, List.filterMap_cons, List.filterMap_nil, List.filterMap_cons_some, List.map_nil, List.map_cons, List.append_nil, List.nil_append, List.cons_append, List.getElem?_cons_zero, List.getElem?_cons_succ, List.set_cons_zero, List.set_cons_succ, List.getD_cons_zero, List.getD_cons_succ, Int.reduceToNat])); (with_reducible refine Mi.nm_b ?_)) | (with_reducible refine ⟨_, Mi.add_int, ?_⟩) | (with_reducible refine ⟨_, Mi.sub_int, ?_⟩) | (with_reducible refine ⟨_, Mi.lt_int, ?_⟩) | (with_reducible refine ⟨_, Mi.le_int, ?_⟩) | (with_reducible refine ⟨_, Mi.gt_int, ?_⟩) | (with_reducible refine ⟨_, Mi.ge_int, ?_⟩) | (with_reducible refine ⟨_, Mi.neg_int, ?_⟩) | (with_reducible refine ⟨_, Mi.asBl_bl, ?_⟩) | (with_reducible refine ⟨_, Mi.pow_lit (by decide) (by decide), ?_⟩) | (with_reducible refine ⟨_, Mi.mul_int (by decide), ?_⟩) | (with_reducible refine ⟨_, Mi.mod_int (by decide), ?_⟩) | (with_reducible refine ⟨_, Mi.fdiv_int (by decide), ?_⟩) | (with_reducible refine ⟨_, Mi.eqq_int, ?_⟩) | (with_reducible refine ⟨_, Mi.neq_int, ?_⟩) | (with_reducible refine Mi.ift_t ?_) | (with_reducible refine Mi.ift_f ?_) | (with_reducible refine Mi.ift_nt ?_) | (with_reducible refine Mi.ift_nf ?_) | ((with_reducible refine Mi.ift_bt ?_ ?_); · rfl) | ((with_reducible refine Mi.ift_bf ?_ ?_); · rfl) | (refine ⟨_, _, _, _, _, rfl, rfl, rfl, rfl, ?_⟩) | (refine ⟨_, _, rfl, rfl, ?_⟩) | (refine ⟨_, _, rfl, ?_⟩) | (refine ⟨⟨rfl, rfl, rfl⟩, ?_⟩) | (refine ⟨Nat.le_of_ble_eq_true rfl, ?_⟩) | (refine ⟨by decide, ?_⟩) | (refine ⟨_, rfl, ?_⟩) | (refine ⟨rfl, ?_⟩))); (try (with_reducible refine Mi.here ?_)))
      refine ⟨_, mul_int (show CMulW r2 (1 - 2 * r3) from by
        have e2 : r2.natAbs.log2 < 140 := log2_le h2 (Int.lt_trans h3 (by decide)) (by decide)
        have e3 : (1 - 2 * r3).natAbs.log2 < 50 := log2_lt (by omega) (by decide)
        show r2.natAbs.log2 + (1 - 2 * r3).natAbs.log2 < 1000000
        omega), ?_⟩
      ((repeat (first | (with_reducible refine Mi.wp_seq ?_) | (with_reducible refine Mi.wp_ifS ?_) | (with_reducible refine Mi.wp_asg ?_) | (with_reducible refine Mi.wp_retS ?_) | (with_reducible refine Mi.wp_bin ?_) | ((with_reducible apply Mi.wp_var1); · rfl) | (with_reducible refine Mi.wp_C ?_) | (with_reducible refine Mi.wp_asCons ?_) | (with_reducible refine Mi.wp_asNil ?_) | (with_reducible refine Mi.wp_call ?_) | (with_reducible refine Mi.wp_callIO ?_) | (with_reducible refine Mi.wp_args ?_) | (with_reducible refine Mi.wp_frzXn ?_) | (with_reducible refine Mi.wp_frzX0 ?_) | (with_reducible refine Mi.wp_frzXS ?_) | (with_reducible refine Mi.wp_frzsCons ?_) | (with_reducible refine Mi.wp_frzsNil ?_) | (with_reducible refine Mi.wp_frzD ?_) | (with_reducible refine Mi.wp_boolA ?_) | (with_reducible refine Mi.wp_blT ?_) | (with_reducible refine Mi.wp_tst ?_) | (with_reducible refine Mi.wp_andT ?_) | (with_reducible refine Mi.wp_orT ?_) | (with_reducible refine Mi.wp_notT ?_) | (with_reducible refine Mi.wp_ifA ?_) | (with_reducible refine Mi.wp_andA ?_) | (with_reducible refine Mi.wp_orA ?_) | (with_reducible refine Mi.wp_notA ?_) | (with_reducible refine Mi.wp_chainT ?_) | (with_reducible refine Mi.wp_cb ?_) | (with_reducible refine Mi.wp_un ?_) | (with_reducible refine Mi.wp_next ?_) | (with_reducible refine Mi.wp_asgN ?_) | (with_reducible refine Mi.wp_retNS ?_) | (with_reducible refine Mi.wp_drop ?_) | (with_reducible refine Mi.wp_par2 ?_) | (with_reducible refine Mi.wp_asgG ?_) | (with_reducible refine Mi.wp_subG ?_) | (with_reducible refine Mi.wp_appA ?_) | (with_reducible refine Mi.wp_tup ?_) | (with_reducible refine Mi.wp_lst ?_) | (with_reducible refine Mi.wp_new ?_) | (with_reducible refine Mi.wp_slice ?_) | (with_reducible refine Mi.wp_prtN ?_) | (with_reducible refine Mi.wp_prtS ?_) | (with_reducible refine Mi.wp_mt ?_) | (with_reducible refine Mi.wp_mt0 ?_) | (with_reducible refine Mi.wp_seqI ?_) | (with_reducible refine Mi.wp_compN ?_) | (with_reducible refine Mi.wp_fnI ?_) | (with_reducible refine Mi.wp_forS ?_) | (with_reducible refine Mi.wp_tgTup ?_) | (with_reducible refine Mi.wp_gsCons ?_) | (with_reducible refine Mi.wp_gsNil ?_) | (with_reducible refine Mi.wp_callN ?_) | ((with_reducible apply Mi.wp_putV); · rfl) | ((with_reducible apply Mi.wp_putN); · rfl) | (with_reducible refine Mi.wp_bnd ?_) | (with_reducible refine Mi.wp_ret ?_) | (with_reducible refine Mi.wp_opt ?_) | (with_reducible refine Mi.wp_view ?_) | ((with_reducible refine Mi.nm_a ?_); (try (conv => arg 1; simp only [Mi.putCell, Mi.wipeL, Mi.backL, Mi.pick, List.filterMap_cons, List.filterMap_nil, List.filterMap_cons_some, List.map_nil, List.map_cons, List.append_nil, List.nil_append, List.cons_append, List.getElem?_cons_zero, List.getElem?_cons_succ, List.set_cons_zero, List.set_cons_succ, List.getD_cons_zero, List.getD_cons_succ, Int.reduceToNat])); (with_reducible refine Mi.nm_b ?_)) | (with_reducible refine ⟨_, Mi.add_int, ?_⟩) | (with_reducible refine ⟨_, Mi.sub_int, ?_⟩) | (with_reducible refine ⟨_, Mi.lt_int, ?_⟩) | (with_reducible refine ⟨_, Mi.le_int, ?_⟩) | (with_reducible refine ⟨_, Mi.gt_int, ?_⟩) | (with_reducible refine ⟨_, Mi.ge_int, ?_⟩) | (with_reducible refine ⟨_, Mi.neg_int, ?_⟩) | (with_reducible refine ⟨_, Mi.asBl_bl, ?_⟩) | (with_reducible refine ⟨_, Mi.pow_lit (by decide) (by decide), ?_⟩) | (with_reducible refine ⟨_, Mi.mul_int (by decide), ?_⟩) | (with_reducible refine ⟨_, Mi.mod_int (by decide), ?_⟩) | (with_reducible refine ⟨_, Mi.fdiv_int (by decide), ?_⟩) | (with_reducible refine ⟨_, Mi.eqq_int, ?_⟩) | (with_reducible refine ⟨_, Mi.neq_int, ?_⟩) | (with_reducible refine Mi.ift_t ?_) | (with_reducible refine Mi.ift_f ?_) | (with_reducible refine Mi.ift_nt ?_) | (with_reducible refine Mi.ift_nf ?_) | ((with_reducible refine Mi.ift_bt ?_ ?_); · rfl) | ((with_reducible refine Mi.ift_bf ?_ ?_); · rfl) | (refine ⟨_, _, _, _, _, rfl, rfl, rfl, rfl, ?_⟩) | (refine ⟨_, _, rfl, rfl, ?_⟩) | (refine ⟨_, _, rfl, ?_⟩) | (refine ⟨⟨rfl, rfl, rfl⟩, ?_⟩) | (refine ⟨Nat.le_of_ble_eq_true rfl, ?_⟩) | (refine ⟨by decide, ?_⟩) | (refine ⟨_, rfl, ?_⟩) | (refine ⟨rfl, ?_⟩))); (try (with_reducible refine Mi.here ?_)))
      exact ⟨trivial, hj.mono (by omega)⟩
    · ((repeat (first | (with_reducible refine Mi.wp_seq ?_) | (with_reducible refine Mi.wp_ifS ?_) | (with_reducible refine Mi.wp_asg ?_) | (with_reducible refine Mi.wp_retS ?_) | (with_reducible refine Mi.wp_bin ?_) | ((with_reducible apply Mi.wp_var1); · rfl) | (with_reducible refine Mi.wp_C ?_) | (with_reducible refine Mi.wp_asCons ?_) | (with_reducible refine Mi.wp_asNil ?_) | (with_reducible refine Mi.wp_call ?_) | (with_reducible refine Mi.wp_callIO ?_) | (with_reducible refine Mi.wp_args ?_) | (with_reducible refine Mi.wp_frzXn ?_) | (with_reducible refine Mi.wp_frzX0 ?_) | (with_reducible refine Mi.wp_frzXS ?_) | (with_reducible refine Mi.wp_frzsCons ?_) | (with_reducible refine Mi.wp_frzsNil ?_) | (with_reducible refine Mi.wp_frzD ?_) | (with_reducible refine Mi.wp_boolA ?_) | (with_reducible refine Mi.wp_blT ?_) | (with_reducible refine Mi.wp_tst ?_) | (with_reducible refine Mi.wp_andT ?_) | (with_reducible refine Mi.wp_orT ?_) | (with_reducible refine Mi.wp_notT ?_) | (with_reducible refine Mi.wp_ifA ?_) | (with_reducible refine Mi.wp_andA ?_) | (with_reducible refine Mi.wp_orA ?_) | (with_reducible refine Mi.wp_notA ?_) | (with_reducible refine Mi.wp_chainT ?_) | (with_reducible refine Mi.wp_cb ?_) | (with_reducible refine Mi.wp_un ?_) | (with_reducible refine Mi.wp_next ?_) | (with_reducible refine Mi.wp_asgN ?_) | (with_reducible refine Mi.wp_retNS ?_) | (with_reducible refine Mi.wp_drop ?_) | (with_reducible refine Mi.wp_par2 ?_) | (with_reducible refine Mi.wp_asgG ?_) | (with_reducible refine Mi.wp_subG ?_) | (with_reducible refine Mi.wp_appA ?_) | (with_reducible refine Mi.wp_tup ?_) | (with_reducible refine Mi.wp_lst ?_) | (with_reducible refine Mi.wp_new ?_) | (with_reducible refine Mi.wp_slice ?_) | (with_reducible refine Mi.wp_prtN ?_) | (with_reducible refine Mi.wp_prtS ?_) | (with_reducible refine Mi.wp_mt ?_) | (with_reducible refine Mi.wp_mt0 ?_) | (with_reducible refine Mi.wp_seqI ?_) | (with_reducible refine Mi.wp_compN ?_) | (with_reducible refine Mi.wp_fnI ?_) | (with_reducible refine Mi.wp_forS ?_) | (with_reducible refine Mi.wp_tgTup ?_) | (with_reducible refine Mi.wp_gsCons ?_) | (with_reducible refine Mi.wp_gsNil ?_) | (with_reducible refine Mi.wp_callN ?_) | ((with_reducible apply Mi.wp_putV); · rfl) | ((with_reducible apply Mi.wp_putN); · rfl) | (with_reducible refine Mi.wp_bnd ?_) | (with_reducible refine Mi.wp_ret ?_) | (with_reducible refine Mi.wp_opt ?_) | (with_reducible refine Mi.wp_view ?_) | ((with_reducible refine Mi.nm_a ?_); (try (conv => arg 1; simp only [Mi.putCell, Mi.wipeL, Mi.backL, Mi.pick, List.filterMap_cons, List.filterMap_nil, List.filterMap_cons_some, List.map_nil, List.map_cons, List.append_nil, List.nil_append, List.cons_append, List.getElem?_cons_zero, List.getElem?_cons_succ, List.set_cons_zero, List.set_cons_succ, List.getD_cons_zero, List.getD_cons_succ, Int.reduceToNat])); (with_reducible refine Mi.nm_b ?_)) | (with_reducible refine ⟨_, Mi.add_int, ?_⟩) | (with_reducible refine ⟨_, Mi.sub_int, ?_⟩) | (with_reducible refine ⟨_, Mi.lt_int, ?_⟩) | (with_reducible refine ⟨_, Mi.le_int, ?_⟩) | (with_reducible refine ⟨_, Mi.gt_int, ?_⟩) | (with_reducible refine ⟨_, Mi.ge_int, ?_⟩) | (with_reducible refine ⟨_, Mi.neg_int, ?_⟩) | (with_reducible refine ⟨_, Mi.asBl_bl, ?_⟩) | (with_reducible refine ⟨_, Mi.pow_lit (by decide) (by decide), ?_⟩) | (with_reducible refine ⟨_, Mi.mul_int (by decide), ?_⟩) | (with_reducible refine ⟨_, Mi.mod_int (by decide), ?_⟩) | (with_reducible refine ⟨_, Mi.fdiv_int (by decide), ?_⟩) | (with_reducible refine ⟨_, Mi.eqq_int, ?_⟩) | (with_reducible refine ⟨_, Mi.neq_int, ?_⟩) | (with_reducible refine Mi.ift_t ?_) | (with_reducible refine Mi.ift_f ?_) | (with_reducible refine Mi.ift_nt ?_) | (with_reducible refine Mi.ift_nf ?_) | ((with_reducible refine Mi.ift_bt ?_ ?_); · rfl) | ((with_reducible refine Mi.ift_bf ?_ ?_); · rfl) | (refine ⟨_, _, _, _, _, rfl, rfl, rfl, rfl, ?_⟩) | (refine ⟨_, _, rfl, rfl, ?_⟩) | (refine ⟨_, _, rfl, ?_⟩) | (refine ⟨⟨rfl, rfl, rfl⟩, ?_⟩) | (refine ⟨Nat.le_of_ble_eq_true rfl, ?_⟩) | (refine ⟨by decide, ?_⟩) | (refine ⟨_, rfl, ?_⟩) | (refine ⟨rfl, ?_⟩))); (try (with_reducible refine Mi.here ?_)))
      refine ⟨fun h => ?_, fun h => ?_⟩
      · ((repeat (first | (with_reducible refine Mi.wp_seq ?_) | (with_reducible refine Mi.wp_ifS ?_) | (with_reducible refine Mi.wp_asg ?_) | (with_reducible refine Mi.wp_retS ?_) | (with_reducible refine Mi.wp_bin ?_) | ((with_reducible apply Mi.wp_var1); · rfl) | (with_reducible refine Mi.wp_C ?_) | (with_reducible refine Mi.wp_asCons ?_) | (with_reducible refine Mi.wp_asNil ?_) | (with_reducible refine Mi.wp_call ?_) | (with_reducible refine Mi.wp_callIO ?_) | (with_reducible refine Mi.wp_args ?_) | (with_reducible refine Mi.wp_frzXn ?_) | (with_reducible refine Mi.wp_frzX0 ?_) | (with_reducible refine Mi.wp_frzXS ?_) | (with_reducible refine Mi.wp_frzsCons ?_) | (with_reducible refine Mi.wp_frzsNil ?_) | (with_reducible refine Mi.wp_frzD ?_) | (with_reducible refine Mi.wp_boolA ?_) | (with_reducible refine Mi.wp_blT ?_) | (with_reducible refine Mi.wp_tst ?_) | (with_reducible refine Mi.wp_andT ?_) | (with_reducible refine Mi.wp_orT ?_) | (with_reducible refine Mi.wp_notT ?_) | (with_reducible refine Mi.wp_ifA ?_) | (with_reducible refine Mi.wp_andA ?_) | (with_reducible refine Mi.wp_orA ?_) | (with_reducible refine Mi.wp_notA ?_) | (with_reducible refine Mi.wp_chainT ?_) | (with_reducible refine Mi.wp_cb ?_) | (with_reducible refine Mi.wp_un ?_) | (with_reducible refine Mi.wp_next ?_) | (with_reducible refine Mi.wp_asgN ?_) | (with_reducible refine Mi.wp_retNS ?_) | (with_reducible refine Mi.wp_drop ?_) | (with_reducible refine Mi.wp_par2 ?_) | (with_reducible refine Mi.wp_asgG ?_) | (with_reducible refine Mi.wp_subG ?_) | (with_reducible refine Mi.wp_appA ?_) | (with_reducible refine Mi.wp_tup ?_) | (with_reducible refine Mi.wp_lst ?_) | (with_reducible refine Mi.wp_new ?_) | (with_reducible refine Mi.wp_slice ?_) | (with_reducible refine Mi.wp_prtN ?_) | (with_reducible refine Mi.wp_prtS ?_) | (with_reducible refine Mi.wp_mt ?_) | (with_reducible refine Mi.wp_mt0 ?_) | (with_reducible refine Mi.wp_seqI ?_) | (with_reducible refine Mi.wp_compN ?_) | (with_reducible refine Mi.wp_fnI ?_) | (with_reducible refine Mi.wp_forS ?_) | (with_reducible refine Mi.wp_tgTup ?_) | (with_reducible refine Mi.wp_gsCons ?_) | (with_reducible refine Mi.wp_gsNil ?_) | (with_reducible refine Mi.wp_callN ?_) | ((with_reducible apply Mi.wp_putV); · rfl) | ((with_reducible apply Mi.wp_putN); · rfl) | (with_reducible refine Mi.wp_bnd ?_) | (with_reducible refine Mi.wp_ret ?_) | (with_reducible refine Mi.wp_opt ?_) | (with_reducible refine Mi.wp_view ?_) | ((with_reducible refine Mi.nm_a ?_); (try (conv => arg 1; simp only [Mi.putCell, Mi.wipeL, Mi.backL, Mi.pick, List.filterMap_cons, List.filterMap_nil, List.filterMap_cons_some, List.map_nil, List.map_cons, List.append_nil, List.nil_append, List.cons_append, List.getElem?_cons_zero, List.getElem?_cons_succ, List.set_cons_zero, List.set_cons_succ, List.getD_cons_zero, List.getD_cons_succ, Int.reduceToNat])); (with_reducible refine Mi.nm_b ?_)) | (with_reducible refine ⟨_, Mi.add_int, ?_⟩) | (with_reducible refine ⟨_, Mi.sub_int, ?_⟩) | (with_reducible refine ⟨_, Mi.lt_int, ?_⟩) | (with_reducible refine ⟨_, Mi.le_int, ?_⟩) | (with_reducible refine ⟨_, Mi.gt_int, ?_⟩) | (with_reducible refine ⟨_, Mi.ge_int, ?_⟩) | (with_reducible refine ⟨_, Mi.neg_int, ?_⟩) | (with_reducible refine ⟨_, Mi.asBl_bl, ?_⟩) | (with_reducible refine ⟨_, Mi.pow_lit (by decide) (by decide), ?_⟩) | (with_reducible refine ⟨_, Mi.mul_int (by decide), ?_⟩) | (with_reducible refine ⟨_, Mi.mod_int (by decide), ?_⟩) | (with_reducible refine ⟨_, Mi.fdiv_int (by decide), ?_⟩) | (with_reducible refine ⟨_, Mi.eqq_int, ?_⟩) | (with_reducible refine ⟨_, Mi.neq_int, ?_⟩) | (with_reducible refine Mi.ift_t ?_) | (with_reducible refine Mi.ift_f ?_) | (with_reducible refine Mi.ift_nt ?_) | (with_reducible refine Mi.ift_nf ?_) | ((with_reducible refine Mi.ift_bt ?_ ?_); · rfl) | ((with_reducible refine Mi.ift_bf ?_ ?_); · rfl) | (refine ⟨_, _, _, _, _, rfl, rfl, rfl, rfl, ?_⟩) | (refine ⟨_, _, rfl, rfl, ?_⟩) | (refine ⟨_, _, rfl, ?_⟩) | (refine ⟨⟨rfl, rfl, rfl⟩, ?_⟩) | (refine ⟨Nat.le_of_ble_eq_true rfl, ?_⟩) | (refine ⟨by decide, ?_⟩) | (refine ⟨_, rfl, ?_⟩) | (refine ⟨rfl, ?_⟩))); (try (with_reducible refine Mi.here ?_)))
        refine fp_text hj (by omega) fun s o hs hj => ?_
        ((repeat (first | (with_reducible refine Mi.wp_seq ?_) | (with_reducible refine Mi.wp_ifS ?_) | (with_reducible refine Mi.wp_asg ?_) | (with_reducible refine Mi.wp_retS ?_) | (with_reducible refine Mi.wp_bin ?_) | ((with_reducible apply Mi.wp_var1); · rfl) | (with_reducible refine Mi.wp_C ?_) | (with_reducible refine Mi.wp_asCons ?_) | (with_reducible refine Mi.wp_asNil ?_) | (with_reducible refine Mi.wp_call ?_) | (with_reducible refine Mi.wp_callIO ?_) | (with_reducible refine Mi.wp_args ?_) | (with_reducible refine Mi.wp_frzXn ?_) | (with_reducible refine Mi.wp_frzX0 ?_) | (with_reducible refine Mi.wp_frzXS ?_) | (with_reducible refine Mi.wp_frzsCons ?_) | (with_reducible refine Mi.wp_frzsNil ?_) | (with_reducible refine Mi.wp_frzD ?_) | (with_reducible refine Mi.wp_boolA ?_) | (with_reducible refine Mi.wp_blT ?_) | (with_reducible refine Mi.wp_tst ?_) | (with_reducible refine Mi.wp_andT ?_) | (with_reducible refine Mi.wp_orT ?_) | (with_reducible refine Mi.wp_notT ?_) | (with_reducible refine Mi.wp_ifA ?_) | (with_reducible refine Mi.wp_andA ?_) | (with_reducible refine Mi.wp_orA ?_) | (with_reducible refine Mi.wp_notA ?_) | (with_reducible refine Mi.wp_chainT ?_) | (with_reducible refine Mi.wp_cb ?_) | (with_reducible refine Mi.wp_un ?_) | (with_reducible refine Mi.wp_next ?_) | (with_reducible refine Mi.wp_asgN ?_) | (with_reducible refine Mi.wp_retNS ?_) | (with_reducible refine Mi.wp_drop ?_) | (with_reducible refine Mi.wp_par2 ?_) | (with_reducible refine Mi.wp_asgG ?_) | (with_reducible refine Mi.wp_subG ?_) | (with_reducible refine Mi.wp_appA ?_) | (with_reducible refine Mi.wp_tup ?_) | (with_reducible refine Mi.wp_lst ?_) | (with_reducible refine Mi.wp_new ?_) | (with_reducible refine Mi.wp_slice ?_) | (with_reducible refine Mi.wp_prtN ?_) | (with_reducible refine Mi.wp_prtS ?_) | (with_reducible refine Mi.wp_mt ?_) | (with_reducible refine Mi.wp_mt0 ?_) | (with_reducible refine Mi.wp_seqI ?_) | (with_reducible refine Mi.wp_compN ?_) | (with_reducible refine Mi.wp_fnI ?_) | (with_reducible refine Mi.wp_forS ?_) | (with_reducible refine Mi.wp_tgTup ?_) | (with_reducible refine Mi.wp_gsCons ?_) | (with_reducible refine Mi.wp_gsNil ?_) | (with_reducible refine Mi.wp_callN ?_) | ((with_reducible apply Mi.wp_putV); · rfl) | ((with_reducible apply Mi.wp_putN); · rfl) | (with_reducible refine Mi.wp_bnd ?_) | (with_reducible refine Mi.wp_ret ?_) | (with_reducible refine Mi.wp_opt ?_) | (with_reducible refine Mi.wp_view ?_) | ((with_reducible refine Mi.nm_a ?_); (try (conv => arg 1; simp only [Mi.putCell, Mi.wipeL, Mi.backL, Mi.pick, List.filterMap_cons, List.filterMap_nil, List.filterMap_cons_some, List.map_nil, List.map_cons, List.append_nil, List.nil_append, List.cons_append, List.getElem?_cons_zero, List.getElem?_cons_succ, List.set_cons_zero, List.set_cons_succ, List.getD_cons_zero, List.getD_cons_succ, Int.reduceToNat])); (with_reducible refine Mi.nm_b ?_)) | (with_reducible refine ⟨_, Mi.add_int, ?_⟩) | (with_reducible refine ⟨_, Mi.sub_int, ?_⟩) | (with_reducible refine ⟨_, Mi.lt_int, ?_⟩) | (with_reducible refine ⟨_, Mi.le_int, ?_⟩) | (with_reducible refine ⟨_, Mi.gt_int, ?_⟩) | (with_reducible refine ⟨_, Mi.ge_int, ?_⟩) | (with_reducible refine ⟨_, Mi.neg_int, ?_⟩) | (with_reducible refine ⟨_, Mi.asBl_bl, ?_⟩) | (with_reducible refine ⟨_, Mi.pow_lit (by decide) (by decide), ?_⟩) | (with_reducible refine ⟨_, Mi.mul_int (by decide), ?_⟩) | (with_reducible refine ⟨_, Mi.mod_int (by decide), ?_⟩) | (with_reducible refine ⟨_, Mi.fdiv_int (by decide), ?_⟩) | (with_reducible refine ⟨_, Mi.eqq_int, ?_⟩) | (with_reducible refine ⟨_, Mi.neq_int, ?_⟩) | (with_reducible refine Mi.ift_t ?_) | (with_reducible refine Mi.ift_f ?_) | (with_reducible refine Mi.ift_nt ?_) | (with_reducible refine Mi.ift_nf ?_) | ((with_reducible refine Mi.ift_bt ?_ ?_); · rfl) | ((with_reducible refine Mi.ift_bf ?_ ?_); · rfl) | (refine ⟨_, _, _, _, _, rfl, rfl, rfl, rfl, ?_⟩) | (refine ⟨_, _, rfl, rfl, ?_⟩) | (refine ⟨_, _, rfl, ?_⟩) | (refine ⟨⟨rfl, rfl, rfl⟩, ?_⟩) | (refine ⟨Nat.le_of_ble_eq_true rfl, ?_⟩) | (refine ⟨by decide, ?_⟩) | (refine ⟨_, rfl, ?_⟩) | (refine ⟨rfl, ?_⟩))); (try (with_reducible refine Mi.here ?_)))
        exact ⟨hs, hj.mono (by omega)⟩
      · ((repeat (first | (with_reducible refine Mi.wp_seq ?_) | (with_reducible refine Mi.wp_ifS ?_) | (with_reducible refine Mi.wp_asg ?_) | (with_reducible refine Mi.wp_retS ?_) | (with_reducible refine Mi.wp_bin ?_) | ((with_reducible apply Mi.wp_var1); · rfl) | (with_reducible refine Mi.wp_C ?_) | (with_reducible refine Mi.wp_asCons ?_) | (with_reducible refine Mi.wp_asNil ?_) | (with_reducible refine Mi.wp_call ?_) | (with_reducible refine Mi.wp_callIO ?_) | (with_reducible refine Mi.wp_args ?_) | (with_reducible refine Mi.wp_frzXn ?_) | (with_reducible refine Mi.wp_frzX0 ?_) | (with_reducible refine Mi.wp_frzXS ?_) | (with_reducible refine Mi.wp_frzsCons ?_) | (with_reducible refine Mi.wp_frzsNil ?_) | (with_reducible refine Mi.wp_frzD ?_) | (with_reducible refine Mi.wp_boolA ?_) | (with_reducible refine Mi.wp_blT ?_) | (with_reducible refine Mi.wp_tst ?_) | (with_reducible refine Mi.wp_andT ?_) | (with_reducible refine Mi.wp_orT ?_) | (with_reducible refine Mi.wp_notT ?_) | (with_reducible refine Mi.wp_ifA ?_) | (with_reducible refine Mi.wp_andA ?_) | (with_reducible refine Mi.wp_orA ?_) | (with_reducible refine Mi.wp_notA ?_) | (with_reducible refine Mi.wp_chainT ?_) | (with_reducible refine Mi.wp_cb ?_) | (with_reducible refine Mi.wp_un ?_) | (with_reducible refine Mi.wp_next ?_) | (with_reducible refine Mi.wp_asgN ?_) | (with_reducible refine Mi.wp_retNS ?_) | (with_reducible refine Mi.wp_drop ?_) | (with_reducible refine Mi.wp_par2 ?_) | (with_reducible refine Mi.wp_asgG ?_) | (with_reducible refine Mi.wp_subG ?_) | (with_reducible refine Mi.wp_appA ?_) | (with_reducible refine Mi.wp_tup ?_) | (with_reducible refine Mi.wp_lst ?_) | (with_reducible refine Mi.wp_new ?_) | (with_reducible refine Mi.wp_slice ?_) | (with_reducible refine Mi.wp_prtN ?_) | (with_reducible refine Mi.wp_prtS ?_) | (with_reducible refine Mi.wp_mt ?_) | (with_reducible refine Mi.wp_mt0 ?_) | (with_reducible refine Mi.wp_seqI ?_) | (with_reducible refine Mi.wp_compN ?_) | (with_reducible refine Mi.wp_fnI ?_) | (with_reducible refine Mi.wp_forS ?_) | (with_reducible refine Mi.wp_tgTup ?_) | (with_reducible refine Mi.wp_gsCons ?_) | (with_reducible refine Mi.wp_gsNil ?_) | (with_reducible refine Mi.wp_callN ?_) | ((with_reducible apply Mi.wp_putV); · rfl) | ((with_reducible apply Mi.wp_putN); · rfl) | (with_reducible refine Mi.wp_bnd ?_) | (with_reducible refine Mi.wp_ret ?_) | (with_reducible refine Mi.wp_opt ?_) | (with_reducible refine Mi.wp_view ?_) | ((with_reducible refine Mi.nm_a ?_); (try (conv => arg 1; simp only [Mi.putCell, Mi.wipeL, Mi.backL, Mi.pick, List.filterMap_cons, List.filterMap_nil, List.filterMap_cons_some, List.map_nil, List.map_cons, List.append_nil, List.nil_append, List.cons_append, List.getElem?_cons_zero, List.getElem?_cons_succ, List.set_cons_zero, List.set_cons_succ, List.getD_cons_zero, List.getD_cons_succ, Int.reduceToNat])); (with_reducible refine Mi.nm_b ?_)) | (with_reducible refine ⟨_, Mi.add_int, ?_⟩) | (with_reducible refine ⟨_, Mi.sub_int, ?_⟩) | (with_reducible refine ⟨_, Mi.lt_int, ?_⟩) | (with_reducible refine ⟨_, Mi.le_int, ?_⟩) | (with_reducible refine ⟨_, Mi.gt_int, ?_⟩) | (with_reducible refine ⟨_, Mi.ge_int, ?_⟩) | (with_reducible refine ⟨_, Mi.neg_int, ?_⟩) | (with_reducible refine ⟨_, Mi.asBl_bl, ?_⟩) | (with_reducible refine ⟨_, Mi.pow_lit (by decide) (by decide), ?_⟩) | (with_reducible refine ⟨_, Mi.mul_int (by decide), ?_⟩) | (with_reducible refine ⟨_, Mi.mod_int (by decide), ?_⟩) | (with_reducible refine ⟨_, Mi.fdiv_int (by decide), ?_⟩) | (with_reducible refine ⟨_, Mi.eqq_int, ?_⟩) | (with_reducible refine ⟨_, Mi.neq_int, ?_⟩) | (with_reducible refine Mi.ift_t ?_) | (with_reducible refine Mi.ift_f ?_) | (with_reducible refine Mi.ift_nt ?_) | (with_reducible refine Mi.ift_nf ?_) | ((with_reducible refine Mi.ift_bt ?_ ?_); · rfl) | ((with_reducible refine Mi.ift_bf ?_ ?_); · rfl) | (refine ⟨_, _, _, _, _, rfl, rfl, rfl, rfl, ?_⟩) | (refine ⟨_, _, rfl, rfl, ?_⟩) | (refine ⟨_, _, rfl, ?_⟩) | (refine ⟨⟨rfl, rfl, rfl⟩, ?_⟩) | (refine ⟨Nat.le_of_ble_eq_true rfl, ?_⟩) | (refine ⟨by decide, ?_⟩) | (refine ⟨_, rfl, ?_⟩) | (refine ⟨rfl, ?_⟩))); (try (with_reducible refine Mi.here ?_)))
        refine fp_pour hj (by omega) (show (0 : Int) < 16 by decide) (show (16 : Int).natAbs.log2 < 9000 by decide) fun r2 o2 h2 h3 hj => ?_
        ((repeat (first | (with_reducible refine Mi.wp_seq ?_) | (with_reducible refine Mi.wp_ifS ?_) | (with_reducible refine Mi.wp_asg ?_) | (with_reducible refine Mi.wp_retS ?_) | (with_reducible refine Mi.wp_bin ?_) | ((with_reducible apply Mi.wp_var1); · rfl) | (with_reducible refine Mi.wp_C ?_) | (with_reducible refine Mi.wp_asCons ?_) | (with_reducible refine Mi.wp_asNil ?_) | (with_reducible refine Mi.wp_call ?_) | (with_reducible refine Mi.wp_callIO ?_) | (with_reducible refine Mi.wp_args ?_) | (with_reducible refine Mi.wp_frzXn ?_) | (with_reducible refine Mi.wp_frzX0 ?_) | (with_reducible refine Mi.wp_frzXS ?_) | (with_reducible refine Mi.wp_frzsCons ?_) | (with_reducible refine Mi.wp_frzsNil ?_) | (with_reducible refine Mi.wp_frzD ?_) | (with_reducible refine Mi.wp_boolA ?_) | (with_reducible refine Mi.wp_blT ?_) | (with_reducible refine Mi.wp_tst ?_) | (with_reducible refine Mi.wp_andT ?_) | (with_reducible refine Mi.wp_orT ?_) | (with_reducible refine Mi.wp_notT ?_) | (with_reducible refine Mi.wp_ifA ?_) | (with_reducible refine Mi.wp_andA ?_) | (with_reducible refine Mi.wp_orA ?_) | (with_reducible refine Mi.wp_notA ?_) | (with_reducible refine Mi.wp_chainT ?_) | (with_reducible refine Mi.wp_cb ?_) | (with_reducible refine Mi.wp_un ?_) | (with_reducible refine Mi.wp_next ?_) | (with_reducible refine Mi.wp_asgN ?_) | (with_reducible refine Mi.wp_retNS ?_) | (with_reducible refine Mi.wp_drop ?_) | (with_reducible refine Mi.wp_par2 ?_) | (with_reducible refine Mi.wp_asgG ?_) | (with_reducible refine Mi.wp_subG ?_) | (with_reducible refine Mi.wp_appA ?_) | (with_reducible refine Mi.wp_tup ?_) | (with_reducible refine Mi.wp_lst ?_) | (with_reducible refine Mi.wp_new ?_) | (with_reducible refine Mi.wp_slice ?_) | (with_reducible refine Mi.wp_prtN ?_) | (with_reducible refine Mi.wp_prtS ?_) | (with_reducible refine Mi.wp_mt ?_) | (with_reducible refine Mi.wp_mt0 ?_) | (with_reducible refine Mi.wp_seqI ?_) | (with_reducible refine Mi.wp_compN ?_) | (with_reducible refine Mi.wp_fnI ?_) | (with_reducible refine Mi.wp_forS ?_) | (with_reducible refine Mi.wp_tgTup ?_) | (with_reducible refine Mi.wp_gsCons ?_) | (with_reducible refine Mi.wp_gsNil ?_) | (with_reducible refine Mi.wp_callN ?_) | ((with_reducible apply Mi.wp_putV); · rfl) | ((with_reducible apply Mi.wp_putN); · rfl) | (with_reducible refine Mi.wp_bnd ?_) | (with_reducible refine Mi.wp_ret ?_) | (with_reducible refine Mi.wp_opt ?_) | (with_reducible refine Mi.wp_view ?_) | ((with_reducible refine Mi.nm_a ?_); (try (conv => arg 1; simp only [Mi.putCell, Mi.wipeL, Mi.backL, Mi.pick, List.filterMap_cons, List.filterMap_nil, List.filterMap_cons_some, List.map_nil, List.map_cons, List.append_nil, List.nil_append, List.cons_append, List.getElem?_cons_zero, List.getElem?_cons_succ, List.set_cons_zero, List.set_cons_succ, List.getD_cons_zero, List.getD_cons_succ, Int.reduceToNat])); (with_reducible refine Mi.nm_b ?_)) | (with_reducible refine ⟨_, Mi.add_int, ?_⟩) | (with_reducible refine ⟨_, Mi.sub_int, ?_⟩) | (with_reducible refine ⟨_, Mi.lt_int, ?_⟩) | (with_reducible refine ⟨_, Mi.le_int, ?_⟩) | (with_reducible refine ⟨_, Mi.gt_int, ?_⟩) | (with_reducible refine ⟨_, Mi.ge_int, ?_⟩) | (with_reducible refine ⟨_, Mi.neg_int, ?_⟩) | (with_reducible refine ⟨_, Mi.asBl_bl, ?_⟩) | (with_reducible refine ⟨_, Mi.pow_lit (by decide) (by decide), ?_⟩) | (with_reducible refine ⟨_, Mi.mul_int (by decide), ?_⟩) | (with_reducible refine ⟨_, Mi.mod_int (by decide), ?_⟩) | (with_reducible refine ⟨_, Mi.fdiv_int (by decide), ?_⟩) | (with_reducible refine ⟨_, Mi.eqq_int, ?_⟩) | (with_reducible refine ⟨_, Mi.neq_int, ?_⟩) | (with_reducible refine Mi.ift_t ?_) | (with_reducible refine Mi.ift_f ?_) | (with_reducible refine Mi.ift_nt ?_) | (with_reducible refine Mi.ift_nf ?_) | ((with_reducible refine Mi.ift_bt ?_ ?_); · rfl) | ((with_reducible refine Mi.ift_bf ?_ ?_); · rfl) | (refine ⟨_, _, _, _, _, rfl, rfl, rfl, rfl, ?_⟩) | (refine ⟨_, _, rfl, rfl, ?_⟩) | (refine ⟨_, _, rfl, ?_⟩) | (refine ⟨⟨rfl, rfl, rfl⟩, ?_⟩) | (refine ⟨Nat.le_of_ble_eq_true rfl, ?_⟩) | (refine ⟨by decide, ?_⟩) | (refine ⟨_, rfl, ?_⟩) | (refine ⟨rfl, ?_⟩))); (try (with_reducible refine Mi.here ?_)))
        refine plain_ix h2 h3 fun d e hd => ⟨_, e, ?_⟩
        ((repeat (first | (with_reducible refine Mi.wp_seq ?_) | (with_reducible refine Mi.wp_ifS ?_) | (with_reducible refine Mi.wp_asg ?_) | (with_reducible refine Mi.wp_retS ?_) | (with_reducible refine Mi.wp_bin ?_) | ((with_reducible apply Mi.wp_var1); · rfl) | (with_reducible refine Mi.wp_C ?_) | (with_reducible refine Mi.wp_asCons ?_) | (with_reducible refine Mi.wp_asNil ?_) | (with_reducible refine Mi.wp_call ?_) | (with_reducible refine Mi.wp_callIO ?_) | (with_reducible refine Mi.wp_args ?_) | (with_reducible refine Mi.wp_frzXn ?_) | (with_reducible refine Mi.wp_frzX0 ?_) | (with_reducible refine Mi.wp_frzXS ?_) | (with_reducible refine Mi.wp_frzsCons ?_) | (with_reducible refine Mi.wp_frzsNil ?_) | (with_reducible refine Mi.wp_frzD ?_) | (with_reducible refine Mi.wp_boolA ?_) | (with_reducible refine Mi.wp_blT ?_) | (with_reducible refine Mi.wp_tst ?_) | (with_reducible refine Mi.wp_andT ?_) | (with_reducible refine Mi.wp_orT ?_) | (with_reducible refine Mi.wp_notT ?_) | (with_reducible refine Mi.wp_ifA ?_) | (with_reducible refine Mi.wp_andA ?_) | (with_reducible refine Mi.wp_orA ?_) | (with_reducible refine Mi.wp_notA ?_) | (with_reducible refine Mi.wp_chainT ?_) | (with_reducible refine Mi.wp_cb ?_) | (with_reducible refine Mi.wp_un ?_) | (with_reducible refine Mi.wp_next ?_) | (with_reducible refine Mi.wp_asgN ?_) | (with_reducible refine Mi.wp_retNS ?_) | (with_reducible refine Mi.wp_drop ?_) | (with_reducible refine Mi.wp_par2 ?_) | (with_reducible refine Mi.wp_asgG ?_) | (with_reducible refine Mi.wp_subG ?_) | (with_reducible refine Mi.wp_appA ?_) | (with_reducible refine Mi.wp_tup ?_) | (with_reducible refine Mi.wp_lst ?_) | (with_reducible refine Mi.wp_new ?_) | (with_reducible refine Mi.wp_slice ?_) | (with_reducible refine Mi.wp_prtN ?_) | (with_reducible refine Mi.wp_prtS ?_) | (with_reducible refine Mi.wp_mt ?_) | (with_reducible refine Mi.wp_mt0 ?_) | (with_reducible refine Mi.wp_seqI ?_) | (with_reducible refine Mi.wp_compN ?_) | (with_reducible refine Mi.wp_fnI ?_) | (with_reducible refine Mi.wp_forS ?_) | (with_reducible refine Mi.wp_tgTup ?_) | (with_reducible refine Mi.wp_gsCons ?_) | (with_reducible refine Mi.wp_gsNil ?_) | (with_reducible refine Mi.wp_callN ?_) | ((with_reducible apply Mi.wp_putV); · rfl) | ((with_reducible apply Mi.wp_putN); · rfl) | (with_reducible refine Mi.wp_bnd ?_) | (with_reducible refine Mi.wp_ret ?_) | (with_reducible refine Mi.wp_opt ?_) | (with_reducible refine Mi.wp_view ?_) | ((with_reducible refine Mi.nm_a ?_); (try (conv => arg 1; simp only [Mi.putCell, Mi.wipeL, Mi.backL, Mi.pick, List.filterMap_cons, List.filterMap_nil, List.filterMap_cons_some, List.map_nil, List.map_cons, List.append_nil, List.nil_append, List.cons_append, List.getElem?_cons_zero, List.getElem?_cons_succ, List.set_cons_zero, List.set_cons_succ, List.getD_cons_zero, List.getD_cons_succ, Int.reduceToNat])); (with_reducible refine Mi.nm_b ?_)) | (with_reducible refine ⟨_, Mi.add_int, ?_⟩) | (with_reducible refine ⟨_, Mi.sub_int, ?_⟩) | (with_reducible refine ⟨_, Mi.lt_int, ?_⟩) | (with_reducible refine ⟨_, Mi.le_int, ?_⟩) | (with_reducible refine ⟨_, Mi.gt_int, ?_⟩) | (with_reducible refine ⟨_, Mi.ge_int, ?_⟩) | (with_reducible refine ⟨_, Mi.neg_int, ?_⟩) | (with_reducible refine ⟨_, Mi.asBl_bl, ?_⟩) | (with_reducible refine ⟨_, Mi.pow_lit (by decide) (by decide), ?_⟩) | (with_reducible refine ⟨_, Mi.mul_int (by decide), ?_⟩) | (with_reducible refine ⟨_, Mi.mod_int (by decide), ?_⟩) | (with_reducible refine ⟨_, Mi.fdiv_int (by decide), ?_⟩) | (with_reducible refine ⟨_, Mi.eqq_int, ?_⟩) | (with_reducible refine ⟨_, Mi.neq_int, ?_⟩) | (with_reducible refine Mi.ift_t ?_) | (with_reducible refine Mi.ift_f ?_) | (with_reducible refine Mi.ift_nt ?_) | (with_reducible refine Mi.ift_nf ?_) | ((with_reducible refine Mi.ift_bt ?_ ?_); · rfl) | ((with_reducible refine Mi.ift_bf ?_ ?_); · rfl) | (refine ⟨_, _, _, _, _, rfl, rfl, rfl, rfl, ?_⟩) | (refine ⟨_, _, rfl, rfl, ?_⟩) | (refine ⟨_, _, rfl, ?_⟩) | (refine ⟨⟨rfl, rfl, rfl⟩, ?_⟩) | (refine ⟨Nat.le_of_ble_eq_true rfl, ?_⟩) | (refine ⟨by decide, ?_⟩) | (refine ⟨_, rfl, ?_⟩) | (refine ⟨rfl, ?_⟩))); (try (with_reducible refine Mi.here ?_)))
        exact ⟨hd, hj.mono (by omega)⟩
  obtain ⟨d, o, e, h⟩ := fp_ex z
  exact ⟨d, o, e, h⟩
def isI : D → Bool
  | .int _ => true
  | _ => false
theorem int_ok {d : D} (hv : VOk d) : f_is_integer [d] = .ok (.bl (isI d)) .non := by
  have z : Fp (f_is_integer [d]) noX fun r o => r = .bl (isI d) ∧ o = .non := by
    refine fp_run (ρ := [.val _]) rfl ?_
    unfold m_is_integer
    cases d <;> first
      | exact hv.elim
      | (((repeat (first | (with_reducible refine Mi.wp_seq ?_) | (with_reducible refine Mi.wp_ifS ?_) | (with_reducible refine Mi.wp_asg ?_) | (with_reducible refine Mi.wp_retS ?_) | (with_reducible refine Mi.wp_bin ?_) | ((with_reducible apply Mi.wp_var1); · rfl) | (with_reducible refine Mi.wp_C ?_) | (with_reducible refine Mi.wp_asCons ?_) | (with_reducible refine Mi.wp_asNil ?_) | (with_reducible refine Mi.wp_call ?_) | (with_reducible refine Mi.wp_callIO ?_) | (with_reducible refine Mi.wp_args ?_) | (with_reducible refine Mi.wp_frzXn ?_) | (with_reducible refine Mi.wp_frzX0 ?_) | (with_reducible refine Mi.wp_frzXS ?_) | (with_reducible refine Mi.wp_frzsCons ?_) | (with_reducible refine Mi.wp_frzsNil ?_) | (with_reducible refine Mi.wp_frzD ?_) | (with_reducible refine Mi.wp_boolA ?_) | (with_reducible refine Mi.wp_blT ?_) | (with_reducible refine Mi.wp_tst ?_) | (with_reducible refine Mi.wp_andT ?_) | (with_reducible refine Mi.wp_orT ?_) | (with_reducible refine Mi.wp_notT ?_) | (with_reducible refine Mi.wp_ifA ?_) | (with_reducible refine Mi.wp_andA ?_) | (with_reducible refine Mi.wp_orA ?_) | (with_reducible refine Mi.wp_notA ?_) | (with_reducible refine Mi.wp_chainT ?_) | (with_reducible refine Mi.wp_cb ?_) | (with_reducible refine Mi.wp_un ?_) | (with_reducible refine Mi.wp_next ?_) | (with_reducible refine Mi.wp_asgN ?_) | (with_reducible refine Mi.wp_retNS ?_) | (with_reducible refine Mi.wp_drop ?_) | (with_reducible refine Mi.wp_par2 ?_) | (with_reducible refine Mi.wp_asgG ?_) | (with_reducible refine Mi.wp_subG ?_) | (with_reducible refine Mi.wp_appA ?_) | (with_reducible refine Mi.wp_tup ?_) | (with_reducible refine Mi.wp_lst ?_) | (with_reducible refine Mi.wp_new ?_) | (with_reducible refine Mi.wp_slice ?_) | (with_reducible refine Mi.wp_prtN ?_) | (with_reducible refine Mi.wp_prtS ?_) | (with_reducible refine Mi.wp_mt ?_) | (with_reducible refine Mi.wp_mt0 ?_) | (with_reducible refine Mi.wp_seqI ?_) | (with_reducible refine Mi.wp_compN ?_) | (with_reducible refine Mi.wp_fnI ?_) | (with_reducible refine Mi.wp_forS ?_) | (with_reducible refine Mi.wp_tgTup ?_) | (with_reducible refine Mi.wp_gsCons ?_) | (with_reducible refine Mi.wp_gsNil ?_) | (with_reducible refine Mi.wp_callN ?_) | ((with_reducible apply Mi.wp_putV); · rfl) | ((with_reducible apply Mi.wp_putN); · rfl) | (with_reducible refine Mi.wp_bnd ?_) | (with_reducible refine Mi.wp_ret ?_) | (with_reducible refine Mi.wp_opt ?_) | (with_reducible refine Mi.wp_view ?_) | ((with_reducible refine Mi.nm_a ?_); (try (conv => arg 1; simp only [Mi.putCell, Mi.wipeL, Mi.backL, Mi.pick, List.filterMap_cons, List.filterMap_nil, List.filterMap_cons_some, List.map_nil, List.map_cons, List.append_nil, List.nil_append, List.cons_append, List.getElem?_cons_zero, List.getElem?_cons_succ, List.set_cons_zero, List.set_cons_succ, List.getD_cons_zero, List.getD_cons_succ, Int.reduceToNat])); (with_reducible refine Mi.nm_b ?_)) | (with_reducible refine ⟨_, Mi.isi_non_bool, ?_⟩) | (with_reducible refine ⟨_, Mi.isi_non_int, ?_⟩) | (with_reducible refine ⟨_, Mi.isi_non_str, ?_⟩) | (with_reducible refine ⟨_, Mi.isi_non_list, ?_⟩) | (with_reducible refine ⟨_, Mi.isi_non_tuple, ?_⟩) | (with_reducible refine ⟨_, Mi.isi_non_dict, ?_⟩) | (with_reducible refine ⟨_, Mi.isi_bl_bool, ?_⟩) | (with_reducible refine ⟨_, Mi.isi_bl_int, ?_⟩) | (with_reducible refine ⟨_, Mi.isi_bl_str, ?_⟩) | (with_reducible refine ⟨_, Mi.isi_bl_list, ?_⟩) | (with_reducible refine ⟨_, Mi.isi_bl_tuple, ?_⟩) | (with_reducible refine ⟨_, Mi.isi_bl_dict, ?_⟩) | (with_reducible refine ⟨_, Mi.isi_int_bool, ?_⟩) | (with_reducible refine ⟨_, Mi.isi_int_int, ?_⟩) | (with_reducible refine ⟨_, Mi.isi_int_str, ?_⟩) | (with_reducible refine ⟨_, Mi.isi_int_list, ?_⟩) | (with_reducible refine ⟨_, Mi.isi_int_tuple, ?_⟩) | (with_reducible refine ⟨_, Mi.isi_int_dict, ?_⟩) | (with_reducible refine ⟨_, Mi.isi_str_bool, ?_⟩) | (with_reducible refine ⟨_, Mi.isi_str_int, ?_⟩) | (with_reducible refine ⟨_, Mi.isi_str_str, ?_⟩) | (with_reducible refine ⟨_, Mi.isi_str_list, ?_⟩) | (with_reducible refine ⟨_, Mi.isi_str_tuple, ?_⟩) | (with_reducible refine ⟨_, Mi.isi_str_dict, ?_⟩) | (with_reducible refine ⟨_, Mi.isi_lst_bool, ?_⟩) | (with_reducible refine ⟨_, Mi.isi_lst_int, ?_⟩) | (with_reducible refine ⟨_, Mi.isi_lst_str, ?_⟩) | (with_reducible refine ⟨_, Mi.isi_lst_list, ?_⟩) | (with_reducible refine ⟨_, Mi.isi_lst_tuple, ?_⟩) | (with_reducible refine ⟨_, Mi.isi_lst_dict, ?_⟩) | (with_reducible refine ⟨_, Mi.isi_rol_bool, ?_⟩) | (with_reducible refine ⟨_, Mi.isi_rol_int, ?_⟩) | (with_reducible refine ⟨_, Mi.isi_rol_str, ?_⟩) | (with_reducible refine ⟨_, Mi.isi_rol_list, ?_⟩) | (with_reducible refine ⟨_, Mi.isi_rol_tuple, ?_⟩) | (with_reducible refine ⟨_, Mi.isi_rol_dict, ?_⟩) | (with_reducible refine ⟨_, Mi.isi_tup_bool, ?_⟩) | (with_reducible refine ⟨_, Mi.isi_tup_int, ?_⟩) | (with_reducible refine ⟨_, Mi.isi_tup_str, ?_⟩) | (with_reducible refine ⟨_, Mi.isi_tup_list, ?_⟩) | (with_reducible refine ⟨_, Mi.isi_tup_tuple, ?_⟩) | (with_reducible refine ⟨_, Mi.isi_tup_dict, ?_⟩) | (with_reducible refine ⟨_, Mi.isi_dct_bool, ?_⟩) | (with_reducible refine ⟨_, Mi.isi_dct_int, ?_⟩) | (with_reducible refine ⟨_, Mi.isi_dct_str, ?_⟩) | (with_reducible refine ⟨_, Mi.isi_dct_list, ?_⟩) | (with_reducible refine ⟨_, Mi.isi_dct_tuple, ?_⟩) | (with_reducible refine ⟨_, Mi.isi_dct_dict, ?_⟩) | (with_reducible refine ⟨_, Mi.add_int, ?_⟩) | (with_reducible refine ⟨_, Mi.sub_int, ?_⟩) | (with_reducible refine ⟨_, Mi.lt_int, ?_⟩) | (with_reducible refine ⟨_, Mi.le_int, ?_⟩) | (with_reducible refine ⟨_, Mi.gt_int, ?_⟩) | (with_reducible refine ⟨_, Mi.ge_int, ?_⟩) | (with_reducible refine ⟨_, Mi.neg_int, ?_⟩) | (with_reducible refine ⟨_, Mi.asBl_bl, ?_⟩) | (with_reducible refine ⟨_, Mi.pow_lit (by decide) (by decide), ?_⟩) | (with_reducible refine ⟨_, Mi.mul_int (by decide), ?_⟩) | (with_reducible refine ⟨_, Mi.mod_int (by decide), ?_⟩) | (with_reducible refine ⟨_, Mi.fdiv_int (by decide), ?_⟩) | (with_reducible refine ⟨_, Mi.eqq_int, ?_⟩) | (with_reducible refine ⟨_, Mi.neq_int, ?_⟩) | (with_reducible refine Mi.ift_t ?_) | (with_reducible refine Mi.ift_f ?_) | (with_reducible refine Mi.ift_nt ?_) | (with_reducible refine Mi.ift_nf ?_) | ((with_reducible refine Mi.ift_bt ?_ ?_); · rfl) | ((with_reducible refine Mi.ift_bf ?_ ?_); · rfl) | (refine ⟨_, _, _, _, _, rfl, rfl, rfl, rfl, ?_⟩) | (refine ⟨_, _, rfl, rfl, ?_⟩) | (refine ⟨_, _, rfl, ?_⟩) | (refine ⟨⟨rfl, rfl, rfl⟩, ?_⟩) | (refine ⟨Nat.le_of_ble_eq_true rfl, ?_⟩) | (refine ⟨by decide, ?_⟩) | (refine ⟨_, rfl, ?_⟩) | (refine ⟨rfl, ?_⟩))); (try (with_reducible refine Mi.here ?_)))
         exact ⟨rfl, rfl⟩)
  obtain ⟨d, o, e, rfl, rfl⟩ := fp_ex z
  exact e
theorem num_ok {d : D} (hv : VOk d) : f__law_is_number [d] = .ok (.bl (isI d)) .non := by
  have z : Fp (f__law_is_number [d]) noX fun r o => r = .bl (isI d) ∧ o = .non := by
    refine fp_run (ρ := [.val _]) rfl ?_
    unfold m__law_is_number
    cases d with
    | bl b => cases b <;> (((repeat (first | (with_reducible refine Mi.wp_seq ?_) | (with_reducible refine Mi.wp_ifS ?_) | (with_reducible refine Mi.wp_asg ?_) | (with_reducible refine Mi.wp_retS ?_) | (with_reducible refine Mi.wp_bin ?_) | ((with_reducible apply Mi.wp_var1); · rfl) | (with_reducible refine Mi.wp_C ?_) | (with_reducible refine Mi.wp_asCons ?_) | (with_reducible refine Mi.wp_asNil ?_) | (with_reducible refine Mi.wp_call ?_) | (with_reducible refine Mi.wp_callIO ?_) | (with_reducible refine Mi.wp_args ?_) | (with_reducible refine Mi.wp_frzXn ?_) | (with_reducible refine Mi.wp_frzX0 ?_) | (with_reducible refine Mi.wp_frzXS ?_) | (with_reducible refine Mi.wp_frzsCons ?_) | (with_reducible refine Mi.wp_frzsNil ?_) | (with_reducible refine Mi.wp_frzD ?_) | (with_reducible refine Mi.wp_boolA ?_) | (with_reducible refine Mi.wp_blT ?_) | (with_reducible refine Mi.wp_tst ?_) | (with_reducible refine Mi.wp_andT ?_) | (with_reducible refine Mi.wp_orT ?_) | (with_reducible refine Mi.wp_notT ?_) | (with_reducible refine Mi.wp_ifA ?_) | (with_reducible refine Mi.wp_andA ?_) | (with_reducible refine Mi.wp_orA ?_) | (with_reducible refine Mi.wp_notA ?_) | (with_reducible refine Mi.wp_chainT ?_) | (with_reducible refine Mi.wp_cb ?_) | (with_reducible refine Mi.wp_un ?_) | (with_reducible refine Mi.wp_next ?_) | (with_reducible refine Mi.wp_asgN ?_) | (with_reducible refine Mi.wp_retNS ?_) | (with_reducible refine Mi.wp_drop ?_) | (with_reducible refine Mi.wp_par2 ?_) | (with_reducible refine Mi.wp_asgG ?_) | (with_reducible refine Mi.wp_subG ?_) | (with_reducible refine Mi.wp_appA ?_) | (with_reducible refine Mi.wp_tup ?_) | (with_reducible refine Mi.wp_lst ?_) | (with_reducible refine Mi.wp_new ?_) | (with_reducible refine Mi.wp_slice ?_) | (with_reducible refine Mi.wp_prtN ?_) | (with_reducible refine Mi.wp_prtS ?_) | (with_reducible refine Mi.wp_mt ?_) | (with_reducible refine Mi.wp_mt0 ?_) | (with_reducible refine Mi.wp_seqI ?_) | (with_reducible refine Mi.wp_compN ?_) | (with_reducible refine Mi.wp_fnI ?_) | (with_reducible refine Mi.wp_forS ?_) | (with_reducible refine Mi.wp_tgTup ?_) | (with_reducible refine Mi.wp_gsCons ?_) | (with_reducible refine Mi.wp_gsNil ?_) | (with_reducible refine Mi.wp_callN ?_) | ((with_reducible apply Mi.wp_putV); · rfl) | ((with_reducible apply Mi.wp_putN); · rfl) | (with_reducible refine Mi.wp_bnd ?_) | (with_reducible refine Mi.wp_ret ?_) | (with_reducible refine Mi.wp_opt ?_) | (with_reducible refine Mi.wp_view ?_) | ((with_reducible refine Mi.nm_a ?_); (try (conv => arg 1; simp only [Mi.putCell, Mi.wipeL, Mi.backL, Mi.pick, List.filterMap_cons, List.filterMap_nil, List.filterMap_cons_some, List.map_nil, List.map_cons, List.append_nil, List.nil_append, List.cons_append, List.getElem?_cons_zero, List.getElem?_cons_succ, List.set_cons_zero, List.set_cons_succ, List.getD_cons_zero, List.getD_cons_succ, Int.reduceToNat])); (with_reducible refine Mi.nm_b ?_)) | (with_reducible refine ⟨_, Mi.isi_non_bool, ?_⟩) | (with_reducible refine ⟨_, Mi.isi_non_int, ?_⟩) | (with_reducible refine ⟨_, Mi.isi_non_str, ?_⟩) | (with_reducible refine ⟨_, Mi.isi_non_list, ?_⟩) | (with_reducible refine ⟨_, Mi.isi_non_tuple, ?_⟩) | (with_reducible refine ⟨_, Mi.isi_non_dict, ?_⟩) | (with_reducible refine ⟨_, Mi.isi_bl_bool, ?_⟩) | (with_reducible refine ⟨_, Mi.isi_bl_int, ?_⟩) | (with_reducible refine ⟨_, Mi.isi_bl_str, ?_⟩) | (with_reducible refine ⟨_, Mi.isi_bl_list, ?_⟩) | (with_reducible refine ⟨_, Mi.isi_bl_tuple, ?_⟩) | (with_reducible refine ⟨_, Mi.isi_bl_dict, ?_⟩) | (with_reducible refine ⟨_, Mi.isi_int_bool, ?_⟩) | (with_reducible refine ⟨_, Mi.isi_int_int, ?_⟩) | (with_reducible refine ⟨_, Mi.isi_int_str, ?_⟩) | (with_reducible refine ⟨_, Mi.isi_int_list, ?_⟩) | (with_reducible refine ⟨_, Mi.isi_int_tuple, ?_⟩) | (with_reducible refine ⟨_, Mi.isi_int_dict, ?_⟩) | (with_reducible refine ⟨_, Mi.isi_str_bool, ?_⟩) | (with_reducible refine ⟨_, Mi.isi_str_int, ?_⟩) | (with_reducible refine ⟨_, Mi.isi_str_str, ?_⟩) | (with_reducible refine ⟨_, Mi.isi_str_list, ?_⟩) | (with_reducible refine ⟨_, Mi.isi_str_tuple, ?_⟩) | (with_reducible refine ⟨_, Mi.isi_str_dict, ?_⟩) | (with_reducible refine ⟨_, Mi.isi_lst_bool, ?_⟩) | (with_reducible refine ⟨_, Mi.isi_lst_int, ?_⟩) | (with_reducible refine ⟨_, Mi.isi_lst_str, ?_⟩) | (with_reducible refine ⟨_, Mi.isi_lst_list, ?_⟩) | (with_reducible refine ⟨_, Mi.isi_lst_tuple, ?_⟩) | (with_reducible refine ⟨_, Mi.isi_lst_dict, ?_⟩) | (with_reducible refine ⟨_, Mi.isi_rol_bool, ?_⟩) | (with_reducible refine ⟨_, Mi.isi_rol_int, ?_⟩) | (with_reducible refine ⟨_, Mi.isi_rol_str, ?_⟩) | (with_reducible refine ⟨_, Mi.isi_rol_list, ?_⟩) | (with_reducible refine ⟨_, Mi.isi_rol_tuple, ?_⟩) | (with_reducible refine ⟨_, Mi.isi_rol_dict, ?_⟩) | (with_reducible refine ⟨_, Mi.isi_tup_bool, ?_⟩) | (with_reducible refine ⟨_, Mi.isi_tup_int, ?_⟩) | (with_reducible refine ⟨_, Mi.isi_tup_str, ?_⟩) | (with_reducible refine ⟨_, Mi.isi_tup_list, ?_⟩) | (with_reducible refine ⟨_, Mi.isi_tup_tuple, ?_⟩) | (with_reducible refine ⟨_, Mi.isi_tup_dict, ?_⟩) | (with_reducible refine ⟨_, Mi.isi_dct_bool, ?_⟩) | (with_reducible refine ⟨_, Mi.isi_dct_int, ?_⟩) | (with_reducible refine ⟨_, Mi.isi_dct_str, ?_⟩) | (with_reducible refine ⟨_, Mi.isi_dct_list, ?_⟩) | (with_reducible refine ⟨_, Mi.isi_dct_tuple, ?_⟩) | (with_reducible refine ⟨_, Mi.isi_dct_dict, ?_⟩) | (with_reducible refine ⟨_, Mi.add_int, ?_⟩) | (with_reducible refine ⟨_, Mi.sub_int, ?_⟩) | (with_reducible refine ⟨_, Mi.lt_int, ?_⟩) | (with_reducible refine ⟨_, Mi.le_int, ?_⟩) | (with_reducible refine ⟨_, Mi.gt_int, ?_⟩) | (with_reducible refine ⟨_, Mi.ge_int, ?_⟩) | (with_reducible refine ⟨_, Mi.neg_int, ?_⟩) | (with_reducible refine ⟨_, Mi.asBl_bl, ?_⟩) | (with_reducible refine ⟨_, Mi.pow_lit (by decide) (by decide), ?_⟩) | (with_reducible refine ⟨_, Mi.mul_int (by decide), ?_⟩) | (with_reducible refine ⟨_, Mi.mod_int (by decide), ?_⟩) | (with_reducible refine ⟨_, Mi.fdiv_int (by decide), ?_⟩) | (with_reducible refine ⟨_, Mi.eqq_int, ?_⟩) | (with_reducible refine ⟨_, Mi.neq_int, ?_⟩) | (with_reducible refine Mi.ift_t ?_) | (with_reducible refine Mi.ift_f ?_) | (with_reducible refine Mi.ift_nt ?_) | (with_reducible refine Mi.ift_nf ?_) | ((with_reducible refine Mi.ift_bt ?_ ?_); · rfl) | ((with_reducible refine Mi.ift_bf ?_ ?_); · rfl) | (refine ⟨_, _, _, _, _, rfl, rfl, rfl, rfl, ?_⟩) | (refine ⟨_, _, rfl, rfl, ?_⟩) | (refine ⟨_, _, rfl, ?_⟩) | (refine ⟨⟨rfl, rfl, rfl⟩, ?_⟩) | (refine ⟨Nat.le_of_ble_eq_true rfl, ?_⟩) | (refine ⟨by decide, ?_⟩) | (refine ⟨_, rfl, ?_⟩) | (refine ⟨rfl, ?_⟩))); (try (with_reducible refine Mi.here ?_)))
                           exact ⟨rfl, rfl⟩)
    | _ => first
      | exact hv.elim
      | (((repeat (first | (with_reducible refine Mi.wp_seq ?_) | (with_reducible refine Mi.wp_ifS ?_) | (with_reducible refine Mi.wp_asg ?_) | (with_reducible refine Mi.wp_retS ?_) | (with_reducible refine Mi.wp_bin ?_) | ((with_reducible apply Mi.wp_var1); · rfl) | (with_reducible refine Mi.wp_C ?_) | (with_reducible refine Mi.wp_asCons ?_) | (with_reducible refine Mi.wp_asNil ?_) | (with_reducible refine Mi.wp_call ?_) | (with_reducible refine Mi.wp_callIO ?_) | (with_reducible refine Mi.wp_args ?_) | (with_reducible refine Mi.wp_frzXn ?_) | (with_reducible refine Mi.wp_frzX0 ?_) | (with_reducible refine Mi.wp_frzXS ?_) | (with_reducible refine Mi.wp_frzsCons ?_) | (with_reducible refine Mi.wp_frzsNil ?_) | (with_reducible refine Mi.wp_frzD ?_) | (with_reducible refine Mi.wp_boolA ?_) | (with_reducible refine Mi.wp_blT ?_) | (with_reducible refine Mi.wp_tst ?_) | (with_reducible refine Mi.wp_andT ?_) | (with_reducible refine Mi.wp_orT ?_) | (with_reducible refine Mi.wp_notT ?_) | (with_reducible refine Mi.wp_ifA ?_) | (with_reducible refine Mi.wp_andA ?_) | (with_reducible refine Mi.wp_orA ?_) | (with_reducible refine Mi.wp_notA ?_) | (with_reducible refine Mi.wp_chainT ?_) | (with_reducible refine Mi.wp_cb ?_) | (with_reducible refine Mi.wp_un ?_) | (with_reducible refine Mi.wp_next ?_) | (with_reducible refine Mi.wp_asgN ?_) | (with_reducible refine Mi.wp_retNS ?_) | (with_reducible refine Mi.wp_drop ?_) | (with_reducible refine Mi.wp_par2 ?_) | (with_reducible refine Mi.wp_asgG ?_) | (with_reducible refine Mi.wp_subG ?_) | (with_reducible refine Mi.wp_appA ?_) | (with_reducible refine Mi.wp_tup ?_) | (with_reducible refine Mi.wp_lst ?_) | (with_reducible refine Mi.wp_new ?_) | (with_reducible refine Mi.wp_slice ?_) | (with_reducible refine Mi.wp_prtN ?_) | (with_reducible refine Mi.wp_prtS ?_) | (with_reducible refine Mi.wp_mt ?_) | (with_reducible refine Mi.wp_mt0 ?_) | (with_reducible refine Mi.wp_seqI ?_) | (with_reducible refine Mi.wp_compN ?_) | (with_reducible refine Mi.wp_fnI ?_) | (with_reducible refine Mi.wp_forS ?_) | (with_reducible refine Mi.wp_tgTup ?_) | (with_reducible refine Mi.wp_gsCons ?_) | (with_reducible refine Mi.wp_gsNil ?_) | (with_reducible refine Mi.wp_callN ?_) | ((with_reducible apply Mi.wp_putV); · rfl) | ((with_reducible apply Mi.wp_putN); · rfl) | (with_reducible refine Mi.wp_bnd ?_) | (with_reducible refine Mi.wp_ret ?_) | (with_reducible refine Mi.wp_opt ?_) | (with_reducible refine Mi.wp_view ?_) | ((with_reducible refine Mi.nm_a ?_); (try (conv => arg 1; simp only [Mi.putCell, Mi.wipeL, Mi.backL, Mi.pick, List.filterMap_cons, List.filterMap_nil, List.filterMap_cons_some, List.map_nil, List.map_cons, List.append_nil, List.nil_append, List.cons_append, List.getElem?_cons_zero, List.getElem?_cons_succ, List.set_cons_zero, List.set_cons_succ, List.getD_cons_zero, List.getD_cons_succ, Int.reduceToNat])); (with_reducible refine Mi.nm_b ?_)) | (with_reducible refine ⟨_, Mi.isi_non_bool, ?_⟩) | (with_reducible refine ⟨_, Mi.isi_non_int, ?_⟩) | (with_reducible refine ⟨_, Mi.isi_non_str, ?_⟩) | (with_reducible refine ⟨_, Mi.isi_non_list, ?_⟩) | (with_reducible refine ⟨_, Mi.isi_non_tuple, ?_⟩) | (with_reducible refine ⟨_, Mi.isi_non_dict, ?_⟩) | (with_reducible refine ⟨_, Mi.isi_bl_bool, ?_⟩) | (with_reducible refine ⟨_, Mi.isi_bl_int, ?_⟩) | (with_reducible refine ⟨_, Mi.isi_bl_str, ?_⟩) | (with_reducible refine ⟨_, Mi.isi_bl_list, ?_⟩) | (with_reducible refine ⟨_, Mi.isi_bl_tuple, ?_⟩) | (with_reducible refine ⟨_, Mi.isi_bl_dict, ?_⟩) | (with_reducible refine ⟨_, Mi.isi_int_bool, ?_⟩) | (with_reducible refine ⟨_, Mi.isi_int_int, ?_⟩) | (with_reducible refine ⟨_, Mi.isi_int_str, ?_⟩) | (with_reducible refine ⟨_, Mi.isi_int_list, ?_⟩) | (with_reducible refine ⟨_, Mi.isi_int_tuple, ?_⟩) | (with_reducible refine ⟨_, Mi.isi_int_dict, ?_⟩) | (with_reducible refine ⟨_, Mi.isi_str_bool, ?_⟩) | (with_reducible refine ⟨_, Mi.isi_str_int, ?_⟩) | (with_reducible refine ⟨_, Mi.isi_str_str, ?_⟩) | (with_reducible refine ⟨_, Mi.isi_str_list, ?_⟩) | (with_reducible refine ⟨_, Mi.isi_str_tuple, ?_⟩) | (with_reducible refine ⟨_, Mi.isi_str_dict, ?_⟩) | (with_reducible refine ⟨_, Mi.isi_lst_bool, ?_⟩) | (with_reducible refine ⟨_, Mi.isi_lst_int, ?_⟩) | (with_reducible refine ⟨_, Mi.isi_lst_str, ?_⟩) | (with_reducible refine ⟨_, Mi.isi_lst_list, ?_⟩) | (with_reducible refine ⟨_, Mi.isi_lst_tuple, ?_⟩) | (with_reducible refine ⟨_, Mi.isi_lst_dict, ?_⟩) | (with_reducible refine ⟨_, Mi.isi_rol_bool, ?_⟩) | (with_reducible refine ⟨_, Mi.isi_rol_int, ?_⟩) | (with_reducible refine ⟨_, Mi.isi_rol_str, ?_⟩) | (with_reducible refine ⟨_, Mi.isi_rol_list, ?_⟩) | (with_reducible refine ⟨_, Mi.isi_rol_tuple, ?_⟩) | (with_reducible refine ⟨_, Mi.isi_rol_dict, ?_⟩) | (with_reducible refine ⟨_, Mi.isi_tup_bool, ?_⟩) | (with_reducible refine ⟨_, Mi.isi_tup_int, ?_⟩) | (with_reducible refine ⟨_, Mi.isi_tup_str, ?_⟩) | (with_reducible refine ⟨_, Mi.isi_tup_list, ?_⟩) | (with_reducible refine ⟨_, Mi.isi_tup_tuple, ?_⟩) | (with_reducible refine ⟨_, Mi.isi_tup_dict, ?_⟩) | (with_reducible refine ⟨_, Mi.isi_dct_bool, ?_⟩) | (with_reducible refine ⟨_, Mi.isi_dct_int, ?_⟩) | (with_reducible refine ⟨_, Mi.isi_dct_str, ?_⟩) | (with_reducible refine ⟨_, Mi.isi_dct_list, ?_⟩) | (with_reducible refine ⟨_, Mi.isi_dct_tuple, ?_⟩) | (with_reducible refine ⟨_, Mi.isi_dct_dict, ?_⟩) | (with_reducible refine ⟨_, Mi.add_int, ?_⟩) | (with_reducible refine ⟨_, Mi.sub_int, ?_⟩) | (with_reducible refine ⟨_, Mi.lt_int, ?_⟩) | (with_reducible refine ⟨_, Mi.le_int, ?_⟩) | (with_reducible refine ⟨_, Mi.gt_int, ?_⟩) | (with_reducible refine ⟨_, Mi.ge_int, ?_⟩) | (with_reducible refine ⟨_, Mi.neg_int, ?_⟩) | (with_reducible refine ⟨_, Mi.asBl_bl, ?_⟩) | (with_reducible refine ⟨_, Mi.pow_lit (by decide) (by decide), ?_⟩) | (with_reducible refine ⟨_, Mi.mul_int (by decide), ?_⟩) | (with_reducible refine ⟨_, Mi.mod_int (by decide), ?_⟩) | (with_reducible refine ⟨_, Mi.fdiv_int (by decide), ?_⟩) | (with_reducible refine ⟨_, Mi.eqq_int, ?_⟩) | (with_reducible refine ⟨_, Mi.neq_int, ?_⟩) | (with_reducible refine Mi.ift_t ?_) | (with_reducible refine Mi.ift_f ?_) | (with_reducible refine Mi.ift_nt ?_) | (with_reducible refine Mi.ift_nf ?_) | ((with_reducible refine Mi.ift_bt ?_ ?_); · rfl) | ((with_reducible refine Mi.ift_bf ?_ ?_); · rfl) | (refine ⟨_, _, _, _, _, rfl, rfl, rfl, rfl, ?_⟩) | (refine ⟨_, _, rfl, rfl, ?_⟩) | (refine ⟨_, _, rfl, ?_⟩) | (refine ⟨⟨rfl, rfl, rfl⟩, ?_⟩) | (refine ⟨Nat.le_of_ble_eq_true rfl, ?_⟩) | (refine ⟨by decide, ?_⟩) | (refine ⟨_, rfl, ?_⟩) | (refine ⟨rfl, ?_⟩))); (try (with_reducible refine Mi.here ?_)))
         exact ⟨rfl, rfl⟩)
  obtain ⟨d, o, e, rfl, rfl⟩ := fp_ex z
  exact e
/-- the bounds -/
def BOk : D → Prop
  | .non => True
  | .int _ => True
  | _ => False
def lowB (i : Int) : D → Bool
  | .int a => decide (a ≤ i)
  | _ => true
def highB (i : Int) : D → Bool
  | .int b => decide (i ≤ b)
  | _ => true
def inB (d a b : D) : Bool := match d with
  | .int i => lowB i a && highB i b
  | _ => false
theorem within_ok {d a b : D} (hv : VOk d) (ha : BOk a) (hb : BOk b) : f_is_within [d, a, b] = .ok (.bl (inB d a b)) .non := by
  have z : Fp (f_is_within [d, a, b]) noX fun r o => r = .bl (inB d a b) ∧ o = .non := by
    refine fp_run (ρ := [.val _, .val _, .val _]) rfl ?_
    unfold m_is_within
    ((repeat (first | (with_reducible refine Mi.wp_seq ?_) | (with_reducible refine Mi.wp_ifS ?_) | (with_reducible refine Mi.wp_asg ?_) | (with_reducible refine Mi.wp_retS ?_) | (with_reducible refine Mi.wp_bin ?_) | ((with_reducible apply Mi.wp_var1); · rfl) | (with_reducible refine Mi.wp_C ?_) | (with_reducible refine Mi.wp_asCons ?_) | (with_reducible refine Mi.wp_asNil ?_) | (with_reducible refine Mi.wp_call ?_) | (with_reducible refine Mi.wp_callIO ?_) | (with_reducible refine Mi.wp_args ?_) | (with_reducible refine Mi.wp_frzXn ?_) | (with_reducible refine Mi.wp_frzX0 ?_) | (with_reducible refine Mi.wp_frzXS ?_) | (with_reducible refine Mi.wp_frzsCons ?_) | (with_reducible refine Mi.wp_frzsNil ?_) | (with_reducible refine Mi.wp_frzD ?_) | (with_reducible refine Mi.wp_boolA ?_) | (with_reducible refine Mi.wp_blT ?_) | (with_reducible refine Mi.wp_tst ?_) | (with_reducible refine Mi.wp_andT ?_) | (with_reducible refine Mi.wp_orT ?_) | (with_reducible refine Mi.wp_notT ?_) | (with_reducible refine Mi.wp_ifA ?_) | (with_reducible refine Mi.wp_andA ?_) | (with_reducible refine Mi.wp_orA ?_) | (with_reducible refine Mi.wp_notA ?_) | (with_reducible refine Mi.wp_chainT ?_) | (with_reducible refine Mi.wp_cb ?_) | (with_reducible refine Mi.wp_un ?_) | (with_reducible refine Mi.wp_next ?_) | (with_reducible refine Mi.wp_asgN ?_) | (with_reducible refine Mi.wp_retNS ?_) | (with_reducible refine Mi.wp_drop ?_) | (with_reducible refine Mi.wp_par2 ?_) | (with_reducible refine Mi.wp_asgG ?_) | (with_reducible refine Mi.wp_subG ?_) | (with_reducible refine Mi.wp_appA ?_) | (with_reducible refine Mi.wp_tup ?_) | (with_reducible refine Mi.wp_lst ?_) | (with_reducible refine Mi.wp_new ?_) | (with_reducible refine Mi.wp_slice ?_) | (with_reducible refine Mi.wp_prtN ?_) | (with_reducible refine Mi.wp_prtS ?_) | (with_reducible refine Mi.wp_mt ?_) | (with_reducible refine Mi.wp_mt0 ?_) | (with_reducible refine Mi.wp_seqI ?_) | (with_reducible refine Mi.wp_compN ?_) | (with_reducible refine Mi.wp_fnI ?_) | (with_reducible refine Mi.wp_forS ?_) | (with_reducible refine Mi.wp_tgTup ?_) | (with_reducible refine Mi.wp_gsCons ?_) | (with_reducible refine Mi.wp_gsNil ?_) | (with_reducible refine Mi.wp_callN ?_) | ((with_reducible apply Mi.wp_putV); · rfl) | ((with_reducible apply Mi.wp_putN); · rfl) | (with_reducible refine Mi.wp_bnd ?_) | (with_reducible refine Mi.wp_ret ?_) | (with_reducible refine Mi.wp_opt ?_) | (with_reducible refine Mi.wp_view ?_) | ((with_reducible refine Mi.nm_a ?_); (try (conv => arg 1; simp only [Mi.putCell, Mi.wipeL, Mi.backL, Mi.pick, List.filterMap_cons, List.filterMap_nil, List.filterMap_cons_some, List.map_nil, List.map_cons, List.append_nil, List.nil_append, List.cons_append, List.getElem?_cons_zero, List.getElem?_cons_succ, List.set_cons_zero, List.set_cons_succ, List.getD_cons_zero, List.getD_cons_succ, Int.reduceToNat])); (with_reducible refine Mi.nm_b ?_)) | (with_reducible refine ⟨_, Mi.add_int, ?_⟩) | (with_reducible refine ⟨_, Mi.sub_int, ?_⟩) | (with_reducible refine ⟨_, Mi.lt_int, ?_⟩) | (with_reducible refine ⟨_, Mi.le_int, ?_⟩) | (with_reducible refine ⟨_, Mi.gt_int, ?_⟩) | (with_reducible refine ⟨_, Mi.ge_int, ?_⟩) | (with_reducible refine ⟨_, Mi.neg_int, ?_⟩) | (with_reducible refine ⟨_, Mi.asBl_bl, ?_⟩) | (with_reducible refine ⟨_, Mi.pow_lit (by decide) (by decide), ?_⟩) | (with_reducible refine ⟨_, Mi.mul_int (by decide), ?_⟩) | (with_reducible refine ⟨_, Mi.mod_int (by decide), ?_⟩) | (with_reducible refine ⟨_, Mi.fdiv_int (by decide), ?_⟩) | (with_reducible refine ⟨_, Mi.eqq_int, ?_⟩) | (with_reducible refine ⟨_, Mi.neq_int, ?_⟩) | (with_reducible refine Mi.ift_t ?_) | (with_reducible refine Mi.ift_f ?_) | (with_reducible refine Mi.ift_nt ?_) | (with_reducible refine Mi.ift_nf ?_) | ((with_reducible refine Mi.ift_bt ?_ ?_); · rfl) | ((with_reducible refine Mi.ift_bf ?_ ?_); · rfl) | (refine ⟨_, _, _, _, _, rfl, rfl, rfl, rfl, ?_⟩) | (refine ⟨_, _, rfl, rfl, ?_⟩) | (refine ⟨_, _, rfl, ?_⟩) | (refine ⟨⟨rfl, rfl, rfl⟩, ?_⟩) | (refine ⟨Nat.le_of_ble_eq_true rfl, ?_⟩) | (refine ⟨by decide, ?_⟩) | (refine ⟨_, rfl, ?_⟩) | (refine ⟨rfl, ?_⟩))); (try (with_reducible refine Mi.here ?_)))
    refine fp_ok (int_ok hv) ?_
    ((repeat (first | (with_reducible refine Mi.wp_seq ?_) | (with_reducible refine Mi.wp_ifS ?_) | (with_reducible refine Mi.wp_asg ?_) | (with_reducible refine Mi.wp_retS ?_) | (with_reducible refine Mi.wp_bin ?_) | ((with_reducible apply Mi.wp_var1); · rfl) | (with_reducible refine Mi.wp_C ?_) | (with_reducible refine Mi.wp_asCons ?_) | (with_reducible refine Mi.wp_asNil ?_) | (with_reducible refine Mi.wp_call ?_) | (with_reducible refine Mi.wp_callIO ?_) | (with_reducible refine Mi.wp_args ?_) | (with_reducible refine Mi.wp_frzXn ?_) | (with_reducible refine Mi.wp_frzX0 ?_) | (with_reducible refine Mi.wp_frzXS ?_) | (with_reducible refine Mi.wp_frzsCons ?_) | (with_reducible refine Mi.wp_frzsNil ?_) | (with_reducible refine Mi.wp_frzD ?_) | (with_reducible refine Mi.wp_boolA ?_) | (with_reducible refine Mi.wp_blT ?_) | (with_reducible refine Mi.wp_tst ?_) | (with_reducible refine Mi.wp_andT ?_) | (with_reducible refine Mi.wp_orT ?_) | (with_reducible refine Mi.wp_notT ?_) | (with_reducible refine Mi.wp_ifA ?_) | (with_reducible refine Mi.wp_andA ?_) | (with_reducible refine Mi.wp_orA ?_) | (with_reducible refine Mi.wp_notA ?_) | (with_reducible refine Mi.wp_chainT ?_) | (with_reducible refine Mi.wp_cb ?_) | (with_reducible refine Mi.wp_un ?_) | (with_reducible refine Mi.wp_next ?_) | (with_reducible refine Mi.wp_asgN ?_) | (with_reducible refine Mi.wp_retNS ?_) | (with_reducible refine Mi.wp_drop ?_) | (with_reducible refine Mi.wp_par2 ?_) | (with_reducible refine Mi.wp_asgG ?_) | (with_reducible refine Mi.wp_subG ?_) | (with_reducible refine Mi.wp_appA ?_) | (with_reducible refine Mi.wp_tup ?_) | (with_reducible refine Mi.wp_lst ?_) | (with_reducible refine Mi.wp_new ?_) | (with_reducible refine Mi.wp_slice ?_) | (with_reducible refine Mi.wp_prtN ?_) | (with_reducible refine Mi.wp_prtS ?_) | (with_reducible refine Mi.wp_mt ?_) | (with_reducible refine Mi.wp_mt0 ?_) | (with_reducible refine Mi.wp_seqI ?_) | (with_reducible refine Mi.wp_compN ?_) | (with_reducible refine Mi.wp_fnI ?_) | (with_reducible refine Mi.wp_forS ?_) | (with_reducible refine Mi.wp_tgTup ?_) | (with_reducible refine Mi.wp_gsCons ?_) | (with_reducible refine Mi.wp_gsNil ?_) | (with_reducible refine Mi.wp_callN ?_) | ((with_reducible apply Mi.wp_putV); · rfl) | ((with_reducible apply Mi.wp_putN); · rfl) | (with_reducible refine Mi.wp_bnd ?_) | (with_reducible refine Mi.wp_ret ?_) | (with_reducible refine Mi.wp_opt ?_) | (with_reducible refine Mi.wp_view ?_) | ((with_reducible refine Mi.nm_a ?_); (try (conv => arg 1; simp only [Mi.putCell, Mi.wipeL, Mi.backL, Mi.pick, List.filterMap_cons, List.filterMap_nil, List.filterMap_cons_some, List.map_nil, List.map_cons, List.append_nil, List.nil_append, List.cons_append, List.getElem?_cons_zero, List.getElem?_cons_succ, List.set_cons_zero, List.set_cons_succ, List.getD_cons_zero, List.getD_cons_succ, Int.reduceToNat])); (with_reducible refine Mi.nm_b ?_)) | (with_reducible refine ⟨_, Mi.add_int, ?_⟩) | (with_reducible refine ⟨_, Mi.sub_int, ?_⟩) | (with_reducible refine ⟨_, Mi.lt_int, ?_⟩) | (with_reducible refine ⟨_, Mi.le_int, ?_⟩) | (with_reducible refine ⟨_, Mi.gt_int, ?_⟩) | (with_reducible refine ⟨_, Mi.ge_int, ?_⟩) | (with_reducible refine ⟨_, Mi.neg_int, ?_⟩) | (with_reducible refine ⟨_, Mi.asBl_bl, ?_⟩) | (with_reducible refine ⟨_, Mi.pow_lit (by decide) (by decide), ?_⟩) | (with_reducible refine ⟨_, Mi.mul_int (by decide), ?_⟩) | (with_reducible refine ⟨_, Mi.mod_int (by decide), ?_⟩) | (with_reducible refine ⟨_, Mi.fdiv_int (by decide), ?_⟩) | (with_reducible refine ⟨_, Mi.eqq_int, ?_⟩) | (with_reducible refine ⟨_, Mi.neq_int, ?_⟩) | (with_reducible refine Mi.ift_t ?_) | (with_reducible refine Mi.ift_f ?_) | (with_reducible refine Mi.ift_nt ?_) | (with_reducible refine Mi.ift_nf ?_) | ((with_reducible refine Mi.ift_bt ?_ ?_); · rfl) | ((with_reducible refine Mi.ift_bf ?_ ?_); · rfl) | (refine ⟨_, _, _, _, _, rfl, rfl, rfl, rfl, ?_⟩) | (refine ⟨_, _, rfl, rfl, ?_⟩) | (refine ⟨_, _, rfl, ?_⟩) | (refine ⟨⟨rfl, rfl, rfl⟩, ?_⟩) | (refine ⟨Nat.le_of_ble_eq_true rfl, ?_⟩) | (refine ⟨by decide, ?_⟩) | (refine ⟨_, rfl, ?_⟩) | (refine ⟨rfl, ?_⟩))); (try (with_reducible refine Mi.here ?_)))
    cases d with
    | int i =>
      cases a with
      | non =>
        cases b with
        | non =>
          ((repeat (first | (with_reducible refine Mi.wp_seq ?_) | (with_reducible refine Mi.wp_ifS ?_) | (with_reducible refine Mi.wp_asg ?_) | (with_reducible refine Mi.wp_retS ?_) | (with_reducible refine Mi.wp_bin ?_) | ((with_reducible apply Mi.wp_var1); · rfl) | (with_reducible refine Mi.wp_C ?_) | (with_reducible refine Mi.wp_asCons ?_) | (with_reducible refine Mi.wp_asNil ?_) | (with_reducible refine Mi.wp_call ?_) | (with_reducible refine Mi.wp_callIO ?_) | (with_reducible refine Mi.wp_args ?_) | (with_reducible refine Mi.wp_frzXn ?_) | (with_reducible refine Mi.wp_frzX0 ?_) | (with_reducible refine Mi.wp_frzXS ?_) | (with_reducible refine Mi.wp_frzsCons ?_) | (with_reducible refine Mi.wp_frzsNil ?_) | (with_reducible refine Mi.wp_frzD ?_) | (with_reducible refine Mi.wp_boolA ?_) | (with_reducible refine Mi.wp_blT ?_) | (with_reducible refine Mi.wp_tst ?_) | (with_reducible refine Mi.wp_andT ?_) | (with_reducible refine Mi.wp_orT ?_) | (with_reducible refine Mi.wp_notT ?_) | (with_reducible refine Mi.wp_ifA ?_) | (with_reducible refine Mi.wp_andA ?_) | (with_reducible refine Mi.wp_orA ?_) | (with_reducible refine Mi.wp_notA ?_) | (with_reducible refine Mi.wp_chainT ?_) | (with_reducible refine Mi.wp_cb ?_) | (with_reducible refine Mi.wp_un ?_) | (with_reducible refine Mi.wp_next ?_) | (with_reducible refine Mi.wp_asgN ?_) | (with_reducible refine Mi.wp_retNS ?_) | (with_reducible refine Mi.wp_drop ?_) | (with_reducible refine Mi.wp_par2 ?_) | (with_reducible refine Mi.wp_asgG ?_) | (with_reducible refine Mi.wp_subG ?_) | (with_reducible refine Mi.wp_appA ?_) | (with_reducible refine Mi.wp_tup ?_) | (with_reducible refine Mi.wp_lst ?_) | (with_reducible refine Mi.wp_new ?_) | (with_reducible refine Mi.wp_slice ?_) | (with_reducible refine Mi.wp_prtN ?_) | (with_reducible refine Mi.wp_prtS ?_) | (with_reducible refine Mi.wp_mt ?_) | (with_reducible refine Mi.wp_mt0 ?_) | (with_reducible refine Mi.wp_seqI ?_) | (with_reducible refine Mi.wp_compN ?_) | (with_reducible refine Mi.wp_fnI ?_) | (with_reducible refine Mi.wp_forS ?_) | (with_reducible refine Mi.wp_tgTup ?_) | (with_reducible refine Mi.wp_gsCons ?_) | (with_reducible refine Mi.wp_gsNil ?_) | (with_reducible refine Mi.wp_callN ?_) | ((with_reducible apply Mi.wp_putV); · rfl) | ((with_reducible apply Mi.wp_putN); · rfl) | (with_reducible refine Mi.wp_bnd ?_) | (with_reducible refine Mi.wp_ret ?_) | (with_reducible refine Mi.wp_opt ?_) | (with_reducible refine Mi.wp_view ?_) | ((with_reducible refine Mi.nm_a ?_); (try (conv => arg 1; simp only [Mi.putCell, Mi.wipeL, Mi.backL, Mi.pick, List.filterMap_cons, List.filterMap_nil, List.filterMap_cons_some, List.map_nil, List.map_cons, List.append_nil, List.nil_append, List.cons_append, List.getElem?_cons_zero, List.getElem?_cons_succ, List.set_cons_zero, List.set_cons_succ, List.getD_cons_zero, List.getD_cons_succ, Int.reduceToNat])); (with_reducible refine Mi.nm_b ?_)) | (with_reducible refine ⟨_, Mi.add_int, ?_⟩) | (with_reducible refine ⟨_, Mi.sub_int, ?_⟩) | (with_reducible refine ⟨_, Mi.lt_int, ?_⟩) | (with_reducible refine ⟨_, Mi.le_int, ?_⟩) | (with_reducible refine ⟨_, Mi.gt_int, ?_⟩) | (with_reducible refine ⟨_, Mi.ge_int, ?_⟩) | (with_reducible refine ⟨_, Mi.neg_int, ?_⟩) | (with_reducible refine ⟨_, Mi.asBl_bl, ?_⟩) | (with_reducible refine ⟨_, Mi.pow_lit (by decide) (by decide), ?_⟩) | (with_reducible refine ⟨_, Mi.mul_int (by decide), ?_⟩) | (with_reducible refine ⟨_, Mi.mod_int (by decide), ?_⟩) | (with_reducible refine ⟨_, Mi.fdiv_int (by decide), ?_⟩) | (with_reducible refine ⟨_, Mi.eqq_int, ?_⟩) | (with_reducible refine ⟨_, Mi.neq_int, ?_⟩) | (with_reducible refine Mi.ift_t ?_) | (with_reducible refine Mi.ift_f ?_) | (with_reducible refine Mi.ift_nt ?_) | (with_reducible refine Mi.ift_nf ?_) | ((with_reducible refine Mi.ift_bt ?_ ?_); · rfl) | ((with_reducible refine Mi.ift_bf ?_ ?_); · rfl) | (refine ⟨_, _, _, _, _, rfl, rfl, rfl, rfl, ?_⟩) | (refine ⟨_, _, rfl, rfl, ?_⟩) | (refine ⟨_, _, rfl, ?_⟩) | (refine ⟨⟨rfl, rfl, rfl⟩, ?_⟩) | (refine ⟨Nat.le_of_ble_eq_true rfl, ?_⟩) | (refine ⟨by decide, ?_⟩) | (refine ⟨_, rfl, ?_⟩) | (refine ⟨rfl, ?_⟩))); (try (with_reducible refine Mi.here ?_)))
          exact ⟨rfl, rfl⟩
        | int b =>
          ((repeat (first | (with_reducible refine Mi.wp_seq ?_) | (with_reducible refine Mi.wp_ifS ?_) | (with_reducible refine Mi.wp_asg ?_) | (with_reducible refine Mi.wp_retS ?_) | (with_reducible refine Mi.wp_bin ?_) | ((with_reducible apply Mi.wp_var1); · rfl) | (with_reducible refine Mi.wp_C ?_) | (with_reducible refine Mi.wp_asCons ?_) | (with_reducible refine Mi.wp_asNil ?_) | (with_reducible refine Mi.wp_call ?_) | (with_reducible refine Mi.wp_callIO ?_) | (with_reducible refine Mi.wp_args ?_) | (with_reducible refine Mi.wp_frzXn ?_) | (with_reducible refine Mi.wp_frzX0 ?_) | (with_reducible refine Mi.wp_frzXS ?_) | (with_reducible refine Mi.wp_frzsCons ?_) | (with_reducible refine Mi.wp_frzsNil ?_) | (with_reducible refine Mi.wp_frzD ?_) | (with_reducible refine Mi.wp_boolA ?_) | (with_reducible refine Mi.wp_blT ?_) | (with_reducible refine Mi.wp_tst ?_) | (with_reducible refine Mi.wp_andT ?_) | (with_reducible refine Mi.wp_orT ?_) | (with_reducible refine Mi.wp_notT ?_) | (with_reducible refine Mi.wp_ifA ?_) | (with_reducible refine Mi.wp_andA ?_) | (with_reducible refine Mi.wp_orA ?_) | (with_reducible refine Mi.wp_notA ?_) | (with_reducible refine Mi.wp_chainT ?_) | (with_reducible refine Mi.wp_cb ?_) | (with_reducible refine Mi.wp_un ?_) | (with_reducible refine Mi.wp_next ?_) | (with_reducible refine Mi.wp_asgN ?_) | (with_reducible refine Mi.wp_retNS ?_) | (with_reducible refine Mi.wp_drop ?_) | (with_reducible refine Mi.wp_par2 ?_) | (with_reducible refine Mi.wp_asgG ?_) | (with_reducible refine Mi.wp_subG ?_) | (with_reducible refine Mi.wp_appA ?_) | (with_reducible refine Mi.wp_tup ?_) | (with_reducible refine Mi.wp_lst ?_) | (with_reducible refine Mi.wp_new ?_) | (with_reducible refine Mi.wp_slice ?_) | (with_reducible refine Mi.wp_prtN ?_) | (with_reducible refine Mi.wp_prtS ?_) | (with_reducible refine Mi.wp_mt ?_) | (with_reducible refine Mi.wp_mt0 ?_) | (with_reducible refine Mi.wp_seqI ?_) | (with_reducible refine Mi.wp_compN ?_) | (with_reducible refine Mi.wp_fnI ?_) | (with_reducible refine Mi.wp_forS ?_) | (with_reducible refine Mi.wp_tgTup ?_) | (with_reducible refine Mi.wp_gsCons ?_) | (with_reducible refine Mi.wp_gsNil ?_) | (with_reducible refine Mi.wp_callN ?_) | ((with_reducible apply Mi.wp_putV); · rfl) | ((with_reducible apply Mi.wp_putN); · rfl) | (with_reducible refine Mi.wp_bnd ?_) | (with_reducible refine Mi.wp_ret ?_) | (with_reducible refine Mi.wp_opt ?_) | (with_reducible refine Mi.wp_view ?_) | ((with_reducible refine Mi.nm_a ?_); (try (conv => arg 1; simp only [Mi.putCell, Mi.wipeL, Mi.backL, Mi.pick, List.filterMap_cons, List.filterMap_nil, List.filterMap_cons_some, List.map_nil, List.map_cons, List.append_nil, List.nil_append, List.cons_append, List.getElem?_cons_zero, List.getElem?_cons_succ, List.set_cons_zero, List.set_cons_succ, List.getD_cons_zero, List.getD_cons_succ, Int.reduceToNat])); (with_reducible refine Mi.nm_b ?_)) | (with_reducible refine ⟨_, Mi.add_int, ?_⟩) | (with_reducible refine ⟨_, Mi.sub_int, ?_⟩) | (with_reducible refine ⟨_, Mi.lt_int, ?_⟩) | (with_reducible refine ⟨_, Mi.le_int, ?_⟩) | (with_reducible refine ⟨_, Mi.gt_int, ?_⟩) | (with_reducible refine ⟨_, Mi.ge_int, ?_⟩) | (with_reducible refine ⟨_, Mi.neg_int, ?_⟩) | (with_reducible refine ⟨_, Mi.asBl_bl, ?_⟩) | (with_reducible refine ⟨_, Mi.pow_lit (by decide) (by decide), ?_⟩) | (with_reducible refine ⟨_, Mi.mul_int (by decide), ?_⟩) | (with_reducible refine ⟨_, Mi.mod_int (by decide), ?_⟩) | (with_reducible refine ⟨_, Mi.fdiv_int (by decide), ?_⟩) | (with_reducible refine ⟨_, Mi.eqq_int, ?_⟩) | (with_reducible refine ⟨_, Mi.neq_int, ?_⟩) | (with_reducible refine Mi.ift_t ?_) | (with_reducible refine Mi.ift_f ?_) | (with_reducible refine Mi.ift_nt ?_) | (with_reducible refine Mi.ift_nf ?_) | ((with_reducible refine Mi.ift_bt ?_ ?_); · rfl) | ((with_reducible refine Mi.ift_bf ?_ ?_); · rfl) | (refine ⟨_, _, _, _, _, rfl, rfl, rfl, rfl, ?_⟩) | (refine ⟨_, _, rfl, rfl, ?_⟩) | (refine ⟨_, _, rfl, ?_⟩) | (refine ⟨⟨rfl, rfl, rfl⟩, ?_⟩) | (refine ⟨Nat.le_of_ble_eq_true rfl, ?_⟩) | (refine ⟨by decide, ?_⟩) | (refine ⟨_, rfl, ?_⟩) | (refine ⟨rfl, ?_⟩))); (try (with_reducible refine Mi.here ?_)))
          exact ⟨rfl, rfl⟩
        | _ => exact hb.elim
      | int a =>
        ((repeat (first | (with_reducible refine Mi.wp_seq ?_) | (with_reducible refine Mi.wp_ifS ?_) | (with_reducible refine Mi.wp_asg ?_) | (with_reducible refine Mi.wp_retS ?_) | (with_reducible refine Mi.wp_bin ?_) | ((with_reducible apply Mi.wp_var1); · rfl) | (with_reducible refine Mi.wp_C ?_) | (with_reducible refine Mi.wp_asCons ?_) | (with_reducible refine Mi.wp_asNil ?_) | (with_reducible refine Mi.wp_call ?_) | (with_reducible refine Mi.wp_callIO ?_) | (with_reducible refine Mi.wp_args ?_) | (with_reducible refine Mi.wp_frzXn ?_) | (with_reducible refine Mi.wp_frzX0 ?_) | (with_reducible refine Mi.wp_frzXS ?_) | (with_reducible refine Mi.wp_frzsCons ?_) | (with_reducible refine Mi.wp_frzsNil ?_) | (with_reducible refine Mi.wp_frzD ?_) | (with_reducible refine Mi.wp_boolA ?_) | (with_reducible refine Mi.wp_blT ?_) | (with_reducible refine Mi.wp_tst ?_) | (with_reducible refine Mi.wp_andT ?_) | (with_reducible refine Mi.wp_orT ?_) | (with_reducible refine Mi.wp_notT ?_) | (with_reducible refine Mi.wp_ifA ?_) | (with_reducible refine Mi.wp_andA ?_) | (with_reducible refine Mi.wp_orA ?_) | (with_reducible refine Mi.wp_notA ?_) | (with_reducible refine Mi.wp_chainT ?_) | (with_reducible refine Mi.wp_cb ?_) | (with_reducible refine Mi.wp_un ?_) | (with_reducible refine Mi.wp_next ?_) | (with_reducible refine Mi.wp_asgN ?_) | (with_reducible refine Mi.wp_retNS ?_) | (with_reducible refine Mi.wp_drop ?_) | (with_reducible refine Mi.wp_par2 ?_) | (with_reducible refine Mi.wp_asgG ?_) | (with_reducible refine Mi.wp_subG ?_) | (with_reducible refine Mi.wp_appA ?_) | (with_reducible refine Mi.wp_tup ?_) | (with_reducible refine Mi.wp_lst ?_) | (with_reducible refine Mi.wp_new ?_) | (with_reducible refine Mi.wp_slice ?_) | (with_reducible refine Mi.wp_prtN ?_) | (with_reducible refine Mi.wp_prtS ?_) | (with_reducible refine Mi.wp_mt ?_) | (with_reducible refine Mi.wp_mt0 ?_) | (with_reducible refine Mi.wp_seqI ?_) | (with_reducible refine Mi.wp_compN ?_) | (with_reducible refine Mi.wp_fnI ?_) | (with_reducible refine Mi.wp_forS ?_) | (with_reducible refine Mi.wp_tgTup ?_) | (with_reducible refine Mi.wp_gsCons ?_) | (with_reducible refine Mi.wp_gsNil ?_) | (with_reducible refine Mi.wp_callN ?_) | ((with_reducible apply Mi.wp_putV); · rfl) | ((with_reducible apply Mi.wp_putN); · rfl) | (with_reducible refine Mi.wp_bnd ?_) | (with_reducible refine Mi.wp_ret ?_) | (with_reducible refine Mi.wp_opt ?_) | (with_reducible refine Mi.wp_view ?_) | ((with_reducible refine Mi.nm_a ?_); (try (conv => arg 1; simp only [Mi.putCell, Mi.wipeL, Mi.backL, Mi.pick, List.filterMap_cons, List.filterMap_nil, List.filterMap_cons_some, List.map_nil, List.map_cons, List.append_nil, List.nil_append, List.cons_append, List.getElem?_cons_zero, List.getElem?_cons_succ, List.set_cons_zero, List.set_cons_succ, List.getD_cons_zero, List.getD_cons_succ, Int.reduceToNat])); (with_reducible refine Mi.nm_b ?_)) | (with_reducible refine ⟨_, Mi.add_int, ?_⟩) | (with_reducible refine ⟨_, Mi.sub_int, ?_⟩) | (with_reducible refine ⟨_, Mi.lt_int, ?_⟩) | (with_reducible refine ⟨_, Mi.le_int, ?_⟩) | (with_reducible refine ⟨_, Mi.gt_int, ?_⟩) | (with_reducible refine ⟨_, Mi.ge_int, ?_⟩) | (with_reducible refine ⟨_, Mi.neg_int, ?_⟩) | (with_reducible refine ⟨_, Mi.asBl_bl, ?_⟩) | (with_reducible refine ⟨_, Mi.pow_lit (by decide) (by decide), ?_⟩) | (with_reducible refine ⟨_, Mi.mul_int (by decide), ?_⟩) | (with_reducible refine ⟨_, Mi.mod_int (by decide), ?_⟩) | (with_reducible refine ⟨_, Mi.fdiv_int (by decide), ?_⟩) | (with_reducible refine ⟨_, Mi.eqq_int, ?_⟩) | (with_reducible refine ⟨_, Mi.neq_int, ?_⟩) | (with_reducible refine Mi.ift_t ?_) | (with_reducible refine Mi.ift_f ?_) | (with_reducible refine Mi.ift_nt ?_) | (with_reducible refine Mi.ift_nf ?_) | ((with_reducible refine Mi.ift_bt ?_ ?_); · rfl) | ((with_reducible refine Mi.ift_bf ?_ ?_); · rfl) | (refine ⟨_, _, _, _, _, rfl, rfl, rfl, rfl, ?_⟩) | (refine ⟨_, _, rfl, rfl, ?_⟩) | (refine ⟨_, _, rfl, ?_⟩) | (refine ⟨⟨rfl, rfl, rfl⟩, ?_⟩) | (refine ⟨Nat.le_of_ble_eq_true rfl, ?_⟩) | (refine ⟨by decide, ?_⟩) | (refine ⟨_, rfl, ?_⟩) | (refine ⟨rfl, ?_⟩))); (try (with_reducible refine Mi.here ?_)))
        refine ⟨fun h => ?_, fun h => ?_⟩
        · ((repeat (first | (with_reducible refine Mi.wp_seq ?_) | (with_reducible refine Mi.wp_ifS ?_) | (with_reducible refine Mi.wp_asg ?_) | (with_reducible refine Mi.wp_retS ?_) | (with_reducible refine Mi.wp_bin ?_) | ((with_reducible apply Mi.wp_var1); · rfl) | (with_reducible refine Mi.wp_C ?_) | (with_reducible refine Mi.wp_asCons ?_) | (with_reducible refine Mi.wp_asNil ?_) | (with_reducible refine Mi.wp_call ?_) | (with_reducible refine Mi.wp_callIO ?_) | (with_reducible refine Mi.wp_args ?_) | (with_reducible refine Mi.wp_frzXn ?_) | (with_reducible refine Mi.wp_frzX0 ?_) | (with_reducible refine Mi.wp_frzXS ?_) | (with_reducible refine Mi.wp_frzsCons ?_) | (with_reducible refine Mi.wp_frzsNil ?_) | (with_reducible refine Mi.wp_frzD ?_) | (with_reducible refine Mi.wp_boolA ?_) | (with_reducible refine Mi.wp_blT ?_) | (with_reducible refine Mi.wp_tst ?_) | (with_reducible refine Mi.wp_andT ?_) | (with_reducible refine Mi.wp_orT ?_) | (with_reducible refine Mi.wp_notT ?_) | (with_reducible refine Mi.wp_ifA ?_) | (with_reducible refine Mi.wp_andA ?_) | (with_reducible refine Mi.wp_orA ?_) | (with_reducible refine Mi.wp_notA ?_) | (with_reducible refine Mi.wp_chainT ?_) | (with_reducible refine Mi.wp_cb ?_) | (with_reducible refine Mi.wp_un ?_) | (with_reducible refine Mi.wp_next ?_) | (with_reducible refine Mi.wp_asgN ?_) | (with_reducible refine Mi.wp_retNS ?_) | (with_reducible refine Mi.wp_drop ?_) | (with_reducible refine Mi.wp_par2 ?_) | (with_reducible refine Mi.wp_asgG ?_) | (with_reducible refine Mi.wp_subG ?_) | (with_reducible refine Mi.wp_appA ?_) | (with_reducible refine Mi.wp_tup ?_) | (with_reducible refine Mi.wp_lst ?_) | (with_reducible refine Mi.wp_new ?_) | (with_reducible refine Mi.wp_slice ?_) | (with_reducible refine Mi.wp_prtN ?_) | (with_reducible refine Mi.wp_prtS ?_) | (with_reducible refine Mi.wp_mt ?_) | (with_reducible refine Mi.wp_mt0 ?_) | (with_reducible refine Mi.wp_seqI ?_) | (with_reducible refine Mi.wp_compN ?_) | (with_reducible refine Mi.wp_fnI ?_) | (with_reducible refine Mi.wp_forS ?_) | (with_reducible refine Mi.wp_tgTup ?_) | (with_reducible refine Mi.wp_gsCons ?_) | (with_reducible refine Mi.wp_gsNil ?_) | (with_reducible refine Mi.wp_callN ?_) | ((with_reducible apply Mi.wp_putV); · rfl) | ((with_reducible apply Mi.wp_putN); · rfl) | (with_reducible refine Mi.wp_bnd ?_) | (with_reducible refine Mi.wp_ret ?_) | (with_reducible refine Mi.wp_opt ?_) | (with_reducible refine Mi.wp_view ?_) | ((with_reducible refine Mi.nm_a ?_); (try (conv => arg 1; simp only [Mi.putCell, Mi.wipeL, Mi.backL, Mi.pick, List.filterMap_cons, List.filterMap_nil, List.filterMap_cons_some, List.map_nil, List.map_cons, List.append_nil, List.nil_append, List.cons_append, List.getElem?_cons_zero, List.getElem?_cons_succ, List.set_cons_zero, List.set_cons_succ, List.getD_cons_zero, List.getD_cons_succ, Int.reduceToNat])); (with_reducible refine Mi.nm_b ?_)) | (with_reducible refine ⟨_, Mi.add_int, ?_⟩) | (with_reducible refine ⟨_, Mi.sub_int, ?_⟩) | (with_reducible refine ⟨_, Mi.lt_int, ?_⟩) | (with_reducible refine ⟨_, Mi.le_int, ?_⟩) | (with_reducible refine ⟨_, Mi.gt_int, ?_⟩) | (with_reducible refine ⟨_, Mi.ge_int, ?_⟩) | (with_reducible refine ⟨_, Mi.neg_int, ?_⟩) | (with_reducible refine ⟨_, Mi.asBl_bl, ?_⟩) | (with_reducible refine ⟨_, Mi.pow_lit (by decide) (by decide), ?_⟩) | (with_reducible refine ⟨_, Mi.mul_int (by decide), ?_⟩) | (with_reducible refine ⟨_, Mi.mod_int (by decide), ?_⟩) | (with_reducible refine ⟨_, Mi.fdiv_int (by decide), ?_⟩) | (with_reducible refine ⟨_, Mi.eqq_int, ?_⟩) | (with_reducible refine ⟨_, Mi.neq_int, ?_⟩) | (with_reducible refine Mi.ift_t ?_) | (with_reducible refine Mi.ift_f ?_) | (with_reducible refine Mi.ift_nt ?_) | (with_reducible refine Mi.ift_nf ?_) | ((with_reducible refine Mi.ift_bt ?_ ?_); · rfl) | ((with_reducible refine Mi.ift_bf ?_ ?_); · rfl) | (refine ⟨_, _, _, _, _, rfl, rfl, rfl, rfl, ?_⟩) | (refine ⟨_, _, rfl, rfl, ?_⟩) | (refine ⟨_, _, rfl, ?_⟩) | (refine ⟨⟨rfl, rfl, rfl⟩, ?_⟩) | (refine ⟨Nat.le_of_ble_eq_true rfl, ?_⟩) | (refine ⟨by decide, ?_⟩) | (refine ⟨_, rfl, ?_⟩) | (refine ⟨rfl, ?_⟩))); (try (with_reducible refine Mi.here ?_)))
          have h := of_decide_eq_true h
          refine ⟨?_, rfl⟩
          show _ = D.bl (decide (a ≤ i) && _)
          rw [decide_eq_false (by omega)]
          rfl
        · have h := of_decide_eq_false h
          cases b with
          | non =>
            ((repeat (first | (with_reducible refine Mi.wp_seq ?_) | (with_reducible refine Mi.wp_ifS ?_) | (with_reducible refine Mi.wp_asg ?_) | (with_reducible refine Mi.wp_retS ?_) | (with_reducible refine Mi.wp_bin ?_) | ((with_reducible apply Mi.wp_var1); · rfl) | (with_reducible refine Mi.wp_C ?_) | (with_reducible refine Mi.wp_asCons ?_) | (with_reducible refine Mi.wp_asNil ?_) | (with_reducible refine Mi.wp_call ?_) | (with_reducible refine Mi.wp_callIO ?_) | (with_reducible refine Mi.wp_args ?_) | (with_reducible refine Mi.wp_frzXn ?_) | (with_reducible refine Mi.wp_frzX0 ?_) | (with_reducible refine Mi.wp_frzXS ?_) | (with_reducible refine Mi.wp_frzsCons ?_) | (with_reducible refine Mi.wp_frzsNil ?_) | (with_reducible refine Mi.wp_frzD ?_) | (with_reducible refine Mi.wp_boolA ?_) | (with_reducible refine Mi.wp_blT ?_) | (with_reducible refine Mi.wp_tst ?_) | (with_reducible refine Mi.wp_andT ?_) | (with_reducible refine Mi.wp_orT ?_) | (with_reducible refine Mi.wp_notT ?_) | (with_reducible refine Mi.wp_ifA ?_) | (with_reducible refine Mi.wp_andA ?_) | (with_reducible refine Mi.wp_orA ?_) | (with_reducible refine Mi.wp_notA ?_) | (with_reducible refine Mi.wp_chainT ?_) | (with_reducible refine Mi.wp_cb ?_) | (with_reducible refine Mi.wp_un ?_) | (with_reducible refine Mi.wp_next ?_) | (with_reducible refine Mi.wp_asgN ?_) | (with_reducible refine Mi.wp_retNS ?_) | (with_reducible refine Mi.wp_drop ?_) | (with_reducible refine Mi.wp_par2 ?_) | (with_reducible refine Mi.wp_asgG ?_) | (with_reducible refine Mi.wp_subG ?_) | (with_reducible refine Mi.wp_appA ?_) | (with_reducible refine Mi.wp_tup ?_) | (with_reducible refine Mi.wp_lst ?_) | (with_reducible refine Mi.wp_new ?_) | (with_reducible refine Mi.wp_slice ?_) | (with_reducible refine Mi.wp_prtN ?_) | (with_reducible refine Mi.wp_prtS ?_) | (with_reducible refine Mi.wp_mt ?_) | (with_reducible refine Mi.wp_mt0 ?_) | (with_reducible refine Mi.wp_seqI ?_) | (with_reducible refine Mi.wp_compN ?_) | (with_reducible refine Mi.wp_fnI ?_) | (with_reducible refine Mi.wp_forS ?_) | (with_reducible refine Mi.wp_tgTup ?_) | (with_reducible refine Mi.wp_gsCons ?_) | (with_reducible refine Mi.wp_gsNil ?_) | (with_reducible refine Mi.wp_callN ?_) | ((with_reducible apply Mi.wp_putV); · rfl) | ((with_reducible apply Mi.wp_putN); · rfl) | (with_reducible refine Mi.wp_bnd ?_) | (with_reducible refine Mi.wp_ret ?_) | (with_reducible refine Mi.wp_opt ?_) | (with_reducible refine Mi.wp_view ?_) | ((with_reducible refine Mi.nm_a ?_); (try (conv => arg 1; simp only [Mi.putCell, Mi.wipeL, Mi.backL, Mi.pick, List.filterMap_cons, List.filterMap_nil, List.filterMap_cons_some, List.map_nil, List.map_cons, List.append_nil, List.nil_append, List.cons_append, List.getElem?_cons_zero, List.getElem?_cons_succ, List.set_cons_zero, List.set_cons_succ, List.getD_cons_zero, List.getD_cons_succ, Int.reduceToNat])); (with_reducible refine Mi.nm_b ?_)) | (with_reducible refine ⟨_, Mi.add_int, ?_⟩) | (with_reducible refine ⟨_, Mi.sub_int, ?_⟩) | (with_reducible refine ⟨_, Mi.lt_int, ?_⟩) | (with_reducible refine ⟨_, Mi.le_int, ?_⟩) | (with_reducible refine ⟨_, Mi.gt_int, ?_⟩) | (with_reducible refine ⟨_, Mi.ge_int, ?_⟩) | (with_reducible refine ⟨_, Mi.neg_int, ?_⟩) | (with_reducible refine ⟨_, Mi.asBl_bl, ?_⟩) | (with_reducible refine ⟨_, Mi.pow_lit (by decide) (by decide), ?_⟩) | (with_reducible refine ⟨_, Mi.mul_int (by decide), ?_⟩) | (with_reducible refine ⟨_, Mi.mod_int (by decide), ?_⟩) | (with_reducible refine ⟨_, Mi.fdiv_int (by decide), ?_⟩) | (with_reducible refine ⟨_, Mi.eqq_int, ?_⟩) | (with_reducible refine ⟨_, Mi.neq_int, ?_⟩) | (with_reducible refine Mi.ift_t ?_) | (with_reducible refine Mi.ift_f ?_) | (with_reducible refine Mi.ift_nt ?_) | (with_reducible refine Mi.ift_nf ?_) | ((with_reducible refine Mi.ift_bt ?_ ?_); · rfl) | ((with_reducible refine Mi.ift_bf ?_ ?_); · rfl) | (refine ⟨_, _, _, _, _, rfl, rfl, rfl, rfl, ?_⟩) | (refine ⟨_, _, rfl, rfl, ?_⟩) | (refine ⟨_, _, rfl, ?_⟩) | (refine ⟨⟨rfl, rfl, rfl⟩, ?_⟩) | (refine ⟨Nat.le_of_ble_eq_true rfl, ?_⟩) | (refine ⟨by decide, ?_⟩) | (refine ⟨_, rfl, ?_⟩) | (refine ⟨rfl, ?_⟩))); (try (with_reducible refine Mi.here ?_)))
            refine ⟨?_, rfl⟩
            show _ = D.bl (decide (a ≤ i) && true)
            rw [decide_eq_true (by omega)]
            rfl
          | int b =>
            ((repeat (first | (with_reducible refine Mi.wp_seq ?_) | (with_reducible refine Mi.wp_ifS ?_) | (with_reducible refine Mi.wp_asg ?_) | (with_reducible refine Mi.wp_retS ?_) | (with_reducible refine Mi.wp_bin ?_) | ((with_reducible apply Mi.wp_var1); · rfl) | (with_reducible refine Mi.wp_C ?_) | (with_reducible refine Mi.wp_asCons ?_) | (with_reducible refine Mi.wp_asNil ?_) | (with_reducible refine Mi.wp_call ?_) | (with_reducible refine Mi.wp_callIO ?_) | (with_reducible refine Mi.wp_args ?_) | (with_reducible refine Mi.wp_frzXn ?_) | (with_reducible refine Mi.wp_frzX0 ?_) | (with_reducible refine Mi.wp_frzXS ?_) | (with_reducible refine Mi.wp_frzsCons ?_) | (with_reducible refine Mi.wp_frzsNil ?_) | (with_reducible refine Mi.wp_frzD ?_) | (with_reducible refine Mi.wp_boolA ?_) | (with_reducible refine Mi.wp_blT ?_) | (with_reducible refine Mi.wp_tst ?_) | (with_reducible refine Mi.wp_andT ?_) | (with_reducible refine Mi.wp_orT ?_) | (with_reducible refine Mi.wp_notT ?_) | (with_reducible refine Mi.wp_ifA ?_) | (with_reducible refine Mi.wp_andA ?_) | (with_reducible refine Mi.wp_orA ?_) | (with_reducible refine Mi.wp_notA ?_) | (with_reducible refine Mi.wp_chainT ?_) | (with_reducible refine Mi.wp_cb ?_) | (with_reducible refine Mi.wp_un ?_) | (with_reducible refine Mi.wp_next ?_) | (with_reducible refine Mi.wp_asgN ?_) | (with_reducible refine Mi.wp_retNS ?_) | (with_reducible refine Mi.wp_drop ?_) | (with_reducible refine Mi.wp_par2 ?_) | (with_reducible refine Mi.wp_asgG ?_) | (with_reducible refine Mi.wp_subG ?_) | (with_reducible refine Mi.wp_appA ?_) | (with_reducible refine Mi.wp_tup ?_) | (with_reducible refine Mi.wp_lst ?_) | (with_reducible refine Mi.wp_new ?_) | (with_reducible refine Mi.wp_slice ?_) | (with_reducible refine Mi.wp_prtN ?_) | (with_reducible refine Mi.wp_prtS ?_) | (with_reducible refine Mi.wp_mt ?_) | (with_reducible refine Mi.wp_mt0 ?_) | (with_reducible refine Mi.wp_seqI ?_) | (with_reducible refine Mi.wp_compN ?_) | (with_reducible refine Mi.wp_fnI ?_) | (with_reducible refine Mi.wp_forS ?_) | (with_reducible refine Mi.wp_tgTup ?_) | (with_reducible refine Mi.wp_gsCons ?_) | (with_reducible refine Mi.wp_gsNil ?_) | (with_reducible refine Mi.wp_callN ?_) | ((with_reducible apply Mi.wp_putV); · rfl) | ((with_reducible apply Mi.wp_putN); · rfl) | (with_reducible refine Mi.wp_bnd ?_) | (with_reducible refine Mi.wp_ret ?_) | (with_reducible refine Mi.wp_opt ?_) | (with_reducible refine Mi.wp_view ?_) | ((with_reducible refine Mi.nm_a ?_); (try (conv => arg 1; simp only [Mi.putCell, Mi.wipeL, Mi.backL, Mi.pick, List.filterMap_cons, List.filterMap_nil, List.filterMap_cons_some, List.map_nil, List.map_cons, List.append_nil, List.nil_append, List.cons_append, List.getElem?_cons_zero, List.getElem?_cons_succ, List.set_cons_zero, List.set_cons_succ, List.getD_cons_zero, List.getD_cons_succ, Int.reduceToNat])); (with_reducible refine Mi.nm_b ?_)) | (with_reducible refine ⟨_, Mi.add_int, ?_⟩) | (with_reducible refine ⟨_, Mi.sub_int, ?_⟩) | (with_reducible refine ⟨_, Mi.lt_int, ?_⟩) | (with_reducible refine ⟨_, Mi.le_int, ?_⟩) | (with_reducible refine ⟨_, Mi.gt_int, ?_⟩) | (with_reducible refine ⟨_, Mi.ge_int, ?_⟩) | (with_reducible refine ⟨_, Mi.neg_int, ?_⟩) | (with_reducible refine ⟨_, Mi.asBl_bl, ?_⟩) | (with_reducible refine ⟨_, Mi.pow_lit (by decide) (by decide), ?_⟩) | (with_reducible refine ⟨_, Mi.mul_int (by decide), ?_⟩) | (with_reducible refine ⟨_, Mi.mod_int (by decide), ?_⟩) | (with_reducible refine ⟨_, Mi.fdiv_int (by decide), ?_⟩) | (with_reducible refine ⟨_, Mi.eqq_int, ?_⟩) | (with_reducible refine ⟨_, Mi.neq_int, ?_⟩) | (with_reducible refine Mi.ift_t ?_) | (with_reducible refine Mi.ift_f ?_) | (with_reducible refine Mi.ift_nt ?_) | (with_reducible refine Mi.ift_nf ?_) | ((with_reducible refine Mi.ift_bt ?_ ?_); · rfl) | ((with_reducible refine Mi.ift_bf ?_ ?_); · rfl) | (refine ⟨_, _, _, _, _, rfl, rfl, rfl, rfl, ?_⟩) | (refine ⟨_, _, rfl, rfl, ?_⟩) | (refine ⟨_, _, rfl, ?_⟩) | (refine ⟨⟨rfl, rfl, rfl⟩, ?_⟩) | (refine ⟨Nat.le_of_ble_eq_true rfl, ?_⟩) | (refine ⟨by decide, ?_⟩) | (refine ⟨_, rfl, ?_⟩) | (refine ⟨rfl, ?_⟩))); (try (with_reducible refine Mi.here ?_)))
            refine ⟨?_, rfl⟩
            show _ = D.bl (decide (a ≤ i) && decide (i ≤ b))
            rw [decide_eq_true (show a ≤ i by omega)]
            rfl
          | _ => exact hb.elim
      | _ => exact ha.elim
    | _ => first
      | exact hv.elim
      | (((repeat (first | (with_reducible refine Mi.wp_seq ?_) | (with_reducible refine Mi.wp_ifS ?_) | (with_reducible refine Mi.wp_asg ?_) | (with_reducible refine Mi.wp_retS ?_) | (with_reducible refine Mi.wp_bin ?_) | ((with_reducible apply Mi.wp_var1); · rfl) | (with_reducible refine Mi.wp_C ?_) | (with_reducible refine Mi.wp_asCons ?_) | (with_reducible refine Mi.wp_asNil ?_) | (with_reducible refine Mi.wp_call ?_) | (with_reducible refine Mi.wp_callIO ?_) | (with_reducible refine Mi.wp_args ?_) | (with_reducible refine Mi.wp_frzXn ?_) | (with_reducible refine Mi.wp_frzX0 ?_) | (with_reducible refine Mi.wp_frzXS ?_) | (with_reducible refine Mi.wp_frzsCons ?_) | (with_reducible refine Mi.wp_frzsNil ?_) | (with_reducible refine Mi.wp_frzD ?_) | (with_reducible refine Mi.wp_boolA ?_) | (with_reducible refine Mi.wp_blT ?_) | (with_reducible refine Mi.wp_tst ?_) | (with_reducible refine Mi.wp_andT ?_) | (with_reducible refine Mi.wp_orT ?_) | (with_reducible refine Mi.wp_notT ?_) | (with_reducible refine Mi.wp_ifA ?_) | (with_reducible refine Mi.wp_andA ?_) | (with_reducible refine Mi.wp_orA ?_) | (with_reducible refine Mi.wp_notA ?_) | (with_reducible refine Mi.wp_chainT ?_) | (with_reducible refine Mi.wp_cb ?_) | (with_reducible refine Mi.wp_un ?_) | (with_reducible refine Mi.wp_next ?_) | (with_reducible refine Mi.wp_asgN ?_) | (with_reducible refine Mi.wp_retNS ?_) | (with_reducible refine Mi.wp_drop ?_) | (with_reducible refine Mi.wp_par2 ?_) | (with_reducible refine Mi.wp_asgG ?_) | (with_reducible refine Mi.wp_subG ?_) | (with_reducible refine Mi.wp_appA ?_) | (with_reducible refine Mi.wp_tup ?_) | (with_reducible refine Mi.wp_lst ?_) | (with_reducible refine Mi.wp_new ?_) | (with_reducible refine Mi.wp_slice ?_) | (with_reducible refine Mi.wp_prtN ?_) | (with_reducible refine Mi.wp_prtS ?_) | (with_reducible refine Mi.wp_mt ?_) | (with_reducible refine Mi.wp_mt0 ?_) | (with_reducible refine Mi.wp_seqI ?_) | (with_reducible refine Mi.wp_compN ?_) | (with_reducible refine Mi.wp_fnI ?_) | (with_reducible refine Mi.wp_forS ?_) | (with_reducible refine Mi.wp_tgTup ?_) | (with_reducible refine Mi.wp_gsCons ?_) | (with_reducible refine Mi.wp_gsNil ?_) | (with_reducible refine Mi.wp_callN ?_) | ((with_reducible apply Mi.wp_putV); · rfl) | ((with_reducible apply Mi.wp_putN); · rfl) | (with_reducible refine Mi.wp_bnd ?_) | (with_reducible refine Mi.wp_ret ?_) | (with_reducible refine Mi.wp_opt ?_) | (with_reducible refine Mi.wp_view ?_) | ((with_reducible refine Mi.nm_a ?_); (try (conv => arg 1; simp only [Mi.putCell, Mi.wipeL, Mi.backL, Mi.pick, List.filterMap_cons, List.filterMap_nil, List.filterMap_cons_some, List.map_nil, List.map_cons, List.append_nil, List.nil_append, List.cons_append, List.getElem?_cons_zero, List.getElem?_cons_succ, List.set_cons_zero, List.set_cons_succ, List.getD_cons_zero, List.getD_cons_succ, Int.reduceToNat])); (with_reducible refine Mi.nm_b ?_)) | (with_reducible refine ⟨_, Mi.add_int, ?_⟩) | (with_reducible refine ⟨_, Mi.sub_int, ?_⟩) | (with_reducible refine ⟨_, Mi.lt_int, ?_⟩) | (with_reducible refine ⟨_, Mi.le_int, ?_⟩) | (with_reducible refine ⟨_, Mi.gt_int, ?_⟩) | (with_reducible refine ⟨_, Mi.ge_int, ?_⟩) | (with_reducible refine ⟨_, Mi.neg_int, ?_⟩) | (with_reducible refine ⟨_, Mi.asBl_bl, ?_⟩) | (with_reducible refine ⟨_, Mi.pow_lit (by decide) (by decide), ?_⟩) | (with_reducible refine ⟨_, Mi.mul_int (by decide), ?_⟩) | (with_reducible refine ⟨_, Mi.mod_int (by decide), ?_⟩) | (with_reducible refine ⟨_, Mi.fdiv_int (by decide), ?_⟩) | (with_reducible refine ⟨_, Mi.eqq_int, ?_⟩) | (with_reducible refine ⟨_, Mi.neq_int, ?_⟩) | (with_reducible refine Mi.ift_t ?_) | (with_reducible refine Mi.ift_f ?_) | (with_reducible refine Mi.ift_nt ?_) | (with_reducible refine Mi.ift_nf ?_) | ((with_reducible refine Mi.ift_bt ?_ ?_); · rfl) | ((with_reducible refine Mi.ift_bf ?_ ?_); · rfl) | (refine ⟨_, _, _, _, _, rfl, rfl, rfl, rfl, ?_⟩) | (refine ⟨_, _, rfl, rfl, ?_⟩) | (refine ⟨_, _, rfl, ?_⟩) | (refine ⟨⟨rfl, rfl, rfl⟩, ?_⟩) | (refine ⟨Nat.le_of_ble_eq_true rfl, ?_⟩) | (refine ⟨by decide, ?_⟩) | (refine ⟨_, rfl, ?_⟩) | (refine ⟨rfl, ?_⟩))); (try (with_reducible refine Mi.here ?_)))
         exact ⟨rfl, rfl⟩)
  obtain ⟨d, o, e, rfl, rfl⟩ := fp_ex z
  exact e
end Lw
namespace Lw
open PySem L2 Mi
def smB (c : Nat) : Bool := decide (97 ≤ c ∧ c ≤ 122)
def dgB (c : Nat) : Bool := decide (48 ≤ c ∧ c ≤ 57)
theorem small_list : (Str.ofString "abcdefghijklmnopqrstuvwxyz").cps.toList = (List.range 26).map (· + 97) := by decide +kernel
theorem digit_list : (Str.ofString "0123456789").cps.toList = (List.range 10).map (· + 48) := by decide +kernel
theorem in_range {c a n : Nat} : decide (c ∈ (List.range n).map (· + a)) = decide (a ≤ c ∧ c < a + n) := by
  rw [decide_eq_decide, List.mem_map]
  constructor
  · rintro ⟨i, h, rfl⟩
    have := List.mem_range.mp h
    omega
  · rintro ⟨h1, h2⟩
    exact ⟨c - a, List.mem_range.mpr (by omega), by omega⟩
theorem smB_eq (c : Nat) : smB c = decide (97 ≤ c ∧ c < 97 + 26) := by
  unfold smB
  rw [decide_eq_decide]
  omega
theorem dgB_eq (c : Nat) : dgB c = decide (48 ≤ c ∧ c < 48 + 10) := by
  unfold dgB
  rw [decide_eq_decide]
  omega
theorem occ_small (c : Nat) : (!(Builtin.Str.occurrences (Str.ofString "abcdefghijklmnopqrstuvwxyz") ⟨#[c]⟩ 0 (Str.ofString "abcdefghijklmnopqrstuvwxyz").length 1).isEmpty) = smB c := by
  rw [smB_eq, ← in_range, ← small_list]
  exact StrLaws.found_one (Str.ofString "abcdefghijklmnopqrstuvwxyz") c
theorem occ_digit (c : Nat) : (!(Builtin.Str.occurrences (Str.ofString "0123456789") ⟨#[c]⟩ 0 (Str.ofString "0123456789").length 1).isEmpty) = dgB c := by
  rw [dgB_eq, ← in_range, ← digit_list]
  exact StrLaws.found_one (Str.ofString "0123456789") c
theorem in_small {c : Nat} : inD false (.str ⟨#[c]⟩) (.str (Str.ofString "abcdefghijklmnopqrstuvwxyz")) = some (.bl (smB c)) := by
  rw [← occ_small]
  rfl
theorem nin_small {c : Nat} : inD true (.str ⟨#[c]⟩) (.str (Str.ofString "abcdefghijklmnopqrstuvwxyz")) = some (.bl (!smB c)) := by
  rw [← occ_small, Bool.not_not]
  rfl
theorem in_digit {c : Nat} : inD false (.str ⟨#[c]⟩) (.str (Str.ofString "0123456789")) = some (.bl (dgB c)) := by
  rw [← occ_digit]
  rfl
theorem one_lt {a c : Nat} : decide ([a] < [c]) = decide (a < c) := by
  rw [decide_eq_decide, List.cons_lt_cons_iff]
  exact ⟨fun h => h.elim id fun h => absurd h.2 (List.not_lt_nil _), .inl⟩
theorem le_one {a : Str} {k c : Nat} (h : a.cps.toList = [k]) : leD (.str a) (.str ⟨#[c]⟩) = some (.bl (decide (k ≤ c))) := by
  show some (D.bl (!decide ([c] < a.cps.toList))) = _
  rw [h, one_lt]
  congr 2
  rw [Bool.eq_iff_iff]
  simp
theorem one_le {a : Str} {k c : Nat} (h : a.cps.toList = [k]) : leD (.str ⟨#[c]⟩) (.str a) = some (.bl (decide (c ≤ k))) := by
  show some (D.bl (!decide (a.cps.toList < [c]))) = _
  rw [h, one_lt]
  congr 2
  rw [Bool.eq_iff_iff]
  simp
theorem le_a {c : Nat} : leD (.str (Str.ofString "a")) (.str ⟨#[c]⟩) = some (.bl (decide (97 ≤ c))) := le_one (by decide +kernel)
theorem le_z {c : Nat} : leD (.str ⟨#[c]⟩) (.str (Str.ofString "z")) = some (.bl (decide (c ≤ 122))) := one_le (by decide +kernel)
theorem le_0 {c : Nat} : leD (.str (Str.ofString "0")) (.str ⟨#[c]⟩) = some (.bl (decide (48 ≤ c))) := le_one (by decide +kernel)
theorem le_9 {c : Nat} : leD (.str ⟨#[c]⟩) (.str (Str.ofString "9")) = some (.bl (decide (c ≤ 57))) := one_le (by decide +kernel)
theorem all_bl {bs : List Bool} : allD [.lst (bs.map D.bl)] = some (.bl (bs.all id)) := by
  have e : (bs.map D.bl).mapM asBl = some bs := by
    induction bs with
    | nil => rfl
    | cons b bs ih => rw [List.map_cons, List.mapM_cons, ih]; rfl
  show ((bs.map D.bl).mapM asBl).map _ = _
  rw [e]
  rfl
theorem ix0 {c : Nat} {cs : List Nat} (h : cs.length < 1000) : ixD (.str ⟨(c :: cs).toArray⟩) (.int 0) = some (.str ⟨#[c]⟩) := by
  have hl : (⟨(c :: cs).toArray⟩ : Str).length ≤ sizeLine := by
    show (c :: cs).toArray.size ≤ 2 ^ 24
    simp
    omega
  show (if _ then (L2.atI (c :: cs) 0).map fun ch => D.str ⟨#[ch]⟩ else none) = _
  rw [if_pos hl]
  unfold L2.atI L2.ixN
  rw [if_pos (by decide), if_pos (by simp only [List.length_cons]; omega)]
  rfl
def nmL (l : List Nat) : Bool := decide (1 ≤ l.length ∧ l.length ≤ 12) && ((l.head?.map smB).getD false && l.all fun c => smB c || dgB c)
theorem lenS {l : List Nat} (h : l.length < 1000) : lenD [.str ⟨l.toArray⟩] = some (.int l.length) := by
  have e : (⟨l.toArray⟩ : Str).length = l.length := by
    show l.toArray.size = _
    simp
  rw [len_str (by rw [e]; simp [sizeLine]; omega), e]
theorem name_ok {l : List Nat} (h : l.length < 1000) : f_is_name [.str ⟨l.toArray⟩] = .ok (.bl (nmL l)) .non := by
  have z : Fp (f_is_name [.str ⟨l.toArray⟩]) noX fun r o => r = .bl (nmL l) ∧ o = .non := by
    refine fp_run (ρ := [.val _, .nil]) rfl ?_
    unfold m_is_name
    have hL := lenS h
    have sh : decide (1 ≤ (l.length : Int)) = decide (1 ≤ l.length) := by rw [decide_eq_decide]; omega
    have sh2 : decide ((l.length : Int) ≤ 12) = decide (l.length ≤ 12) := by rw [decide_eq_decide]; omega
    ((repeat (first | (with_reducible refine Mi.wp_seq ?_) | (with_reducible refine Mi.wp_ifS ?_) | (with_reducible refine Mi.wp_asg ?_) | (with_reducible refine Mi.wp_retS ?_) | (with_reducible refine Mi.wp_bin ?_) | ((with_reducible apply Mi.wp_var1); · rfl) | (with_reducible refine Mi.wp_C ?_) | (with_reducible refine Mi.wp_asCons ?_) | (with_reducible refine Mi.wp_asNil ?_) | (with_reducible refine Mi.wp_call ?_) | (with_reducible refine Mi.wp_callIO ?_) | (with_reducible refine Mi.wp_args ?_) | (with_reducible refine Mi.wp_frzXn ?_) | (with_reducible refine Mi.wp_frzX0 ?_) | (with_reducible refine Mi.wp_frzXS ?_) | (with_reducible refine Mi.wp_frzsCons ?_) | (with_reducible refine Mi.wp_frzsNil ?_) | (with_reducible refine Mi.wp_frzD ?_) | (with_reducible refine Mi.wp_boolA ?_) | (with_reducible refine Mi.wp_blT ?_) | (with_reducible refine Mi.wp_tst ?_) | (with_reducible refine Mi.wp_andT ?_) | (with_reducible refine Mi.wp_orT ?_) | (with_reducible refine Mi.wp_notT ?_) | (with_reducible refine Mi.wp_ifA ?_) | (with_reducible refine Mi.wp_andA ?_) | (with_reducible refine Mi.wp_orA ?_) | (with_reducible refine Mi.wp_notA ?_) | (with_reducible refine Mi.wp_chainT ?_) | (with_reducible refine Mi.wp_cb ?_) | (with_reducible refine Mi.wp_un ?_) | (with_reducible refine Mi.wp_next ?_) | (with_reducible refine Mi.wp_asgN ?_) | (with_reducible refine Mi.wp_retNS ?_) | (with_reducible refine Mi.wp_drop ?_) | (with_reducible refine Mi.wp_par2 ?_) | (with_reducible refine Mi.wp_asgG ?_) | (with_reducible refine Mi.wp_subG ?_) | (with_reducible refine Mi.wp_appA ?_) | (with_reducible refine Mi.wp_tup ?_) | (with_reducible refine Mi.wp_lst ?_) | (with_reducible refine Mi.wp_new ?_) | (with_reducible refine Mi.wp_slice ?_) | (with_reducible refine Mi.wp_prtN ?_) | (with_reducible refine Mi.wp_prtS ?_) | (with_reducible refine Mi.wp_mt ?_) | (with_reducible refine Mi.wp_mt0 ?_) | (with_reducible refine Mi.wp_seqI ?_) | (with_reducible refine Mi.wp_compN ?_) | (with_reducible refine Mi.wp_fnI ?_) | (with_reducible refine Mi.wp_forS ?_) | (with_reducible refine Mi.wp_tgTup ?_) | (with_reducible refine Mi.wp_gsCons ?_) | (with_reducible refine Mi.wp_gsNil ?_) | (with_reducible refine Mi.wp_callN ?_) | ((with_reducible apply Mi.wp_putV); · rfl) | ((with_reducible apply Mi.wp_putN); · rfl) | (with_reducible refine Mi.wp_bnd ?_) | (with_reducible refine Mi.wp_ret ?_) | (with_reducible refine Mi.wp_opt ?_) | (with_reducible refine Mi.wp_view ?_) | ((with_reducible refine Mi.nm_a ?_); (try (conv => arg 1; simp only [Mi.putCell, Mi.wipeL, Mi.backL, Mi.pick, List.filterMap_cons, List.filterMap_nil, List.filterMap_cons_some, List.map_nil, List.map_cons, List.append_nil, List.nil_append, List.cons_append, List.getElem?_cons_zero, List.getElem?_cons_succ, List.set_cons_zero, List.set_cons_succ, List.getD_cons_zero, List.getD_cons_succ, Int.reduceToNat])); (with_reducible refine Mi.nm_b ?_)) | (with_reducible refine ⟨_, hL, ?_⟩) | (with_reducible refine ⟨_, Mi.isi_non_bool, ?_⟩) | (with_reducible refine ⟨_, Mi.isi_non_int, ?_⟩) | (with_reducible refine ⟨_, Mi.isi_non_str, ?_⟩) | (with_reducible refine ⟨_, Mi.isi_non_list, ?_⟩) | (with_reducible refine ⟨_, Mi.isi_non_tuple, ?_⟩) | (with_reducible refine ⟨_, Mi.isi_non_dict, ?_⟩) | (with_reducible refine ⟨_, Mi.isi_bl_bool, ?_⟩) | (with_reducible refine ⟨_, Mi.isi_bl_int, ?_⟩) | (with_reducible refine ⟨_, Mi.isi_bl_str, ?_⟩) | (with_reducible refine ⟨_, Mi.isi_bl_list, ?_⟩) | (with_reducible refine ⟨_, Mi.isi_bl_tuple, ?_⟩) | (with_reducible refine ⟨_, Mi.isi_bl_dict, ?_⟩) | (with_reducible refine ⟨_, Mi.isi_int_bool, ?_⟩) | (with_reducible refine ⟨_, Mi.isi_int_int, ?_⟩) | (with_reducible refine ⟨_, Mi.isi_int_str, ?_⟩) | (with_reducible refine ⟨_, Mi.isi_int_list, ?_⟩) | (with_reducible refine ⟨_, Mi.isi_int_tuple, ?_⟩) | (with_reducible refine ⟨_, Mi.isi_int_dict, ?_⟩) | (with_reducible refine ⟨_, Mi.isi_str_bool, ?_⟩) | (with_reducible refine ⟨_, Mi.isi_str_int, ?_⟩) | (with_reducible refine ⟨_, Mi.isi_str_str, ?_⟩) | (with_reducible refine ⟨_, Mi.isi_str_list, ?_⟩) | (with_reducible refine ⟨_, Mi.isi_str_tuple, ?_⟩) | (with_reducible refine ⟨_, Mi.isi_str_dict, ?_⟩) | (with_reducible refine ⟨_, Mi.isi_lst_bool, ?_⟩) | (with_reducible refine ⟨_, Mi.isi_lst_int, ?_⟩) | (with_reducible refine ⟨_, Mi.isi_lst_str, ?_⟩) | (with_reducible refine ⟨_, Mi.isi_lst_list, ?_⟩) | (with_reducible refine ⟨_, Mi.isi_lst_tuple, ?_⟩) | (with_reducible refine ⟨_, Mi.isi_lst_dict, ?_⟩) | (with_reducible refine ⟨_, Mi.isi_rol_bool, ?_⟩) | (with_reducible refine ⟨_, Mi.isi_rol_int, ?_⟩) | (with_reducible refine ⟨_, Mi.isi_rol_str, ?_⟩) | (with_reducible refine ⟨_, Mi.isi_rol_list, ?_⟩) | (with_reducible refine ⟨_, Mi.isi_rol_tuple, ?_⟩) | (with_reducible refine ⟨_, Mi.isi_rol_dict, ?_⟩) | (with_reducible refine ⟨_, Mi.isi_tup_bool, ?_⟩) | (with_reducible refine ⟨_, Mi.isi_tup_int, ?_⟩) | (with_reducible refine ⟨_, Mi.isi_tup_str, ?_⟩) | (with_reducible refine ⟨_, Mi.isi_tup_list, ?_⟩) | (with_reducible refine ⟨_, Mi.isi_tup_tuple, ?_⟩) | (with_reducible refine ⟨_, Mi.isi_tup_dict, ?_⟩) | (with_reducible refine ⟨_, Mi.isi_dct_bool, ?_⟩) | (with_reducible refine ⟨_, Mi.isi_dct_int, ?_⟩) | (with_reducible refine ⟨_, Mi.isi_dct_str, ?_⟩) | (with_reducible refine ⟨_, Mi.isi_dct_list, ?_⟩) | (with_reducible refine ⟨_, Mi.isi_dct_tuple, ?_⟩) | (with_reducible refine ⟨_, Mi.isi_dct_dict, ?_⟩) | (with_reducible refine ⟨_, Mi.add_int, ?_⟩) | (with_reducible refine ⟨_, Mi.sub_int, ?_⟩) | (with_reducible refine ⟨_, Mi.lt_int, ?_⟩) | (with_reducible refine ⟨_, Mi.le_int, ?_⟩) | (with_reducible refine ⟨_, Mi.gt_int, ?_⟩) | (with_reducible refine ⟨_, Mi.ge_int, ?_⟩) | (with_reducible refine ⟨_, Mi.neg_int, ?_⟩) | (with_reducible refine ⟨_, Mi.asBl_bl, ?_⟩) | (with_reducible refine ⟨_, Mi.pow_lit (by decide) (by decide), ?_⟩) | (with_reducible refine ⟨_, Mi.mul_int (by decide), ?_⟩) | (with_reducible refine ⟨_, Mi.mod_int (by decide), ?_⟩) | (with_reducible refine ⟨_, Mi.fdiv_int (by decide), ?_⟩) | (with_reducible refine ⟨_, Mi.eqq_int, ?_⟩) | (with_reducible refine ⟨_, Mi.neq_int, ?_⟩) | (with_reducible refine Mi.ift_t ?_) | (with_reducible refine Mi.ift_f ?_) | (with_reducible refine Mi.ift_nt ?_) | (with_reducible refine Mi.ift_nf ?_) | ((with_reducible refine Mi.ift_bt ?_ ?_); · rfl) | ((with_reducible refine Mi.ift_bf ?_ ?_); · rfl) | (refine ⟨_, _, _, _, _, rfl, rfl, rfl, rfl, ?_⟩) | (refine ⟨_, _, rfl, rfl, ?_⟩) | (refine ⟨_, _, rfl, ?_⟩) | (refine ⟨⟨rfl, rfl, rfl⟩, ?_⟩) | (refine ⟨Nat.le_of_ble_eq_true rfl, ?_⟩) | (refine ⟨by decide, ?_⟩) | (refine ⟨_, rfl, ?_⟩) | (refine ⟨rfl, ?_⟩))); (try (with_reducible refine Mi.here ?_)))
    refine ⟨fun h1 => ?_, fun h1 => ?_⟩
    · ((repeat (first | (with_reducible refine Mi.wp_seq ?_) | (with_reducible refine Mi.wp_ifS ?_) | (with_reducible refine Mi.wp_asg ?_) | (with_reducible refine Mi.wp_retS ?_) | (with_reducible refine Mi.wp_bin ?_) | ((with_reducible apply Mi.wp_var1); · rfl) | (with_reducible refine Mi.wp_C ?_) | (with_reducible refine Mi.wp_asCons ?_) | (with_reducible refine Mi.wp_asNil ?_) | (with_reducible refine Mi.wp_call ?_) | (with_reducible refine Mi.wp_callIO ?_) | (with_reducible refine Mi.wp_args ?_) | (with_reducible refine Mi.wp_frzXn ?_) | (with_reducible refine Mi.wp_frzX0 ?_) | (with_reducible refine Mi.wp_frzXS ?_) | (with_reducible refine Mi.wp_frzsCons ?_) | (with_reducible refine Mi.wp_frzsNil ?_) | (with_reducible refine Mi.wp_frzD ?_) | (with_reducible refine Mi.wp_boolA ?_) | (with_reducible refine Mi.wp_blT ?_) | (with_reducible refine Mi.wp_tst ?_) | (with_reducible refine Mi.wp_andT ?_) | (with_reducible refine Mi.wp_orT ?_) | (with_reducible refine Mi.wp_notT ?_) | (with_reducible refine Mi.wp_ifA ?_) | (with_reducible refine Mi.wp_andA ?_) | (with_reducible refine Mi.wp_orA ?_) | (with_reducible refine Mi.wp_notA ?_) | (with_reducible refine Mi.wp_chainT ?_) | (with_reducible refine Mi.wp_cb ?_) | (with_reducible refine Mi.wp_un ?_) | (with_reducible refine Mi.wp_next ?_) | (with_reducible refine Mi.wp_asgN ?_) | (with_reducible refine Mi.wp_retNS ?_) | (with_reducible refine Mi.wp_drop ?_) | (with_reducible refine Mi.wp_par2 ?_) | (with_reducible refine Mi.wp_asgG ?_) | (with_reducible refine Mi.wp_subG ?_) | (with_reducible refine Mi.wp_appA ?_) | (with_reducible refine Mi.wp_tup ?_) | (with_reducible refine Mi.wp_lst ?_) | (with_reducible refine Mi.wp_new ?_) | (with_reducible refine Mi.wp_slice ?_) | (with_reducible refine Mi.wp_prtN ?_) | (with_reducible refine Mi.wp_prtS ?_) | (with_reducible refine Mi.wp_mt ?_) | (with_reducible refine Mi.wp_mt0 ?_) | (with_reducible refine Mi.wp_seqI ?_) | (with_reducible refine Mi.wp_compN ?_) | (with_reducible refine Mi.wp_fnI ?_) | (with_reducible refine Mi.wp_forS ?_) | (with_reducible refine Mi.wp_tgTup ?_) | (with_reducible refine Mi.wp_gsCons ?_) | (with_reducible refine Mi.wp_gsNil ?_) | (with_reducible refine Mi.wp_callN ?_) | ((with_reducible apply Mi.wp_putV); · rfl) | ((with_reducible apply Mi.wp_putN); · rfl) | (with_reducible refine Mi.wp_bnd ?_) | (with_reducible refine Mi.wp_ret ?_) | (with_reducible refine Mi.wp_opt ?_) | (with_reducible refine Mi.wp_view ?_) | ((with_reducible refine Mi.nm_a ?_); (try (conv => arg 1; simp only [Mi.putCell, Mi.wipeL, Mi.backL, Mi.pick, List.filterMap_cons, List.filterMap_nil, List.filterMap_cons_some, List.map_nil, List.map_cons, List.append_nil, List.nil_append, List.cons_append, List.getElem?_cons_zero, List.getElem?_cons_succ, List.set_cons_zero, List.set_cons_succ, List.getD_cons_zero, List.getD_cons_succ, Int.reduceToNat])); (with_reducible refine Mi.nm_b ?_)) | (with_reducible refine ⟨_, Mi.add_int, ?_⟩) | (with_reducible refine ⟨_, Mi.sub_int, ?_⟩) | (with_reducible refine ⟨_, Mi.lt_int, ?_⟩) | (with_reducible refine ⟨_, Mi.le_int, ?_⟩) | (with_reducible refine ⟨_, Mi.gt_int, ?_⟩) | (with_reducible refine ⟨_, Mi.ge_int, ?_⟩) | (with_reducible refine ⟨_, Mi.neg_int, ?_⟩) | (with_reducible refine ⟨_, Mi.asBl_bl, ?_⟩) | (with_reducible refine ⟨_, Mi.pow_lit (by decide) (by decide), ?_⟩) | (with_reducible refine ⟨_, Mi.mul_int (by decide), ?_⟩) | (with_reducible refine ⟨_, Mi.mod_int (by decide), ?_⟩) | (with_reducible refine ⟨_, Mi.fdiv_int (by decide), ?_⟩) | (with_reducible refine ⟨_, Mi.eqq_int, ?_⟩) | (with_reducible refine ⟨_, Mi.neq_int, ?_⟩) | (with_reducible refine Mi.ift_t ?_) | (with_reducible refine Mi.ift_f ?_) | (with_reducible refine Mi.ift_nt ?_) | (with_reducible refine Mi.ift_nf ?_) | ((with_reducible refine Mi.ift_bt ?_ ?_); · rfl) | ((with_reducible refine Mi.ift_bf ?_ ?_); · rfl) | (refine ⟨_, _, _, _, _, rfl, rfl, rfl, rfl, ?_⟩) | (refine ⟨_, _, rfl, rfl, ?_⟩) | (refine ⟨_, _, rfl, ?_⟩) | (refine ⟨⟨rfl, rfl, rfl⟩, ?_⟩) | (refine ⟨Nat.le_of_ble_eq_true rfl, ?_⟩) | (refine ⟨by decide, ?_⟩) | (refine ⟨_, rfl, ?_⟩) | (refine ⟨rfl, ?_⟩))); (try (with_reducible refine Mi.here ?_)))
      refine ⟨fun h2 => ?_, fun h2 => ?_⟩
      · ((repeat (first | (with_reducible refine Mi.wp_seq ?_) | (with_reducible refine Mi.wp_ifS ?_) | (with_reducible refine Mi.wp_asg ?_) | (with_reducible refine Mi.wp_retS ?_) | (with_reducible refine Mi.wp_bin ?_) | ((with_reducible apply Mi.wp_var1); · rfl) | (with_reducible refine Mi.wp_C ?_) | (with_reducible refine Mi.wp_asCons ?_) | (with_reducible refine Mi.wp_asNil ?_) | (with_reducible refine Mi.wp_call ?_) | (with_reducible refine Mi.wp_callIO ?_) | (with_reducible refine Mi.wp_args ?_) | (with_reducible refine Mi.wp_frzXn ?_) | (with_reducible refine Mi.wp_frzX0 ?_) | (with_reducible refine Mi.wp_frzXS ?_) | (with_reducible refine Mi.wp_frzsCons ?_) | (with_reducible refine Mi.wp_frzsNil ?_) | (with_reducible refine Mi.wp_frzD ?_) | (with_reducible refine Mi.wp_boolA ?_) | (with_reducible refine Mi.wp_blT ?_) | (with_reducible refine Mi.wp_tst ?_) | (with_reducible refine Mi.wp_andT ?_) | (with_reducible refine Mi.wp_orT ?_) | (with_reducible refine Mi.wp_notT ?_) | (with_reducible refine Mi.wp_ifA ?_) | (with_reducible refine Mi.wp_andA ?_) | (with_reducible refine Mi.wp_orA ?_) | (with_reducible refine Mi.wp_notA ?_) | (with_reducible refine Mi.wp_chainT ?_) | (with_reducible refine Mi.wp_cb ?_) | (with_reducible refine Mi.wp_un ?_) | (with_reducible refine Mi.wp_next ?_) | (with_reducible refine Mi.wp_asgN ?_) | (with_reducible refine Mi.wp_retNS ?_) | (with_reducible refine Mi.wp_drop ?_) | (with_reducible refine Mi.wp_par2 ?_) | (with_reducible refine Mi.wp_asgG ?_) | (with_reducible refine Mi.wp_subG ?_) | (with_reducible refine Mi.wp_appA ?_) | (with_reducible refine Mi.wp_tup ?_) | (with_reducible refine Mi.wp_lst ?_) | (with_reducible refine Mi.wp_new ?_) | (with_reducible refine Mi.wp_slice ?_) | (with_reducible refine Mi.wp_prtN ?_) | (with_reducible refine Mi.wp_prtS ?_) | (with_reducible refine Mi.wp_mt ?_) | (with_reducible refine Mi.wp_mt0 ?_) | (with_reducible refine Mi.wp_seqI ?_) | (with_reducible refine Mi.wp_compN ?_) | (with_reducible refine Mi.wp_fnI ?_) | (with_reducible refine Mi.wp_forS ?_) | (with_reducible refine Mi.wp_tgTup ?_) | (with_reducible refine Mi.wp_gsCons ?_) | (with_reducible refine Mi.wp_gsNil ?_) | (with_reducible refine Mi.wp_callN ?_) | ((with_reducible apply Mi.wp_putV); · rfl) | ((with_reducible apply Mi.wp_putN); · rfl) | (with_reducible refine Mi.wp_bnd ?_) | (with_reducible refine Mi.wp_ret ?_) | (with_reducible refine Mi.wp_opt ?_) | (with_reducible refine Mi.wp_view ?_) | ((with_reducible refine Mi.nm_a ?_); (try (conv => arg 1; simp only [Mi.putCell, Mi.wipeL, Mi.backL, Mi.pick, List.filterMap_cons, List.filterMap_nil, List.filterMap_cons_some, List.map_nil, List.map_cons, List.append_nil, List.nil_append, List.cons_append, List.getElem?_cons_zero, List.getElem?_cons_succ, List.set_cons_zero, List.set_cons_succ, List.getD_cons_zero, List.getD_cons_succ, Int.reduceToNat])); (with_reducible refine Mi.nm_b ?_)) | (with_reducible refine ⟨_, Mi.add_int, ?_⟩) | (with_reducible refine ⟨_, Mi.sub_int, ?_⟩) | (with_reducible refine ⟨_, Mi.lt_int, ?_⟩) | (with_reducible refine ⟨_, Mi.le_int, ?_⟩) | (with_reducible refine ⟨_, Mi.gt_int, ?_⟩) | (with_reducible refine ⟨_, Mi.ge_int, ?_⟩) | (with_reducible refine ⟨_, Mi.neg_int, ?_⟩) | (with_reducible refine ⟨_, Mi.asBl_bl, ?_⟩) | (with_reducible refine ⟨_, Mi.pow_lit (by decide) (by decide), ?_⟩) | (with_reducible refine ⟨_, Mi.mul_int (by decide), ?_⟩) | (with_reducible refine ⟨_, Mi.mod_int (by decide), ?_⟩) | (with_reducible refine ⟨_, Mi.fdiv_int (by decide), ?_⟩) | (with_reducible refine ⟨_, Mi.eqq_int, ?_⟩) | (with_reducible refine ⟨_, Mi.neq_int, ?_⟩) | (with_reducible refine Mi.ift_t ?_) | (with_reducible refine Mi.ift_f ?_) | (with_reducible refine Mi.ift_nt ?_) | (with_reducible refine Mi.ift_nf ?_) | ((with_reducible refine Mi.ift_bt ?_ ?_); · rfl) | ((with_reducible refine Mi.ift_bf ?_ ?_); · rfl) | (refine ⟨_, _, _, _, _, rfl, rfl, rfl, rfl, ?_⟩) | (refine ⟨_, _, rfl, rfl, ?_⟩) | (refine ⟨_, _, rfl, ?_⟩) | (refine ⟨⟨rfl, rfl, rfl⟩, ?_⟩) | (refine ⟨Nat.le_of_ble_eq_true rfl, ?_⟩) | (refine ⟨by decide, ?_⟩) | (refine ⟨_, rfl, ?_⟩) | (refine ⟨rfl, ?_⟩))); (try (with_reducible refine Mi.here ?_)))
        refine ⟨?_, rfl⟩
        have h2 : decide ((l.length : Int) ≤ 12) = false := by simpa using h2
        have := of_decide_eq_false h2
        unfold nmL
        rw [decide_eq_false (by omega)]
        rfl
      · have h1 := of_decide_eq_true h1
        have h2 : decide ((l.length : Int) ≤ 12) = true := by simpa using h2
        have h2 := of_decide_eq_true h2
        cases l with
        | nil => simp at h1
        | cons c cs =>
          have i0 := ix0 (c := c) (cs := cs) (by simp only [List.length_cons] at h; omega)
          ((repeat (first | (with_reducible refine Mi.wp_seq ?_) | (with_reducible refine Mi.wp_ifS ?_) | (with_reducible refine Mi.wp_asg ?_) | (with_reducible refine Mi.wp_retS ?_) | (with_reducible refine Mi.wp_bin ?_) | ((with_reducible apply Mi.wp_var1); · rfl) | (with_reducible refine Mi.wp_C ?_) | (with_reducible refine Mi.wp_asCons ?_) | (with_reducible refine Mi.wp_asNil ?_) | (with_reducible refine Mi.wp_call ?_) | (with_reducible refine Mi.wp_callIO ?_) | (with_reducible refine Mi.wp_args ?_) | (with_reducible refine Mi.wp_frzXn ?_) | (with_reducible refine Mi.wp_frzX0 ?_) | (with_reducible refine Mi.wp_frzXS ?_) | (with_reducible refine Mi.wp_frzsCons ?_) | (with_reducible refine Mi.wp_frzsNil ?_) | (with_reducible refine Mi.wp_frzD ?_) | (with_reducible refine Mi.wp_boolA ?_) | (with_reducible refine Mi.wp_blT ?_) | (with_reducible refine Mi.wp_tst ?_) | (with_reducible refine Mi.wp_andT ?_) | (with_reducible refine Mi.wp_orT ?_) | (with_reducible refine Mi.wp_notT ?_) | (with_reducible refine Mi.wp_ifA ?_) | (with_reducible refine Mi.wp_andA ?_) | (with_reducible refine Mi.wp_orA ?_) | (with_reducible refine Mi.wp_notA ?_) | (with_reducible refine Mi.wp_chainT ?_) | (with_reducible refine Mi.wp_cb ?_) | (with_reducible refine Mi.wp_un ?_) | (with_reducible refine Mi.wp_next ?_) | (with_reducible refine Mi.wp_asgN ?_) | (with_reducible refine Mi.wp_retNS ?_) | (with_reducible refine Mi.wp_drop ?_) | (with_reducible refine Mi.wp_par2 ?_) | (with_reducible refine Mi.wp_asgG ?_) | (with_reducible refine Mi.wp_subG ?_) | (with_reducible refine Mi.wp_appA ?_) | (with_reducible refine Mi.wp_tup ?_) | (with_reducible refine Mi.wp_lst ?_) | (with_reducible refine Mi.wp_new ?_) | (with_reducible refine Mi.wp_slice ?_) | (with_reducible refine Mi.wp_prtN ?_) | (with_reducible refine Mi.wp_prtS ?_) | (with_reducible refine Mi.wp_mt ?_) | (with_reducible refine Mi.wp_mt0 ?_) | (with_reducible refine Mi.wp_seqI ?_) | (with_reducible refine Mi.wp_compN ?_) | (with_reducible refine Mi.wp_fnI ?_) | (with_reducible refine Mi.wp_forS ?_) | (with_reducible refine Mi.wp_tgTup ?_) | (with_reducible refine Mi.wp_gsCons ?_) | (with_reducible refine Mi.wp_gsNil ?_) | (with_reducible refine Mi.wp_callN ?_) | ((with_reducible apply Mi.wp_putV); · rfl) | ((with_reducible apply Mi.wp_putN); · rfl) | (with_reducible refine Mi.wp_bnd ?_) | (with_reducible refine Mi.wp_ret ?_) | (with_reducible refine Mi.wp_opt ?_) | (with_reducible refine Mi.wp_view ?_) | ((with_reducible refine Mi.nm_a ?_); (try (conv => arg 1; simp only [Mi.putCell, Mi.wipeL, Mi.backL, Mi.pick, List.filterMap_cons, List.filterMap_nil, List.filterMap_cons_some, List.map_nil, List.map_cons, List.append_nil, List.nil_append, List.cons_append, List.getElem?_cons_zero, List.getElem?_cons_succ, List.set_cons_zero, List.set_cons_succ, List.getD_cons_zero, List.getD_cons_succ, Int.reduceToNat])); (with_reducible refine Mi.nm_b ?_)) | (with_reducible refine ⟨_, i0, ?_⟩) | (with_reducible refine ⟨_, nin_small, ?_⟩) | (with_reducible refine ⟨_, Mi.add_int, ?_⟩) | (with_reducible refine ⟨_, Mi.sub_int, ?_⟩) | (with_reducible refine ⟨_, Mi.lt_int, ?_⟩) | (with_reducible refine ⟨_, Mi.le_int, ?_⟩) | (with_reducible refine ⟨_, Mi.gt_int, ?_⟩) | (with_reducible refine ⟨_, Mi.ge_int, ?_⟩) | (with_reducible refine ⟨_, Mi.neg_int, ?_⟩) | (with_reducible refine ⟨_, Mi.asBl_bl, ?_⟩) | (with_reducible refine ⟨_, Mi.pow_lit (by decide) (by decide), ?_⟩) | (with_reducible refine ⟨_, Mi.mul_int (by decide), ?_⟩) | (with_reducible refine ⟨_, Mi.mod_int (by decide), ?_⟩) | (with_reducible refine ⟨_, Mi.fdiv_int (by decide), ?_⟩) | (with_reducible refine ⟨_, Mi.eqq_int, ?_⟩) | (with_reducible refine ⟨_, Mi.neq_int, ?_⟩) | (with_reducible refine Mi.ift_t ?_) | (with_reducible refine Mi.ift_f ?_) | (with_reducible refine Mi.ift_nt ?_) | (with_reducible refine Mi.ift_nf ?_) | ((with_reducible refine Mi.ift_bt ?_ ?_); · rfl) | ((with_reducible refine Mi.ift_bf ?_ ?_); · rfl) | (refine ⟨_, _, _, _, _, rfl, rfl, rfl, rfl, ?_⟩) | (refine ⟨_, _, rfl, rfl, ?_⟩) | (refine ⟨_, _, rfl, ?_⟩) | (refine ⟨⟨rfl, rfl, rfl⟩, ?_⟩) | (refine ⟨Nat.le_of_ble_eq_true rfl, ?_⟩) | (refine ⟨by decide, ?_⟩) | (refine ⟨_, rfl, ?_⟩) | (refine ⟨rfl, ?_⟩))); (try (with_reducible refine Mi.here ?_)))
          refine ⟨fun h3 => ?_, fun h3 => ?_⟩
          · ((repeat (first | (with_reducible refine Mi.wp_seq ?_) | (with_reducible refine Mi.wp_ifS ?_) | (with_reducible refine Mi.wp_asg ?_) | (with_reducible refine Mi.wp_retS ?_) | (with_reducible refine Mi.wp_bin ?_) | ((with_reducible apply Mi.wp_var1); · rfl) | (with_reducible refine Mi.wp_C ?_) | (with_reducible refine Mi.wp_asCons ?_) | (with_reducible refine Mi.wp_asNil ?_) | (with_reducible refine Mi.wp_call ?_) | (with_reducible refine Mi.wp_callIO ?_) | (with_reducible refine Mi.wp_args ?_) | (with_reducible refine Mi.wp_frzXn ?_) | (with_reducible refine Mi.wp_frzX0 ?_) | (with_reducible refine Mi.wp_frzXS ?_) | (with_reducible refine Mi.wp_frzsCons ?_) | (with_reducible refine Mi.wp_frzsNil ?_) | (with_reducible refine Mi.wp_frzD ?_) | (with_reducible refine Mi.wp_boolA ?_) | (with_reducible refine Mi.wp_blT ?_) | (with_reducible refine Mi.wp_tst ?_) | (with_reducible refine Mi.wp_andT ?_) | (with_reducible refine Mi.wp_orT ?_) | (with_reducible refine Mi.wp_notT ?_) | (with_reducible refine Mi.wp_ifA ?_) | (with_reducible refine Mi.wp_andA ?_) | (with_reducible refine Mi.wp_orA ?_) | (with_reducible refine Mi.wp_notA ?_) | (with_reducible refine Mi.wp_chainT ?_) | (with_reducible refine Mi.wp_cb ?_) | (with_reducible refine Mi.wp_un ?_) | (with_reducible refine Mi.wp_next ?_) | (with_reducible refine Mi.wp_asgN ?_) | (with_reducible refine Mi.wp_retNS ?_) | (with_reducible refine Mi.wp_drop ?_) | (with_reducible refine Mi.wp_par2 ?_) | (with_reducible refine Mi.wp_asgG ?_) | (with_reducible refine Mi.wp_subG ?_) | (with_reducible refine Mi.wp_appA ?_) | (with_reducible refine Mi.wp_tup ?_) | (with_reducible refine Mi.wp_lst ?_) | (with_reducible refine Mi.wp_new ?_) | (with_reducible refine Mi.wp_slice ?_) | (with_reducible refine Mi.wp_prtN ?_) | (with_reducible refine Mi.wp_prtS ?_) | (with_reducible refine Mi.wp_mt ?_) | (with_reducible refine Mi.wp_mt0 ?_) | (with_reducible refine Mi.wp_seqI ?_) | (with_reducible refine Mi.wp_compN ?_) | (with_reducible refine Mi.wp_fnI ?_) | (with_reducible refine Mi.wp_forS ?_) | (with_reducible refine Mi.wp_tgTup ?_) | (with_reducible refine Mi.wp_gsCons ?_) | (with_reducible refine Mi.wp_gsNil ?_) | (with_reducible refine Mi.wp_callN ?_) | ((with_reducible apply Mi.wp_putV); · rfl) | ((with_reducible apply Mi.wp_putN); · rfl) | (with_reducible refine Mi.wp_bnd ?_) | (with_reducible refine Mi.wp_ret ?_) | (with_reducible refine Mi.wp_opt ?_) | (with_reducible refine Mi.wp_view ?_) | ((with_reducible refine Mi.nm_a ?_); (try (conv => arg 1; simp only [Mi.putCell, Mi.wipeL, Mi.backL, Mi.pick, List.filterMap_cons, List.filterMap_nil, List.filterMap_cons_some, List.map_nil, List.map_cons, List.append_nil, List.nil_append, List.cons_append, List.getElem?_cons_zero, List.getElem?_cons_succ, List.set_cons_zero, List.set_cons_succ, List.getD_cons_zero, List.getD_cons_succ, Int.reduceToNat])); (with_reducible refine Mi.nm_b ?_)) | (with_reducible refine ⟨_, Mi.add_int, ?_⟩) | (with_reducible refine ⟨_, Mi.sub_int, ?_⟩) | (with_reducible refine ⟨_, Mi.lt_int, ?_⟩) | (with_reducible refine ⟨_, Mi.le_int, ?_⟩) | (with_reducible refine ⟨_, Mi.gt_int, ?_⟩) | (with_reducible refine ⟨_, Mi.ge_int, ?_⟩) | (with_reducible refine ⟨_, Mi.neg_int, ?_⟩) | (with_reducible refine ⟨_, Mi.asBl_bl, ?_⟩) | (with_reducible refine ⟨_, Mi.pow_lit (by decide) (by decide), ?_⟩) | (with_reducible refine ⟨_, Mi.mul_int (by decide), ?_⟩) | (with_reducible refine ⟨_, Mi.mod_int (by decide), ?_⟩) | (with_reducible refine ⟨_, Mi.fdiv_int (by decide), ?_⟩) | (with_reducible refine ⟨_, Mi.eqq_int, ?_⟩) | (with_reducible refine ⟨_, Mi.neq_int, ?_⟩) | (with_reducible refine Mi.ift_t ?_) | (with_reducible refine Mi.ift_f ?_) | (with_reducible refine Mi.ift_nt ?_) | (with_reducible refine Mi.ift_nf ?_) | ((with_reducible refine Mi.ift_bt ?_ ?_); · rfl) | ((with_reducible refine Mi.ift_bf ?_ ?_); · rfl) | (refine ⟨_, _, _, _, _, rfl, rfl, rfl, rfl, ?_⟩) | (refine ⟨_, _, rfl, rfl, ?_⟩) | (refine ⟨_, _, rfl, ?_⟩) | (refine ⟨⟨rfl, rfl, rfl⟩, ?_⟩) | (refine ⟨Nat.le_of_ble_eq_true rfl, ?_⟩) | (refine ⟨by decide, ?_⟩) | (refine ⟨_, rfl, ?_⟩) | (refine ⟨rfl, ?_⟩))); (try (with_reducible refine Mi.here ?_)))
            refine ⟨?_, rfl⟩
            have h3 : smB c = false := by simpa using h3
            unfold nmL
            simp [h3]
          · have h3 : smB c = true := by simpa using h3
            ((repeat (first | (with_reducible refine Mi.wp_seq ?_) | (with_reducible refine Mi.wp_ifS ?_) | (with_reducible refine Mi.wp_asg ?_) | (with_reducible refine Mi.wp_retS ?_) | (with_reducible refine Mi.wp_bin ?_) | ((with_reducible apply Mi.wp_var1); · rfl) | (with_reducible refine Mi.wp_C ?_) | (with_reducible refine Mi.wp_asCons ?_) | (with_reducible refine Mi.wp_asNil ?_) | (with_reducible refine Mi.wp_call ?_) | (with_reducible refine Mi.wp_callIO ?_) | (with_reducible refine Mi.wp_args ?_) | (with_reducible refine Mi.wp_frzXn ?_) | (with_reducible refine Mi.wp_frzX0 ?_) | (with_reducible refine Mi.wp_frzXS ?_) | (with_reducible refine Mi.wp_frzsCons ?_) | (with_reducible refine Mi.wp_frzsNil ?_) | (with_reducible refine Mi.wp_frzD ?_) | (with_reducible refine Mi.wp_boolA ?_) | (with_reducible refine Mi.wp_blT ?_) | (with_reducible refine Mi.wp_tst ?_) | (with_reducible refine Mi.wp_andT ?_) | (with_reducible refine Mi.wp_orT ?_) | (with_reducible refine Mi.wp_notT ?_) | (with_reducible refine Mi.wp_ifA ?_) | (with_reducible refine Mi.wp_andA ?_) | (with_reducible refine Mi.wp_orA ?_) | (with_reducible refine Mi.wp_notA ?_) | (with_reducible refine Mi.wp_chainT ?_) | (with_reducible refine Mi.wp_cb ?_) | (with_reducible refine Mi.wp_un ?_) | (with_reducible refine Mi.wp_next ?_) | (with_reducible refine Mi.wp_asgN ?_) | (with_reducible refine Mi.wp_retNS ?_) | (with_reducible refine Mi.wp_drop ?_) | (with_reducible refine Mi.wp_par2 ?_) | (with_reducible refine Mi.wp_asgG ?_) | (with_reducible refine Mi.wp_subG ?_) | (with_reducible refine Mi.wp_appA ?_) | (with_reducible refine Mi.wp_tup ?_) | (with_reducible refine Mi.wp_lst ?_) | (with_reducible refine Mi.wp_new ?_) | (with_reducible refine Mi.wp_slice ?_) | (with_reducible refine Mi.wp_prtN ?_) | (with_reducible refine Mi.wp_prtS ?_) | (with_reducible refine Mi.wp_mt ?_) | (with_reducible refine Mi.wp_mt0 ?_) | (with_reducible refine Mi.wp_seqI ?_) | (with_reducible refine Mi.wp_compN ?_) | (with_reducible refine Mi.wp_fnI ?_) | (with_reducible refine Mi.wp_forS ?_) | (with_reducible refine Mi.wp_tgTup ?_) | (with_reducible refine Mi.wp_gsCons ?_) | (with_reducible refine Mi.wp_gsNil ?_) | (with_reducible refine Mi.wp_callN ?_) | ((with_reducible apply Mi.wp_putV); · rfl) | ((with_reducible apply Mi.wp_putN); · rfl) | (with_reducible refine Mi.wp_bnd ?_) | (with_reducible refine Mi.wp_ret ?_) | (with_reducible refine Mi.wp_opt ?_) | (with_reducible refine Mi.wp_view ?_) | ((with_reducible refine Mi.nm_a ?_); (try (conv => arg 1; simp only [Mi.putCell, Mi.wipeL, Mi.backL, Mi.pick, List.filterMap_cons, List.filterMap_nil, List.filterMap_cons_some, List.map_nil, List.map_cons, List.append_nil, List.nil_append, List.cons_append, List.getElem?_cons_zero, List.getElem?_cons_succ, List.set_cons_zero, List.set_cons_succ, List.getD_cons_zero, List.getD_cons_succ, Int.reduceToNat])); (with_reducible refine Mi.nm_b ?_)) | (with_reducible refine ⟨_, Mi.add_int, ?_⟩) | (with_reducible refine ⟨_, Mi.sub_int, ?_⟩) | (with_reducible refine ⟨_, Mi.lt_int, ?_⟩) | (with_reducible refine ⟨_, Mi.le_int, ?_⟩) | (with_reducible refine ⟨_, Mi.gt_int, ?_⟩) | (with_reducible refine ⟨_, Mi.ge_int, ?_⟩) | (with_reducible refine ⟨_, Mi.neg_int, ?_⟩) | (with_reducible refine ⟨_, Mi.asBl_bl, ?_⟩) | (with_reducible refine ⟨_, Mi.pow_lit (by decide) (by decide), ?_⟩) | (with_reducible refine ⟨_, Mi.mul_int (by decide), ?_⟩) | (with_reducible refine ⟨_, Mi.mod_int (by decide), ?_⟩) | (with_reducible refine ⟨_, Mi.fdiv_int (by decide), ?_⟩) | (with_reducible refine ⟨_, Mi.eqq_int, ?_⟩) | (with_reducible refine ⟨_, Mi.neq_int, ?_⟩) | (with_reducible refine Mi.ift_t ?_) | (with_reducible refine Mi.ift_f ?_) | (with_reducible refine Mi.ift_nt ?_) | (with_reducible refine Mi.ift_nf ?_) | ((with_reducible refine Mi.ift_bt ?_ ?_); · rfl) | ((with_reducible refine Mi.ift_bf ?_ ?_); · rfl) | (refine ⟨_, _, _, _, _, rfl, rfl, rfl, rfl, ?_⟩) | (refine ⟨_, _, rfl, rfl, ?_⟩) | (refine ⟨_, _, rfl, ?_⟩) | (refine ⟨⟨rfl, rfl, rfl⟩, ?_⟩) | (refine ⟨Nat.le_of_ble_eq_true rfl, ?_⟩) | (refine ⟨by decide, ?_⟩) | (refine ⟨_, rfl, ?_⟩) | (refine ⟨rfl, ?_⟩))); (try (with_reducible refine Mi.here ?_)))
            refine wp_compGo (fun ds acc ρ => ∃ rest done : List Nat, ds = rest.map (fun ch => D.str ⟨#[ch]⟩) ∧ acc = (done.map fun c => smB c || dgB c).map D.bl ∧ c :: cs = done ++ rest ∧ ρ = [.val (.str ⟨(c :: cs).toArray⟩), .nil]) ?_ ?_ _ _ _ ?_
            · rintro acc ρ ⟨rest, done, h4, rfl, h5, rfl⟩
              have h6 : rest = [] := by
                cases rest with
                | nil => rfl
                | cons x xs => cases h4
              subst h6
              rw [List.append_nil] at h5
              subst h5
              ((repeat (first | (with_reducible refine Mi.wp_seq ?_) | (with_reducible refine Mi.wp_ifS ?_) | (with_reducible refine Mi.wp_asg ?_) | (with_reducible refine Mi.wp_retS ?_) | (with_reducible refine Mi.wp_bin ?_) | ((with_reducible apply Mi.wp_var1); · rfl) | (with_reducible refine Mi.wp_C ?_) | (with_reducible refine Mi.wp_asCons ?_) | (with_reducible refine Mi.wp_asNil ?_) | (with_reducible refine Mi.wp_call ?_) | (with_reducible refine Mi.wp_callIO ?_) | (with_reducible refine Mi.wp_args ?_) | (with_reducible refine Mi.wp_frzXn ?_) | (with_reducible refine Mi.wp_frzX0 ?_) | (with_reducible refine Mi.wp_frzXS ?_) | (with_reducible refine Mi.wp_frzsCons ?_) | (with_reducible refine Mi.wp_frzsNil ?_) | (with_reducible refine Mi.wp_frzD ?_) | (with_reducible refine Mi.wp_boolA ?_) | (with_reducible refine Mi.wp_blT ?_) | (with_reducible refine Mi.wp_tst ?_) | (with_reducible refine Mi.wp_andT ?_) | (with_reducible refine Mi.wp_orT ?_) | (with_reducible refine Mi.wp_notT ?_) | (with_reducible refine Mi.wp_ifA ?_) | (with_reducible refine Mi.wp_andA ?_) | (with_reducible refine Mi.wp_orA ?_) | (with_reducible refine Mi.wp_notA ?_) | (with_reducible refine Mi.wp_chainT ?_) | (with_reducible refine Mi.wp_cb ?_) | (with_reducible refine Mi.wp_un ?_) | (with_reducible refine Mi.wp_next ?_) | (with_reducible refine Mi.wp_asgN ?_) | (with_reducible refine Mi.wp_retNS ?_) | (with_reducible refine Mi.wp_drop ?_) | (with_reducible refine Mi.wp_par2 ?_) | (with_reducible refine Mi.wp_asgG ?_) | (with_reducible refine Mi.wp_subG ?_) | (with_reducible refine Mi.wp_appA ?_) | (with_reducible refine Mi.wp_tup ?_) | (with_reducible refine Mi.wp_lst ?_) | (with_reducible refine Mi.wp_new ?_) | (with_reducible refine Mi.wp_slice ?_) | (with_reducible refine Mi.wp_prtN ?_) | (with_reducible refine Mi.wp_prtS ?_) | (with_reducible refine Mi.wp_mt ?_) | (with_reducible refine Mi.wp_mt0 ?_) | (with_reducible refine Mi.wp_seqI ?_) | (with_reducible refine Mi.wp_compN ?_) | (with_reducible refine Mi.wp_fnI ?_) | (with_reducible refine Mi.wp_forS ?_) | (with_reducible refine Mi.wp_tgTup ?_) | (with_reducible refine Mi.wp_gsCons ?_) | (with_reducible refine Mi.wp_gsNil ?_) | (with_reducible refine Mi.wp_callN ?_) | ((with_reducible apply Mi.wp_putV); · rfl) | ((with_reducible apply Mi.wp_putN); · rfl) | (with_reducible refine Mi.wp_bnd ?_) | (with_reducible refine Mi.wp_ret ?_) | (with_reducible refine Mi.wp_opt ?_) | (with_reducible refine Mi.wp_view ?_) | ((with_reducible refine Mi.nm_a ?_); (try (conv => arg 1; simp only [Mi.putCell, Mi.wipeL, Mi.backL, Mi.pick, List.filterMap_cons, List.filterMap_nil, List.filterMap_cons_some, List.map_nil, List.map_cons, List.append_nil, List.nil_append, List.cons_append, List.getElem?_cons_zero, List.getElem?_cons_succ, List.set_cons_zero, List.set_cons_succ, List.getD_cons_zero, List.getD_cons_succ, Int.reduceToNat])); (with_reducible refine Mi.nm_b ?_)) | (with_reducible refine ⟨_, all_bl, ?_⟩) | (with_reducible refine ⟨_, Mi.add_int, ?_⟩) | (with_reducible refine ⟨_, Mi.sub_int, ?_⟩) | (with_reducible refine ⟨_, Mi.lt_int, ?_⟩) | (with_reducible refine ⟨_, Mi.le_int, ?_⟩) | (with_reducible refine ⟨_, Mi.gt_int, ?_⟩) | (with_reducible refine ⟨_, Mi.ge_int, ?_⟩) | (with_reducible refine ⟨_, Mi.neg_int, ?_⟩) | (with_reducible refine ⟨_, Mi.asBl_bl, ?_⟩) | (with_reducible refine ⟨_, Mi.pow_lit (by decide) (by decide), ?_⟩) | (with_reducible refine ⟨_, Mi.mul_int (by decide), ?_⟩) | (with_reducible refine ⟨_, Mi.mod_int (by decide), ?_⟩) | (with_reducible refine ⟨_, Mi.fdiv_int (by decide), ?_⟩) | (with_reducible refine ⟨_, Mi.eqq_int, ?_⟩) | (with_reducible refine ⟨_, Mi.neq_int, ?_⟩) | (with_reducible refine Mi.ift_t ?_) | (with_reducible refine Mi.ift_f ?_) | (with_reducible refine Mi.ift_nt ?_) | (with_reducible refine Mi.ift_nf ?_) | ((with_reducible refine Mi.ift_bt ?_ ?_); · rfl) | ((with_reducible refine Mi.ift_bf ?_ ?_); · rfl) | (refine ⟨_, _, _, _, _, rfl, rfl, rfl, rfl, ?_⟩) | (refine ⟨_, _, rfl, rfl, ?_⟩) | (refine ⟨_, _, rfl, ?_⟩) | (refine ⟨⟨rfl, rfl, rfl⟩, ?_⟩) | (refine ⟨Nat.le_of_ble_eq_true rfl, ?_⟩) | (refine ⟨by decide, ?_⟩) | (refine ⟨_, rfl, ?_⟩) | (refine ⟨rfl, ?_⟩))); (try (with_reducible refine Mi.here ?_)))
              refine ⟨?_, rfl⟩
              unfold nmL
              rw [decide_eq_true (show 1 ≤ (c :: cs).length ∧ (c :: cs).length ≤ 12 by omega)]
              rw [List.all_map]
              simp only [List.head?_cons, Option.map_some, Option.getD_some, h3, Bool.true_and]
              rfl
            · rintro d ds acc ρ ⟨rest, done, h4, rfl, h5, rfl⟩
              cases rest with
              | nil => cases h4
              | cons x xs =>
                cases h4
                have hd : done.length ≤ 12 := by
                  have := congrArg List.length h5
                  rw [List.length_append, List.length_cons (a := x)] at this
                  omega
                have hz : ((done.map fun c => smB c || dgB c).map D.bl).length < sizeLine := by
                  rw [List.length_map, List.length_map]
                  simp [sizeLine]
                  omega
                ((repeat (first | (with_reducible refine Mi.wp_seq ?_) | (with_reducible refine Mi.wp_ifS ?_) | (with_reducible refine Mi.wp_asg ?_) | (with_reducible refine Mi.wp_retS ?_) | (with_reducible refine Mi.wp_bin ?_) | ((with_reducible apply Mi.wp_var1); · rfl) | (with_reducible refine Mi.wp_C ?_) | (with_reducible refine Mi.wp_asCons ?_) | (with_reducible refine Mi.wp_asNil ?_) | (with_reducible refine Mi.wp_call ?_) | (with_reducible refine Mi.wp_callIO ?_) | (with_reducible refine Mi.wp_args ?_) | (with_reducible refine Mi.wp_frzXn ?_) | (with_reducible refine Mi.wp_frzX0 ?_) | (with_reducible refine Mi.wp_frzXS ?_) | (with_reducible refine Mi.wp_frzsCons ?_) | (with_reducible refine Mi.wp_frzsNil ?_) | (with_reducible refine Mi.wp_frzD ?_) | (with_reducible refine Mi.wp_boolA ?_) | (with_reducible refine Mi.wp_blT ?_) | (with_reducible refine Mi.wp_tst ?_) | (with_reducible refine Mi.wp_andT ?_) | (with_reducible refine Mi.wp_orT ?_) | (with_reducible refine Mi.wp_notT ?_) | (with_reducible refine Mi.wp_ifA ?_) | (with_reducible refine Mi.wp_andA ?_) | (with_reducible refine Mi.wp_orA ?_) | (with_reducible refine Mi.wp_notA ?_) | (with_reducible refine Mi.wp_chainT ?_) | (with_reducible refine Mi.wp_cb ?_) | (with_reducible refine Mi.wp_un ?_) | (with_reducible refine Mi.wp_next ?_) | (with_reducible refine Mi.wp_asgN ?_) | (with_reducible refine Mi.wp_retNS ?_) | (with_reducible refine Mi.wp_drop ?_) | (with_reducible refine Mi.wp_par2 ?_) | (with_reducible refine Mi.wp_asgG ?_) | (with_reducible refine Mi.wp_subG ?_) | (with_reducible refine Mi.wp_appA ?_) | (with_reducible refine Mi.wp_tup ?_) | (with_reducible refine Mi.wp_lst ?_) | (with_reducible refine Mi.wp_new ?_) | (with_reducible refine Mi.wp_slice ?_) | (with_reducible refine Mi.wp_prtN ?_) | (with_reducible refine Mi.wp_prtS ?_) | (with_reducible refine Mi.wp_mt ?_) | (with_reducible refine Mi.wp_mt0 ?_) | (with_reducible refine Mi.wp_seqI ?_) | (with_reducible refine Mi.wp_compN ?_) | (with_reducible refine Mi.wp_fnI ?_) | (with_reducible refine Mi.wp_forS ?_) | (with_reducible refine Mi.wp_tgTup ?_) | (with_reducible refine Mi.wp_gsCons ?_) | (with_reducible refine Mi.wp_gsNil ?_) | (with_reducible refine Mi.wp_callN ?_) | ((with_reducible apply Mi.wp_putV); · rfl) | ((with_reducible apply Mi.wp_putN); · rfl) | (with_reducible refine Mi.wp_bnd ?_) | (with_reducible refine Mi.wp_ret ?_) | (with_reducible refine Mi.wp_opt ?_) | (with_reducible refine Mi.wp_view ?_) | ((with_reducible refine Mi.nm_a ?_); (try (conv => arg 1; simp only [Mi.putCell, Mi.wipeL, Mi.backL, Mi.pick, List.filterMap_cons, List.filterMap_nil, List.filterMap_cons_some, List.map_nil, List.map_cons, List.append_nil, List.nil_append, List.cons_append, List.getElem?_cons_zero, List.getElem?_cons_succ, List.set_cons_zero, List.set_cons_succ, List.getD_cons_zero, List.getD_cons_succ, Int.reduceToNat])); (with_reducible refine Mi.nm_b ?_)) | (with_reducible refine ⟨_, in_small, ?_⟩) | (with_reducible refine ⟨_, in_digit, ?_⟩) | (with_reducible refine ⟨_, Mi.add_int, ?_⟩) | (with_reducible refine ⟨_, Mi.sub_int, ?_⟩) | (with_reducible refine ⟨_, Mi.lt_int, ?_⟩) | (with_reducible refine ⟨_, Mi.le_int, ?_⟩) | (with_reducible refine ⟨_, Mi.gt_int, ?_⟩) | (with_reducible refine ⟨_, Mi.ge_int, ?_⟩) | (with_reducible refine ⟨_, Mi.neg_int, ?_⟩) | (with_reducible refine ⟨_, Mi.asBl_bl, ?_⟩) | (with_reducible refine ⟨_, Mi.pow_lit (by decide) (by decide), ?_⟩) | (with_reducible refine ⟨_, Mi.mul_int (by decide), ?_⟩) | (with_reducible refine ⟨_, Mi.mod_int (by decide), ?_⟩) | (with_reducible refine ⟨_, Mi.fdiv_int (by decide), ?_⟩) | (with_reducible refine ⟨_, Mi.eqq_int, ?_⟩) | (with_reducible refine ⟨_, Mi.neq_int, ?_⟩) | (with_reducible refine Mi.ift_t ?_) | (with_reducible refine Mi.ift_f ?_) | (with_reducible refine Mi.ift_nt ?_) | (with_reducible refine Mi.ift_nf ?_) | ((with_reducible refine Mi.ift_bt ?_ ?_); · rfl) | ((with_reducible refine Mi.ift_bf ?_ ?_); · rfl) | (refine ⟨_, _, _, _, _, rfl, rfl, rfl, rfl, ?_⟩) | (refine ⟨_, _, rfl, rfl, ?_⟩) | (refine ⟨_, _, rfl, ?_⟩) | (refine ⟨⟨rfl, rfl, rfl⟩, ?_⟩) | (refine ⟨Nat.le_of_ble_eq_true rfl, ?_⟩) | (refine ⟨by decide, ?_⟩) | (refine ⟨_, rfl, ?_⟩) | (refine ⟨rfl, ?_⟩))); (try (with_reducible refine Mi.here ?_)))
                refine ⟨fun h6 => ?_, fun h6 => ?_⟩
                · ((repeat (first | (with_reducible refine Mi.wp_seq ?_) | (with_reducible refine Mi.wp_ifS ?_) | (with_reducible refine Mi.wp_asg ?_) | (with_reducible refine Mi.wp_retS ?_) | (with_reducible refine Mi.wp_bin ?_) | ((with_reducible apply Mi.wp_var1); · rfl) | (with_reducible refine Mi.wp_C ?_) | (with_reducible refine Mi.wp_asCons ?_) | (with_reducible refine Mi.wp_asNil ?_) | (with_reducible refine Mi.wp_call ?_) | (with_reducible refine Mi.wp_callIO ?_) | (with_reducible refine Mi.wp_args ?_) | (with_reducible refine Mi.wp_frzXn ?_) | (with_reducible refine Mi.wp_frzX0 ?_) | (with_reducible refine Mi.wp_frzXS ?_) | (with_reducible refine Mi.wp_frzsCons ?_) | (with_reducible refine Mi.wp_frzsNil ?_) | (with_reducible refine Mi.wp_frzD ?_) | (with_reducible refine Mi.wp_boolA ?_) | (with_reducible refine Mi.wp_blT ?_) | (with_reducible refine Mi.wp_tst ?_) | (with_reducible refine Mi.wp_andT ?_) | (with_reducible refine Mi.wp_orT ?_) | (with_reducible refine Mi.wp_notT ?_) | (with_reducible refine Mi.wp_ifA ?_) | (with_reducible refine Mi.wp_andA ?_) | (with_reducible refine Mi.wp_orA ?_) | (with_reducible refine Mi.wp_notA ?_) | (with_reducible refine Mi.wp_chainT ?_) | (with_reducible refine Mi.wp_cb ?_) | (with_reducible refine Mi.wp_un ?_) | (with_reducible refine Mi.wp_next ?_) | (with_reducible refine Mi.wp_asgN ?_) | (with_reducible refine Mi.wp_retNS ?_) | (with_reducible refine Mi.wp_drop ?_) | (with_reducible refine Mi.wp_par2 ?_) | (with_reducible refine Mi.wp_asgG ?_) | (with_reducible refine Mi.wp_subG ?_) | (with_reducible refine Mi.wp_appA ?_) | (with_reducible refine Mi.wp_tup ?_) | (with_reducible refine Mi.wp_lst ?_) | (with_reducible refine Mi.wp_new ?_) | (with_reducible refine Mi.wp_slice ?_) | (with_reducible refine Mi.wp_prtN ?_) | (with_reducible refine Mi.wp_prtS ?_) | (with_reducible refine Mi.wp_mt ?_) | (with_reducible refine Mi.wp_mt0 ?_) | (with_reducible refine Mi.wp_seqI ?_) | (with_reducible refine Mi.wp_compN ?_) | (with_reducible refine Mi.wp_fnI ?_) | (with_reducible refine Mi.wp_forS ?_) | (with_reducible refine Mi.wp_tgTup ?_) | (with_reducible refine Mi.wp_gsCons ?_) | (with_reducible refine Mi.wp_gsNil ?_) | (with_reducible refine Mi.wp_callN ?_) | ((with_reducible apply Mi.wp_putV); · rfl) | ((with_reducible apply Mi.wp_putN); · rfl) | (with_reducible refine Mi.wp_bnd ?_) | (with_reducible refine Mi.wp_ret ?_) | (with_reducible refine Mi.wp_opt ?_) | (with_reducible refine Mi.wp_view ?_) | ((with_reducible refine Mi.nm_a ?_); (try (conv => arg 1; simp only [Mi.putCell, Mi.wipeL, Mi.backL, Mi.pick, List.filterMap_cons, List.filterMap_nil, List.filterMap_cons_some, List.map_nil, List.map_cons, List.append_nil, List.nil_append, List.cons_append, List.getElem?_cons_zero, List.getElem?_cons_succ, List.set_cons_zero, List.set_cons_succ, List.getD_cons_zero, List.getD_cons_succ, Int.reduceToNat])); (with_reducible refine Mi.nm_b ?_)) | (with_reducible refine ⟨_, in_small, ?_⟩) | (with_reducible refine ⟨_, in_digit, ?_⟩) | (with_reducible refine ⟨_, Mi.add_int, ?_⟩) | (with_reducible refine ⟨_, Mi.sub_int, ?_⟩) | (with_reducible refine ⟨_, Mi.lt_int, ?_⟩) | (with_reducible refine ⟨_, Mi.le_int, ?_⟩) | (with_reducible refine ⟨_, Mi.gt_int, ?_⟩) | (with_reducible refine ⟨_, Mi.ge_int, ?_⟩) | (with_reducible refine ⟨_, Mi.neg_int, ?_⟩) | (with_reducible refine ⟨_, Mi.asBl_bl, ?_⟩) | (with_reducible refine ⟨_, Mi.pow_lit (by decide) (by decide), ?_⟩) | (with_reducible refine ⟨_, Mi.mul_int (by decide), ?_⟩) | (with_reducible refine ⟨_, Mi.mod_int (by decide), ?_⟩) | (with_reducible refine ⟨_, Mi.fdiv_int (by decide), ?_⟩) | (with_reducible refine ⟨_, Mi.eqq_int, ?_⟩) | (with_reducible refine ⟨_, Mi.neq_int, ?_⟩) | (with_reducible refine Mi.ift_t ?_) | (with_reducible refine Mi.ift_f ?_) | (with_reducible refine Mi.ift_nt ?_) | (with_reducible refine Mi.ift_nf ?_) | ((with_reducible refine Mi.ift_bt ?_ ?_); · rfl) | ((with_reducible refine Mi.ift_bf ?_ ?_); · rfl) | (refine ⟨_, _, _, _, _, rfl, rfl, rfl, rfl, ?_⟩) | (refine ⟨_, _, rfl, rfl, ?_⟩) | (refine ⟨_, _, rfl, ?_⟩) | (refine ⟨⟨rfl, rfl, rfl⟩, ?_⟩) | (refine ⟨Nat.le_of_ble_eq_true rfl, ?_⟩) | (refine ⟨by decide, ?_⟩) | (refine ⟨_, rfl, ?_⟩) | (refine ⟨rfl, ?_⟩))); (try (with_reducible refine Mi.here ?_)))
                  refine ⟨hz, ?_⟩
                  ((repeat (first | (with_reducible refine Mi.wp_seq ?_) | (with_reducible refine Mi.wp_ifS ?_) | (with_reducible refine Mi.wp_asg ?_) | (with_reducible refine Mi.wp_retS ?_) | (with_reducible refine Mi.wp_bin ?_) | ((with_reducible apply Mi.wp_var1); · rfl) | (with_reducible refine Mi.wp_C ?_) | (with_reducible refine Mi.wp_asCons ?_) | (with_reducible refine Mi.wp_asNil ?_) | (with_reducible refine Mi.wp_call ?_) | (with_reducible refine Mi.wp_callIO ?_) | (with_reducible refine Mi.wp_args ?_) | (with_reducible refine Mi.wp_frzXn ?_) | (with_reducible refine Mi.wp_frzX0 ?_) | (with_reducible refine Mi.wp_frzXS ?_) | (with_reducible refine Mi.wp_frzsCons ?_) | (with_reducible refine Mi.wp_frzsNil ?_) | (with_reducible refine Mi.wp_frzD ?_) | (with_reducible refine Mi.wp_boolA ?_) | (with_reducible refine Mi.wp_blT ?_) | (with_reducible refine Mi.wp_tst ?_) | (with_reducible refine Mi.wp_andT ?_) | (with_reducible refine Mi.wp_orT ?_) | (with_reducible refine Mi.wp_notT ?_) | (with_reducible refine Mi.wp_ifA ?_) | (with_reducible refine Mi.wp_andA ?_) | (with_reducible refine Mi.wp_orA ?_) | (with_reducible refine Mi.wp_notA ?_) | (with_reducible refine Mi.wp_chainT ?_) | (with_reducible refine Mi.wp_cb ?_) | (with_reducible refine Mi.wp_un ?_) | (with_reducible refine Mi.wp_next ?_) | (with_reducible refine Mi.wp_asgN ?_) | (with_reducible refine Mi.wp_retNS ?_) | (with_reducible refine Mi.wp_drop ?_) | (with_reducible refine Mi.wp_par2 ?_) | (with_reducible refine Mi.wp_asgG ?_) | (with_reducible refine Mi.wp_subG ?_) | (with_reducible refine Mi.wp_appA ?_) | (with_reducible refine Mi.wp_tup ?_) | (with_reducible refine Mi.wp_lst ?_) | (with_reducible refine Mi.wp_new ?_) | (with_reducible refine Mi.wp_slice ?_) | (with_reducible refine Mi.wp_prtN ?_) | (with_reducible refine Mi.wp_prtS ?_) | (with_reducible refine Mi.wp_mt ?_) | (with_reducible refine Mi.wp_mt0 ?_) | (with_reducible refine Mi.wp_seqI ?_) | (with_reducible refine Mi.wp_compN ?_) | (with_reducible refine Mi.wp_fnI ?_) | (with_reducible refine Mi.wp_forS ?_) | (with_reducible refine Mi.wp_tgTup ?_) | (with_reducible refine Mi.wp_gsCons ?_) | (with_reducible refine Mi.wp_gsNil ?_) | (with_reducible refine Mi.wp_callN ?_) | ((with_reducible apply Mi.wp_putV); · rfl) | ((with_reducible apply Mi.wp_putN); · rfl) | (with_reducible refine Mi.wp_bnd ?_) | (with_reducible refine Mi.wp_ret ?_) | (with_reducible refine Mi.wp_opt ?_) | (with_reducible refine Mi.wp_view ?_) | ((with_reducible refine Mi.nm_a ?_); (try (conv => arg 1; simp only [Mi.putCell, Mi.wipeL, Mi.backL, Mi.pick, List.filterMap_cons, List.filterMap_nil, List.filterMap_cons_some, List.map_nil, List.map_cons, List.append_nil, List.nil_append, List.cons_append, List.getElem?_cons_zero, List.getElem?_cons_succ, List.set_cons_zero, List.set_cons_succ, List.getD_cons_zero, List.getD_cons_succ, Int.reduceToNat])); (with_reducible refine Mi.nm_b ?_)) | (with_reducible refine ⟨_, Mi.add_int, ?_⟩) | (with_reducible refine ⟨_, Mi.sub_int, ?_⟩) | (with_reducible refine ⟨_, Mi.lt_int, ?_⟩) | (with_reducible refine ⟨_, Mi.le_int, ?_⟩) | (with_reducible refine ⟨_, Mi.gt_int, ?_⟩) | (with_reducible refine ⟨_, Mi.ge_int, ?_⟩) | (with_reducible refine ⟨_, Mi.neg_int, ?_⟩) | (with_reducible refine ⟨_, Mi.asBl_bl, ?_⟩) | (with_reducible refine ⟨_, Mi.pow_lit (by decide) (by decide), ?_⟩) | (with_reducible refine ⟨_, Mi.mul_int (by decide), ?_⟩) | (with_reducible refine ⟨_, Mi.mod_int (by decide), ?_⟩) | (with_reducible refine ⟨_, Mi.fdiv_int (by decide), ?_⟩) | (with_reducible refine ⟨_, Mi.eqq_int, ?_⟩) | (with_reducible refine ⟨_, Mi.neq_int, ?_⟩) | (with_reducible refine Mi.ift_t ?_) | (with_reducible refine Mi.ift_f ?_) | (with_reducible refine Mi.ift_nt ?_) | (with_reducible refine Mi.ift_nf ?_) | ((with_reducible refine Mi.ift_bt ?_ ?_); · rfl) | ((with_reducible refine Mi.ift_bf ?_ ?_); · rfl) | (refine ⟨_, _, _, _, _, rfl, rfl, rfl, rfl, ?_⟩) | (refine ⟨_, _, rfl, rfl, ?_⟩) | (refine ⟨_, _, rfl, ?_⟩) | (refine ⟨⟨rfl, rfl, rfl⟩, ?_⟩) | (refine ⟨Nat.le_of_ble_eq_true rfl, ?_⟩) | (refine ⟨by decide, ?_⟩) | (refine ⟨_, rfl, ?_⟩) | (refine ⟨rfl, ?_⟩))); (try (with_reducible refine Mi.here ?_)))
                  refine ⟨xs, done ++ [x], rfl, ?_, by rw [h5]; simp, rfl⟩
                  simp [h6]
                · ((repeat (first | (with_reducible refine Mi.wp_seq ?_) | (with_reducible refine Mi.wp_ifS ?_) | (with_reducible refine Mi.wp_asg ?_) | (with_reducible refine Mi.wp_retS ?_) | (with_reducible refine Mi.wp_bin ?_) | ((with_reducible apply Mi.wp_var1); · rfl) | (with_reducible refine Mi.wp_C ?_) | (with_reducible refine Mi.wp_asCons ?_) | (with_reducible refine Mi.wp_asNil ?_) | (with_reducible refine Mi.wp_call ?_) | (with_reducible refine Mi.wp_callIO ?_) | (with_reducible refine Mi.wp_args ?_) | (with_reducible refine Mi.wp_frzXn ?_) | (with_reducible refine Mi.wp_frzX0 ?_) | (with_reducible refine Mi.wp_frzXS ?_) | (with_reducible refine Mi.wp_frzsCons ?_) | (with_reducible refine Mi.wp_frzsNil ?_) | (with_reducible refine Mi.wp_frzD ?_) | (with_reducible refine Mi.wp_boolA ?_) | (with_reducible refine Mi.wp_blT ?_) | (with_reducible refine Mi.wp_tst ?_) | (with_reducible refine Mi.wp_andT ?_) | (with_reducible refine Mi.wp_orT ?_) | (with_reducible refine Mi.wp_notT ?_) | (with_reducible refine Mi.wp_ifA ?_) | (with_reducible refine Mi.wp_andA ?_) | (with_reducible refine Mi.wp_orA ?_) | (with_reducible refine Mi.wp_notA ?_) | (with_reducible refine Mi.wp_chainT ?_) | (with_reducible refine Mi.wp_cb ?_) | (with_reducible refine Mi.wp_un ?_) | (with_reducible refine Mi.wp_next ?_) | (with_reducible refine Mi.wp_asgN ?_) | (with_reducible refine Mi.wp_retNS ?_) | (with_reducible refine Mi.wp_drop ?_) | (with_reducible refine Mi.wp_par2 ?_) | (with_reducible refine Mi.wp_asgG ?_) | (with_reducible refine Mi.wp_subG ?_) | (with_reducible refine Mi.wp_appA ?_) | (with_reducible refine Mi.wp_tup ?_) | (with_reducible refine Mi.wp_lst ?_) | (with_reducible refine Mi.wp_new ?_) | (with_reducible refine Mi.wp_slice ?_) | (with_reducible refine Mi.wp_prtN ?_) | (with_reducible refine Mi.wp_prtS ?_) | (with_reducible refine Mi.wp_mt ?_) | (with_reducible refine Mi.wp_mt0 ?_) | (with_reducible refine Mi.wp_seqI ?_) | (with_reducible refine Mi.wp_compN ?_) | (with_reducible refine Mi.wp_fnI ?_) | (with_reducible refine Mi.wp_forS ?_) | (with_reducible refine Mi.wp_tgTup ?_) | (with_reducible refine Mi.wp_gsCons ?_) | (with_reducible refine Mi.wp_gsNil ?_) | (with_reducible refine Mi.wp_callN ?_) | ((with_reducible apply Mi.wp_putV); · rfl) | ((with_reducible apply Mi.wp_putN); · rfl) | (with_reducible refine Mi.wp_bnd ?_) | (with_reducible refine Mi.wp_ret ?_) | (with_reducible refine Mi.wp_opt ?_) | (with_reducible refine Mi.wp_view ?_) | ((with_reducible refine Mi.nm_a ?_); (try (conv => arg 1; simp only [Mi.putCell, Mi.wipeL, Mi.backL, Mi.pick, List.filterMap_cons, List.filterMap_nil, List.filterMap_cons_some, List.map_nil, List.map_cons, List.append_nil, List.nil_append, List.cons_append, List.getElem?_cons_zero, List.getElem?_cons_succ, List.set_cons_zero, List.set_cons_succ, List.getD_cons_zero, List.getD_cons_succ, Int.reduceToNat])); (with_reducible refine Mi.nm_b ?_)) | (with_reducible refine ⟨_, in_small, ?_⟩) | (with_reducible refine ⟨_, in_digit, ?_⟩) | (with_reducible refine ⟨_, Mi.add_int, ?_⟩) | (with_reducible refine ⟨_, Mi.sub_int, ?_⟩) | (with_reducible refine ⟨_, Mi.lt_int, ?_⟩) | (with_reducible refine ⟨_, Mi.le_int, ?_⟩) | (with_reducible refine ⟨_, Mi.gt_int, ?_⟩) | (with_reducible refine ⟨_, Mi.ge_int, ?_⟩) | (with_reducible refine ⟨_, Mi.neg_int, ?_⟩) | (with_reducible refine ⟨_, Mi.asBl_bl, ?_⟩) | (with_reducible refine ⟨_, Mi.pow_lit (by decide) (by decide), ?_⟩) | (with_reducible refine ⟨_, Mi.mul_int (by decide), ?_⟩) | (with_reducible refine ⟨_, Mi.mod_int (by decide), ?_⟩) | (with_reducible refine ⟨_, Mi.fdiv_int (by decide), ?_⟩) | (with_reducible refine ⟨_, Mi.eqq_int, ?_⟩) | (with_reducible refine ⟨_, Mi.neq_int, ?_⟩) | (with_reducible refine Mi.ift_t ?_) | (with_reducible refine Mi.ift_f ?_) | (with_reducible refine Mi.ift_nt ?_) | (with_reducible refine Mi.ift_nf ?_) | ((with_reducible refine Mi.ift_bt ?_ ?_); · rfl) | ((with_reducible refine Mi.ift_bf ?_ ?_); · rfl) | (refine ⟨_, _, _, _, _, rfl, rfl, rfl, rfl, ?_⟩) | (refine ⟨_, _, rfl, rfl, ?_⟩) | (refine ⟨_, _, rfl, ?_⟩) | (refine ⟨⟨rfl, rfl, rfl⟩, ?_⟩) | (refine ⟨Nat.le_of_ble_eq_true rfl, ?_⟩) | (refine ⟨by decide, ?_⟩) | (refine ⟨_, rfl, ?_⟩) | (refine ⟨rfl, ?_⟩))); (try (with_reducible refine Mi.here ?_)))
                  refine ⟨hz, ?_⟩
                  ((repeat (first | (with_reducible refine Mi.wp_seq ?_) | (with_reducible refine Mi.wp_ifS ?_) | (with_reducible refine Mi.wp_asg ?_) | (with_reducible refine Mi.wp_retS ?_) | (with_reducible refine Mi.wp_bin ?_) | ((with_reducible apply Mi.wp_var1); · rfl) | (with_reducible refine Mi.wp_C ?_) | (with_reducible refine Mi.wp_asCons ?_) | (with_reducible refine Mi.wp_asNil ?_) | (with_reducible refine Mi.wp_call ?_) | (with_reducible refine Mi.wp_callIO ?_) | (with_reducible refine Mi.wp_args ?_) | (with_reducible refine Mi.wp_frzXn ?_) | (with_reducible refine Mi.wp_frzX0 ?_) | (with_reducible refine Mi.wp_frzXS ?_) | (with_reducible refine Mi.wp_frzsCons ?_) | (with_reducible refine Mi.wp_frzsNil ?_) | (with_reducible refine Mi.wp_frzD ?_) | (with_reducible refine Mi.wp_boolA ?_) | (with_reducible refine Mi.wp_blT ?_) | (with_reducible refine Mi.wp_tst ?_) | (with_reducible refine Mi.wp_andT ?_) | (with_reducible refine Mi.wp_orT ?_) | (with_reducible refine Mi.wp_notT ?_) | (with_reducible refine Mi.wp_ifA ?_) | (with_reducible refine Mi.wp_andA ?_) | (with_reducible refine Mi.wp_orA ?_) | (with_reducible refine Mi.wp_notA ?_) | (with_reducible refine Mi.wp_chainT ?_) | (with_reducible refine Mi.wp_cb ?_) | (with_reducible refine Mi.wp_un ?_) | (with_reducible refine Mi.wp_next ?_) | (with_reducible refine Mi.wp_asgN ?_) | (with_reducible refine Mi.wp_retNS ?_) | (with_reducible refine Mi.wp_drop ?_) | (with_reducible refine Mi.wp_par2 ?_) | (with_reducible refine Mi.wp_asgG ?_) | (with_reducible refine Mi.wp_subG ?_) | (with_reducible refine Mi.wp_appA ?_) | (with_reducible refine Mi.wp_tup ?_) | (with_reducible refine Mi.wp_lst ?_) | (with_reducible refine Mi.wp_new ?_) | (with_reducible refine Mi.wp_slice ?_) | (with_reducible refine Mi.wp_prtN ?_) | (with_reducible refine Mi.wp_prtS ?_) | (with_reducible refine Mi.wp_mt ?_) | (with_reducible refine Mi.wp_mt0 ?_) | (with_reducible refine Mi.wp_seqI ?_) | (with_reducible refine Mi.wp_compN ?_) | (with_reducible refine Mi.wp_fnI ?_) | (with_reducible refine Mi.wp_forS ?_) | (with_reducible refine Mi.wp_tgTup ?_) | (with_reducible refine Mi.wp_gsCons ?_) | (with_reducible refine Mi.wp_gsNil ?_) | (with_reducible refine Mi.wp_callN ?_) | ((with_reducible apply Mi.wp_putV); · rfl) | ((with_reducible apply Mi.wp_putN); · rfl) | (with_reducible refine Mi.wp_bnd ?_) | (with_reducible refine Mi.wp_ret ?_) | (with_reducible refine Mi.wp_opt ?_) | (with_reducible refine Mi.wp_view ?_) | ((with_reducible refine Mi.nm_a ?_); (try (conv => arg 1; simp only [Mi.putCell, Mi.wipeL, Mi.backL, Mi.pick, List.filterMap_cons, List.filterMap_nil, List.filterMap_cons_some, List.map_nil, List.map_cons, List.append_nil, List.nil_append, List.cons_append, List.getElem?_cons_zero, List.getElem?_cons_succ, List.set_cons_zero, List.set_cons_succ, List.getD_cons_zero, List.getD_cons_succ, Int.reduceToNat])); (with_reducible refine Mi.nm_b ?_)) | (with_reducible refine ⟨_, Mi.add_int, ?_⟩) | (with_reducible refine ⟨_, Mi.sub_int, ?_⟩) | (with_reducible refine ⟨_, Mi.lt_int, ?_⟩) | (with_reducible refine ⟨_, Mi.le_int, ?_⟩) | (with_reducible refine ⟨_, Mi.gt_int, ?_⟩) | (with_reducible refine ⟨_, Mi.ge_int, ?_⟩) | (with_reducible refine ⟨_, Mi.neg_int, ?_⟩) | (with_reducible refine ⟨_, Mi.asBl_bl, ?_⟩) | (with_reducible refine ⟨_, Mi.pow_lit (by decide) (by decide), ?_⟩) | (with_reducible refine ⟨_, Mi.mul_int (by decide), ?_⟩) | (with_reducible refine ⟨_, Mi.mod_int (by decide), ?_⟩) | (with_reducible refine ⟨_, Mi.fdiv_int (by decide), ?_⟩) | (with_reducible refine ⟨_, Mi.eqq_int, ?_⟩) | (with_reducible refine ⟨_, Mi.neq_int, ?_⟩) | (with_reducible refine Mi.ift_t ?_) | (with_reducible refine Mi.ift_f ?_) | (with_reducible refine Mi.ift_nt ?_) | (with_reducible refine Mi.ift_nf ?_) | ((with_reducible refine Mi.ift_bt ?_ ?_); · rfl) | ((with_reducible refine Mi.ift_bf ?_ ?_); · rfl) | (refine ⟨_, _, _, _, _, rfl, rfl, rfl, rfl, ?_⟩) | (refine ⟨_, _, rfl, rfl, ?_⟩) | (refine ⟨_, _, rfl, ?_⟩) | (refine ⟨⟨rfl, rfl, rfl⟩, ?_⟩) | (refine ⟨Nat.le_of_ble_eq_true rfl, ?_⟩) | (refine ⟨by decide, ?_⟩) | (refine ⟨_, rfl, ?_⟩) | (refine ⟨rfl, ?_⟩))); (try (with_reducible refine Mi.here ?_)))
                  refine ⟨xs, done ++ [x], rfl, ?_, by rw [h5]; simp, rfl⟩
                  simp [h6]
            · exact ⟨c :: cs, [], rfl, rfl, rfl, rfl⟩
    · ((repeat (first | (with_reducible refine Mi.wp_seq ?_) | (with_reducible refine Mi.wp_ifS ?_) | (with_reducible refine Mi.wp_asg ?_) | (with_reducible refine Mi.wp_retS ?_) | (with_reducible refine Mi.wp_bin ?_) | ((with_reducible apply Mi.wp_var1); · rfl) | (with_reducible refine Mi.wp_C ?_) | (with_reducible refine Mi.wp_asCons ?_) | (with_reducible refine Mi.wp_asNil ?_) | (with_reducible refine Mi.wp_call ?_) | (with_reducible refine Mi.wp_callIO ?_) | (with_reducible refine Mi.wp_args ?_) | (with_reducible refine Mi.wp_frzXn ?_) | (with_reducible refine Mi.wp_frzX0 ?_) | (with_reducible refine Mi.wp_frzXS ?_) | (with_reducible refine Mi.wp_frzsCons ?_) | (with_reducible refine Mi.wp_frzsNil ?_) | (with_reducible refine Mi.wp_frzD ?_) | (with_reducible refine Mi.wp_boolA ?_) | (with_reducible refine Mi.wp_blT ?_) | (with_reducible refine Mi.wp_tst ?_) | (with_reducible refine Mi.wp_andT ?_) | (with_reducible refine Mi.wp_orT ?_) | (with_reducible refine Mi.wp_notT ?_) | (with_reducible refine Mi.wp_ifA ?_) | (with_reducible refine Mi.wp_andA ?_) | (with_reducible refine Mi.wp_orA ?_) | (with_reducible refine Mi.wp_notA ?_) | (with_reducible refine Mi.wp_chainT ?_) | (with_reducible refine Mi.wp_cb ?_) | (with_reducible refine Mi.wp_un ?_) | (with_reducible refine Mi.wp_next ?_) | (with_reducible refine Mi.wp_asgN ?_) | (with_reducible refine Mi.wp_retNS ?_) | (with_reducible refine Mi.wp_drop ?_) | (with_reducible refine Mi.wp_par2 ?_) | (with_reducible refine Mi.wp_asgG ?_) | (with_reducible refine Mi.wp_subG ?_) | (with_reducible refine Mi.wp_appA ?_) | (with_reducible refine Mi.wp_tup ?_) | (with_reducible refine Mi.wp_lst ?_) | (with_reducible refine Mi.wp_new ?_) | (with_reducible refine Mi.wp_slice ?_) | (with_reducible refine Mi.wp_prtN ?_) | (with_reducible refine Mi.wp_prtS ?_) | (with_reducible refine Mi.wp_mt ?_) | (with_reducible refine Mi.wp_mt0 ?_) | (with_reducible refine Mi.wp_seqI ?_) | (with_reducible refine Mi.wp_compN ?_) | (with_reducible refine Mi.wp_fnI ?_) | (with_reducible refine Mi.wp_forS ?_) | (with_reducible refine Mi.wp_tgTup ?_) | (with_reducible refine Mi.wp_gsCons ?_) | (with_reducible refine Mi.wp_gsNil ?_) | (with_reducible refine Mi.wp_callN ?_) | ((with_reducible apply Mi.wp_putV); · rfl) | ((with_reducible apply Mi.wp_putN); · rfl) | (with_reducible refine Mi.wp_bnd ?_) | (with_reducible refine Mi.wp_ret ?_) | (with_reducible refine Mi.wp_opt ?_) | (with_reducible refine Mi.wp_view ?_) | ((with_reducible refine Mi.nm_a ?_); (try (conv => arg 1; simp only [Mi.putCell, Mi.wipeL, Mi.backL, Mi.pick, List.filterMap_cons, List.filterMap_nil, List.filterMap_cons_some, List.map_nil, List.map_cons, List.append_nil, List.nil_append, List.cons_append, List.getElem?_cons_zero, List.getElem?_cons_succ, List.set_cons_zero, List.set_cons_succ, List.getD_cons_zero, List.getD_cons_succ, Int.reduceToNat])); (with_reducible refine Mi.nm_b ?_)) | (with_reducible refine ⟨_, Mi.add_int, ?_⟩) | (with_reducible refine ⟨_, Mi.sub_int, ?_⟩) | (with_reducible refine ⟨_, Mi.lt_int, ?_⟩) | (with_reducible refine ⟨_, Mi.le_int, ?_⟩) | (with_reducible refine ⟨_, Mi.gt_int, ?_⟩) | (with_reducible refine ⟨_, Mi.ge_int, ?_⟩) | (with_reducible refine ⟨_, Mi.neg_int, ?_⟩) | (with_reducible refine ⟨_, Mi.asBl_bl, ?_⟩) | (with_reducible refine ⟨_, Mi.pow_lit (by decide) (by decide), ?_⟩) | (with_reducible refine ⟨_, Mi.mul_int (by decide), ?_⟩) | (with_reducible refine ⟨_, Mi.mod_int (by decide), ?_⟩) | (with_reducible refine ⟨_, Mi.fdiv_int (by decide), ?_⟩) | (with_reducible refine ⟨_, Mi.eqq_int, ?_⟩) | (with_reducible refine ⟨_, Mi.neq_int, ?_⟩) | (with_reducible refine Mi.ift_t ?_) | (with_reducible refine Mi.ift_f ?_) | (with_reducible refine Mi.ift_nt ?_) | (with_reducible refine Mi.ift_nf ?_) | ((with_reducible refine Mi.ift_bt ?_ ?_); · rfl) | ((with_reducible refine Mi.ift_bf ?_ ?_); · rfl) | (refine ⟨_, _, _, _, _, rfl, rfl, rfl, rfl, ?_⟩) | (refine ⟨_, _, rfl, rfl, ?_⟩) | (refine ⟨_, _, rfl, ?_⟩) | (refine ⟨⟨rfl, rfl, rfl⟩, ?_⟩) | (refine ⟨Nat.le_of_ble_eq_true rfl, ?_⟩) | (refine ⟨by decide, ?_⟩) | (refine ⟨_, rfl, ?_⟩) | (refine ⟨rfl, ?_⟩))); (try (with_reducible refine Mi.here ?_)))
      refine ⟨?_, rfl⟩
      have := of_decide_eq_false h1
      unfold nmL
      rw [decide_eq_false (by omega)]
      rfl
  obtain ⟨d, o, e, rfl, rfl⟩ := fp_ex z
  exact e
theorem bad_name {l done xs : List Nat} {x : Nat} (h : l = done ++ x :: xs) (hx : (smB x || dgB x) = false) : nmL l = false := by
  subst h
  unfold nmL
  rw [List.all_append, List.all_cons, hx]
  simp
theorem eq_empty {l : List Nat} (h : PyData.strOk ⟨l.toArray⟩ = true) : eqqD (.str ⟨l.toArray⟩) (.str (Str.ofString "")) = some (.bl (decide (l = []))) := by
  rw [eqq_str h (by decide +kernel)]
  rw [show Str.ofString "" = ⟨#[]⟩ from by decide +kernel]
  congr 2
  rw [Bool.eq_iff_iff]
  simp
theorem lname_ok {l : List Nat} (h : l.length < 1000) (ho : PyData.strOk ⟨l.toArray⟩ = true) : f__law_is_name [.str ⟨l.toArray⟩] = .ok (.bl (nmL l)) .non := by
  have z : Fp (f__law_is_name [.str ⟨l.toArray⟩]) noX fun r o => r = .bl (nmL l) ∧ o = .non := by
    refine fp_run (ρ := [.val _, .nil]) rfl ?_
    unfold m__law_is_name
    have hL := lenS h
    have hE := eq_empty ho
    cases l with
    | nil =>
      ((repeat (first | (with_reducible refine Mi.wp_seq ?_) | (with_reducible refine Mi.wp_ifS ?_) | (with_reducible refine Mi.wp_asg ?_) | (with_reducible refine Mi.wp_retS ?_) | (with_reducible refine Mi.wp_bin ?_) | ((with_reducible apply Mi.wp_var1); · rfl) | (with_reducible refine Mi.wp_C ?_) | (with_reducible refine Mi.wp_asCons ?_) | (with_reducible refine Mi.wp_asNil ?_) | (with_reducible refine Mi.wp_call ?_) | (with_reducible refine Mi.wp_callIO ?_) | (with_reducible refine Mi.wp_args ?_) | (with_reducible refine Mi.wp_frzXn ?_) | (with_reducible refine Mi.wp_frzX0 ?_) | (with_reducible refine Mi.wp_frzXS ?_) | (with_reducible refine Mi.wp_frzsCons ?_) | (with_reducible refine Mi.wp_frzsNil ?_) | (with_reducible refine Mi.wp_frzD ?_) | (with_reducible refine Mi.wp_boolA ?_) | (with_reducible refine Mi.wp_blT ?_) | (with_reducible refine Mi.wp_tst ?_) | (with_reducible refine Mi.wp_andT ?_) | (with_reducible refine Mi.wp_orT ?_) | (with_reducible refine Mi.wp_notT ?_) | (with_reducible refine Mi.wp_ifA ?_) | (with_reducible refine Mi.wp_andA ?_) | (with_reducible refine Mi.wp_orA ?_) | (with_reducible refine Mi.wp_notA ?_) | (with_reducible refine Mi.wp_chainT ?_) | (with_reducible refine Mi.wp_cb ?_) | (with_reducible refine Mi.wp_un ?_) | (with_reducible refine Mi.wp_next ?_) | (with_reducible refine Mi.wp_asgN ?_) | (with_reducible refine Mi.wp_retNS ?_) | (with_reducible refine Mi.wp_drop ?_) | (with_reducible refine Mi.wp_par2 ?_) | (with_reducible refine Mi.wp_asgG ?_) | (with_reducible refine Mi.wp_subG ?_) | (with_reducible refine Mi.wp_appA ?_) | (with_reducible refine Mi.wp_tup ?_) | (with_reducible refine Mi.wp_lst ?_) | (with_reducible refine Mi.wp_new ?_) | (with_reducible refine Mi.wp_slice ?_) | (with_reducible refine Mi.wp_prtN ?_) | (with_reducible refine Mi.wp_prtS ?_) | (with_reducible refine Mi.wp_mt ?_) | (with_reducible refine Mi.wp_mt0 ?_) | (with_reducible refine Mi.wp_seqI ?_) | (with_reducible refine Mi.wp_compN ?_) | (with_reducible refine Mi.wp_fnI ?_) | (with_reducible refine Mi.wp_forS ?_) | (with_reducible refine Mi.wp_tgTup ?_) | (with_reducible refine Mi.wp_gsCons ?_) | (with_reducible refine Mi.wp_gsNil ?_) | (with_reducible refine Mi.wp_callN ?_) | ((with_reducible apply Mi.wp_putV); · rfl) | ((with_reducible apply Mi.wp_putN); · rfl) | (with_reducible refine Mi.wp_bnd ?_) | (with_reducible refine Mi.wp_ret ?_) | (with_reducible refine Mi.wp_opt ?_) | (with_reducible refine Mi.wp_view ?_) | ((with_reducible refine Mi.nm_a ?_); (try (conv => arg 1; simp only [Mi.putCell, Mi.wipeL, Mi.backL, Mi.pick, List.filterMap_cons, List.filterMap_nil, List.filterMap_cons_some, List.map_nil, List.map_cons, List.append_nil, List.nil_append, List.cons_append, List.getElem?_cons_zero, List.getElem?_cons_succ, List.set_cons_zero, List.set_cons_succ, List.getD_cons_zero, List.getD_cons_succ, Int.reduceToNat])); (with_reducible refine Mi.nm_b ?_)) | (with_reducible refine ⟨_, hE, ?_⟩) | (with_reducible refine ⟨_, Mi.isi_non_bool, ?_⟩) | (with_reducible refine ⟨_, Mi.isi_non_int, ?_⟩) | (with_reducible refine ⟨_, Mi.isi_non_str, ?_⟩) | (with_reducible refine ⟨_, Mi.isi_non_list, ?_⟩) | (with_reducible refine ⟨_, Mi.isi_non_tuple, ?_⟩) | (with_reducible refine ⟨_, Mi.isi_non_dict, ?_⟩) | (with_reducible refine ⟨_, Mi.isi_bl_bool, ?_⟩) | (with_reducible refine ⟨_, Mi.isi_bl_int, ?_⟩) | (with_reducible refine ⟨_, Mi.isi_bl_str, ?_⟩) | (with_reducible refine ⟨_, Mi.isi_bl_list, ?_⟩) | (with_reducible refine ⟨_, Mi.isi_bl_tuple, ?_⟩) | (with_reducible refine ⟨_, Mi.isi_bl_dict, ?_⟩) | (with_reducible refine ⟨_, Mi.isi_int_bool, ?_⟩) | (with_reducible refine ⟨_, Mi.isi_int_int, ?_⟩) | (with_reducible refine ⟨_, Mi.isi_int_str, ?_⟩) | (with_reducible refine ⟨_, Mi.isi_int_list, ?_⟩) | (with_reducible refine ⟨_, Mi.isi_int_tuple, ?_⟩) | (with_reducible refine ⟨_, Mi.isi_int_dict, ?_⟩) | (with_reducible refine ⟨_, Mi.isi_str_bool, ?_⟩) | (with_reducible refine ⟨_, Mi.isi_str_int, ?_⟩) | (with_reducible refine ⟨_, Mi.isi_str_str, ?_⟩) | (with_reducible refine ⟨_, Mi.isi_str_list, ?_⟩) | (with_reducible refine ⟨_, Mi.isi_str_tuple, ?_⟩) | (with_reducible refine ⟨_, Mi.isi_str_dict, ?_⟩) | (with_reducible refine ⟨_, Mi.isi_lst_bool, ?_⟩) | (with_reducible refine ⟨_, Mi.isi_lst_int, ?_⟩) | (with_reducible refine ⟨_, Mi.isi_lst_str, ?_⟩) | (with_reducible refine ⟨_, Mi.isi_lst_list, ?_⟩) | (with_reducible refine ⟨_, Mi.isi_lst_tuple, ?_⟩) | (with_reducible refine ⟨_, Mi.isi_lst_dict, ?_⟩) | (with_reducible refine ⟨_, Mi.isi_rol_bool, ?_⟩) | (with_reducible refine ⟨_, Mi.isi_rol_int, ?_⟩) | (with_reducible refine ⟨_, Mi.isi_rol_str, ?_⟩) | (with_reducible refine ⟨_, Mi.isi_rol_list, ?_⟩) | (with_reducible refine ⟨_, Mi.isi_rol_tuple, ?_⟩) | (with_reducible refine ⟨_, Mi.isi_rol_dict, ?_⟩) | (with_reducible refine ⟨_, Mi.isi_tup_bool, ?_⟩) | (with_reducible refine ⟨_, Mi.isi_tup_int, ?_⟩) | (with_reducible refine ⟨_, Mi.isi_tup_str, ?_⟩) | (with_reducible refine ⟨_, Mi.isi_tup_list, ?_⟩) | (with_reducible refine ⟨_, Mi.isi_tup_tuple, ?_⟩) | (with_reducible refine ⟨_, Mi.isi_tup_dict, ?_⟩) | (with_reducible refine ⟨_, Mi.isi_dct_bool, ?_⟩) | (with_reducible refine ⟨_, Mi.isi_dct_int, ?_⟩) | (with_reducible refine ⟨_, Mi.isi_dct_str, ?_⟩) | (with_reducible refine ⟨_, Mi.isi_dct_list, ?_⟩) | (with_reducible refine ⟨_, Mi.isi_dct_tuple, ?_⟩) | (with_reducible refine ⟨_, Mi.isi_dct_dict, ?_⟩) | (with_reducible refine ⟨_, Mi.add_int, ?_⟩) | (with_reducible refine ⟨_, Mi.sub_int, ?_⟩) | (with_reducible refine ⟨_, Mi.lt_int, ?_⟩) | (with_reducible refine ⟨_, Mi.le_int, ?_⟩) | (with_reducible refine ⟨_, Mi.gt_int, ?_⟩) | (with_reducible refine ⟨_, Mi.ge_int, ?_⟩) | (with_reducible refine ⟨_, Mi.neg_int, ?_⟩) | (with_reducible refine ⟨_, Mi.asBl_bl, ?_⟩) | (with_reducible refine ⟨_, Mi.pow_lit (by decide) (by decide), ?_⟩) | (with_reducible refine ⟨_, Mi.mul_int (by decide), ?_⟩) | (with_reducible refine ⟨_, Mi.mod_int (by decide), ?_⟩) | (with_reducible refine ⟨_, Mi.fdiv_int (by decide), ?_⟩) | (with_reducible refine ⟨_, Mi.eqq_int, ?_⟩) | (with_reducible refine ⟨_, Mi.neq_int, ?_⟩) | (with_reducible refine Mi.ift_t ?_) | (with_reducible refine Mi.ift_f ?_) | (with_reducible refine Mi.ift_nt ?_) | (with_reducible refine Mi.ift_nf ?_) | ((with_reducible refine Mi.ift_bt ?_ ?_); · rfl) | ((with_reducible refine Mi.ift_bf ?_ ?_); · rfl) | (refine ⟨_, _, _, _, _, rfl, rfl, rfl, rfl, ?_⟩) | (refine ⟨_, _, rfl, rfl, ?_⟩) | (refine ⟨_, _, rfl, ?_⟩) | (refine ⟨⟨rfl, rfl, rfl⟩, ?_⟩) | (refine ⟨Nat.le_of_ble_eq_true rfl, ?_⟩) | (refine ⟨by decide, ?_⟩) | (refine ⟨_, rfl, ?_⟩) | (refine ⟨rfl, ?_⟩))); (try (with_reducible refine Mi.here ?_)))
      exact ⟨rfl, rfl⟩
    | cons c cs =>
      have i0 := ix0 (c := c) (cs := cs) (by simp only [List.length_cons] at h; omega)
      rw [decide_eq_false (by simp)] at hE
      ((repeat (first | (with_reducible refine Mi.wp_seq ?_) | (with_reducible refine Mi.wp_ifS ?_) | (with_reducible refine Mi.wp_asg ?_) | (with_reducible refine Mi.wp_retS ?_) | (with_reducible refine Mi.wp_bin ?_) | ((with_reducible apply Mi.wp_var1); · rfl) | (with_reducible refine Mi.wp_C ?_) | (with_reducible refine Mi.wp_asCons ?_) | (with_reducible refine Mi.wp_asNil ?_) | (with_reducible refine Mi.wp_call ?_) | (with_reducible refine Mi.wp_callIO ?_) | (with_reducible refine Mi.wp_args ?_) | (with_reducible refine Mi.wp_frzXn ?_) | (with_reducible refine Mi.wp_frzX0 ?_) | (with_reducible refine Mi.wp_frzXS ?_) | (with_reducible refine Mi.wp_frzsCons ?_) | (with_reducible refine Mi.wp_frzsNil ?_) | (with_reducible refine Mi.wp_frzD ?_) | (with_reducible refine Mi.wp_boolA ?_) | (with_reducible refine Mi.wp_blT ?_) | (with_reducible refine Mi.wp_tst ?_) | (with_reducible refine Mi.wp_andT ?_) | (with_reducible refine Mi.wp_orT ?_) | (with_reducible refine Mi.wp_notT ?_) | (with_reducible refine Mi.wp_ifA ?_) | (with_reducible refine Mi.wp_andA ?_) | (with_reducible refine Mi.wp_orA ?_) | (with_reducible refine Mi.wp_notA ?_) | (with_reducible refine Mi.wp_chainT ?_) | (with_reducible refine Mi.wp_cb ?_) | (with_reducible refine Mi.wp_un ?_) | (with_reducible refine Mi.wp_next ?_) | (with_reducible refine Mi.wp_asgN ?_) | (with_reducible refine Mi.wp_retNS ?_) | (with_reducible refine Mi.wp_drop ?_) | (with_reducible refine Mi.wp_par2 ?_) | (with_reducible refine Mi.wp_asgG ?_) | (with_reducible refine Mi.wp_subG ?_) | (with_reducible refine Mi.wp_appA ?_) | (with_reducible refine Mi.wp_tup ?_) | (with_reducible refine Mi.wp_lst ?_) | (with_reducible refine Mi.wp_new ?_) | (with_reducible refine Mi.wp_slice ?_) | (with_reducible refine Mi.wp_prtN ?_) | (with_reducible refine Mi.wp_prtS ?_) | (with_reducible refine Mi.wp_mt ?_) | (with_reducible refine Mi.wp_mt0 ?_) | (with_reducible refine Mi.wp_seqI ?_) | (with_reducible refine Mi.wp_compN ?_) | (with_reducible refine Mi.wp_fnI ?_) | (with_reducible refine Mi.wp_forS ?_) | (with_reducible refine Mi.wp_tgTup ?_) | (with_reducible refine Mi.wp_gsCons ?_) | (with_reducible refine Mi.wp_gsNil ?_) | (with_reducible refine Mi.wp_callN ?_) | ((with_reducible apply Mi.wp_putV); · rfl) | ((with_reducible apply Mi.wp_putN); · rfl) | (with_reducible refine Mi.wp_bnd ?_) | (with_reducible refine Mi.wp_ret ?_) | (with_reducible refine Mi.wp_opt ?_) | (with_reducible refine Mi.wp_view ?_) | ((with_reducible refine Mi.nm_a ?_); (try (conv => arg 1; simp only [Mi.putCell, Mi.wipeL, Mi.backL, Mi.pick, List.filterMap_cons, List.filterMap_nil, List.filterMap_cons_some, List.map_nil, List.map_cons, List.append_nil, List.nil_append, List.cons_append, List.getElem?_cons_zero, List.getElem?_cons_succ, List.set_cons_zero, List.set_cons_succ, List.getD_cons_zero, List.getD_cons_succ, Int.reduceToNat])); (with_reducible refine Mi.nm_b ?_)) | (with_reducible refine ⟨_, hL, ?_⟩) | (with_reducible refine ⟨_, i0, ?_⟩) | (with_reducible refine ⟨_, le_a, ?_⟩) | (with_reducible refine ⟨_, le_z, ?_⟩) | (with_reducible refine ⟨_, hE, ?_⟩) | (with_reducible refine ⟨_, Mi.isi_non_bool, ?_⟩) | (with_reducible refine ⟨_, Mi.isi_non_int, ?_⟩) | (with_reducible refine ⟨_, Mi.isi_non_str, ?_⟩) | (with_reducible refine ⟨_, Mi.isi_non_list, ?_⟩) | (with_reducible refine ⟨_, Mi.isi_non_tuple, ?_⟩) | (with_reducible refine ⟨_, Mi.isi_non_dict, ?_⟩) | (with_reducible refine ⟨_, Mi.isi_bl_bool, ?_⟩) | (with_reducible refine ⟨_, Mi.isi_bl_int, ?_⟩) | (with_reducible refine ⟨_, Mi.isi_bl_str, ?_⟩) | (with_reducible refine ⟨_, Mi.isi_bl_list, ?_⟩) | (with_reducible refine ⟨_, Mi.isi_bl_tuple, ?_⟩) | (with_reducible refine ⟨_, Mi.isi_bl_dict, ?_⟩) | (with_reducible refine ⟨_, Mi.isi_int_bool, ?_⟩) | (with_reducible refine ⟨_, Mi.isi_int_int, ?_⟩) | (with_reducible refine ⟨_, Mi.isi_int_str, ?_⟩) | (with_reducible refine ⟨_, Mi.isi_int_list, ?_⟩) | (with_reducible refine ⟨_, Mi.isi_int_tuple, ?_⟩) | (with_reducible refine ⟨_, Mi.isi_int_dict, ?_⟩) | (with_reducible refine ⟨_, Mi.isi_str_bool, ?_⟩) | (with_reducible refine ⟨_, Mi.isi_str_int, ?_⟩) | (with_reducible refine ⟨_, Mi.isi_str_str, ?_⟩) | (with_reducible refine ⟨_, Mi.isi_str_list, ?_⟩) | (with_reducible refine ⟨_, Mi.isi_str_tuple, ?_⟩) | (with_reducible refine ⟨_, Mi.isi_str_dict, ?_⟩) | (with_reducible refine ⟨_, Mi.isi_lst_bool, ?_⟩) | (with_reducible refine ⟨_, Mi.isi_lst_int, ?_⟩) | (with_reducible refine ⟨_, Mi.isi_lst_str, ?_⟩) | (with_reducible refine ⟨_, Mi.isi_lst_list, ?_⟩) | (with_reducible refine ⟨_, Mi.isi_lst_tuple, ?_⟩) | (with_reducible refine ⟨_, Mi.isi_lst_dict, ?_⟩) | (with_reducible refine ⟨_, Mi.isi_rol_bool, ?_⟩) | (with_reducible refine ⟨_, Mi.isi_rol_int, ?_⟩) | (with_reducible refine ⟨_, Mi.isi_rol_str, ?_⟩) | (with_reducible refine ⟨_, Mi.isi_rol_list, ?_⟩) | (with_reducible refine ⟨_, Mi.isi_rol_tuple, ?_⟩) | (with_reducible refine ⟨_, Mi.isi_rol_dict, ?_⟩) | (with_reducible refine ⟨_, Mi.isi_tup_bool, ?_⟩) | (with_reducible refine ⟨_, Mi.isi_tup_int, ?_⟩) | (with_reducible refine ⟨_, Mi.isi_tup_str, ?_⟩) | (with_reducible refine ⟨_, Mi.isi_tup_list, ?_⟩) | (with_reducible refine ⟨_, Mi.isi_tup_tuple, ?_⟩) | (with_reducible refine ⟨_, Mi.isi_tup_dict, ?_⟩) | (with_reducible refine ⟨_, Mi.isi_dct_bool, ?_⟩) | (with_reducible refine ⟨_, Mi.isi_dct_int, ?_⟩) | (with_reducible refine ⟨_, Mi.isi_dct_str, ?_⟩) | (with_reducible refine ⟨_, Mi.isi_dct_list, ?_⟩) | (with_reducible refine ⟨_, Mi.isi_dct_tuple, ?_⟩) | (with_reducible refine ⟨_, Mi.isi_dct_dict, ?_⟩) | (with_reducible refine ⟨_, Mi.add_int, ?_⟩) | (with_reducible refine ⟨_, Mi.sub_int, ?_⟩) | (with_reducible refine ⟨_, Mi.lt_int, ?_⟩) | (with_reducible refine ⟨_, Mi.le_int, ?_⟩) | (with_reducible refine ⟨_, Mi.gt_int, ?_⟩) | (with_reducible refine ⟨_, Mi.ge_int, ?_⟩) | (with_reducible refine ⟨_, Mi.neg_int, ?_⟩) | (with_reducible refine ⟨_, Mi.asBl_bl, ?_⟩) | (with_reducible refine ⟨_, Mi.pow_lit (by decide) (by decide), ?_⟩) | (with_reducible refine ⟨_, Mi.mul_int (by decide), ?_⟩) | (with_reducible refine ⟨_, Mi.mod_int (by decide), ?_⟩) | (with_reducible refine ⟨_, Mi.fdiv_int (by decide), ?_⟩) | (with_reducible refine ⟨_, Mi.eqq_int, ?_⟩) | (with_reducible refine ⟨_, Mi.neq_int, ?_⟩) | (with_reducible refine Mi.ift_t ?_) | (with_reducible refine Mi.ift_f ?_) | (with_reducible refine Mi.ift_nt ?_) | (with_reducible refine Mi.ift_nf ?_) | ((with_reducible refine Mi.ift_bt ?_ ?_); · rfl) | ((with_reducible refine Mi.ift_bf ?_ ?_); · rfl) | (refine ⟨_, _, _, _, _, rfl, rfl, rfl, rfl, ?_⟩) | (refine ⟨_, _, rfl, rfl, ?_⟩) | (refine ⟨_, _, rfl, ?_⟩) | (refine ⟨⟨rfl, rfl, rfl⟩, ?_⟩) | (refine ⟨Nat.le_of_ble_eq_true rfl, ?_⟩) | (refine ⟨by decide, ?_⟩) | (refine ⟨_, rfl, ?_⟩) | (refine ⟨rfl, ?_⟩))); (try (with_reducible refine Mi.here ?_)))
      refine ⟨fun h1 => ?_, fun h1 => ?_⟩
      · have h1 := of_decide_eq_true h1
        ((repeat (first | (with_reducible refine Mi.wp_seq ?_) | (with_reducible refine Mi.wp_ifS ?_) | (with_reducible refine Mi.wp_asg ?_) | (with_reducible refine Mi.wp_retS ?_) | (with_reducible refine Mi.wp_bin ?_) | ((with_reducible apply Mi.wp_var1); · rfl) | (with_reducible refine Mi.wp_C ?_) | (with_reducible refine Mi.wp_asCons ?_) | (with_reducible refine Mi.wp_asNil ?_) | (with_reducible refine Mi.wp_call ?_) | (with_reducible refine Mi.wp_callIO ?_) | (with_reducible refine Mi.wp_args ?_) | (with_reducible refine Mi.wp_frzXn ?_) | (with_reducible refine Mi.wp_frzX0 ?_) | (with_reducible refine Mi.wp_frzXS ?_) | (with_reducible refine Mi.wp_frzsCons ?_) | (with_reducible refine Mi.wp_frzsNil ?_) | (with_reducible refine Mi.wp_frzD ?_) | (with_reducible refine Mi.wp_boolA ?_) | (with_reducible refine Mi.wp_blT ?_) | (with_reducible refine Mi.wp_tst ?_) | (with_reducible refine Mi.wp_andT ?_) | (with_reducible refine Mi.wp_orT ?_) | (with_reducible refine Mi.wp_notT ?_) | (with_reducible refine Mi.wp_ifA ?_) | (with_reducible refine Mi.wp_andA ?_) | (with_reducible refine Mi.wp_orA ?_) | (with_reducible refine Mi.wp_notA ?_) | (with_reducible refine Mi.wp_chainT ?_) | (with_reducible refine Mi.wp_cb ?_) | (with_reducible refine Mi.wp_un ?_) | (with_reducible refine Mi.wp_next ?_) | (with_reducible refine Mi.wp_asgN ?_) | (with_reducible refine Mi.wp_retNS ?_) | (with_reducible refine Mi.wp_drop ?_) | (with_reducible refine Mi.wp_par2 ?_) | (with_reducible refine Mi.wp_asgG ?_) | (with_reducible refine Mi.wp_subG ?_) | (with_reducible refine Mi.wp_appA ?_) | (with_reducible refine Mi.wp_tup ?_) | (with_reducible refine Mi.wp_lst ?_) | (with_reducible refine Mi.wp_new ?_) | (with_reducible refine Mi.wp_slice ?_) | (with_reducible refine Mi.wp_prtN ?_) | (with_reducible refine Mi.wp_prtS ?_) | (with_reducible refine Mi.wp_mt ?_) | (with_reducible refine Mi.wp_mt0 ?_) | (with_reducible refine Mi.wp_seqI ?_) | (with_reducible refine Mi.wp_compN ?_) | (with_reducible refine Mi.wp_fnI ?_) | (with_reducible refine Mi.wp_forS ?_) | (with_reducible refine Mi.wp_tgTup ?_) | (with_reducible refine Mi.wp_gsCons ?_) | (with_reducible refine Mi.wp_gsNil ?_) | (with_reducible refine Mi.wp_callN ?_) | ((with_reducible apply Mi.wp_putV); · rfl) | ((with_reducible apply Mi.wp_putN); · rfl) | (with_reducible refine Mi.wp_bnd ?_) | (with_reducible refine Mi.wp_ret ?_) | (with_reducible refine Mi.wp_opt ?_) | (with_reducible refine Mi.wp_view ?_) | ((with_reducible refine Mi.nm_a ?_); (try (conv => arg 1; simp only [Mi.putCell, Mi.wipeL, Mi.backL, Mi.pick, List.filterMap_cons, List.filterMap_nil, List.filterMap_cons_some, List.map_nil, List.map_cons, List.append_nil, List.nil_append, List.cons_append, List.getElem?_cons_zero, List.getElem?_cons_succ, List.set_cons_zero, List.set_cons_succ, List.getD_cons_zero, List.getD_cons_succ, Int.reduceToNat])); (with_reducible refine Mi.nm_b ?_)) | (with_reducible refine ⟨_, Mi.add_int, ?_⟩) | (with_reducible refine ⟨_, Mi.sub_int, ?_⟩) | (with_reducible refine ⟨_, Mi.lt_int, ?_⟩) | (with_reducible refine ⟨_, Mi.le_int, ?_⟩) | (with_reducible refine ⟨_, Mi.gt_int, ?_⟩) | (with_reducible refine ⟨_, Mi.ge_int, ?_⟩) | (with_reducible refine ⟨_, Mi.neg_int, ?_⟩) | (with_reducible refine ⟨_, Mi.asBl_bl, ?_⟩) | (with_reducible refine ⟨_, Mi.pow_lit (by decide) (by decide), ?_⟩) | (with_reducible refine ⟨_, Mi.mul_int (by decide), ?_⟩) | (with_reducible refine ⟨_, Mi.mod_int (by decide), ?_⟩) | (with_reducible refine ⟨_, Mi.fdiv_int (by decide), ?_⟩) | (with_reducible refine ⟨_, Mi.eqq_int, ?_⟩) | (with_reducible refine ⟨_, Mi.neq_int, ?_⟩) | (with_reducible refine Mi.ift_t ?_) | (with_reducible refine Mi.ift_f ?_) | (with_reducible refine Mi.ift_nt ?_) | (with_reducible refine Mi.ift_nf ?_) | ((with_reducible refine Mi.ift_bt ?_ ?_); · rfl) | ((with_reducible refine Mi.ift_bf ?_ ?_); · rfl) | (refine ⟨_, _, _, _, _, rfl, rfl, rfl, rfl, ?_⟩) | (refine ⟨_, _, rfl, rfl, ?_⟩) | (refine ⟨_, _, rfl, ?_⟩) | (refine ⟨⟨rfl, rfl, rfl⟩, ?_⟩) | (refine ⟨Nat.le_of_ble_eq_true rfl, ?_⟩) | (refine ⟨by decide, ?_⟩) | (refine ⟨_, rfl, ?_⟩) | (refine ⟨rfl, ?_⟩))); (try (with_reducible refine Mi.here ?_)))
        refine ⟨?_, rfl⟩
        unfold nmL
        rw [decide_eq_false (by omega)]
        rfl
      · have h1 := of_decide_eq_false h1
        by_cases hs : smB c = true
        · have hs' := of_decide_eq_true hs
          have e1 : decide (97 ≤ c) = true := decide_eq_true hs'.1
          have e2 : decide (c ≤ 122) = true := decide_eq_true hs'.2
          ((repeat (first | (with_reducible refine Mi.wp_seq ?_) | (with_reducible refine Mi.wp_ifS ?_) | (with_reducible refine Mi.wp_asg ?_) | (with_reducible refine Mi.wp_retS ?_) | (with_reducible refine Mi.wp_bin ?_) | ((with_reducible apply Mi.wp_var1); · rfl) | (with_reducible refine Mi.wp_C ?_) | (with_reducible refine Mi.wp_asCons ?_) | (with_reducible refine Mi.wp_asNil ?_) | (with_reducible refine Mi.wp_call ?_) | (with_reducible refine Mi.wp_callIO ?_) | (with_reducible refine Mi.wp_args ?_) | (with_reducible refine Mi.wp_frzXn ?_) | (with_reducible refine Mi.wp_frzX0 ?_) | (with_reducible refine Mi.wp_frzXS ?_) | (with_reducible refine Mi.wp_frzsCons ?_) | (with_reducible refine Mi.wp_frzsNil ?_) | (with_reducible refine Mi.wp_frzD ?_) | (with_reducible refine Mi.wp_boolA ?_) | (with_reducible refine Mi.wp_blT ?_) | (with_reducible refine Mi.wp_tst ?_) | (with_reducible refine Mi.wp_andT ?_) | (with_reducible refine Mi.wp_orT ?_) | (with_reducible refine Mi.wp_notT ?_) | (with_reducible refine Mi.wp_ifA ?_) | (with_reducible refine Mi.wp_andA ?_) | (with_reducible refine Mi.wp_orA ?_) | (with_reducible refine Mi.wp_notA ?_) | (with_reducible refine Mi.wp_chainT ?_) | (with_reducible refine Mi.wp_cb ?_) | (with_reducible refine Mi.wp_un ?_) | (with_reducible refine Mi.wp_next ?_) | (with_reducible refine Mi.wp_asgN ?_) | (with_reducible refine Mi.wp_retNS ?_) | (with_reducible refine Mi.wp_drop ?_) | (with_reducible refine Mi.wp_par2 ?_) | (with_reducible refine Mi.wp_asgG ?_) | (with_reducible refine Mi.wp_subG ?_) | (with_reducible refine Mi.wp_appA ?_) | (with_reducible refine Mi.wp_tup ?_) | (with_reducible refine Mi.wp_lst ?_) | (with_reducible refine Mi.wp_new ?_) | (with_reducible refine Mi.wp_slice ?_) | (with_reducible refine Mi.wp_prtN ?_) | (with_reducible refine Mi.wp_prtS ?_) | (with_reducible refine Mi.wp_mt ?_) | (with_reducible refine Mi.wp_mt0 ?_) | (with_reducible refine Mi.wp_seqI ?_) | (with_reducible refine Mi.wp_compN ?_) | (with_reducible refine Mi.wp_fnI ?_) | (with_reducible refine Mi.wp_forS ?_) | (with_reducible refine Mi.wp_tgTup ?_) | (with_reducible refine Mi.wp_gsCons ?_) | (with_reducible refine Mi.wp_gsNil ?_) | (with_reducible refine Mi.wp_callN ?_) | ((with_reducible apply Mi.wp_putV); · rfl) | ((with_reducible apply Mi.wp_putN); · rfl) | (with_reducible refine Mi.wp_bnd ?_) | (with_reducible refine Mi.wp_ret ?_) | (with_reducible refine Mi.wp_opt ?_) | (with_reducible refine Mi.wp_view ?_) | ((with_reducible refine Mi.nm_a ?_); (try (conv => arg 1; simp only [Mi.putCell, Mi.wipeL, Mi.backL, Mi.pick, List.filterMap_cons, List.filterMap_nil, List.filterMap_cons_some, List.map_nil, List.map_cons, List.append_nil, List.nil_append, List.cons_append, List.getElem?_cons_zero, List.getElem?_cons_succ, List.set_cons_zero, List.set_cons_succ, List.getD_cons_zero, List.getD_cons_succ, Int.reduceToNat])); (with_reducible refine Mi.nm_b ?_)) | (with_reducible refine ⟨_, i0, ?_⟩) | (with_reducible refine ⟨_, le_a, ?_⟩) | (with_reducible refine ⟨_, le_z, ?_⟩) | (with_reducible refine ⟨_, Mi.add_int, ?_⟩) | (with_reducible refine ⟨_, Mi.sub_int, ?_⟩) | (with_reducible refine ⟨_, Mi.lt_int, ?_⟩) | (with_reducible refine ⟨_, Mi.le_int, ?_⟩) | (with_reducible refine ⟨_, Mi.gt_int, ?_⟩) | (with_reducible refine ⟨_, Mi.ge_int, ?_⟩) | (with_reducible refine ⟨_, Mi.neg_int, ?_⟩) | (with_reducible refine ⟨_, Mi.asBl_bl, ?_⟩) | (with_reducible refine ⟨_, Mi.pow_lit (by decide) (by decide), ?_⟩) | (with_reducible refine ⟨_, Mi.mul_int (by decide), ?_⟩) | (with_reducible refine ⟨_, Mi.mod_int (by decide), ?_⟩) | (with_reducible refine ⟨_, Mi.fdiv_int (by decide), ?_⟩) | (with_reducible refine ⟨_, Mi.eqq_int, ?_⟩) | (with_reducible refine ⟨_, Mi.neq_int, ?_⟩) | (with_reducible refine Mi.ift_t ?_) | (with_reducible refine Mi.ift_f ?_) | (with_reducible refine Mi.ift_nt ?_) | (with_reducible refine Mi.ift_nf ?_) | ((with_reducible refine Mi.ift_bt ?_ ?_); · rfl) | ((with_reducible refine Mi.ift_bf ?_ ?_); · rfl) | (refine ⟨_, _, _, _, _, rfl, rfl, rfl, rfl, ?_⟩) | (refine ⟨_, _, rfl, rfl, ?_⟩) | (refine ⟨_, _, rfl, ?_⟩) | (refine ⟨⟨rfl, rfl, rfl⟩, ?_⟩) | (refine ⟨Nat.le_of_ble_eq_true rfl, ?_⟩) | (refine ⟨by decide, ?_⟩) | (refine ⟨_, rfl, ?_⟩) | (refine ⟨rfl, ?_⟩))); (try (with_reducible refine Mi.here ?_)))
          rw [e1]
          ((repeat (first | (with_reducible refine Mi.wp_seq ?_) | (with_reducible refine Mi.wp_ifS ?_) | (with_reducible refine Mi.wp_asg ?_) | (with_reducible refine Mi.wp_retS ?_) | (with_reducible refine Mi.wp_bin ?_) | ((with_reducible apply Mi.wp_var1); · rfl) | (with_reducible refine Mi.wp_C ?_) | (with_reducible refine Mi.wp_asCons ?_) | (with_reducible refine Mi.wp_asNil ?_) | (with_reducible refine Mi.wp_call ?_) | (with_reducible refine Mi.wp_callIO ?_) | (with_reducible refine Mi.wp_args ?_) | (with_reducible refine Mi.wp_frzXn ?_) | (with_reducible refine Mi.wp_frzX0 ?_) | (with_reducible refine Mi.wp_frzXS ?_) | (with_reducible refine Mi.wp_frzsCons ?_) | (with_reducible refine Mi.wp_frzsNil ?_) | (with_reducible refine Mi.wp_frzD ?_) | (with_reducible refine Mi.wp_boolA ?_) | (with_reducible refine Mi.wp_blT ?_) | (with_reducible refine Mi.wp_tst ?_) | (with_reducible refine Mi.wp_andT ?_) | (with_reducible refine Mi.wp_orT ?_) | (with_reducible refine Mi.wp_notT ?_) | (with_reducible refine Mi.wp_ifA ?_) | (with_reducible refine Mi.wp_andA ?_) | (with_reducible refine Mi.wp_orA ?_) | (with_reducible refine Mi.wp_notA ?_) | (with_reducible refine Mi.wp_chainT ?_) | (with_reducible refine Mi.wp_cb ?_) | (with_reducible refine Mi.wp_un ?_) | (with_reducible refine Mi.wp_next ?_) | (with_reducible refine Mi.wp_asgN ?_) | (with_reducible refine Mi.wp_retNS ?_) | (with_reducible refine Mi.wp_drop ?_) | (with_reducible refine Mi.wp_par2 ?_) | (with_reducible refine Mi.wp_asgG ?_) | (with_reducible refine Mi.wp_subG ?_) | (with_reducible refine Mi.wp_appA ?_) | (with_reducible refine Mi.wp_tup ?_) | (with_reducible refine Mi.wp_lst ?_) | (with_reducible refine Mi.wp_new ?_) | (with_reducible refine Mi.wp_slice ?_) | (with_reducible refine Mi.wp_prtN ?_) | (with_reducible refine Mi.wp_prtS ?_) | (with_reducible refine Mi.wp_mt ?_) | (with_reducible refine Mi.wp_mt0 ?_) | (with_reducible refine Mi.wp_seqI ?_) | (with_reducible refine Mi.wp_compN ?_) | (with_reducible refine Mi.wp_fnI ?_) | (with_reducible refine Mi.wp_forS ?_) | (with_reducible refine Mi.wp_tgTup ?_) | (with_reducible refine Mi.wp_gsCons ?_) | (with_reducible refine Mi.wp_gsNil ?_) | (with_reducible refine Mi.wp_callN ?_) | ((with_reducible apply Mi.wp_putV); · rfl) | ((with_reducible apply Mi.wp_putN); · rfl) | (with_reducible refine Mi.wp_bnd ?_) | (with_reducible refine Mi.wp_ret ?_) | (with_reducible refine Mi.wp_opt ?_) | (with_reducible refine Mi.wp_view ?_) | ((with_reducible refine Mi.nm_a ?_); (try (conv => arg 1; simp only [Mi.putCell, Mi.wipeL, Mi.backL, Mi.pick, List.filterMap_cons, List.filterMap_nil, List.filterMap_cons_some, List.map_nil, List.map_cons, List.append_nil, List.nil_append, List.cons_append, List.getElem?_cons_zero, List.getElem?_cons_succ, List.set_cons_zero, List.set_cons_succ, List.getD_cons_zero, List.getD_cons_succ, Int.reduceToNat])); (with_reducible refine Mi.nm_b ?_)) | (with_reducible refine ⟨_, i0, ?_⟩) | (with_reducible refine ⟨_, le_a, ?_⟩) | (with_reducible refine ⟨_, le_z, ?_⟩) | (with_reducible refine ⟨_, Mi.add_int, ?_⟩) | (with_reducible refine ⟨_, Mi.sub_int, ?_⟩) | (with_reducible refine ⟨_, Mi.lt_int, ?_⟩) | (with_reducible refine ⟨_, Mi.le_int, ?_⟩) | (with_reducible refine ⟨_, Mi.gt_int, ?_⟩) | (with_reducible refine ⟨_, Mi.ge_int, ?_⟩) | (with_reducible refine ⟨_, Mi.neg_int, ?_⟩) | (with_reducible refine ⟨_, Mi.asBl_bl, ?_⟩) | (with_reducible refine ⟨_, Mi.pow_lit (by decide) (by decide), ?_⟩) | (with_reducible refine ⟨_, Mi.mul_int (by decide), ?_⟩) | (with_reducible refine ⟨_, Mi.mod_int (by decide), ?_⟩) | (with_reducible refine ⟨_, Mi.fdiv_int (by decide), ?_⟩) | (with_reducible refine ⟨_, Mi.eqq_int, ?_⟩) | (with_reducible refine ⟨_, Mi.neq_int, ?_⟩) | (with_reducible refine Mi.ift_t ?_) | (with_reducible refine Mi.ift_f ?_) | (with_reducible refine Mi.ift_nt ?_) | (with_reducible refine Mi.ift_nf ?_) | ((with_reducible refine Mi.ift_bt ?_ ?_); · rfl) | ((with_reducible refine Mi.ift_bf ?_ ?_); · rfl) | (refine ⟨_, _, _, _, _, rfl, rfl, rfl, rfl, ?_⟩) | (refine ⟨_, _, rfl, rfl, ?_⟩) | (refine ⟨_, _, rfl, ?_⟩) | (refine ⟨⟨rfl, rfl, rfl⟩, ?_⟩) | (refine ⟨Nat.le_of_ble_eq_true rfl, ?_⟩) | (refine ⟨by decide, ?_⟩) | (refine ⟨_, rfl, ?_⟩) | (refine ⟨rfl, ?_⟩))); (try (with_reducible refine Mi.here ?_)))
          rw [e2]
          ((repeat (first | (with_reducible refine Mi.wp_seq ?_) | (with_reducible refine Mi.wp_ifS ?_) | (with_reducible refine Mi.wp_asg ?_) | (with_reducible refine Mi.wp_retS ?_) | (with_reducible refine Mi.wp_bin ?_) | ((with_reducible apply Mi.wp_var1); · rfl) | (with_reducible refine Mi.wp_C ?_) | (with_reducible refine Mi.wp_asCons ?_) | (with_reducible refine Mi.wp_asNil ?_) | (with_reducible refine Mi.wp_call ?_) | (with_reducible refine Mi.wp_callIO ?_) | (with_reducible refine Mi.wp_args ?_) | (with_reducible refine Mi.wp_frzXn ?_) | (with_reducible refine Mi.wp_frzX0 ?_) | (with_reducible refine Mi.wp_frzXS ?_) | (with_reducible refine Mi.wp_frzsCons ?_) | (with_reducible refine Mi.wp_frzsNil ?_) | (with_reducible refine Mi.wp_frzD ?_) | (with_reducible refine Mi.wp_boolA ?_) | (with_reducible refine Mi.wp_blT ?_) | (with_reducible refine Mi.wp_tst ?_) | (with_reducible refine Mi.wp_andT ?_) | (with_reducible refine Mi.wp_orT ?_) | (with_reducible refine Mi.wp_notT ?_) | (with_reducible refine Mi.wp_ifA ?_) | (with_reducible refine Mi.wp_andA ?_) | (with_reducible refine Mi.wp_orA ?_) | (with_reducible refine Mi.wp_notA ?_) | (with_reducible refine Mi.wp_chainT ?_) | (with_reducible refine Mi.wp_cb ?_) | (with_reducible refine Mi.wp_un ?_) | (with_reducible refine Mi.wp_next ?_) | (with_reducible refine Mi.wp_asgN ?_) | (with_reducible refine Mi.wp_retNS ?_) | (with_reducible refine Mi.wp_drop ?_) | (with_reducible refine Mi.wp_par2 ?_) | (with_reducible refine Mi.wp_asgG ?_) | (with_reducible refine Mi.wp_subG ?_) | (with_reducible refine Mi.wp_appA ?_) | (with_reducible refine Mi.wp_tup ?_) | (with_reducible refine Mi.wp_lst ?_) | (with_reducible refine Mi.wp_new ?_) | (with_reducible refine Mi.wp_slice ?_) | (with_reducible refine Mi.wp_prtN ?_) | (with_reducible refine Mi.wp_prtS ?_) | (with_reducible refine Mi.wp_mt ?_) | (with_reducible refine Mi.wp_mt0 ?_) | (with_reducible refine Mi.wp_seqI ?_) | (with_reducible refine Mi.wp_compN ?_) | (with_reducible refine Mi.wp_fnI ?_) | (with_reducible refine Mi.wp_forS ?_) | (with_reducible refine Mi.wp_tgTup ?_) | (with_reducible refine Mi.wp_gsCons ?_) | (with_reducible refine Mi.wp_gsNil ?_) | (with_reducible refine Mi.wp_callN ?_) | ((with_reducible apply Mi.wp_putV); · rfl) | ((with_reducible apply Mi.wp_putN); · rfl) | (with_reducible refine Mi.wp_bnd ?_) | (with_reducible refine Mi.wp_ret ?_) | (with_reducible refine Mi.wp_opt ?_) | (with_reducible refine Mi.wp_view ?_) | ((with_reducible refine Mi.nm_a ?_); (try (conv => arg 1; simp only [Mi.putCell, Mi.wipeL, Mi.backL, Mi.pick, List.filterMap_cons, List.filterMap_nil, List.filterMap_cons_some, List.map_nil, List.map_cons, List.append_nil, List.nil_append, List.cons_append, List.getElem?_cons_zero, List.getElem?_cons_succ, List.set_cons_zero, List.set_cons_succ, List.getD_cons_zero, List.getD_cons_succ, Int.reduceToNat])); (with_reducible refine Mi.nm_b ?_)) | (with_reducible refine ⟨_, Mi.add_int, ?_⟩) | (with_reducible refine ⟨_, Mi.sub_int, ?_⟩) | (with_reducible refine ⟨_, Mi.lt_int, ?_⟩) | (with_reducible refine ⟨_, Mi.le_int, ?_⟩) | (with_reducible refine ⟨_, Mi.gt_int, ?_⟩) | (with_reducible refine ⟨_, Mi.ge_int, ?_⟩) | (with_reducible refine ⟨_, Mi.neg_int, ?_⟩) | (with_reducible refine ⟨_, Mi.asBl_bl, ?_⟩) | (with_reducible refine ⟨_, Mi.pow_lit (by decide) (by decide), ?_⟩) | (with_reducible refine ⟨_, Mi.mul_int (by decide), ?_⟩) | (with_reducible refine ⟨_, Mi.mod_int (by decide), ?_⟩) | (with_reducible refine ⟨_, Mi.fdiv_int (by decide), ?_⟩) | (with_reducible refine ⟨_, Mi.eqq_int, ?_⟩) | (with_reducible refine ⟨_, Mi.neq_int, ?_⟩) | (with_reducible refine Mi.ift_t ?_) | (with_reducible refine Mi.ift_f ?_) | (with_reducible refine Mi.ift_nt ?_) | (with_reducible refine Mi.ift_nf ?_) | ((with_reducible refine Mi.ift_bt ?_ ?_); · rfl) | ((with_reducible refine Mi.ift_bf ?_ ?_); · rfl) | (refine ⟨_, _, _, _, _, rfl, rfl, rfl, rfl, ?_⟩) | (refine ⟨_, _, rfl, rfl, ?_⟩) | (refine ⟨_, _, rfl, ?_⟩) | (refine ⟨⟨rfl, rfl, rfl⟩, ?_⟩) | (refine ⟨Nat.le_of_ble_eq_true rfl, ?_⟩) | (refine ⟨by decide, ?_⟩) | (refine ⟨_, rfl, ?_⟩) | (refine ⟨rfl, ?_⟩))); (try (with_reducible refine Mi.here ?_)))
          refine wp_for (fun ds ρ => ∃ (rest done : List Nat) (s : Sl), ds = rest.map (fun ch => D.str ⟨#[ch]⟩) ∧ c :: cs = done ++ rest ∧ (done.all fun c => smB c || dgB c) = true ∧ ρ = [.val (.str ⟨(c :: cs).toArray⟩), s] ∧ (s = .nil ∨ ∃ d, s = .val d)) ?_ ?_ _ _ ?_
          · rintro ρ ⟨rest, done, s, h4, h5, h6, rfl, h7⟩
            have h8 : rest = [] := by
              cases rest with
              | nil => rfl
              | cons x xs => cases h4
            subst h8
            rw [List.append_nil] at h5
            subst h5
            ((repeat (first | (with_reducible refine Mi.wp_seq ?_) | (with_reducible refine Mi.wp_ifS ?_) | (with_reducible refine Mi.wp_asg ?_) | (with_reducible refine Mi.wp_retS ?_) | (with_reducible refine Mi.wp_bin ?_) | ((with_reducible apply Mi.wp_var1); · rfl) | (with_reducible refine Mi.wp_C ?_) | (with_reducible refine Mi.wp_asCons ?_) | (with_reducible refine Mi.wp_asNil ?_) | (with_reducible refine Mi.wp_call ?_) | (with_reducible refine Mi.wp_callIO ?_) | (with_reducible refine Mi.wp_args ?_) | (with_reducible refine Mi.wp_frzXn ?_) | (with_reducible refine Mi.wp_frzX0 ?_) | (with_reducible refine Mi.wp_frzXS ?_) | (with_reducible refine Mi.wp_frzsCons ?_) | (with_reducible refine Mi.wp_frzsNil ?_) | (with_reducible refine Mi.wp_frzD ?_) | (with_reducible refine Mi.wp_boolA ?_) | (with_reducible refine Mi.wp_blT ?_) | (with_reducible refine Mi.wp_tst ?_) | (with_reducible refine Mi.wp_andT ?_) | (with_reducible refine Mi.wp_orT ?_) | (with_reducible refine Mi.wp_notT ?_) | (with_reducible refine Mi.wp_ifA ?_) | (with_reducible refine Mi.wp_andA ?_) | (with_reducible refine Mi.wp_orA ?_) | (with_reducible refine Mi.wp_notA ?_) | (with_reducible refine Mi.wp_chainT ?_) | (with_reducible refine Mi.wp_cb ?_) | (with_reducible refine Mi.wp_un ?_) | (with_reducible refine Mi.wp_next ?_) | (with_reducible refine Mi.wp_asgN ?_) | (with_reducible refine Mi.wp_retNS ?_) | (with_reducible refine Mi.wp_drop ?_) | (with_reducible refine Mi.wp_par2 ?_) | (with_reducible refine Mi.wp_asgG ?_) | (with_reducible refine Mi.wp_subG ?_) | (with_reducible refine Mi.wp_appA ?_) | (with_reducible refine Mi.wp_tup ?_) | (with_reducible refine Mi.wp_lst ?_) | (with_reducible refine Mi.wp_new ?_) | (with_reducible refine Mi.wp_slice ?_) | (with_reducible refine Mi.wp_prtN ?_) | (with_reducible refine Mi.wp_prtS ?_) | (with_reducible refine Mi.wp_mt ?_) | (with_reducible refine Mi.wp_mt0 ?_) | (with_reducible refine Mi.wp_seqI ?_) | (with_reducible refine Mi.wp_compN ?_) | (with_reducible refine Mi.wp_fnI ?_) | (with_reducible refine Mi.wp_forS ?_) | (with_reducible refine Mi.wp_tgTup ?_) | (with_reducible refine Mi.wp_gsCons ?_) | (with_reducible refine Mi.wp_gsNil ?_) | (with_reducible refine Mi.wp_callN ?_) | ((with_reducible apply Mi.wp_putV); · rfl) | ((with_reducible apply Mi.wp_putN); · rfl) | (with_reducible refine Mi.wp_bnd ?_) | (with_reducible refine Mi.wp_ret ?_) | (with_reducible refine Mi.wp_opt ?_) | (with_reducible refine Mi.wp_view ?_) | ((with_reducible refine Mi.nm_a ?_); (try (conv => arg 1; simp only [Mi.putCell, Mi.wipeL, Mi.backL, Mi.pick, List.filterMap_cons, List.filterMap_nil, List.filterMap_cons_some, List.map_nil, List.map_cons, List.append_nil, List.nil_append, List.cons_append, List.getElem?_cons_zero, List.getElem?_cons_succ, List.set_cons_zero, List.set_cons_succ, List.getD_cons_zero, List.getD_cons_succ, Int.reduceToNat])); (with_reducible refine Mi.nm_b ?_)) | (with_reducible refine ⟨_, Mi.add_int, ?_⟩) | (with_reducible refine ⟨_, Mi.sub_int, ?_⟩) | (with_reducible refine ⟨_, Mi.lt_int, ?_⟩) | (with_reducible refine ⟨_, Mi.le_int, ?_⟩) | (with_reducible refine ⟨_, Mi.gt_int, ?_⟩) | (with_reducible refine ⟨_, Mi.ge_int, ?_⟩) | (with_reducible refine ⟨_, Mi.neg_int, ?_⟩) | (with_reducible refine ⟨_, Mi.asBl_bl, ?_⟩) | (with_reducible refine ⟨_, Mi.pow_lit (by decide) (by decide), ?_⟩) | (with_reducible refine ⟨_, Mi.mul_int (by decide), ?_⟩) | (with_reducible refine ⟨_, Mi.mod_int (by decide), ?_⟩) | (with_reducible refine ⟨_, Mi.fdiv_int (by decide), ?_⟩) | (with_reducible refine ⟨_, Mi.eqq_int, ?_⟩) | (with_reducible refine ⟨_, Mi.neq_int, ?_⟩) | (with_reducible refine Mi.ift_t ?_) | (with_reducible refine Mi.ift_f ?_) | (with_reducible refine Mi.ift_nt ?_) | (with_reducible refine Mi.ift_nf ?_) | ((with_reducible refine Mi.ift_bt ?_ ?_); · rfl) | ((with_reducible refine Mi.ift_bf ?_ ?_); · rfl) | (refine ⟨_, _, _, _, _, rfl, rfl, rfl, rfl, ?_⟩) | (refine ⟨_, _, rfl, rfl, ?_⟩) | (refine ⟨_, _, rfl, ?_⟩) | (refine ⟨⟨rfl, rfl, rfl⟩, ?_⟩) | (refine ⟨Nat.le_of_ble_eq_true rfl, ?_⟩) | (refine ⟨by decide, ?_⟩) | (refine ⟨_, rfl, ?_⟩) | (refine ⟨rfl, ?_⟩))); (try (with_reducible refine Mi.here ?_)))
            refine ⟨?_, rfl⟩
            unfold nmL
            rw [decide_eq_true (show 1 ≤ (c :: cs).length ∧ (c :: cs).length ≤ 12 by simp only [List.length_cons] at h1 ⊢; omega), h6]
            simp only [List.head?_cons, Option.map_some, Option.getD_some, hs, Bool.true_and]
          · rintro d ds ρ ⟨rest, done, s, h4, h5, h6, rfl, h7⟩
            cases rest with
            | nil => cases h4
            | cons x xs =>
              cases h4
              have good : (smB x || dgB x) = true → ∃ (rest done : List Nat) (s : Sl), xs.map (fun ch => D.str ⟨#[ch]⟩) = rest.map (fun ch => D.str ⟨#[ch]⟩) ∧ c :: cs = done ++ rest ∧ (done.all fun c => smB c || dgB c) = true ∧ [Sl.val (.str ⟨(c :: cs).toArray⟩), .val (.str ⟨#[x]⟩)] = [.val (.str ⟨(c :: cs).toArray⟩), s] ∧ (s = .nil ∨ ∃ d, s = .val d) := fun hx =>
                ⟨xs, done ++ [x], _, rfl, by rw [h5]; simp, by rw [List.all_append, h6]; simp [hx], rfl, .inr ⟨_, rfl⟩⟩
              have nogood : (smB x || dgB x) = false → D.bl false = D.bl (nmL (c :: cs)) := fun hx => by rw [bad_name h5 hx]
              rcases h7 with rfl | ⟨d, rfl⟩
              · ((repeat' (first | (with_reducible refine Mi.wp_seq ?_) | (with_reducible refine Mi.wp_ifS ?_) | (with_reducible refine Mi.wp_asg ?_) | (with_reducible refine Mi.wp_retS ?_) | (with_reducible refine Mi.wp_bin ?_) | ((with_reducible apply Mi.wp_var1); · rfl) | (with_reducible refine Mi.wp_C ?_) | (with_reducible refine Mi.wp_asCons ?_) | (with_reducible refine Mi.wp_asNil ?_) | (with_reducible refine Mi.wp_call ?_) | (with_reducible refine Mi.wp_callIO ?_) | (with_reducible refine Mi.wp_args ?_) | (with_reducible refine Mi.wp_frzXn ?_) | (with_reducible refine Mi.wp_frzX0 ?_) | (with_reducible refine Mi.wp_frzXS ?_) | (with_reducible refine Mi.wp_frzsCons ?_) | (with_reducible refine Mi.wp_frzsNil ?_) | (with_reducible refine Mi.wp_frzD ?_) | (with_reducible refine Mi.wp_boolA ?_) | (with_reducible refine Mi.wp_blT ?_) | (with_reducible refine Mi.wp_tst ?_) | (with_reducible refine Mi.wp_andT ?_) | (with_reducible refine Mi.wp_orT ?_) | (with_reducible refine Mi.wp_notT ?_) | (with_reducible refine Mi.wp_ifA ?_) | (with_reducible refine Mi.wp_andA ?_) | (with_reducible refine Mi.wp_orA ?_) | (with_reducible refine Mi.wp_notA ?_) | (with_reducible refine Mi.wp_chainT ?_) | (with_reducible refine Mi.wp_cb ?_) | (with_reducible refine Mi.wp_un ?_) | (with_reducible refine Mi.wp_next ?_) | (with_reducible refine Mi.wp_asgN ?_) | (with_reducible refine Mi.wp_retNS ?_) | (with_reducible refine Mi.wp_drop ?_) | (with_reducible refine Mi.wp_par2 ?_) | (with_reducible refine Mi.wp_asgG ?_) | (with_reducible refine Mi.wp_subG ?_) | (with_reducible refine Mi.wp_appA ?_) | (with_reducible refine Mi.wp_tup ?_) | (with_reducible refine Mi.wp_lst ?_) | (with_reducible refine Mi.wp_new ?_) | (with_reducible refine Mi.wp_slice ?_) | (with_reducible refine Mi.wp_prtN ?_) | (with_reducible refine Mi.wp_prtS ?_) | (with_reducible refine Mi.wp_mt ?_) | (with_reducible refine Mi.wp_mt0 ?_) | (with_reducible refine Mi.wp_seqI ?_) | (with_reducible refine Mi.wp_compN ?_) | (with_reducible refine Mi.wp_fnI ?_) | (with_reducible refine Mi.wp_forS ?_) | (with_reducible refine Mi.wp_tgTup ?_) | (with_reducible refine Mi.wp_gsCons ?_) | (with_reducible refine Mi.wp_gsNil ?_) | (with_reducible refine Mi.wp_callN ?_) | ((with_reducible apply Mi.wp_putV); · rfl) | ((with_reducible apply Mi.wp_putN); · rfl) | (with_reducible refine Mi.wp_bnd ?_) | (with_reducible refine Mi.wp_ret ?_) | (with_reducible refine Mi.wp_opt ?_) | (with_reducible refine Mi.wp_view ?_) | ((with_reducible refine Mi.nm_a ?_); (try (conv => arg 1; simp only [Mi.putCell, Mi.wipeL, Mi.backL, Mi.pick, List.filterMap_cons, List.filterMap_nil, List.filterMap_cons_some, List.map_nil, List.map_cons, List.append_nil, List.nil_append, List.cons_append, List.getElem?_cons_zero, List.getElem?_cons_succ, List.set_cons_zero, List.set_cons_succ, List.getD_cons_zero, List.getD_cons_succ, Int.reduceToNat])); (with_reducible refine Mi.nm_b ?_)) | (with_reducible refine ⟨_, le_a, ?_⟩) | (with_reducible refine ⟨_, le_z, ?_⟩) | (with_reducible refine ⟨_, le_0, ?_⟩) | (with_reducible refine ⟨_, le_9, ?_⟩) | (with_reducible refine ⟨_, Mi.add_int, ?_⟩) | (with_reducible refine ⟨_, Mi.sub_int, ?_⟩) | (with_reducible refine ⟨_, Mi.lt_int, ?_⟩) | (with_reducible refine ⟨_, Mi.le_int, ?_⟩) | (with_reducible refine ⟨_, Mi.gt_int, ?_⟩) | (with_reducible refine ⟨_, Mi.ge_int, ?_⟩) | (with_reducible refine ⟨_, Mi.neg_int, ?_⟩) | (with_reducible refine ⟨_, Mi.asBl_bl, ?_⟩) | (with_reducible refine ⟨_, Mi.pow_lit (by decide) (by decide), ?_⟩) | (with_reducible refine ⟨_, Mi.mul_int (by decide), ?_⟩) | (with_reducible refine ⟨_, Mi.mod_int (by decide), ?_⟩) | (with_reducible refine ⟨_, Mi.fdiv_int (by decide), ?_⟩) | (with_reducible refine ⟨_, Mi.eqq_int, ?_⟩) | (with_reducible refine ⟨_, Mi.neq_int, ?_⟩) | (with_reducible refine Mi.ift_t ?_) | (with_reducible refine Mi.ift_f ?_) | (with_reducible refine Mi.ift_nt ?_) | (with_reducible refine Mi.ift_nf ?_) | ((with_reducible refine Mi.ift_bt ?_ ?_); · rfl) | ((with_reducible refine Mi.ift_bf ?_ ?_); · rfl) | (refine ⟨_, _, _, _, _, rfl, rfl, rfl, rfl, ?_⟩) | (refine ⟨_, _, rfl, rfl, ?_⟩) | (refine ⟨_, _, rfl, ?_⟩) | (refine ⟨⟨rfl, rfl, rfl⟩, ?_⟩) | (refine ⟨Nat.le_of_ble_eq_true rfl, ?_⟩) | (refine ⟨by decide, ?_⟩) | (refine ⟨_, rfl, ?_⟩) | (refine ⟨rfl, ?_⟩) | (with_reducible refine ⟨fun hh => ?_, fun hh => ?_⟩) | fail)); (all_goals (try (with_reducible refine Mi.here ?_))))
                all_goals first
                  | (refine good ?_; unfold smB dgB; simp only [Bool.not_eq_true', Bool.not_eq_false', decide_eq_true_eq, decide_eq_false_iff_not, Bool.or_eq_true] at *; omega)
                  | (refine ⟨nogood ?_, rfl⟩; unfold smB dgB; simp only [Bool.not_eq_true', Bool.not_eq_false', decide_eq_true_eq, decide_eq_false_iff_not, Bool.or_eq_false_iff] at *; omega)
              · ((repeat' (first | (with_reducible refine Mi.wp_seq ?_) | (with_reducible refine Mi.wp_ifS ?_) | (with_reducible refine Mi.wp_asg ?_) | (with_reducible refine Mi.wp_retS ?_) | (with_reducible refine Mi.wp_bin ?_) | ((with_reducible apply Mi.wp_var1); · rfl) | (with_reducible refine Mi.wp_C ?_) | (with_reducible refine Mi.wp_asCons ?_) | (with_reducible refine Mi.wp_asNil ?_) | (with_reducible refine Mi.wp_call ?_) | (with_reducible refine Mi.wp_callIO ?_) | (with_reducible refine Mi.wp_args ?_) | (with_reducible refine Mi.wp_frzXn ?_) | (with_reducible refine Mi.wp_frzX0 ?_) | (with_reducible refine Mi.wp_frzXS ?_) | (with_reducible refine Mi.wp_frzsCons ?_) | (with_reducible refine Mi.wp_frzsNil ?_) | (with_reducible refine Mi.wp_frzD ?_) | (with_reducible refine Mi.wp_boolA ?_) | (with_reducible refine Mi.wp_blT ?_) | (with_reducible refine Mi.wp_tst ?_) | (with_reducible refine Mi.wp_andT ?_) | (with_reducible refine Mi.wp_orT ?_) | (with_reducible refine Mi.wp_notT ?_) | (with_reducible refine Mi.wp_ifA ?_) | (with_reducible refine Mi.wp_andA ?_) | (with_reducible refine Mi.wp_orA ?_) | (with_reducible refine Mi.wp_notA ?_) | (with_reducible refine Mi.wp_chainT ?_) | (with_reducible refine Mi.wp_cb ?_) | (with_reducible refine Mi.wp_un ?_) | (with_reducible refine Mi.wp_next ?_) | (with_reducible refine Mi.wp_asgN ?_) | (with_reducible refine Mi.wp_retNS ?_) | (with_reducible refine Mi.wp_drop ?_) | (with_reducible refine Mi.wp_par2 ?_) | (with_reducible refine Mi.wp_asgG ?_) | (with_reducible refine Mi.wp_subG ?_) | (with_reducible refine Mi.wp_appA ?_) | (with_reducible refine Mi.wp_tup ?_) | (with_reducible refine Mi.wp_lst ?_) | (with_reducible refine Mi.wp_new ?_) | (with_reducible refine Mi.wp_slice ?_) | (with_reducible refine Mi.wp_prtN ?_) | (with_reducible refine Mi.wp_prtS ?_) | (with_reducible refine Mi.wp_mt ?_) | (with_reducible refine Mi.wp_mt0 ?_) | (with_reducible refine Mi.wp_seqI ?_) | (with_reducible refine Mi.wp_compN ?_) | (with_reducible refine Mi.wp_fnI ?_) | (with_reducible refine Mi.wp_forS ?_) | (with_reducible refine Mi.wp_tgTup ?_) | (with_reducible refine Mi.wp_gsCons ?_) | (with_reducible refine Mi.wp_gsNil ?_) | (with_reducible refine Mi.wp_callN ?_) | ((with_reducible apply Mi.wp_putV); · rfl) | ((with_reducible apply Mi.wp_putN); · rfl) | (with_reducible refine Mi.wp_bnd ?_) | (with_reducible refine Mi.wp_ret ?_) | (with_reducible refine Mi.wp_opt ?_) | (with_reducible refine Mi.wp_view ?_) | ((with_reducible refine Mi.nm_a ?_); (try (conv => arg 1; simp only [Mi.putCell, Mi.wipeL, Mi.backL, Mi.pick, List.filterMap_cons, List.filterMap_nil, List.filterMap_cons_some, List.map_nil, List.map_cons, List.append_nil, List.nil_append, List.cons_append, List.getElem?_cons_zero, List.getElem?_cons_succ, List.set_cons_zero, List.set_cons_succ, List.getD_cons_zero, List.getD_cons_succ, Int.reduceToNat])); (with_reducible refine Mi.nm_b ?_)) | (with_reducible refine ⟨_, le_a, ?_⟩) | (with_reducible refine ⟨_, le_z, ?_⟩) | (with_reducible refine ⟨_, le_0, ?_⟩) | (with_reducible refine ⟨_, le_9, ?_⟩) | (with_reducible refine ⟨_, Mi.add_int, ?_⟩) | (with_reducible refine ⟨_, Mi.sub_int, ?_⟩) | (with_reducible refine ⟨_, Mi.lt_int, ?_⟩) | (with_reducible refine ⟨_, Mi.le_int, ?_⟩) | (with_reducible refine ⟨_, Mi.gt_int, ?_⟩) | (with_reducible refine ⟨_, Mi.ge_int, ?_⟩) | (with_reducible refine ⟨_, Mi.neg_int, ?_⟩) | (with_reducible refine ⟨_, Mi.asBl_bl, ?_⟩) | (with_reducible refine ⟨_, Mi.pow_lit (by decide) (by decide), ?_⟩) | (with_reducible refine ⟨_, Mi.mul_int (by decide), ?_⟩) | (with_reducible refine ⟨_, Mi.mod_int (by decide), ?_⟩) | (with_reducible refine ⟨_, Mi.fdiv_int (by decide), ?_⟩) | (with_reducible refine ⟨_, Mi.eqq_int, ?_⟩) | (with_reducible refine ⟨_, Mi.neq_int, ?_⟩) | (with_reducible refine Mi.ift_t ?_) | (with_reducible refine Mi.ift_f ?_) | (with_reducible refine Mi.ift_nt ?_) | (with_reducible refine Mi.ift_nf ?_) | ((with_reducible refine Mi.ift_bt ?_ ?_); · rfl) | ((with_reducible refine Mi.ift_bf ?_ ?_); · rfl) | (refine ⟨_, _, _, _, _, rfl, rfl, rfl, rfl, ?_⟩) | (refine ⟨_, _, rfl, rfl, ?_⟩) | (refine ⟨_, _, rfl, ?_⟩) | (refine ⟨⟨rfl, rfl, rfl⟩, ?_⟩) | (refine ⟨Nat.le_of_ble_eq_true rfl, ?_⟩) | (refine ⟨by decide, ?_⟩) | (refine ⟨_, rfl, ?_⟩) | (refine ⟨rfl, ?_⟩) | (with_reducible refine ⟨fun hh => ?_, fun hh => ?_⟩) | fail)); (all_goals (try (with_reducible refine Mi.here ?_))))
                all_goals first
                  | (refine good ?_; unfold smB dgB; simp only [Bool.not_eq_true', Bool.not_eq_false', decide_eq_true_eq, decide_eq_false_iff_not, Bool.or_eq_true] at *; omega)
                  | (refine ⟨nogood ?_, rfl⟩; unfold smB dgB; simp only [Bool.not_eq_true', Bool.not_eq_false', decide_eq_true_eq, decide_eq_false_iff_not, Bool.or_eq_false_iff] at *; omega)
          · exact ⟨c :: cs, [], _, rfl, rfl, rfl, rfl, .inl rfl⟩
        · have hs : smB c = false := by simpa using hs
          have nm : nmL (c :: cs) = false := by
            unfold nmL
            simp [hs]
          have hs' := of_decide_eq_false hs
          ((repeat' (first | (with_reducible refine Mi.wp_seq ?_) | (with_reducible refine Mi.wp_ifS ?_) | (with_reducible refine Mi.wp_asg ?_) | (with_reducible refine Mi.wp_retS ?_) | (with_reducible refine Mi.wp_bin ?_) | ((with_reducible apply Mi.wp_var1); · rfl) | (with_reducible refine Mi.wp_C ?_) | (with_reducible refine Mi.wp_asCons ?_) | (with_reducible refine Mi.wp_asNil ?_) | (with_reducible refine Mi.wp_call ?_) | (with_reducible refine Mi.wp_callIO ?_) | (with_reducible refine Mi.wp_args ?_) | (with_reducible refine Mi.wp_frzXn ?_) | (with_reducible refine Mi.wp_frzX0 ?_) | (with_reducible refine Mi.wp_frzXS ?_) | (with_reducible refine Mi.wp_frzsCons ?_) | (with_reducible refine Mi.wp_frzsNil ?_) | (with_reducible refine Mi.wp_frzD ?_) | (with_reducible refine Mi.wp_boolA ?_) | (with_reducible refine Mi.wp_blT ?_) | (with_reducible refine Mi.wp_tst ?_) | (with_reducible refine Mi.wp_andT ?_) | (with_reducible refine Mi.wp_orT ?_) | (with_reducible refine Mi.wp_notT ?_) | (with_reducible refine Mi.wp_ifA ?_) | (with_reducible refine Mi.wp_andA ?_) | (with_reducible refine Mi.wp_orA ?_) | (with_reducible refine Mi.wp_notA ?_) | (with_reducible refine Mi.wp_chainT ?_) | (with_reducible refine Mi.wp_cb ?_) | (with_reducible refine Mi.wp_un ?_) | (with_reducible refine Mi.wp_next ?_) | (with_reducible refine Mi.wp_asgN ?_) | (with_reducible refine Mi.wp_retNS ?_) | (with_reducible refine Mi.wp_drop ?_) | (with_reducible refine Mi.wp_par2 ?_) | (with_reducible refine Mi.wp_asgG ?_) | (with_reducible refine Mi.wp_subG ?_) | (with_reducible refine Mi.wp_appA ?_) | (with_reducible refine Mi.wp_tup ?_) | (with_reducible refine Mi.wp_lst ?_) | (with_reducible refine Mi.wp_new ?_) | (with_reducible refine Mi.wp_slice ?_) | (with_reducible refine Mi.wp_prtN ?_) | (with_reducible refine Mi.wp_prtS ?_) | (with_reducible refine Mi.wp_mt ?_) | (with_reducible refine Mi.wp_mt0 ?_) | (with_reducible refine Mi.wp_seqI ?_) | (with_reducible refine Mi.wp_compN ?_) | (with_reducible refine Mi.wp_fnI ?_) | (with_reducible refine Mi.wp_forS ?_) | (with_reducible refine Mi.wp_tgTup ?_) | (with_reducible refine Mi.wp_gsCons ?_) | (with_reducible refine Mi.wp_gsNil ?_) | (with_reducible refine Mi.wp_callN ?_) | ((with_reducible apply Mi.wp_putV); · rfl) | ((with_reducible apply Mi.wp_putN); · rfl) | (with_reducible refine Mi.wp_bnd ?_) | (with_reducible refine Mi.wp_ret ?_) | (with_reducible refine Mi.wp_opt ?_) | (with_reducible refine Mi.wp_view ?_) | ((with_reducible refine Mi.nm_a ?_); (try (conv => arg 1; simp only [Mi.putCell, Mi.wipeL, Mi.backL, Mi.pick, List.filterMap_cons, List.filterMap_nil, List.filterMap_cons_some, List.map_nil, List.map_cons, List.append_nil, List.nil_append, List.cons_append, List.getElem?_cons_zero, List.getElem?_cons_succ, List.set_cons_zero, List.set_cons_succ, List.getD_cons_zero, List.getD_cons_succ, Int.reduceToNat])); (with_reducible refine Mi.nm_b ?_)) | (with_reducible refine ⟨_, i0, ?_⟩) | (with_reducible refine ⟨_, le_a, ?_⟩) | (with_reducible refine ⟨_, le_z, ?_⟩) | (with_reducible refine ⟨_, Mi.add_int, ?_⟩) | (with_reducible refine ⟨_, Mi.sub_int, ?_⟩) | (with_reducible refine ⟨_, Mi.lt_int, ?_⟩) | (with_reducible refine ⟨_, Mi.le_int, ?_⟩) | (with_reducible refine ⟨_, Mi.gt_int, ?_⟩) | (with_reducible refine ⟨_, Mi.ge_int, ?_⟩) | (with_reducible refine ⟨_, Mi.neg_int, ?_⟩) | (with_reducible refine ⟨_, Mi.asBl_bl, ?_⟩) | (with_reducible refine ⟨_, Mi.pow_lit (by decide) (by decide), ?_⟩) | (with_reducible refine ⟨_, Mi.mul_int (by decide), ?_⟩) | (with_reducible refine ⟨_, Mi.mod_int (by decide), ?_⟩) | (with_reducible refine ⟨_, Mi.fdiv_int (by decide), ?_⟩) | (with_reducible refine ⟨_, Mi.eqq_int, ?_⟩) | (with_reducible refine ⟨_, Mi.neq_int, ?_⟩) | (with_reducible refine Mi.ift_t ?_) | (with_reducible refine Mi.ift_f ?_) | (with_reducible refine Mi.ift_nt ?_) | (with_reducible refine Mi.ift_nf ?_) | ((with_reducible refine Mi.ift_bt ?_ ?_); · rfl) | ((with_reducible refine Mi.ift_bf ?_ ?_); · rfl) | (refine ⟨_, _, _, _, _, rfl, rfl, rfl, rfl, ?_⟩) | (refine ⟨_, _, rfl, rfl, ?_⟩) | (refine ⟨_, _, rfl, ?_⟩) | (refine ⟨⟨rfl, rfl, rfl⟩, ?_⟩) | (refine ⟨Nat.le_of_ble_eq_true rfl, ?_⟩) | (refine ⟨by decide, ?_⟩) | (refine ⟨_, rfl, ?_⟩) | (refine ⟨rfl, ?_⟩) | (with_reducible refine ⟨fun hh => ?_, fun hh => ?_⟩) | fail)); (all_goals (try (with_reducible refine Mi.here ?_))))
          all_goals first
            | exact ⟨by rw [nm], rfl⟩
            | (exfalso; simp only [Bool.not_eq_true', Bool.not_eq_false', decide_eq_true_eq, decide_eq_false_iff_not] at *; omega)
  obtain ⟨d, o, e, rfl, rfl⟩ := fp_ex z
  exact e
end Lw
section
set_option maxHeartbeats 1000000
namespace Lw
open PySem L2 Mi
def nmD : D → Bool
  | .str s => nmL s.cps.toList
  | _ => false
theorem name_all {d : D} (hv : VOk d) : f_is_name [d] = .ok (.bl (nmD d)) .non := by
  have z : Fp (f_is_name [d]) noX fun r o => r = .bl (nmD d) ∧ o = .non := by
    cases d with
    | str s => exact fp_ok (name_ok (l := s.cps.toList) (by have := hv.1; simp only [Str.length] at this; simp only [Array.length_toList]; omega)) ⟨rfl, rfl⟩
    | _ => first
      | exact hv.elim
      | (refine fp_run (ρ := [.val _, .nil]) rfl ?_
         unfold m_is_name
         ((repeat (first | (with_reducible refine Mi.wp_seq ?_) | (with_reducible refine Mi.wp_ifS ?_) | (with_reducible refine Mi.wp_asg ?_) | (with_reducible refine Mi.wp_retS ?_) | (with_reducible refine Mi.wp_bin ?_) | ((with_reducible apply Mi.wp_var1); · rfl) | (with_reducible refine Mi.wp_C ?_) | (with_reducible refine Mi.wp_asCons ?_) | (with_reducible refine Mi.wp_asNil ?_) | (with_reducible refine Mi.wp_call ?_) | (with_reducible refine Mi.wp_callIO ?_) | (with_reducible refine Mi.wp_args ?_) | (with_reducible refine Mi.wp_frzXn ?_) | (with_reducible refine Mi.wp_frzX0 ?_) | (with_reducible refine Mi.wp_frzXS ?_) | (with_reducible refine Mi.wp_frzsCons ?_) | (with_reducible refine Mi.wp_frzsNil ?_) | (with_reducible refine Mi.wp_frzD ?_) | (with_reducible refine Mi.wp_boolA ?_) | (with_reducible refine Mi.wp_blT ?_) | (with_reducible refine Mi.wp_tst ?_) | (with_reducible refine Mi.wp_andT ?_) | (with_reducible refine Mi.wp_orT ?_) | (with_reducible refine Mi.wp_notT ?_) | (with_reducible refine Mi.wp_ifA ?_) | (with_reducible refine Mi.wp_andA ?_) | (with_reducible refine Mi.wp_orA ?_) | (with_reducible refine Mi.wp_notA ?_) | (with_reducible refine Mi.wp_chainT ?_) | (with_reducible refine Mi.wp_cb ?_) | (with_reducible refine Mi.wp_un ?_) | (with_reducible refine Mi.wp_next ?_) | (with_reducible refine Mi.wp_asgN ?_) | (with_reducible refine Mi.wp_retNS ?_) | (with_reducible refine Mi.wp_drop ?_) | (with_reducible refine Mi.wp_par2 ?_) | (with_reducible refine Mi.wp_asgG ?_) | (with_reducible refine Mi.wp_subG ?_) | (with_reducible refine Mi.wp_appA ?_) | (with_reducible refine Mi.wp_tup ?_) | (with_reducible refine Mi.wp_lst ?_) | (with_reducible refine Mi.wp_new ?_) | (with_reducible refine Mi.wp_slice ?_) | (with_reducible refine Mi.wp_prtN ?_) | (with_reducible refine Mi.wp_prtS ?_) | (with_reducible refine Mi.wp_mt ?_) | (with_reducible refine Mi.wp_mt0 ?_) | (with_reducible refine Mi.wp_seqI ?_) | (with_reducible refine Mi.wp_compN ?_) | (with_reducible refine Mi.wp_fnI ?_) | (with_reducible refine Mi.wp_forS ?_) | (with_reducible refine Mi.wp_tgTup ?_) | (with_reducible refine Mi.wp_gsCons ?_) | (with_reducible refine Mi.wp_gsNil ?_) | (with_reducible refine Mi.wp_callN ?_) | ((with_reducible apply Mi.wp_putV); · rfl) | ((with_reducible apply Mi.wp_putN); · rfl) | (with_reducible refine Mi.wp_bnd ?_) | (with_reducible refine Mi.wp_ret ?_) | (with_reducible refine Mi.wp_opt ?_) | (with_reducible refine Mi.wp_view ?_) | ((with_reducible refine Mi.nm_a ?_); (try (conv => arg 1; simp only [Mi.putCell, Mi.wipeL, Mi.backL, Mi.pick, List.filterMap_cons, List.filterMap_nil, List.filterMap_cons_some, List.map_nil, List.map_cons, List.append_nil, List.nil_append, List.cons_append, List.getElem?_cons_zero, List.getElem?_cons_succ, List.set_cons_zero, List.set_cons_succ, List.getD_cons_zero, List.getD_cons_succ, Int.reduceToNat])); (with_reducible refine Mi.nm_b ?_)) | (with_reducible refine ⟨_, Mi.isi_non_bool, ?_⟩) | (with_reducible refine ⟨_, Mi.isi_non_int, ?_⟩) | (with_reducible refine ⟨_, Mi.isi_non_str, ?_⟩) | (with_reducible refine ⟨_, Mi.isi_non_list, ?_⟩) | (with_reducible refine ⟨_, Mi.isi_non_tuple, ?_⟩) | (with_reducible refine ⟨_, Mi.isi_non_dict, ?_⟩) | (with_reducible refine ⟨_, Mi.isi_bl_bool, ?_⟩) | (with_reducible refine ⟨_, Mi.isi_bl_int, ?_⟩) | (with_reducible refine ⟨_, Mi.isi_bl_str, ?_⟩) | (with_reducible refine ⟨_, Mi.isi_bl_list, ?_⟩) | (with_reducible refine ⟨_, Mi.isi_bl_tuple, ?_⟩) | (with_reducible refine ⟨_, Mi.isi_bl_dict, ?_⟩) | (with_reducible refine ⟨_, Mi.isi_int_bool, ?_⟩) | (with_reducible refine ⟨_, Mi.isi_int_int, ?_⟩) | (with_reducible refine ⟨_, Mi.isi_int_str, ?_⟩) | (with_reducible refine ⟨_, Mi.isi_int_list, ?_⟩) | (with_reducible refine ⟨_, Mi.isi_int_tuple, ?_⟩) | (with_reducible refine ⟨_, Mi.isi_int_dict, ?_⟩) | (with_reducible refine ⟨_, Mi.isi_str_bool, ?_⟩) | (with_reducible refine ⟨_, Mi.isi_str_int, ?_⟩) | (with_reducible refine ⟨_, Mi.isi_str_str, ?_⟩) | (with_reducible refine ⟨_, Mi.isi_str_list, ?_⟩) | (with_reducible refine ⟨_, Mi.isi_str_tuple, ?_⟩) | (with_reducible refine ⟨_, Mi.isi_str_dict, ?_⟩) | (with_reducible refine ⟨_, Mi.isi_lst_bool, ?_⟩) | (with_reducible refine ⟨_, Mi.isi_lst_int, ?_⟩) | (with_reducible refine ⟨_, Mi.isi_lst_str, ?_⟩) | (with_reducible refine ⟨_, Mi.isi_lst_list, ?_⟩) | (with_reducible refine ⟨_, Mi.isi_lst_tuple, ?_⟩) | (with_reducible refine ⟨_, Mi.isi_lst_dict, ?_⟩) | (with_reducible refine ⟨_, Mi.isi_rol_bool, ?_⟩) | (with_reducible refine ⟨_, Mi.isi_rol_int, ?_⟩) | (with_reducible refine ⟨_, Mi.isi_rol_str, ?_⟩) | (with_reducible refine ⟨_, Mi.isi_rol_list, ?_⟩) | (with_reducible refine ⟨_, Mi.isi_rol_tuple, ?_⟩) | (with_reducible refine ⟨_, Mi.isi_rol_dict, ?_⟩) | (with_reducible refine ⟨_, Mi.isi_tup_bool, ?_⟩) | (with_reducible refine ⟨_, Mi.isi_tup_int, ?_⟩) | (with_reducible refine ⟨_, Mi.isi_tup_str, ?_⟩) | (with_reducible refine ⟨_, Mi.isi_tup_list, ?_⟩) | (with_reducible refine ⟨_, Mi.isi_tup_tuple, ?_⟩) | (with_reducible refine ⟨_, Mi.isi_tup_dict, ?_⟩) | (with_reducible refine ⟨_, Mi.isi_dct_bool, ?_⟩) | (with_reducible refine ⟨_, Mi.isi_dct_int, ?_⟩) | (with_reducible refine ⟨_, Mi.isi_dct_str, ?_⟩) | (with_reducible refine ⟨_, Mi.isi_dct_list, ?_⟩) | (with_reducible refine ⟨_, Mi.isi_dct_tuple, ?_⟩) | (with_reducible refine ⟨_, Mi.isi_dct_dict, ?_⟩) | (with_reducible refine ⟨_, Mi.add_int, ?_⟩) | (with_reducible refine ⟨_, Mi.sub_int, ?_⟩) | (with_reducible refine ⟨_, Mi.lt_int, ?_⟩) | (with_reducible refine ⟨_, Mi.le_int, ?_⟩) | (with_reducible refine ⟨_, Mi.gt_int, ?_⟩) | (with_reducible refine ⟨_, Mi.ge_int, ?_⟩) | (with_reducible refine ⟨_, Mi.neg_int, ?_⟩) | (with_reducible refine ⟨_, Mi.asBl_bl, ?_⟩) | (with_reducible refine ⟨_, Mi.pow_lit (by decide) (by decide), ?_⟩) | (with_reducible refine ⟨_, Mi.mul_int (by decide), ?_⟩) | (with_reducible refine ⟨_, Mi.mod_int (by decide), ?_⟩) | (with_reducible refine ⟨_, Mi.fdiv_int (by decide), ?_⟩) | (with_reducible refine ⟨_, Mi.eqq_int, ?_⟩) | (with_reducible refine ⟨_, Mi.neq_int, ?_⟩) | (with_reducible refine Mi.ift_t ?_) | (with_reducible refine Mi.ift_f ?_) | (with_reducible refine Mi.ift_nt ?_) | (with_reducible refine Mi.ift_nf ?_) | ((with_reducible refine Mi.ift_bt ?_ ?_); · rfl) | ((with_reducible refine Mi.ift_bf ?_ ?_); · rfl) | (refine ⟨_, _, _, _, _, rfl, rfl, rfl, rfl, ?_⟩) | (refine ⟨_, _, rfl, rfl, ?_⟩) | (refine ⟨_, _, rfl, ?_⟩) | (refine ⟨⟨rfl, rfl, rfl⟩, ?_⟩) | (refine ⟨Nat.le_of_ble_eq_true rfl, ?_⟩) | (refine ⟨by decide, ?_⟩) | (refine ⟨_, rfl, ?_⟩) | (refine ⟨rfl, ?_⟩))); (try (with_reducible refine Mi.here ?_)))
         exact ⟨rfl, rfl⟩)
  obtain ⟨d, o, e, rfl, rfl⟩ := fp_ex z
  exact e
theorem lname_all {d : D} (hv : VOk d) : f__law_is_name [d] = .ok (.bl (nmD d)) .non := by
  have z : Fp (f__law_is_name [d]) noX fun r o => r = .bl (nmD d) ∧ o = .non := by
    cases d with
    | str s => exact fp_ok (lname_ok (l := s.cps.toList) (by have := hv.1; simp only [Str.length] at this; simp only [Array.length_toList]; omega) hv.2) ⟨rfl, rfl⟩
    | _ => first
      | exact hv.elim
      | (refine fp_run (ρ := [.val _, .nil]) rfl ?_
         unfold m__law_is_name
         ((repeat (first | (with_reducible refine Mi.wp_seq ?_) | (with_reducible refine Mi.wp_ifS ?_) | (with_reducible refine Mi.wp_asg ?_) | (with_reducible refine Mi.wp_retS ?_) | (with_reducible refine Mi.wp_bin ?_) | ((with_reducible apply Mi.wp_var1); · rfl) | (with_reducible refine Mi.wp_C ?_) | (with_reducible refine Mi.wp_asCons ?_) | (with_reducible refine Mi.wp_asNil ?_) | (with_reducible refine Mi.wp_call ?_) | (with_reducible refine Mi.wp_callIO ?_) | (with_reducible refine Mi.wp_args ?_) | (with_reducible refine Mi.wp_frzXn ?_) | (with_reducible refine Mi.wp_frzX0 ?_) | (with_reducible refine Mi.wp_frzXS ?_) | (with_reducible refine Mi.wp_frzsCons ?_) | (with_reducible refine Mi.wp_frzsNil ?_) | (with_reducible refine Mi.wp_frzD ?_) | (with_reducible refine Mi.wp_boolA ?_) | (with_reducible refine Mi.wp_blT ?_) | (with_reducible refine Mi.wp_tst ?_) | (with_reducible refine Mi.wp_andT ?_) | (with_reducible refine Mi.wp_orT ?_) | (with_reducible refine Mi.wp_notT ?_) | (with_reducible refine Mi.wp_ifA ?_) | (with_reducible refine Mi.wp_andA ?_) | (with_reducible refine Mi.wp_orA ?_) | (with_reducible refine Mi.wp_notA ?_) | (with_reducible refine Mi.wp_chainT ?_) | (with_reducible refine Mi.wp_cb ?_) | (with_reducible refine Mi.wp_un ?_) | (with_reducible refine Mi.wp_next ?_) | (with_reducible refine Mi.wp_asgN ?_) | (with_reducible refine Mi.wp_retNS ?_) | (with_reducible refine Mi.wp_drop ?_) | (with_reducible refine Mi.wp_par2 ?_) | (with_reducible refine Mi.wp_asgG ?_) | (with_reducible refine Mi.wp_subG ?_) | (with_reducible refine Mi.wp_appA ?_) | (with_reducible refine Mi.wp_tup ?_) | (with_reducible refine Mi.wp_lst ?_) | (with_reducible refine Mi.wp_new ?_) | (with_reducible refine Mi.wp_slice ?_) | (with_reducible refine Mi.wp_prtN ?_) | (with_reducible refine Mi.wp_prtS ?_) | (with_reducible refine Mi.wp_mt ?_) | (with_reducible refine Mi.wp_mt0 ?_) | (with_reducible refine Mi.wp_seqI ?_) | (with_reducible refine Mi.wp_compN ?_) | (with_reducible refine Mi.wp_fnI ?_) | (with_reducible refine Mi.wp_forS ?_) | (with_reducible refine Mi.wp_tgTup ?_) | (with_reducible refine Mi.wp_gsCons ?_) | (with_reducible refine Mi.wp_gsNil ?_) | (with_reducible refine Mi.wp_callN ?_) | ((with_reducible apply Mi.wp_putV); · rfl) | ((with_reducible apply Mi.wp_putN); · rfl) | (with_reducible refine Mi.wp_bnd ?_) | (with_reducible refine Mi.wp_ret ?_) | (with_reducible refine Mi.wp_opt ?_) | (with_reducible refine Mi.wp_view ?_) | ((with_reducible refine Mi.nm_a ?_); (try (conv => arg 1; simp only [Mi.putCell, Mi.wipeL, Mi.backL, Mi.pick, List.filterMap_cons, List.filterMap_nil, List.filterMap_cons_some, List.map_nil, List.map_cons, List.append_nil, List.nil_append, List.cons_append, List.getElem?_cons_zero, List.getElem?_cons_succ, List.set_cons_zero, List.set_cons_succ, List.getD_cons_zero, List.getD_cons_succ, Int.reduceToNat])); (with_reducible refine Mi.nm_b ?_)) | (with_reducible refine ⟨_, Mi.isi_non_bool, ?_⟩) | (with_reducible refine ⟨_, Mi.isi_non_int, ?_⟩) | (with_reducible refine ⟨_, Mi.isi_non_str, ?_⟩) | (with_reducible refine ⟨_, Mi.isi_non_list, ?_⟩) | (with_reducible refine ⟨_, Mi.isi_non_tuple, ?_⟩) | (with_reducible refine ⟨_, Mi.isi_non_dict, ?_⟩) | (with_reducible refine ⟨_, Mi.isi_bl_bool, ?_⟩) | (with_reducible refine ⟨_, Mi.isi_bl_int, ?_⟩) | (with_reducible refine ⟨_, Mi.isi_bl_str, ?_⟩) | (with_reducible refine ⟨_, Mi.isi_bl_list, ?_⟩) | (with_reducible refine ⟨_, Mi.isi_bl_tuple, ?_⟩) | (with_reducible refine ⟨_, Mi.isi_bl_dict, ?_⟩) | (with_reducible refine ⟨_, Mi.isi_int_bool, ?_⟩) | (with_reducible refine ⟨_, Mi.isi_int_int, ?_⟩) | (with_reducible refine ⟨_, Mi.isi_int_str, ?_⟩) | (with_reducible refine ⟨_, Mi.isi_int_list, ?_⟩) | (with_reducible refine ⟨_, Mi.isi_int_tuple, ?_⟩) | (with_reducible refine ⟨_, Mi.isi_int_dict, ?_⟩) | (with_reducible refine ⟨_, Mi.isi_str_bool, ?_⟩) | (with_reducible refine ⟨_, Mi.isi_str_int, ?_⟩) | (with_reducible refine ⟨_, Mi.isi_str_str, ?_⟩) | (with_reducible refine ⟨_, Mi.isi_str_list, ?_⟩) | (with_reducible refine ⟨_, Mi.isi_str_tuple, ?_⟩) | (with_reducible refine ⟨_, Mi.isi_str_dict, ?_⟩) | (with_reducible refine ⟨_, Mi.isi_lst_bool, ?_⟩) | (with_reducible refine ⟨_, Mi.isi_lst_int, ?_⟩) | (with_reducible refine ⟨_, Mi.isi_lst_str, ?_⟩) | (with_reducible refine ⟨_, Mi.isi_lst_list, ?_⟩) | (with_reducible refine ⟨_, Mi.isi_lst_tuple, ?_⟩) | (with_reducible refine ⟨_, Mi.isi_lst_dict, ?_⟩) | (with_reducible refine ⟨_, Mi.isi_rol_bool, ?_⟩) | (with_reducible refine ⟨_, Mi.isi_rol_int, ?_⟩) | (with_reducible refine ⟨_, Mi.isi_rol_str, ?_⟩) | (with_reducible refine ⟨_, Mi.isi_rol_list, ?_⟩) | (with_reducible refine ⟨_, Mi.isi_rol_tuple, ?_⟩) | (with_reducible refine ⟨_, Mi.isi_rol_dict, ?_⟩) | (with_reducible refine ⟨_, Mi.isi_tup_bool, ?_⟩) | (with_reducible refine ⟨_, Mi.isi_tup_int, ?_⟩) | (with_reducible refine ⟨_, Mi.isi_tup_str, ?_⟩) | (with_reducible refine ⟨_, Mi.isi_tup_list, ?_⟩) | (with_reducible refine ⟨_, Mi.isi_tup_tuple, ?_⟩) | (with_reducible refine ⟨_, Mi.isi_tup_dict, ?_⟩) | (with_reducible refine ⟨_, Mi.isi_dct_bool, ?_⟩) | (with_reducible refine ⟨_, Mi.isi_dct_int, ?_⟩) | (with_reducible refine ⟨_, Mi.isi_dct_str, ?_⟩) | (with_reducible refine ⟨_, Mi.isi_dct_list, ?_⟩) | (with_reducible refine ⟨_, Mi.isi_dct_tuple, ?_⟩) | (with_reducible refine ⟨_, Mi.isi_dct_dict, ?_⟩) | (with_reducible refine ⟨_, Mi.add_int, ?_⟩) | (with_reducible refine ⟨_, Mi.sub_int, ?_⟩) | (with_reducible refine ⟨_, Mi.lt_int, ?_⟩) | (with_reducible refine ⟨_, Mi.le_int, ?_⟩) | (with_reducible refine ⟨_, Mi.gt_int, ?_⟩) | (with_reducible refine ⟨_, Mi.ge_int, ?_⟩) | (with_reducible refine ⟨_, Mi.neg_int, ?_⟩) | (with_reducible refine ⟨_, Mi.asBl_bl, ?_⟩) | (with_reducible refine ⟨_, Mi.pow_lit (by decide) (by decide), ?_⟩) | (with_reducible refine ⟨_, Mi.mul_int (by decide), ?_⟩) | (with_reducible refine ⟨_, Mi.mod_int (by decide), ?_⟩) | (with_reducible refine ⟨_, Mi.fdiv_int (by decide), ?_⟩) | (with_reducible refine ⟨_, Mi.eqq_int, ?_⟩) | (with_reducible refine ⟨_, Mi.neq_int, ?_⟩) | (with_reducible refine Mi.ift_t ?_) | (with_reducible refine Mi.ift_f ?_) | (with_reducible refine Mi.ift_nt ?_) | (with_reducible refine Mi.ift_nf ?_) | ((with_reducible refine Mi.ift_bt ?_ ?_); · rfl) | ((with_reducible refine Mi.ift_bf ?_ ?_); · rfl) | (refine ⟨_, _, _, _, _, rfl, rfl, rfl, rfl, ?_⟩) | (refine ⟨_, _, rfl, rfl, ?_⟩) | (refine ⟨_, _, rfl, ?_⟩) | (refine ⟨⟨rfl, rfl, rfl⟩, ?_⟩) | (refine ⟨Nat.le_of_ble_eq_true rfl, ?_⟩) | (refine ⟨by decide, ?_⟩) | (refine ⟨_, rfl, ?_⟩) | (refine ⟨rfl, ?_⟩))); (try (with_reducible refine Mi.here ?_)))
         exact ⟨rfl, rfl⟩)
  obtain ⟨d, o, e, rfl, rfl⟩ := fp_ex z
  exact e
theorem bound_ok {k : Nat} {j d : D} (hj : Jg k j) (hv : VOk d) (hk : k + 10 < 2 ^ 40) : ∃ (a o : D), f__law_bound [j, d] = .ok a o ∧ BOk a ∧ Jg (k + 1) o := by
  have z : Fp (f__law_bound [j, d]) noX fun a o => BOk a ∧ Jg (k + 1) o := by
    refine fp_run (ρ := [.cel true _, .val _, .nil]) rfl ?_
    unfold m__law_bound
    ((repeat (first | (with_reducible refine Mi.wp_seq ?_) | (with_reducible refine Mi.wp_ifS ?_) | (with_reducible refine Mi.wp_asg ?_) | (with_reducible refine Mi.wp_retS ?_) | (with_reducible refine Mi.wp_bin ?_) | ((with_reducible apply Mi.wp_var1); · rfl) | (with_reducible refine Mi.wp_C ?_) | (with_reducible refine Mi.wp_asCons ?_) | (with_reducible refine Mi.wp_asNil ?_) | (with_reducible refine Mi.wp_call ?_) | (with_reducible refine Mi.wp_callIO ?_) | (with_reducible refine Mi.wp_args ?_) | (with_reducible refine Mi.wp_frzXn ?_) | (with_reducible refine Mi.wp_frzX0 ?_) | (with_reducible refine Mi.wp_frzXS ?_) | (with_reducible refine Mi.wp_frzsCons ?_) | (with_reducible refine Mi.wp_frzsNil ?_) | (with_reducible refine Mi.wp_frzD ?_) | (with_reducible refine Mi.wp_boolA ?_) | (with_reducible refine Mi.wp_blT ?_) | (with_reducible refine Mi.wp_tst ?_) | (with_reducible refine Mi.wp_andT ?_) | (with_reducible refine Mi.wp_orT ?_) | (with_reducible refine Mi.wp_notT ?_) | (with_reducible refine Mi.wp_ifA ?_) | (with_reducible refine Mi.wp_andA ?_) | (with_reducible refine Mi.wp_orA ?_) | (with_reducible refine Mi.wp_notA ?_) | (with_reducible refine Mi.wp_chainT ?_) | (with_reducible refine Mi.wp_cb ?_) | (with_reducible refine Mi.wp_un ?_) | (with_reducible refine Mi.wp_next ?_) | (with_reducible refine Mi.wp_asgN ?_) | (with_reducible refine Mi.wp_retNS ?_) | (with_reducible refine Mi.wp_drop ?_) | (with_reducible refine Mi.wp_par2 ?_) | (with_reducible refine Mi.wp_asgG ?_) | (with_reducible refine Mi.wp_subG ?_) | (with_reducible refine Mi.wp_appA ?_) | (with_reducible refine Mi.wp_tup ?_) | (with_reducible refine Mi.wp_lst ?_) | (with_reducible refine Mi.wp_new ?_) | (with_reducible refine Mi.wp_slice ?_) | (with_reducible refine Mi.wp_prtN ?_) | (with_reducible refine Mi.wp_prtS ?_) | (with_reducible refine Mi.wp_mt ?_) | (with_reducible refine Mi.wp_mt0 ?_) | (with_reducible refine Mi.wp_seqI ?_) | (with_reducible refine Mi.wp_compN ?_) | (with_reducible refine Mi.wp_fnI ?_) | (with_reducible refine Mi.wp_forS ?_) | (with_reducible refine Mi.wp_tgTup ?_) | (with_reducible refine Mi.wp_gsCons ?_) | (with_reducible refine Mi.wp_gsNil ?_) | (with_reducible refine Mi.wp_callN ?_) | ((with_reducible apply Mi.wp_putV); · rfl) | ((with_reducible apply Mi.wp_putN); · rfl) | (with_reducible refine Mi.wp_bnd ?_) | (with_reducible refine Mi.wp_ret ?_) | (with_reducible refine Mi.wp_opt ?_) | (with_reducible refine Mi.wp_view ?_) | ((with_reducible refine Mi.nm_a ?_); (try (conv => arg 1; simp only [Mi.putCell, Mi.wipeL, Mi.backL, Mi.pick, List.filterMap_cons, List.filterMap_nil, List.filterMap_cons_some, List.map_nil, List.map_cons, List.append_nil, List.nil_append, List.cons_append, List.getElem?_cons_zero, List.getElem?_cons_succ, List.set_cons_zero, List.set_cons_succ, List.getD_cons_zero, List.getD_cons_succ, Int.reduceToNat])); (with_reducible refine Mi.nm_b ?_)) | (with_reducible refine ⟨_, Mi.add_int, ?_⟩) | (with_reducible refine ⟨_, Mi.sub_int, ?_⟩) | (with_reducible refine ⟨_, Mi.lt_int, ?_⟩) | (with_reducible refine ⟨_, Mi.le_int, ?_⟩) | (with_reducible refine ⟨_, Mi.gt_int, ?_⟩) | (with_reducible refine ⟨_, Mi.ge_int, ?_⟩) | (with_reducible refine ⟨_, Mi.neg_int, ?_⟩) | (with_reducible refine ⟨_, Mi.asBl_bl, ?_⟩) | (with_reducible refine ⟨_, Mi.pow_lit (by decide) (by decide), ?_⟩) | (with_reducible refine ⟨_, Mi.mul_int (by decide), ?_⟩) | (with_reducible refine ⟨_, Mi.mod_int (by decide), ?_⟩) | (with_reducible refine ⟨_, Mi.fdiv_int (by decide), ?_⟩) | (with_reducible refine ⟨_, Mi.eqq_int, ?_⟩) | (with_reducible refine ⟨_, Mi.neq_int, ?_⟩) | (with_reducible refine Mi.ift_t ?_) | (with_reducible refine Mi.ift_f ?_) | (with_reducible refine Mi.ift_nt ?_) | (with_reducible refine Mi.ift_nf ?_) | ((with_reducible refine Mi.ift_bt ?_ ?_); · rfl) | ((with_reducible refine Mi.ift_bf ?_ ?_); · rfl) | (refine ⟨_, _, _, _, _, rfl, rfl, rfl, rfl, ?_⟩) | (refine ⟨_, _, rfl, rfl, ?_⟩) | (refine ⟨_, _, rfl, ?_⟩) | (refine ⟨⟨rfl, rfl, rfl⟩, ?_⟩) | (refine ⟨Nat.le_of_ble_eq_true rfl, ?_⟩) | (refine ⟨by decide, ?_⟩) | (refine ⟨_, rfl, ?_⟩) | (refine ⟨rfl, ?_⟩))); (try (with_reducible refine Mi.here ?_)))
    refine fp_ok (num_ok hv) ?_
    ((repeat (first | (with_reducible refine Mi.wp_seq ?_) | (with_reducible refine Mi.wp_ifS ?_) | (with_reducible refine Mi.wp_asg ?_) | (with_reducible refine Mi.wp_retS ?_) | (with_reducible refine Mi.wp_bin ?_) | ((with_reducible apply Mi.wp_var1); · rfl) | (with_reducible refine Mi.wp_C ?_) | (with_reducible refine Mi.wp_asCons ?_) | (with_reducible refine Mi.wp_asNil ?_) | (with_reducible refine Mi.wp_call ?_) | (with_reducible refine Mi.wp_callIO ?_) | (with_reducible refine Mi.wp_args ?_) | (with_reducible refine Mi.wp_frzXn ?_) | (with_reducible refine Mi.wp_frzX0 ?_) | (with_reducible refine Mi.wp_frzXS ?_) | (with_reducible refine Mi.wp_frzsCons ?_) | (with_reducible refine Mi.wp_frzsNil ?_) | (with_reducible refine Mi.wp_frzD ?_) | (with_reducible refine Mi.wp_boolA ?_) | (with_reducible refine Mi.wp_blT ?_) | (with_reducible refine Mi.wp_tst ?_) | (with_reducible refine Mi.wp_andT ?_) | (with_reducible refine Mi.wp_orT ?_) | (with_reducible refine Mi.wp_notT ?_) | (with_reducible refine Mi.wp_ifA ?_) | (with_reducible refine Mi.wp_andA ?_) | (with_reducible refine Mi.wp_orA ?_) | (with_reducible refine Mi.wp_notA ?_) | (with_reducible refine Mi.wp_chainT ?_) | (with_reducible refine Mi.wp_cb ?_) | (with_reducible refine Mi.wp_un ?_) | (with_reducible refine Mi.wp_next ?_) | (with_reducible refine Mi.wp_asgN ?_) | (with_reducible refine Mi.wp_retNS ?_) | (with_reducible refine Mi.wp_drop ?_) | (with_reducible refine Mi.wp_par2 ?_) | (with_reducible refine Mi.wp_asgG ?_) | (with_reducible refine Mi.wp_subG ?_) | (with_reducible refine Mi.wp_appA ?_) | (with_reducible refine Mi.wp_tup ?_) | (with_reducible refine Mi.wp_lst ?_) | (with_reducible refine Mi.wp_new ?_) | (with_reducible refine Mi.wp_slice ?_) | (with_reducible refine Mi.wp_prtN ?_) | (with_reducible refine Mi.wp_prtS ?_) | (with_reducible refine Mi.wp_mt ?_) | (with_reducible refine Mi.wp_mt0 ?_) | (with_reducible refine Mi.wp_seqI ?_) | (with_reducible refine Mi.wp_compN ?_) | (with_reducible refine Mi.wp_fnI ?_) | (with_reducible refine Mi.wp_forS ?_) | (with_reducible refine Mi.wp_tgTup ?_) | (with_reducible refine Mi.wp_gsCons ?_) | (with_reducible refine Mi.wp_gsNil ?_) | (with_reducible refine Mi.wp_callN ?_) | ((with_reducible apply Mi.wp_putV); · rfl) | ((with_reducible apply Mi.wp_putN); · rfl) | (with_reducible refine Mi.wp_bnd ?_) | (with_reducible refine Mi.wp_ret ?_) | (with_reducible refine Mi.wp_opt ?_) | (with_reducible refine Mi.wp_view ?_) | ((with_reducible refine Mi.nm_a ?_); (try (conv => arg 1; simp only [Mi.putCell, Mi.wipeL, Mi.backL, Mi.pick, List.filterMap_cons, List.filterMap_nil, List.filterMap_cons_some, List.map_nil, List.map_cons, List.append_nil, List.nil_append, List.cons_append, List.getElem?_cons_zero, List.getElem?_cons_succ, List.set_cons_zero, List.set_cons_succ, List.getD_cons_zero, List.getD_cons_succ, Int.reduceToNat])); (with_reducible refine Mi.nm_b ?_)) | (with_reducible refine ⟨_, Mi.add_int, ?_⟩) | (with_reducible refine ⟨_, Mi.sub_int, ?_⟩) | (with_reducible refine ⟨_, Mi.lt_int, ?_⟩) | (with_reducible refine ⟨_, Mi.le_int, ?_⟩) | (with_reducible refine ⟨_, Mi.gt_int, ?_⟩) | (with_reducible refine ⟨_, Mi.ge_int, ?_⟩) | (with_reducible refine ⟨_, Mi.neg_int, ?_⟩) | (with_reducible refine ⟨_, Mi.asBl_bl, ?_⟩) | (with_reducible refine ⟨_, Mi.pow_lit (by decide) (by decide), ?_⟩) | (with_reducible refine ⟨_, Mi.mul_int (by decide), ?_⟩) | (with_reducible refine ⟨_, Mi.mod_int (by decide), ?_⟩) | (with_reducible refine ⟨_, Mi.fdiv_int (by decide), ?_⟩) | (with_reducible refine ⟨_, Mi.eqq_int, ?_⟩) | (with_reducible refine ⟨_, Mi.neq_int, ?_⟩) | (with_reducible refine Mi.ift_t ?_) | (with_reducible refine Mi.ift_f ?_) | (with_reducible refine Mi.ift_nt ?_) | (with_reducible refine Mi.ift_nf ?_) | ((with_reducible refine Mi.ift_bt ?_ ?_); · rfl) | ((with_reducible refine Mi.ift_bf ?_ ?_); · rfl) | (refine ⟨_, _, _, _, _, rfl, rfl, rfl, rfl, ?_⟩) | (refine ⟨_, _, rfl, rfl, ?_⟩) | (refine ⟨_, _, rfl, ?_⟩) | (refine ⟨⟨rfl, rfl, rfl⟩, ?_⟩) | (refine ⟨Nat.le_of_ble_eq_true rfl, ?_⟩) | (refine ⟨by decide, ?_⟩) | (refine ⟨_, rfl, ?_⟩) | (refine ⟨rfl, ?_⟩))); (try (with_reducible refine Mi.here ?_)))
    have main : ∀ i : Int, ∀ (Q : D → D → Prop), (∀ a o, BOk a → Jg (k + 1) o → Q a o) → Fp (f__law_pour [j, .int 6]) noX fun r o => ∃ a, ixD (.lst [.non, .int i, .int (i - 1), .int (i + 1), .int (i - 10 ^ 41), .int (i + 10 ^ 41)]) r = some a ∧ Q a o := fun i Q h => by
      refine fp_pour hj (by omega) (by decide) (by decide) fun r o h0 h1 hj => ?_
      obtain ⟨a, e, m⟩ := ix_lst (xs := [.non, .int i, .int (i - 1), .int (i + 1), .int (i - 10 ^ 41), .int (i + 10 ^ 41)]) h0 h1
      refine ⟨a, e, h a o ?_ hj⟩
      simp only [List.mem_cons, List.not_mem_nil, or_false] at m
      rcases m with rfl | rfl | rfl | rfl | rfl | rfl <;> trivial
    cases d with
    | int i =>
      ((repeat (first | (with_reducible refine Mi.wp_seq ?_) | (with_reducible refine Mi.wp_ifS ?_) | (with_reducible refine Mi.wp_asg ?_) | (with_reducible refine Mi.wp_retS ?_) | (with_reducible refine Mi.wp_bin ?_) | ((with_reducible apply Mi.wp_var1); · rfl) | (with_reducible refine Mi.wp_C ?_) | (with_reducible refine Mi.wp_asCons ?_) | (with_reducible refine Mi.wp_asNil ?_) | (with_reducible refine Mi.wp_call ?_) | (with_reducible refine Mi.wp_callIO ?_) | (with_reducible refine Mi.wp_args ?_) | (with_reducible refine Mi.wp_frzXn ?_) | (with_reducible refine Mi.wp_frzX0 ?_) | (with_reducible refine Mi.wp_frzXS ?_) | (with_reducible refine Mi.wp_frzsCons ?_) | (with_reducible refine Mi.wp_frzsNil ?_) | (with_reducible refine Mi.wp_frzD ?_) | (with_reducible refine Mi.wp_boolA ?_) | (with_reducible refine Mi.wp_blT ?_) | (with_reducible refine Mi.wp_tst ?_) | (with_reducible refine Mi.wp_andT ?_) | (with_reducible refine Mi.wp_orT ?_) | (with_reducible refine Mi.wp_notT ?_) | (with_reducible refine Mi.wp_ifA ?_) | (with_reducible refine Mi.wp_andA ?_) | (with_reducible refine Mi.wp_orA ?_) | (with_reducible refine Mi.wp_notA ?_) | (with_reducible refine Mi.wp_chainT ?_) | (with_reducible refine Mi.wp_cb ?_) | (with_reducible refine Mi.wp_un ?_) | (with_reducible refine Mi.wp_next ?_) | (with_reducible refine Mi.wp_asgN ?_) | (with_reducible refine Mi.wp_retNS ?_) | (with_reducible refine Mi.wp_drop ?_) | (with_reducible refine Mi.wp_par2 ?_) | (with_reducible refine Mi.wp_asgG ?_) | (with_reducible refine Mi.wp_subG ?_) | (with_reducible refine Mi.wp_appA ?_) | (with_reducible refine Mi.wp_tup ?_) | (with_reducible refine Mi.wp_lst ?_) | (with_reducible refine Mi.wp_new ?_) | (with_reducible refine Mi.wp_slice ?_) | (with_reducible refine Mi.wp_prtN ?_) | (with_reducible refine Mi.wp_prtS ?_) | (with_reducible refine Mi.wp_mt ?_) | (with_reducible refine Mi.wp_mt0 ?_) | (with_reducible refine Mi.wp_seqI ?_) | (with_reducible refine Mi.wp_compN ?_) | (with_reducible refine Mi.wp_fnI ?_) | (with_reducible refine Mi.wp_forS ?_) | (with_reducible refine Mi.wp_tgTup ?_) | (with_reducible refine Mi.wp_gsCons ?_) | (with_reducible refine Mi.wp_gsNil ?_) | (with_reducible refine Mi.wp_callN ?_) | ((with_reducible apply Mi.wp_putV); · rfl) | ((with_reducible apply Mi.wp_putN); · rfl) | (with_reducible refine Mi.wp_bnd ?_) | (with_reducible refine Mi.wp_ret ?_) | (with_reducible refine Mi.wp_opt ?_) | (with_reducible refine Mi.wp_view ?_) | ((with_reducible refine Mi.nm_a ?_); (try (conv => arg 1; simp only [Mi.putCell, Mi.wipeL, Mi.backL, Mi.pick, List.filterMap_cons, List.filterMap_nil, List.filterMap_cons_some, List.map_nil, List.map_cons, List.append_nil, List.nil_append, List.cons_append, List.getElem?_cons_zero, List.getElem?_cons_succ, List.set_cons_zero, List.set_cons_succ, List.getD_cons_zero, List.getD_cons_succ, Int.reduceToNat])); (with_reducible refine Mi.nm_b ?_)) | (with_reducible refine ⟨_, Mi.add_int, ?_⟩) | (with_reducible refine ⟨_, Mi.sub_int, ?_⟩) | (with_reducible refine ⟨_, Mi.lt_int, ?_⟩) | (with_reducible refine ⟨_, Mi.le_int, ?_⟩) | (with_reducible refine ⟨_, Mi.gt_int, ?_⟩) | (with_reducible refine ⟨_, Mi.ge_int, ?_⟩) | (with_reducible refine ⟨_, Mi.neg_int, ?_⟩) | (with_reducible refine ⟨_, Mi.asBl_bl, ?_⟩) | (with_reducible refine ⟨_, Mi.pow_lit (by decide) (by decide), ?_⟩) | (with_reducible refine ⟨_, Mi.mul_int (by decide), ?_⟩) | (with_reducible refine ⟨_, Mi.mod_int (by decide), ?_⟩) | (with_reducible refine ⟨_, Mi.fdiv_int (by decide), ?_⟩) | (with_reducible refine ⟨_, Mi.eqq_int, ?_⟩) | (with_reducible refine ⟨_, Mi.neq_int, ?_⟩) | (with_reducible refine Mi.ift_t ?_) | (with_reducible refine Mi.ift_f ?_) | (with_reducible refine Mi.ift_nt ?_) | (with_reducible refine Mi.ift_nf ?_) | ((with_reducible refine Mi.ift_bt ?_ ?_); · rfl) | ((with_reducible refine Mi.ift_bf ?_ ?_); · rfl) | (refine ⟨_, _, _, _, _, rfl, rfl, rfl, rfl, ?_⟩) | (refine ⟨_, _, rfl, rfl, ?_⟩) | (refine ⟨_, _, rfl, ?_⟩) | (refine ⟨⟨rfl, rfl, rfl⟩, ?_⟩) | (refine ⟨Nat.le_of_ble_eq_true rfl, ?_⟩) | (refine ⟨by decide, ?_⟩) | (refine ⟨_, rfl, ?_⟩) | (refine ⟨rfl, ?_⟩))); (try (with_reducible refine Mi.here ?_)))
      refine fp_imp (main i _ (fun a o ha hj => And.intro ha hj)) (fun _ _ _ _ z => z.elim) fun r o h => ?_
      obtain ⟨a, e, h⟩ := h
      ((repeat (first | (with_reducible refine Mi.wp_seq ?_) | (with_reducible refine Mi.wp_ifS ?_) | (with_reducible refine Mi.wp_asg ?_) | (with_reducible refine Mi.wp_retS ?_) | (with_reducible refine Mi.wp_bin ?_) | ((with_reducible apply Mi.wp_var1); · rfl) | (with_reducible refine Mi.wp_C ?_) | (with_reducible refine Mi.wp_asCons ?_) | (with_reducible refine Mi.wp_asNil ?_) | (with_reducible refine Mi.wp_call ?_) | (with_reducible refine Mi.wp_callIO ?_) | (with_reducible refine Mi.wp_args ?_) | (with_reducible refine Mi.wp_frzXn ?_) | (with_reducible refine Mi.wp_frzX0 ?_) | (with_reducible refine Mi.wp_frzXS ?_) | (with_reducible refine Mi.wp_frzsCons ?_) | (with_reducible refine Mi.wp_frzsNil ?_) | (with_reducible refine Mi.wp_frzD ?_) | (with_reducible refine Mi.wp_boolA ?_) | (with_reducible refine Mi.wp_blT ?_) | (with_reducible refine Mi.wp_tst ?_) | (with_reducible refine Mi.wp_andT ?_) | (with_reducible refine Mi.wp_orT ?_) | (with_reducible refine Mi.wp_notT ?_) | (with_reducible refine Mi.wp_ifA ?_) | (with_reducible refine Mi.wp_andA ?_) | (with_reducible refine Mi.wp_orA ?_) | (with_reducible refine Mi.wp_notA ?_) | (with_reducible refine Mi.wp_chainT ?_) | (with_reducible refine Mi.wp_cb ?_) | (with_reducible refine Mi.wp_un ?_) | (with_reducible refine Mi.wp_next ?_) | (with_reducible refine Mi.wp_asgN ?_) | (with_reducible refine Mi.wp_retNS ?_) | (with_reducible refine Mi.wp_drop ?_) | (with_reducible refine Mi.wp_par2 ?_) | (with_reducible refine Mi.wp_asgG ?_) | (with_reducible refine Mi.wp_subG ?_) | (with_reducible refine Mi.wp_appA ?_) | (with_reducible refine Mi.wp_tup ?_) | (with_reducible refine Mi.wp_lst ?_) | (with_reducible refine Mi.wp_new ?_) | (with_reducible refine Mi.wp_slice ?_) | (with_reducible refine Mi.wp_prtN ?_) | (with_reducible refine Mi.wp_prtS ?_) | (with_reducible refine Mi.wp_mt ?_) | (with_reducible refine Mi.wp_mt0 ?_) | (with_reducible refine Mi.wp_seqI ?_) | (with_reducible refine Mi.wp_compN ?_) | (with_reducible refine Mi.wp_fnI ?_) | (with_reducible refine Mi.wp_forS ?_) | (with_reducible refine Mi.wp_tgTup ?_) | (with_reducible refine Mi.wp_gsCons ?_) | (with_reducible refine Mi.wp_gsNil ?_) | (with_reducible refine Mi.wp_callN ?_) | ((with_reducible apply Mi.wp_putV); · rfl) | ((with_reducible apply Mi.wp_putN); · rfl) | (with_reducible refine Mi.wp_bnd ?_) | (with_reducible refine Mi.wp_ret ?_) | (with_reducible refine Mi.wp_opt ?_) | (with_reducible refine Mi.wp_view ?_) | ((with_reducible refine Mi.nm_a ?_); (try (conv => arg 1; simp only [Mi.putCell, Mi.wipeL, Mi.backL, Mi.pick, List.filterMap_cons, List.filterMap_nil, List.filterMap_cons_some, List.map_nil, List.map_cons, List.append_nil, List.nil_append, List.cons_append, List.getElem?_cons_zero, List.getElem?_cons_succ, List.set_cons_zero, List.set_cons_succ, List.getD_cons_zero, List.getD_cons_succ, Int.reduceToNat])); (with_reducible refine Mi.nm_b ?_)) | (with_reducible refine ⟨_, Mi.add_int, ?_⟩) | (with_reducible refine ⟨_, Mi.sub_int, ?_⟩) | (with_reducible refine ⟨_, Mi.lt_int, ?_⟩) | (with_reducible refine ⟨_, Mi.le_int, ?_⟩) | (with_reducible refine ⟨_, Mi.gt_int, ?_⟩) | (with_reducible refine ⟨_, Mi.ge_int, ?_⟩) | (with_reducible refine ⟨_, Mi.neg_int, ?_⟩) | (with_reducible refine ⟨_, Mi.asBl_bl, ?_⟩) | (with_reducible refine ⟨_, Mi.pow_lit (by decide) (by decide), ?_⟩) | (with_reducible refine ⟨_, Mi.mul_int (by decide), ?_⟩) | (with_reducible refine ⟨_, Mi.mod_int (by decide), ?_⟩) | (with_reducible refine ⟨_, Mi.fdiv_int (by decide), ?_⟩) | (with_reducible refine ⟨_, Mi.eqq_int, ?_⟩) | (with_reducible refine ⟨_, Mi.neq_int, ?_⟩) | (with_reducible refine Mi.ift_t ?_) | (with_reducible refine Mi.ift_f ?_) | (with_reducible refine Mi.ift_nt ?_) | (with_reducible refine Mi.ift_nf ?_) | ((with_reducible refine Mi.ift_bt ?_ ?_); · rfl) | ((with_reducible refine Mi.ift_bf ?_ ?_); · rfl) | (refine ⟨_, _, _, _, _, rfl, rfl, rfl, rfl, ?_⟩) | (refine ⟨_, _, rfl, rfl, ?_⟩) | (refine ⟨_, _, rfl, ?_⟩) | (refine ⟨⟨rfl, rfl, rfl⟩, ?_⟩) | (refine ⟨Nat.le_of_ble_eq_true rfl, ?_⟩) | (refine ⟨by decide, ?_⟩) | (refine ⟨_, rfl, ?_⟩) | (refine ⟨rfl, ?_⟩))); (try (with_reducible refine Mi.here ?_)))
      refine ⟨_, e, ?_⟩
      ((repeat (first | (with_reducible refine Mi.wp_seq ?_) | (with_reducible refine Mi.wp_ifS ?_) | (with_reducible refine Mi.wp_asg ?_) | (with_reducible refine Mi.wp_retS ?_) | (with_reducible refine Mi.wp_bin ?_) | ((with_reducible apply Mi.wp_var1); · rfl) | (with_reducible refine Mi.wp_C ?_) | (with_reducible refine Mi.wp_asCons ?_) | (with_reducible refine Mi.wp_asNil ?_) | (with_reducible refine Mi.wp_call ?_) | (with_reducible refine Mi.wp_callIO ?_) | (with_reducible refine Mi.wp_args ?_) | (with_reducible refine Mi.wp_frzXn ?_) | (with_reducible refine Mi.wp_frzX0 ?_) | (with_reducible refine Mi.wp_frzXS ?_) | (with_reducible refine Mi.wp_frzsCons ?_) | (with_reducible refine Mi.wp_frzsNil ?_) | (with_reducible refine Mi.wp_frzD ?_) | (with_reducible refine Mi.wp_boolA ?_) | (with_reducible refine Mi.wp_blT ?_) | (with_reducible refine Mi.wp_tst ?_) | (with_reducible refine Mi.wp_andT ?_) | (with_reducible refine Mi.wp_orT ?_) | (with_reducible refine Mi.wp_notT ?_) | (with_reducible refine Mi.wp_ifA ?_) | (with_reducible refine Mi.wp_andA ?_) | (with_reducible refine Mi.wp_orA ?_) | (with_reducible refine Mi.wp_notA ?_) | (with_reducible refine Mi.wp_chainT ?_) | (with_reducible refine Mi.wp_cb ?_) | (with_reducible refine Mi.wp_un ?_) | (with_reducible refine Mi.wp_next ?_) | (with_reducible refine Mi.wp_asgN ?_) | (with_reducible refine Mi.wp_retNS ?_) | (with_reducible refine Mi.wp_drop ?_) | (with_reducible refine Mi.wp_par2 ?_) | (with_reducible refine Mi.wp_asgG ?_) | (with_reducible refine Mi.wp_subG ?_) | (with_reducible refine Mi.wp_appA ?_) | (with_reducible refine Mi.wp_tup ?_) | (with_reducible refine Mi.wp_lst ?_) | (with_reducible refine Mi.wp_new ?_) | (with_reducible refine Mi.wp_slice ?_) | (with_reducible refine Mi.wp_prtN ?_) | (with_reducible refine Mi.wp_prtS ?_) | (with_reducible refine Mi.wp_mt ?_) | (with_reducible refine Mi.wp_mt0 ?_) | (with_reducible refine Mi.wp_seqI ?_) | (with_reducible refine Mi.wp_compN ?_) | (with_reducible refine Mi.wp_fnI ?_) | (with_reducible refine Mi.wp_forS ?_) | (with_reducible refine Mi.wp_tgTup ?_) | (with_reducible refine Mi.wp_gsCons ?_) | (with_reducible refine Mi.wp_gsNil ?_) | (with_reducible refine Mi.wp_callN ?_) | ((with_reducible apply Mi.wp_putV); · rfl) | ((with_reducible apply Mi.wp_putN); · rfl) | (with_reducible refine Mi.wp_bnd ?_) | (with_reducible refine Mi.wp_ret ?_) | (with_reducible refine Mi.wp_opt ?_) | (with_reducible refine Mi.wp_view ?_) | ((with_reducible refine Mi.nm_a ?_); (try (conv => arg 1; simp only [Mi.putCell, Mi.wipeL, Mi.backL, Mi.pick, List.filterMap_cons, List.filterMap_nil, List.filterMap_cons_some, List.map_nil, List.map_cons, List.append_nil, List.nil_append, List.cons_append, List.getElem?_cons_zero, List.getElem?_cons_succ, List.set_cons_zero, List.set_cons_succ, List.getD_cons_zero, List.getD_cons_succ, Int.reduceToNat])); (with_reducible refine Mi.nm_b ?_)) | (with_reducible refine ⟨_, Mi.add_int, ?_⟩) | (with_reducible refine ⟨_, Mi.sub_int, ?_⟩) | (with_reducible refine ⟨_, Mi.lt_int, ?_⟩) | (with_reducible refine ⟨_, Mi.le_int, ?_⟩) | (with_reducible refine ⟨_, Mi.gt_int, ?_⟩) | (with_reducible refine ⟨_, Mi.ge_int, ?_⟩) | (with_reducible refine ⟨_, Mi.neg_int, ?_⟩) | (with_reducible refine ⟨_, Mi.asBl_bl, ?_⟩) | (with_reducible refine ⟨_, Mi.pow_lit (by decide) (by decide), ?_⟩) | (with_reducible refine ⟨_, Mi.mul_int (by decide), ?_⟩) | (with_reducible refine ⟨_, Mi.mod_int (by decide), ?_⟩) | (with_reducible refine ⟨_, Mi.fdiv_int (by decide), ?_⟩) | (with_reducible refine ⟨_, Mi.eqq_int, ?_⟩) | (with_reducible refine ⟨_, Mi.neq_int, ?_⟩) | (with_reducible refine Mi.ift_t ?_) | (with_reducible refine Mi.ift_f ?_) | (with_reducible refine Mi.ift_nt ?_) | (with_reducible refine Mi.ift_nf ?_) | ((with_reducible refine Mi.ift_bt ?_ ?_); · rfl) | ((with_reducible refine Mi.ift_bf ?_ ?_); · rfl) | (refine ⟨_, _, _, _, _, rfl, rfl, rfl, rfl, ?_⟩) | (refine ⟨_, _, rfl, rfl, ?_⟩) | (refine ⟨_, _, rfl, ?_⟩) | (refine ⟨⟨rfl, rfl, rfl⟩, ?_⟩) | (refine ⟨Nat.le_of_ble_eq_true rfl, ?_⟩) | (refine ⟨by decide, ?_⟩) | (refine ⟨_, rfl, ?_⟩) | (refine ⟨rfl, ?_⟩))); (try (with_reducible refine Mi.here ?_)))
      exact h
    | _ => first
      | exact hv.elim
      | (((repeat (first | (with_reducible refine Mi.wp_seq ?_) | (with_reducible refine Mi.wp_ifS ?_) | (with_reducible refine Mi.wp_asg ?_) | (with_reducible refine Mi.wp_retS ?_) | (with_reducible refine Mi.wp_bin ?_) | ((with_reducible apply Mi.wp_var1); · rfl) | (with_reducible refine Mi.wp_C ?_) | (with_reducible refine Mi.wp_asCons ?_) | (with_reducible refine Mi.wp_asNil ?_) | (with_reducible refine Mi.wp_call ?_) | (with_reducible refine Mi.wp_callIO ?_) | (with_reducible refine Mi.wp_args ?_) | (with_reducible refine Mi.wp_frzXn ?_) | (with_reducible refine Mi.wp_frzX0 ?_) | (with_reducible refine Mi.wp_frzXS ?_) | (with_reducible refine Mi.wp_frzsCons ?_) | (with_reducible refine Mi.wp_frzsNil ?_) | (with_reducible refine Mi.wp_frzD ?_) | (with_reducible refine Mi.wp_boolA ?_) | (with_reducible refine Mi.wp_blT ?_) | (with_reducible refine Mi.wp_tst ?_) | (with_reducible refine Mi.wp_andT ?_) | (with_reducible refine Mi.wp_orT ?_) | (with_reducible refine Mi.wp_notT ?_) | (with_reducible refine Mi.wp_ifA ?_) | (with_reducible refine Mi.wp_andA ?_) | (with_reducible refine Mi.wp_orA ?_) | (with_reducible refine Mi.wp_notA ?_) | (with_reducible refine Mi.wp_chainT ?_) | (with_reducible refine Mi.wp_cb ?_) | (with_reducible refine Mi.wp_un ?_) | (with_reducible refine Mi.wp_next ?_) | (with_reducible refine Mi.wp_asgN ?_) | (with_reducible refine Mi.wp_retNS ?_) | (with_reducible refine Mi.wp_drop ?_) | (with_reducible refine Mi.wp_par2 ?_) | (with_reducible refine Mi.wp_asgG ?_) | (with_reducible refine Mi.wp_subG ?_) | (with_reducible refine Mi.wp_appA ?_) | (with_reducible refine Mi.wp_tup ?_) | (with_reducible refine Mi.wp_lst ?_) | (with_reducible refine Mi.wp_new ?_) | (with_reducible refine Mi.wp_slice ?_) | (with_reducible refine Mi.wp_prtN ?_) | (with_reducible refine Mi.wp_prtS ?_) | (with_reducible refine Mi.wp_mt ?_) | (with_reducible refine Mi.wp_mt0 ?_) | (with_reducible refine Mi.wp_seqI ?_) | (with_reducible refine Mi.wp_compN ?_) | (with_reducible refine Mi.wp_fnI ?_) | (with_reducible refine Mi.wp_forS ?_) | (with_reducible refine Mi.wp_tgTup ?_) | (with_reducible refine Mi.wp_gsCons ?_) | (with_reducible refine Mi.wp_gsNil ?_) | (with_reducible refine Mi.wp_callN ?_) | ((with_reducible apply Mi.wp_putV); · rfl) | ((with_reducible apply Mi.wp_putN); · rfl) | (with_reducible refine Mi.wp_bnd ?_) | (with_reducible refine Mi.wp_ret ?_) | (with_reducible refine Mi.wp_opt ?_) | (with_reducible refine Mi.wp_view ?_) | ((with_reducible refine Mi.nm_a ?_); (try (conv => arg 1; simp only [Mi.putCell, Mi.wipeL, Mi.backL, Mi.pick, List.filterMap_cons, List.filterMap_nil, List.filterMap_cons_some, List.map_nil, List.map_cons, List.append_nil, List.nil_append, List.cons_append, List.getElem?_cons_zero, List.getElem?_cons_succ, List.set_cons_zero, List.set_cons_succ, List.getD_cons_zero, List.getD_cons_succ, Int.reduceToNat])); (with_reducible refine Mi.nm_b ?_)) | (with_reducible refine ⟨_, Mi.add_int, ?_⟩) | (with_reducible refine ⟨_, Mi.sub_int, ?_⟩) | (with_reducible refine ⟨_, Mi.lt_int, ?_⟩) | (with_reducible refine ⟨_, Mi.le_int, ?_⟩) | (with_reducible refine ⟨_, Mi.gt_int, ?_⟩) | (with_reducible refine ⟨_, Mi.ge_int, ?_⟩) | (with_reducible refine ⟨_, Mi.neg_int, ?_⟩) | (with_reducible refine ⟨_, Mi.asBl_bl, ?_⟩) | (with_reducible refine ⟨_, Mi.pow_lit (by decide) (by decide), ?_⟩) | (with_reducible refine ⟨_, Mi.mul_int (by decide), ?_⟩) | (with_reducible refine ⟨_, Mi.mod_int (by decide), ?_⟩) | (with_reducible refine ⟨_, Mi.fdiv_int (by decide), ?_⟩) | (with_reducible refine ⟨_, Mi.eqq_int, ?_⟩) | (with_reducible refine ⟨_, Mi.neq_int, ?_⟩) | (with_reducible refine Mi.ift_t ?_) | (with_reducible refine Mi.ift_f ?_) | (with_reducible refine Mi.ift_nt ?_) | (with_reducible refine Mi.ift_nf ?_) | ((with_reducible refine Mi.ift_bt ?_ ?_); · rfl) | ((with_reducible refine Mi.ift_bf ?_ ?_); · rfl) | (refine ⟨_, _, _, _, _, rfl, rfl, rfl, rfl, ?_⟩) | (refine ⟨_, _, rfl, rfl, ?_⟩) | (refine ⟨_, _, rfl, ?_⟩) | (refine ⟨⟨rfl, rfl, rfl⟩, ?_⟩) | (refine ⟨Nat.le_of_ble_eq_true rfl, ?_⟩) | (refine ⟨by decide, ?_⟩) | (refine ⟨_, rfl, ?_⟩) | (refine ⟨rfl, ?_⟩))); (try (with_reducible refine Mi.here ?_)))
         refine fp_imp (main 0 _ (fun a o ha hj => And.intro ha hj)) (fun _ _ _ _ z => z.elim) fun r o h => ?_
         obtain ⟨a, e, h⟩ := h
         ((repeat (first | (with_reducible refine Mi.wp_seq ?_) | (with_reducible refine Mi.wp_ifS ?_) | (with_reducible refine Mi.wp_asg ?_) | (with_reducible refine Mi.wp_retS ?_) | (with_reducible refine Mi.wp_bin ?_) | ((with_reducible apply Mi.wp_var1); · rfl) | (with_reducible refine Mi.wp_C ?_) | (with_reducible refine Mi.wp_asCons ?_) | (with_reducible refine Mi.wp_asNil ?_) | (with_reducible refine Mi.wp_call ?_) | (with_reducible refine Mi.wp_callIO ?_) | (with_reducible refine Mi.wp_args ?_) | (with_reducible refine Mi.wp_frzXn ?_) | (with_reducible refine Mi.wp_frzX0 ?_) | (with_reducible refine Mi.wp_frzXS ?_) | (with_reducible refine Mi.wp_frzsCons ?_) | (with_reducible refine Mi.wp_frzsNil ?_) | (with_reducible refine Mi.wp_frzD ?_) | (with_reducible refine Mi.wp_boolA ?_) | (with_reducible refine Mi.wp_blT ?_) | (with_reducible refine Mi.wp_tst ?_) | (with_reducible refine Mi.wp_andT ?_) | (with_reducible refine Mi.wp_orT ?_) | (with_reducible refine Mi.wp_notT ?_) | (with_reducible refine Mi.wp_ifA ?_) | (with_reducible refine Mi.wp_andA ?_) | (with_reducible refine Mi.wp_orA ?_) | (with_reducible refine Mi.wp_notA ?_) | (with_reducible refine Mi.wp_chainT ?_) | (with_reducible refine Mi.wp_cb ?_) | (with_reducible refine Mi.wp_un ?_) | (with_reducible refine Mi.wp_next ?_) | (with_reducible refine Mi.wp_asgN ?_) | (with_reducible refine Mi.wp_retNS ?_) | (with_reducible refine Mi.wp_drop ?_) | (with_reducible refine Mi.wp_par2 ?_) | (with_reducible refine Mi.wp_asgG ?_) | (with_reducible refine Mi.wp_subG ?_) | (with_reducible refine Mi.wp_appA ?_) | (with_reducible refine Mi.wp_tup ?_) | (with_reducible refine Mi.wp_lst ?_) | (with_reducible refine Mi.wp_new ?_) | (with_reducible refine Mi.wp_slice ?_) | (with_reducible refine Mi.wp_prtN ?_) | (with_reducible refine Mi.wp_prtS ?_) | (with_reducible refine Mi.wp_mt ?_) | (with_reducible refine Mi.wp_mt0 ?_) | (with_reducible refine Mi.wp_seqI ?_) | (with_reducible refine Mi.wp_compN ?_) | (with_reducible refine Mi.wp_fnI ?_) | (with_reducible refine Mi.wp_forS ?_) | (with_reducible refine Mi.wp_tgTup ?_) | (with_reducible refine Mi.wp_gsCons ?_) | (with_reducible refine Mi.wp_gsNil ?_) | (with_reducible refine Mi.wp_callN ?_) | ((with_reducible apply Mi.wp_putV); · rfl) | ((with_reducible apply Mi.wp_putN); · rfl) | (with_reducible refine Mi.wp_bnd ?_) | (with_reducible refine Mi.wp_ret ?_) | (with_reducible refine Mi.wp_opt ?_) | (with_reducible refine Mi.wp_view ?_) | ((with_reducible refine Mi.nm_a ?_); (try (conv => arg 1; simp only [Mi.putCell, Mi.wipeL, Mi.backL, Mi.pick, List.filterMap_cons, List.filterMap_nil, List.filterMap_cons_some, List.map_nil, List.map_cons, List.append_nil, List.nil_append, List.cons_append, List.getElem?_cons_zero, List.getElem?_cons_succ, List.set_cons_zero, List.set_cons_succ, List.getD_cons_zero, List.getD_cons_succ, Int.reduceToNat])); (with_reducible refine Mi.nm_b ?_)) | (with_reducible refine ⟨_, Mi.add_int, ?_⟩) | (with_reducible refine ⟨_, Mi.sub_int, ?_⟩) | (with_reducible refine ⟨_, Mi.lt_int, ?_⟩) | (with_reducible refine ⟨_, Mi.le_int, ?_⟩) | (with_reducible refine ⟨_, Mi.gt_int, ?_⟩) | (with_reducible refine ⟨_, Mi.ge_int, ?_⟩) | (with_reducible refine ⟨_, Mi.neg_int, ?_⟩) | (with_reducible refine ⟨_, Mi.asBl_bl, ?_⟩) | (with_reducible refine ⟨_, Mi.pow_lit (by decide) (by decide), ?_⟩) | (with_reducible refine ⟨_, Mi.mul_int (by decide), ?_⟩) | (with_reducible refine ⟨_, Mi.mod_int (by decide), ?_⟩) | (with_reducible refine ⟨_, Mi.fdiv_int (by decide), ?_⟩) | (with_reducible refine ⟨_, Mi.eqq_int, ?_⟩) | (with_reducible refine ⟨_, Mi.neq_int, ?_⟩) | (with_reducible refine Mi.ift_t ?_) | (with_reducible refine Mi.ift_f ?_) | (with_reducible refine Mi.ift_nt ?_) | (with_reducible refine Mi.ift_nf ?_) | ((with_reducible refine Mi.ift_bt ?_ ?_); · rfl) | ((with_reducible refine Mi.ift_bf ?_ ?_); · rfl) | (refine ⟨_, _, _, _, _, rfl, rfl, rfl, rfl, ?_⟩) | (refine ⟨_, _, rfl, rfl, ?_⟩) | (refine ⟨_, _, rfl, ?_⟩) | (refine ⟨⟨rfl, rfl, rfl⟩, ?_⟩) | (refine ⟨Nat.le_of_ble_eq_true rfl, ?_⟩) | (refine ⟨by decide, ?_⟩) | (refine ⟨_, rfl, ?_⟩) | (refine ⟨rfl, ?_⟩))); (try (with_reducible refine Mi.here ?_)))
         refine ⟨_, e, ?_⟩
         ((repeat (first | (with_reducible refine Mi.wp_seq ?_) | (with_reducible refine Mi.wp_ifS ?_) | (with_reducible refine Mi.wp_asg ?_) | (with_reducible refine Mi.wp_retS ?_) | (with_reducible refine Mi.wp_bin ?_) | ((with_reducible apply Mi.wp_var1); · rfl) | (with_reducible refine Mi.wp_C ?_) | (with_reducible refine Mi.wp_asCons ?_) | (with_reducible refine Mi.wp_asNil ?_) | (with_reducible refine Mi.wp_call ?_) | (with_reducible refine Mi.wp_callIO ?_) | (with_reducible refine Mi.wp_args ?_) | (with_reducible refine Mi.wp_frzXn ?_) | (with_reducible refine Mi.wp_frzX0 ?_) | (with_reducible refine Mi.wp_frzXS ?_) | (with_reducible refine Mi.wp_frzsCons ?_) | (with_reducible refine Mi.wp_frzsNil ?_) | (with_reducible refine Mi.wp_frzD ?_) | (with_reducible refine Mi.wp_boolA ?_) | (with_reducible refine Mi.wp_blT ?_) | (with_reducible refine Mi.wp_tst ?_) | (with_reducible refine Mi.wp_andT ?_) | (with_reducible refine Mi.wp_orT ?_) | (with_reducible refine Mi.wp_notT ?_) | (with_reducible refine Mi.wp_ifA ?_) | (with_reducible refine Mi.wp_andA ?_) | (with_reducible refine Mi.wp_orA ?_) | (with_reducible refine Mi.wp_notA ?_) | (with_reducible refine Mi.wp_chainT ?_) | (with_reducible refine Mi.wp_cb ?_) | (with_reducible refine Mi.wp_un ?_) | (with_reducible refine Mi.wp_next ?_) | (with_reducible refine Mi.wp_asgN ?_) | (with_reducible refine Mi.wp_retNS ?_) | (with_reducible refine Mi.wp_drop ?_) | (with_reducible refine Mi.wp_par2 ?_) | (with_reducible refine Mi.wp_asgG ?_) | (with_reducible refine Mi.wp_subG ?_) | (with_reducible refine Mi.wp_appA ?_) | (with_reducible refine Mi.wp_tup ?_) | (with_reducible refine Mi.wp_lst ?_) | (with_reducible refine Mi.wp_new ?_) | (with_reducible refine Mi.wp_slice ?_) | (with_reducible refine Mi.wp_prtN ?_) | (with_reducible refine Mi.wp_prtS ?_) | (with_reducible refine Mi.wp_mt ?_) | (with_reducible refine Mi.wp_mt0 ?_) | (with_reducible refine Mi.wp_seqI ?_) | (with_reducible refine Mi.wp_compN ?_) | (with_reducible refine Mi.wp_fnI ?_) | (with_reducible refine Mi.wp_forS ?_) | (with_reducible refine Mi.wp_tgTup ?_) | (with_reducible refine Mi.wp_gsCons ?_) | (with_reducible refine Mi.wp_gsNil ?_) | (with_reducible refine Mi.wp_callN ?_) | ((with_reducible apply Mi.wp_putV); · rfl) | ((with_reducible apply Mi.wp_putN); · rfl) | (with_reducible refine Mi.wp_bnd ?_) | (with_reducible refine Mi.wp_ret ?_) | (with_reducible refine Mi.wp_opt ?_) | (with_reducible refine Mi.wp_view ?_) | ((with_reducible refine Mi.nm_a ?_); (try (conv => arg 1; simp only [Mi.putCell, Mi.wipeL, Mi.backL, Mi.pick, List.filterMap_cons, List.filterMap_nil, List.filterMap_cons_some, List.map_nil, List.map_cons, List.append_nil, List.nil_append, List.cons_append, List.getElem?_cons_zero, List.getElem?_cons_succ, List.set_cons_zero, List.set_cons_succ, List.getD_cons_zero, List.getD_cons_succ, Int.reduceToNat])); (with_reducible refine Mi.nm_b ?_)) | (with_reducible refine ⟨_, Mi.add_int, ?_⟩) | (with_reducible refine ⟨_, Mi.sub_int, ?_⟩) | (with_reducible refine ⟨_, Mi.lt_int, ?_⟩) | (with_reducible refine ⟨_, Mi.le_int, ?_⟩) | (with_reducible refine ⟨_, Mi.gt_int, ?_⟩) | (with_reducible refine ⟨_, Mi.ge_int, ?_⟩) | (with_reducible refine ⟨_, Mi.neg_int, ?_⟩) | (with_reducible refine ⟨_, Mi.asBl_bl, ?_⟩) | (with_reducible refine ⟨_, Mi.pow_lit (by decide) (by decide), ?_⟩) | (with_reducible refine ⟨_, Mi.mul_int (by decide), ?_⟩) | (with_reducible refine ⟨_, Mi.mod_int (by decide), ?_⟩) | (with_reducible refine ⟨_, Mi.fdiv_int (by decide), ?_⟩) | (with_reducible refine ⟨_, Mi.eqq_int, ?_⟩) | (with_reducible refine ⟨_, Mi.neq_int, ?_⟩) | (with_reducible refine Mi.ift_t ?_) | (with_reducible refine Mi.ift_f ?_) | (with_reducible refine Mi.ift_nt ?_) | (with_reducible refine Mi.ift_nf ?_) | ((with_reducible refine Mi.ift_bt ?_ ?_); · rfl) | ((with_reducible refine Mi.ift_bf ?_ ?_); · rfl) | (refine ⟨_, _, _, _, _, rfl, rfl, rfl, rfl, ?_⟩) | (refine ⟨_, _, rfl, rfl, ?_⟩) | (refine ⟨_, _, rfl, ?_⟩) | (refine ⟨⟨rfl, rfl, rfl⟩, ?_⟩) | (refine ⟨Nat.le_of_ble_eq_true rfl, ?_⟩) | (refine ⟨by decide, ?_⟩) | (refine ⟨_, rfl, ?_⟩) | (refine ⟨rfl, ?_⟩))); (try (with_reducible refine Mi.here ?_)))
         exact h)
  obtain ⟨d, o, e, h⟩ := fp_ex z
  exact ⟨d, o, e, h⟩
theorem fp_bound {k : Nat} {j d : D} {E : Str → List Str → List D → D → Prop} {Q : D → D → Prop} (hj : Jg k j) (hv : VOk d) (hk : k + 10 < 2 ^ 40) (h : ∀ a o, BOk a → Jg (k + 1) o → Q a o) : Fp (f__law_bound [j, d]) E Q := by
  obtain ⟨a, o, e, h1, h2⟩ := bound_ok hj hv hk
  exact fp_ok e (h a o h1 h2)
theorem right_ok {k : Nat} {j d : D} (hj : Jg k j) (hv : VOk d) (hk : k + 20 < 2 ^ 40) : ∃ o, f__law_within_right [j, d] = .ok (.bl true) o ∧ Jg (k + 2) o := by
  have z : Fp (f__law_within_right [j, d]) noX fun r o => r = .bl true ∧ Jg (k + 2) o := by
    refine fp_run (ρ := [.cel true _, .val _, .nil, .nil, .nil, .nil]) rfl ?_
    unfold m__law_within_right
    ((repeat (first | (with_reducible refine Mi.wp_seq ?_) | (with_reducible refine Mi.wp_ifS ?_) | (with_reducible refine Mi.wp_asg ?_) | (with_reducible refine Mi.wp_retS ?_) | (with_reducible refine Mi.wp_bin ?_) | ((with_reducible apply Mi.wp_var1); · rfl) | (with_reducible refine Mi.wp_C ?_) | (with_reducible refine Mi.wp_asCons ?_) | (with_reducible refine Mi.wp_asNil ?_) | (with_reducible refine Mi.wp_call ?_) | (with_reducible refine Mi.wp_callIO ?_) | (with_reducible refine Mi.wp_args ?_) | (with_reducible refine Mi.wp_frzXn ?_) | (with_reducible refine Mi.wp_frzX0 ?_) | (with_reducible refine Mi.wp_frzXS ?_) | (with_reducible refine Mi.wp_frzsCons ?_) | (with_reducible refine Mi.wp_frzsNil ?_) | (with_reducible refine Mi.wp_frzD ?_) | (with_reducible refine Mi.wp_boolA ?_) | (with_reducible refine Mi.wp_blT ?_) | (with_reducible refine Mi.wp_tst ?_) | (with_reducible refine Mi.wp_andT ?_) | (with_reducible refine Mi.wp_orT ?_) | (with_reducible refine Mi.wp_notT ?_) | (with_reducible refine Mi.wp_ifA ?_) | (with_reducible refine Mi.wp_andA ?_) | (with_reducible refine Mi.wp_orA ?_) | (with_reducible refine Mi.wp_notA ?_) | (with_reducible refine Mi.wp_chainT ?_) | (with_reducible refine Mi.wp_cb ?_) | (with_reducible refine Mi.wp_un ?_) | (with_reducible refine Mi.wp_next ?_) | (with_reducible refine Mi.wp_asgN ?_) | (with_reducible refine Mi.wp_retNS ?_) | (with_reducible refine Mi.wp_drop ?_) | (with_reducible refine Mi.wp_par2 ?_) | (with_reducible refine Mi.wp_asgG ?_) | (with_reducible refine Mi.wp_subG ?_) | (with_reducible refine Mi.wp_appA ?_) | (with_reducible refine Mi.wp_tup ?_) | (with_reducible refine Mi.wp_lst ?_) | (with_reducible refine Mi.wp_new ?_) | (with_reducible refine Mi.wp_slice ?_) | (with_reducible refine Mi.wp_prtN ?_) | (with_reducible refine Mi.wp_prtS ?_) | (with_reducible refine Mi.wp_mt ?_) | (with_reducible refine Mi.wp_mt0 ?_) | (with_reducible refine Mi.wp_seqI ?_) | (with_reducible refine Mi.wp_compN ?_) | (with_reducible refine Mi.wp_fnI ?_) | (with_reducible refine Mi.wp_forS ?_) | (with_reducible refine Mi.wp_tgTup ?_) | (with_reducible refine Mi.wp_gsCons ?_) | (with_reducible refine Mi.wp_gsNil ?_) | (with_reducible refine Mi.wp_callN ?_) | ((with_reducible apply Mi.wp_putV); · rfl) | ((with_reducible apply Mi.wp_putN); · rfl) | (with_reducible refine Mi.wp_bnd ?_) | (with_reducible refine Mi.wp_ret ?_) | (with_reducible refine Mi.wp_opt ?_) | (with_reducible refine Mi.wp_view ?_) | ((with_reducible refine Mi.nm_a ?_); (try (conv => arg 1; simp only [Mi.putCell, Mi.wipeL, Mi.backL, Mi.pick, List.filterMap_cons, List.filterMap_nil, List.filterMap_cons_some, List.map_nil, List.map_cons, List.append_nil, List.nil_append, List.cons_append, List.getElem?_cons_zero, List.getElem?_cons_succ, List.set_cons_zero, List.set_cons_succ, List.getD_cons_zero, List.getD_cons_succ, Int.reduceToNat])); (with_reducible refine Mi.nm_b ?_)) | (with_reducible refine ⟨_, Mi.add_int, ?_⟩) | (with_reducible refine ⟨_, Mi.sub_int, ?_⟩) | (with_reducible refine ⟨_, Mi.lt_int, ?_⟩) | (with_reducible refine ⟨_, Mi.le_int, ?_⟩) | (with_reducible refine ⟨_, Mi.gt_int, ?_⟩) | (with_reducible refine ⟨_, Mi.ge_int, ?_⟩) | (with_reducible refine ⟨_, Mi.neg_int, ?_⟩) | (with_reducible refine ⟨_, Mi.asBl_bl, ?_⟩) | (with_reducible refine ⟨_, Mi.pow_lit (by decide) (by decide), ?_⟩) | (with_reducible refine ⟨_, Mi.mul_int (by decide), ?_⟩) | (with_reducible refine ⟨_, Mi.mod_int (by decide), ?_⟩) | (with_reducible refine ⟨_, Mi.fdiv_int (by decide), ?_⟩) | (with_reducible refine ⟨_, Mi.eqq_int, ?_⟩) | (with_reducible refine ⟨_, Mi.neq_int, ?_⟩) | (with_reducible refine Mi.ift_t ?_) | (with_reducible refine Mi.ift_f ?_) | (with_reducible refine Mi.ift_nt ?_) | (with_reducible refine Mi.ift_nf ?_) | ((with_reducible refine Mi.ift_bt ?_ ?_); · rfl) | ((with_reducible refine Mi.ift_bf ?_ ?_); · rfl) | (refine ⟨_, _, _, _, _, rfl, rfl, rfl, rfl, ?_⟩) | (refine ⟨_, _, rfl, rfl, ?_⟩) | (refine ⟨_, _, rfl, ?_⟩) | (refine ⟨⟨rfl, rfl, rfl⟩, ?_⟩) | (refine ⟨Nat.le_of_ble_eq_true rfl, ?_⟩) | (refine ⟨by decide, ?_⟩) | (refine ⟨_, rfl, ?_⟩) | (refine ⟨rfl, ?_⟩))); (try (with_reducible refine Mi.here ?_)))
    refine fp_bound hj hv (by omega) fun a o1 ha hj => ?_
    ((repeat (first | (with_reducible refine Mi.wp_seq ?_) | (with_reducible refine Mi.wp_ifS ?_) | (with_reducible refine Mi.wp_asg ?_) | (with_reducible refine Mi.wp_retS ?_) | (with_reducible refine Mi.wp_bin ?_) | ((with_reducible apply Mi.wp_var1); · rfl) | (with_reducible refine Mi.wp_C ?_) | (with_reducible refine Mi.wp_asCons ?_) | (with_reducible refine Mi.wp_asNil ?_) | (with_reducible refine Mi.wp_call ?_) | (with_reducible refine Mi.wp_callIO ?_) | (with_reducible refine Mi.wp_args ?_) | (with_reducible refine Mi.wp_frzXn ?_) | (with_reducible refine Mi.wp_frzX0 ?_) | (with_reducible refine Mi.wp_frzXS ?_) | (with_reducible refine Mi.wp_frzsCons ?_) | (with_reducible refine Mi.wp_frzsNil ?_) | (with_reducible refine Mi.wp_frzD ?_) | (with_reducible refine Mi.wp_boolA ?_) | (with_reducible refine Mi.wp_blT ?_) | (with_reducible refine Mi.wp_tst ?_) | (with_reducible refine Mi.wp_andT ?_) | (with_reducible refine Mi.wp_orT ?_) | (with_reducible refine Mi.wp_notT ?_) | (with_reducible refine Mi.wp_ifA ?_) | (with_reducible refine Mi.wp_andA ?_) | (with_reducible refine Mi.wp_orA ?_) | (with_reducible refine Mi.wp_notA ?_) | (with_reducible refine Mi.wp_chainT ?_) | (with_reducible refine Mi.wp_cb ?_) | (with_reducible refine Mi.wp_un ?_) | (with_reducible refine Mi.wp_next ?_) | (with_reducible refine Mi.wp_asgN ?_) | (with_reducible refine Mi.wp_retNS ?_) | (with_reducible refine Mi.wp_drop ?_) | (with_reducible refine Mi.wp_par2 ?_) | (with_reducible refine Mi.wp_asgG ?_) | (with_reducible refine Mi.wp_subG ?_) | (with_reducible refine Mi.wp_appA ?_) | (with_reducible refine Mi.wp_tup ?_) | (with_reducible refine Mi.wp_lst ?_) | (with_reducible refine Mi.wp_new ?_) | (with_reducible refine Mi.wp_slice ?_) | (with_reducible refine Mi.wp_prtN ?_) | (with_reducible refine Mi.wp_prtS ?_) | (with_reducible refine Mi.wp_mt ?_) | (with_reducible refine Mi.wp_mt0 ?_) | (with_reducible refine Mi.wp_seqI ?_) | (with_reducible refine Mi.wp_compN ?_) | (with_reducible refine Mi.wp_fnI ?_) | (with_reducible refine Mi.wp_forS ?_) | (with_reducible refine Mi.wp_tgTup ?_) | (with_reducible refine Mi.wp_gsCons ?_) | (with_reducible refine Mi.wp_gsNil ?_) | (with_reducible refine Mi.wp_callN ?_) | ((with_reducible apply Mi.wp_putV); · rfl) | ((with_reducible apply Mi.wp_putN); · rfl) | (with_reducible refine Mi.wp_bnd ?_) | (with_reducible refine Mi.wp_ret ?_) | (with_reducible refine Mi.wp_opt ?_) | (with_reducible refine Mi.wp_view ?_) | ((with_reducible refine Mi.nm_a ?_); (try (conv => arg 1; simp only [Mi.putCell, Mi.wipeL, Mi.backL, Mi.pick, List.filterMap_cons, List.filterMap_nil, List.filterMap_cons_some, List.map_nil, List.map_cons, List.append_nil, List.nil_append, List.cons_append, List.getElem?_cons_zero, List.getElem?_cons_succ, List.set_cons_zero, List.set_cons_succ, List.getD_cons_zero, List.getD_cons_succ, Int.reduceToNat])); (with_reducible refine Mi.nm_b ?_)) | (with_reducible refine ⟨_, Mi.add_int, ?_⟩) | (with_reducible refine ⟨_, Mi.sub_int, ?_⟩) | (with_reducible refine ⟨_, Mi.lt_int, ?_⟩) | (with_reducible refine ⟨_, Mi.le_int, ?_⟩) | (with_reducible refine ⟨_, Mi.gt_int, ?_⟩) | (with_reducible refine ⟨_, Mi.ge_int, ?_⟩) | (with_reducible refine ⟨_, Mi.neg_int, ?_⟩) | (with_reducible refine ⟨_, Mi.asBl_bl, ?_⟩) | (with_reducible refine ⟨_, Mi.pow_lit (by decide) (by decide), ?_⟩) | (with_reducible refine ⟨_, Mi.mul_int (by decide), ?_⟩) | (with_reducible refine ⟨_, Mi.mod_int (by decide), ?_⟩) | (with_reducible refine ⟨_, Mi.fdiv_int (by decide), ?_⟩) | (with_reducible refine ⟨_, Mi.eqq_int, ?_⟩) | (with_reducible refine ⟨_, Mi.neq_int, ?_⟩) | (with_reducible refine Mi.ift_t ?_) | (with_reducible refine Mi.ift_f ?_) | (with_reducible refine Mi.ift_nt ?_) | (with_reducible refine Mi.ift_nf ?_) | ((with_reducible refine Mi.ift_bt ?_ ?_); · rfl) | ((with_reducible refine Mi.ift_bf ?_ ?_); · rfl) | (refine ⟨_, _, _, _, _, rfl, rfl, rfl, rfl, ?_⟩) | (refine ⟨_, _, rfl, rfl, ?_⟩) | (refine ⟨_, _, rfl, ?_⟩) | (refine ⟨⟨rfl, rfl, rfl⟩, ?_⟩) | (refine ⟨Nat.le_of_ble_eq_true rfl, ?_⟩) | (refine ⟨by decide, ?_⟩) | (refine ⟨_, rfl, ?_⟩) | (refine ⟨rfl, ?_⟩))); (try (with_reducible refine Mi.here ?_)))
    refine fp_bound hj hv (by omega) fun b o2 hb hj => ?_
    ((repeat (first | (with_reducible refine Mi.wp_seq ?_) | (with_reducible refine Mi.wp_ifS ?_) | (with_reducible refine Mi.wp_asg ?_) | (with_reducible refine Mi.wp_retS ?_) | (with_reducible refine Mi.wp_bin ?_) | ((with_reducible apply Mi.wp_var1); · rfl) | (with_reducible refine Mi.wp_C ?_) | (with_reducible refine Mi.wp_asCons ?_) | (with_reducible refine Mi.wp_asNil ?_) | (with_reducible refine Mi.wp_call ?_) | (with_reducible refine Mi.wp_callIO ?_) | (with_reducible refine Mi.wp_args ?_) | (with_reducible refine Mi.wp_frzXn ?_) | (with_reducible refine Mi.wp_frzX0 ?_) | (with_reducible refine Mi.wp_frzXS ?_) | (with_reducible refine Mi.wp_frzsCons ?_) | (with_reducible refine Mi.wp_frzsNil ?_) | (with_reducible refine Mi.wp_frzD ?_) | (with_reducible refine Mi.wp_boolA ?_) | (with_reducible refine Mi.wp_blT ?_) | (with_reducible refine Mi.wp_tst ?_) | (with_reducible refine Mi.wp_andT ?_) | (with_reducible refine Mi.wp_orT ?_) | (with_reducible refine Mi.wp_notT ?_) | (with_reducible refine Mi.wp_ifA ?_) | (with_reducible refine Mi.wp_andA ?_) | (with_reducible refine Mi.wp_orA ?_) | (with_reducible refine Mi.wp_notA ?_) | (with_reducible refine Mi.wp_chainT ?_) | (with_reducible refine Mi.wp_cb ?_) | (with_reducible refine Mi.wp_un ?_) | (with_reducible refine Mi.wp_next ?_) | (with_reducible refine Mi.wp_asgN ?_) | (with_reducible refine Mi.wp_retNS ?_) | (with_reducible refine Mi.wp_drop ?_) | (with_reducible refine Mi.wp_par2 ?_) | (with_reducible refine Mi.wp_asgG ?_) | (with_reducible refine Mi.wp_subG ?_) | (with_reducible refine Mi.wp_appA ?_) | (with_reducible refine Mi.wp_tup ?_) | (with_reducible refine Mi.wp_lst ?_) | (with_reducible refine Mi.wp_new ?_) | (with_reducible refine Mi.wp_slice ?_) | (with_reducible refine Mi.wp_prtN ?_) | (with_reducible refine Mi.wp_prtS ?_) | (with_reducible refine Mi.wp_mt ?_) | (with_reducible refine Mi.wp_mt0 ?_) | (with_reducible refine Mi.wp_seqI ?_) | (with_reducible refine Mi.wp_compN ?_) | (with_reducible refine Mi.wp_fnI ?_) | (with_reducible refine Mi.wp_forS ?_) | (with_reducible refine Mi.wp_tgTup ?_) | (with_reducible refine Mi.wp_gsCons ?_) | (with_reducible refine Mi.wp_gsNil ?_) | (with_reducible refine Mi.wp_callN ?_) | ((with_reducible apply Mi.wp_putV); · rfl) | ((with_reducible apply Mi.wp_putN); · rfl) | (with_reducible refine Mi.wp_bnd ?_) | (with_reducible refine Mi.wp_ret ?_) | (with_reducible refine Mi.wp_opt ?_) | (with_reducible refine Mi.wp_view ?_) | ((with_reducible refine Mi.nm_a ?_); (try (conv => arg 1; simp only [Mi.putCell, Mi.wipeL, Mi.backL, Mi.pick, List.filterMap_cons, List.filterMap_nil, List.filterMap_cons_some, List.map_nil, List.map_cons, List.append_nil, List.nil_append, List.cons_append, List.getElem?_cons_zero, List.getElem?_cons_succ, List.set_cons_zero, List.set_cons_succ, List.getD_cons_zero, List.getD_cons_succ, Int.reduceToNat])); (with_reducible refine Mi.nm_b ?_)) | (with_reducible refine ⟨_, Mi.add_int, ?_⟩) | (with_reducible refine ⟨_, Mi.sub_int, ?_⟩) | (with_reducible refine ⟨_, Mi.lt_int, ?_⟩) | (with_reducible refine ⟨_, Mi.le_int, ?_⟩) | (with_reducible refine ⟨_, Mi.gt_int, ?_⟩) | (with_reducible refine ⟨_, Mi.ge_int, ?_⟩) | (with_reducible refine ⟨_, Mi.neg_int, ?_⟩) | (with_reducible refine ⟨_, Mi.asBl_bl, ?_⟩) | (with_reducible refine ⟨_, Mi.pow_lit (by decide) (by decide), ?_⟩) | (with_reducible refine ⟨_, Mi.mul_int (by decide), ?_⟩) | (with_reducible refine ⟨_, Mi.mod_int (by decide), ?_⟩) | (with_reducible refine ⟨_, Mi.fdiv_int (by decide), ?_⟩) | (with_reducible refine ⟨_, Mi.eqq_int, ?_⟩) | (with_reducible refine ⟨_, Mi.neq_int, ?_⟩) | (with_reducible refine Mi.ift_t ?_) | (with_reducible refine Mi.ift_f ?_) | (with_reducible refine Mi.ift_nt ?_) | (with_reducible refine Mi.ift_nf ?_) | ((with_reducible refine Mi.ift_bt ?_ ?_); · rfl) | ((with_reducible refine Mi.ift_bf ?_ ?_); · rfl) | (refine ⟨_, _, _, _, _, rfl, rfl, rfl, rfl, ?_⟩) | (refine ⟨_, _, rfl, rfl, ?_⟩) | (refine ⟨_, _, rfl, ?_⟩) | (refine ⟨⟨rfl, rfl, rfl⟩, ?_⟩) | (refine ⟨Nat.le_of_ble_eq_true rfl, ?_⟩) | (refine ⟨by decide, ?_⟩) | (refine ⟨_, rfl, ?_⟩) | (refine ⟨rfl, ?_⟩))); (try (with_reducible refine Mi.here ?_)))
    refine fp_ok (num_ok hv) ?_
    ((repeat (first | (with_reducible refine Mi.wp_seq ?_) | (with_reducible refine Mi.wp_ifS ?_) | (with_reducible refine Mi.wp_asg ?_) | (with_reducible refine Mi.wp_retS ?_) | (with_reducible refine Mi.wp_bin ?_) | ((with_reducible apply Mi.wp_var1); · rfl) | (with_reducible refine Mi.wp_C ?_) | (with_reducible refine Mi.wp_asCons ?_) | (with_reducible refine Mi.wp_asNil ?_) | (with_reducible refine Mi.wp_call ?_) | (with_reducible refine Mi.wp_callIO ?_) | (with_reducible refine Mi.wp_args ?_) | (with_reducible refine Mi.wp_frzXn ?_) | (with_reducible refine Mi.wp_frzX0 ?_) | (with_reducible refine Mi.wp_frzXS ?_) | (with_reducible refine Mi.wp_frzsCons ?_) | (with_reducible refine Mi.wp_frzsNil ?_) | (with_reducible refine Mi.wp_frzD ?_) | (with_reducible refine Mi.wp_boolA ?_) | (with_reducible refine Mi.wp_blT ?_) | (with_reducible refine Mi.wp_tst ?_) | (with_reducible refine Mi.wp_andT ?_) | (with_reducible refine Mi.wp_orT ?_) | (with_reducible refine Mi.wp_notT ?_) | (with_reducible refine Mi.wp_ifA ?_) | (with_reducible refine Mi.wp_andA ?_) | (with_reducible refine Mi.wp_orA ?_) | (with_reducible refine Mi.wp_notA ?_) | (with_reducible refine Mi.wp_chainT ?_) | (with_reducible refine Mi.wp_cb ?_) | (with_reducible refine Mi.wp_un ?_) | (with_reducible refine Mi.wp_next ?_) | (with_reducible refine Mi.wp_asgN ?_) | (with_reducible refine Mi.wp_retNS ?_) | (with_reducible refine Mi.wp_drop ?_) | (with_reducible refine Mi.wp_par2 ?_) | (with_reducible refine Mi.wp_asgG ?_) | (with_reducible refine Mi.wp_subG ?_) | (with_reducible refine Mi.wp_appA ?_) | (with_reducible refine Mi.wp_tup ?_) | (with_reducible refine Mi.wp_lst ?_) | (with_reducible refine Mi.wp_new ?_) | (with_reducible refine Mi.wp_slice ?_) | (with_reducible refine Mi.wp_prtN ?_) | (with_reducible refine Mi.wp_prtS ?_) | (with_reducible refine Mi.wp_mt ?_) | (with_reducible refine Mi.wp_mt0 ?_) | (with_reducible refine Mi.wp_seqI ?_) | (with_reducible refine Mi.wp_compN ?_) | (with_reducible refine Mi.wp_fnI ?_) | (with_reducible refine Mi.wp_forS ?_) | (with_reducible refine Mi.wp_tgTup ?_) | (with_reducible refine Mi.wp_gsCons ?_) | (with_reducible refine Mi.wp_gsNil ?_) | (with_reducible refine Mi.wp_callN ?_) | ((with_reducible apply Mi.wp_putV); · rfl) | ((with_reducible apply Mi.wp_putN); · rfl) | (with_reducible refine Mi.wp_bnd ?_) | (with_reducible refine Mi.wp_ret ?_) | (with_reducible refine Mi.wp_opt ?_) | (with_reducible refine Mi.wp_view ?_) | ((with_reducible refine Mi.nm_a ?_); (try (conv => arg 1; simp only [Mi.putCell, Mi.wipeL, Mi.backL, Mi.pick, List.filterMap_cons, List.filterMap_nil, List.filterMap_cons_some, List.map_nil, List.map_cons, List.append_nil, List.nil_append, List.cons_append, List.getElem?_cons_zero, List.getElem?_cons_succ, List.set_cons_zero, List.set_cons_succ, List.getD_cons_zero, List.getD_cons_succ, Int.reduceToNat])); (with_reducible refine Mi.nm_b ?_)) | (with_reducible refine ⟨_, Mi.add_int, ?_⟩) | (with_reducible refine ⟨_, Mi.sub_int, ?_⟩) | (with_reducible refine ⟨_, Mi.lt_int, ?_⟩) | (with_reducible refine ⟨_, Mi.le_int, ?_⟩) | (with_reducible refine ⟨_, Mi.gt_int, ?_⟩) | (with_reducible refine ⟨_, Mi.ge_int, ?_⟩) | (with_reducible refine ⟨_, Mi.neg_int, ?_⟩) | (with_reducible refine ⟨_, Mi.asBl_bl, ?_⟩) | (with_reducible refine ⟨_, Mi.pow_lit (by decide) (by decide), ?_⟩) | (with_reducible refine ⟨_, Mi.mul_int (by decide), ?_⟩) | (with_reducible refine ⟨_, Mi.mod_int (by decide), ?_⟩) | (with_reducible refine ⟨_, Mi.fdiv_int (by decide), ?_⟩) | (with_reducible refine ⟨_, Mi.eqq_int, ?_⟩) | (with_reducible refine ⟨_, Mi.neq_int, ?_⟩) | (with_reducible refine Mi.ift_t ?_) | (with_reducible refine Mi.ift_f ?_) | (with_reducible refine Mi.ift_nt ?_) | (with_reducible refine Mi.ift_nf ?_) | ((with_reducible refine Mi.ift_bt ?_ ?_); · rfl) | ((with_reducible refine Mi.ift_bf ?_ ?_); · rfl) | (refine ⟨_, _, _, _, _, rfl, rfl, rfl, rfl, ?_⟩) | (refine ⟨_, _, rfl, rfl, ?_⟩) | (refine ⟨_, _, rfl, ?_⟩) | (refine ⟨⟨rfl, rfl, rfl⟩, ?_⟩) | (refine ⟨Nat.le_of_ble_eq_true rfl, ?_⟩) | (refine ⟨by decide, ?_⟩) | (refine ⟨_, rfl, ?_⟩) | (refine ⟨rfl, ?_⟩))); (try (with_reducible refine Mi.here ?_)))
    cases d with
    | int i => cases a with
      | non => cases b with
        | non =>
          ((repeat' (first | (with_reducible refine Mi.wp_seq ?_) | (with_reducible refine Mi.wp_ifS ?_) | (with_reducible refine Mi.wp_asg ?_) | (with_reducible refine Mi.wp_retS ?_) | (with_reducible refine Mi.wp_bin ?_) | ((with_reducible apply Mi.wp_var1); · rfl) | (with_reducible refine Mi.wp_C ?_) | (with_reducible refine Mi.wp_asCons ?_) | (with_reducible refine Mi.wp_asNil ?_) | (with_reducible refine Mi.wp_call ?_) | (with_reducible refine Mi.wp_callIO ?_) | (with_reducible refine Mi.wp_args ?_) | (with_reducible refine Mi.wp_frzXn ?_) | (with_reducible refine Mi.wp_frzX0 ?_) | (with_reducible refine Mi.wp_frzXS ?_) | (with_reducible refine Mi.wp_frzsCons ?_) | (with_reducible refine Mi.wp_frzsNil ?_) | (with_reducible refine Mi.wp_frzD ?_) | (with_reducible refine Mi.wp_boolA ?_) | (with_reducible refine Mi.wp_blT ?_) | (with_reducible refine Mi.wp_tst ?_) | (with_reducible refine Mi.wp_andT ?_) | (with_reducible refine Mi.wp_orT ?_) | (with_reducible refine Mi.wp_notT ?_) | (with_reducible refine Mi.wp_ifA ?_) | (with_reducible refine Mi.wp_andA ?_) | (with_reducible refine Mi.wp_orA ?_) | (with_reducible refine Mi.wp_notA ?_) | (with_reducible refine Mi.wp_chainT ?_) | (with_reducible refine Mi.wp_cb ?_) | (with_reducible refine Mi.wp_un ?_) | (with_reducible refine Mi.wp_next ?_) | (with_reducible refine Mi.wp_asgN ?_) | (with_reducible refine Mi.wp_retNS ?_) | (with_reducible refine Mi.wp_drop ?_) | (with_reducible refine Mi.wp_par2 ?_) | (with_reducible refine Mi.wp_asgG ?_) | (with_reducible refine Mi.wp_subG ?_) | (with_reducible refine Mi.wp_appA ?_) | (with_reducible refine Mi.wp_tup ?_) | (with_reducible refine Mi.wp_lst ?_) | (with_reducible refine Mi.wp_new ?_) | (with_reducible refine Mi.wp_slice ?_) | (with_reducible refine Mi.wp_prtN ?_) | (with_reducible refine Mi.wp_prtS ?_) | (with_reducible refine Mi.wp_mt ?_) | (with_reducible refine Mi.wp_mt0 ?_) | (with_reducible refine Mi.wp_seqI ?_) | (with_reducible refine Mi.wp_compN ?_) | (with_reducible refine Mi.wp_fnI ?_) | (with_reducible refine Mi.wp_forS ?_) | (with_reducible refine Mi.wp_tgTup ?_) | (with_reducible refine Mi.wp_gsCons ?_) | (with_reducible refine Mi.wp_gsNil ?_) | (with_reducible refine Mi.wp_callN ?_) | ((with_reducible apply Mi.wp_putV); · rfl) | ((with_reducible apply Mi.wp_putN); · rfl) | (with_reducible refine Mi.wp_bnd ?_) | (with_reducible refine Mi.wp_ret ?_) | (with_reducible refine Mi.wp_opt ?_) | (with_reducible refine Mi.wp_view ?_) | ((with_reducible refine Mi.nm_a ?_); (try (conv => arg 1; simp only [Mi.putCell, Mi.wipeL, Mi.backL, Mi.pick, List.filterMap_cons, List.filterMap_nil, List.filterMap_cons_some, List.map_nil, List.map_cons, List.append_nil, List.nil_append, List.cons_append, List.getElem?_cons_zero, List.getElem?_cons_succ, List.set_cons_zero, List.set_cons_succ, List.getD_cons_zero, List.getD_cons_succ, Int.reduceToNat])); (with_reducible refine Mi.nm_b ?_)) | (with_reducible refine ⟨_, Mi.add_int, ?_⟩) | (with_reducible refine ⟨_, Mi.sub_int, ?_⟩) | (with_reducible refine ⟨_, Mi.lt_int, ?_⟩) | (with_reducible refine ⟨_, Mi.le_int, ?_⟩) | (with_reducible refine ⟨_, Mi.gt_int, ?_⟩) | (with_reducible refine ⟨_, Mi.ge_int, ?_⟩) | (with_reducible refine ⟨_, Mi.neg_int, ?_⟩) | (with_reducible refine ⟨_, Mi.asBl_bl, ?_⟩) | (with_reducible refine ⟨_, Mi.pow_lit (by decide) (by decide), ?_⟩) | (with_reducible refine ⟨_, Mi.mul_int (by decide), ?_⟩) | (with_reducible refine ⟨_, Mi.mod_int (by decide), ?_⟩) | (with_reducible refine ⟨_, Mi.fdiv_int (by decide), ?_⟩) | (with_reducible refine ⟨_, Mi.eqq_int, ?_⟩) | (with_reducible refine ⟨_, Mi.neq_int, ?_⟩) | (with_reducible refine Mi.ift_t ?_) | (with_reducible refine Mi.ift_f ?_) | (with_reducible refine Mi.ift_nt ?_) | (with_reducible refine Mi.ift_nf ?_) | ((with_reducible refine Mi.ift_bt ?_ ?_); · rfl) | ((with_reducible refine Mi.ift_bf ?_ ?_); · rfl) | (refine ⟨_, _, _, _, _, rfl, rfl, rfl, rfl, ?_⟩) | (refine ⟨_, _, rfl, rfl, ?_⟩) | (refine ⟨_, _, rfl, ?_⟩) | (refine ⟨⟨rfl, rfl, rfl⟩, ?_⟩) | (refine ⟨Nat.le_of_ble_eq_true rfl, ?_⟩) | (refine ⟨by decide, ?_⟩) | (refine ⟨_, rfl, ?_⟩) | (refine ⟨rfl, ?_⟩) | (with_reducible refine ⟨fun hh => ?_, fun hh => ?_⟩) | fail)); (all_goals (try (with_reducible refine Mi.here ?_))))
          all_goals (refine fp_ok (within_ok hv ha hb) ?_)
          ((repeat' (first | (with_reducible refine Mi.wp_seq ?_) | (with_reducible refine Mi.wp_ifS ?_) | (with_reducible refine Mi.wp_asg ?_) | (with_reducible refine Mi.wp_retS ?_) | (with_reducible refine Mi.wp_bin ?_) | ((with_reducible apply Mi.wp_var1); · rfl) | (with_reducible refine Mi.wp_C ?_) | (with_reducible refine Mi.wp_asCons ?_) | (with_reducible refine Mi.wp_asNil ?_) | (with_reducible refine Mi.wp_call ?_) | (with_reducible refine Mi.wp_callIO ?_) | (with_reducible refine Mi.wp_args ?_) | (with_reducible refine Mi.wp_frzXn ?_) | (with_reducible refine Mi.wp_frzX0 ?_) | (with_reducible refine Mi.wp_frzXS ?_) | (with_reducible refine Mi.wp_frzsCons ?_) | (with_reducible refine Mi.wp_frzsNil ?_) | (with_reducible refine Mi.wp_frzD ?_) | (with_reducible refine Mi.wp_boolA ?_) | (with_reducible refine Mi.wp_blT ?_) | (with_reducible refine Mi.wp_tst ?_) | (with_reducible refine Mi.wp_andT ?_) | (with_reducible refine Mi.wp_orT ?_) | (with_reducible refine Mi.wp_notT ?_) | (with_reducible refine Mi.wp_ifA ?_) | (with_reducible refine Mi.wp_andA ?_) | (with_reducible refine Mi.wp_orA ?_) | (with_reducible refine Mi.wp_notA ?_) | (with_reducible refine Mi.wp_chainT ?_) | (with_reducible refine Mi.wp_cb ?_) | (with_reducible refine Mi.wp_un ?_) | (with_reducible refine Mi.wp_next ?_) | (with_reducible refine Mi.wp_asgN ?_) | (with_reducible refine Mi.wp_retNS ?_) | (with_reducible refine Mi.wp_drop ?_) | (with_reducible refine Mi.wp_par2 ?_) | (with_reducible refine Mi.wp_asgG ?_) | (with_reducible refine Mi.wp_subG ?_) | (with_reducible refine Mi.wp_appA ?_) | (with_reducible refine Mi.wp_tup ?_) | (with_reducible refine Mi.wp_lst ?_) | (with_reducible refine Mi.wp_new ?_) | (with_reducible refine Mi.wp_slice ?_) | (with_reducible refine Mi.wp_prtN ?_) | (with_reducible refine Mi.wp_prtS ?_) | (with_reducible refine Mi.wp_mt ?_) | (with_reducible refine Mi.wp_mt0 ?_) | (with_reducible refine Mi.wp_seqI ?_) | (with_reducible refine Mi.wp_compN ?_) | (with_reducible refine Mi.wp_fnI ?_) | (with_reducible refine Mi.wp_forS ?_) | (with_reducible refine Mi.wp_tgTup ?_) | (with_reducible refine Mi.wp_gsCons ?_) | (with_reducible refine Mi.wp_gsNil ?_) | (with_reducible refine Mi.wp_callN ?_) | ((with_reducible apply Mi.wp_putV); · rfl) | ((with_reducible apply Mi.wp_putN); · rfl) | (with_reducible refine Mi.wp_bnd ?_) | (with_reducible refine Mi.wp_ret ?_) | (with_reducible refine Mi.wp_opt ?_) | (with_reducible refine Mi.wp_view ?_) | ((with_reducible refine Mi.nm_a ?_); (try (conv => arg 1; simp only [Mi.putCell, Mi.wipeL, Mi.backL, Mi.pick, List.filterMap_cons, List.filterMap_nil, List.filterMap_cons_some, List.map_nil, List.map_cons, List.append_nil, List.nil_append, List.cons_append, List.getElem?_cons_zero, List.getElem?_cons_succ, List.set_cons_zero, List.set_cons_succ, List.getD_cons_zero, List.getD_cons_succ, Int.reduceToNat])); (with_reducible refine Mi.nm_b ?_)) | (with_reducible refine ⟨_, eqq_bl, ?_⟩) | (with_reducible refine ⟨_, Mi.isi_non_bool, ?_⟩) | (with_reducible refine ⟨_, Mi.isi_non_int, ?_⟩) | (with_reducible refine ⟨_, Mi.isi_non_str, ?_⟩) | (with_reducible refine ⟨_, Mi.isi_non_list, ?_⟩) | (with_reducible refine ⟨_, Mi.isi_non_tuple, ?_⟩) | (with_reducible refine ⟨_, Mi.isi_non_dict, ?_⟩) | (with_reducible refine ⟨_, Mi.isi_bl_bool, ?_⟩) | (with_reducible refine ⟨_, Mi.isi_bl_int, ?_⟩) | (with_reducible refine ⟨_, Mi.isi_bl_str, ?_⟩) | (with_reducible refine ⟨_, Mi.isi_bl_list, ?_⟩) | (with_reducible refine ⟨_, Mi.isi_bl_tuple, ?_⟩) | (with_reducible refine ⟨_, Mi.isi_bl_dict, ?_⟩) | (with_reducible refine ⟨_, Mi.isi_int_bool, ?_⟩) | (with_reducible refine ⟨_, Mi.isi_int_int, ?_⟩) | (with_reducible refine ⟨_, Mi.isi_int_str, ?_⟩) | (with_reducible refine ⟨_, Mi.isi_int_list, ?_⟩) | (with_reducible refine ⟨_, Mi.isi_int_tuple, ?_⟩) | (with_reducible refine ⟨_, Mi.isi_int_dict, ?_⟩) | (with_reducible refine ⟨_, Mi.isi_str_bool, ?_⟩) | (with_reducible refine ⟨_, Mi.isi_str_int, ?_⟩) | (with_reducible refine ⟨_, Mi.isi_str_str, ?_⟩) | (with_reducible refine ⟨_, Mi.isi_str_list, ?_⟩) | (with_reducible refine ⟨_, Mi.isi_str_tuple, ?_⟩) | (with_reducible refine ⟨_, Mi.isi_str_dict, ?_⟩) | (with_reducible refine ⟨_, Mi.isi_lst_bool, ?_⟩) | (with_reducible refine ⟨_, Mi.isi_lst_int, ?_⟩) | (with_reducible refine ⟨_, Mi.isi_lst_str, ?_⟩) | (with_reducible refine ⟨_, Mi.isi_lst_list, ?_⟩) | (with_reducible refine ⟨_, Mi.isi_lst_tuple, ?_⟩) | (with_reducible refine ⟨_, Mi.isi_lst_dict, ?_⟩) | (with_reducible refine ⟨_, Mi.isi_rol_bool, ?_⟩) | (with_reducible refine ⟨_, Mi.isi_rol_int, ?_⟩) | (with_reducible refine ⟨_, Mi.isi_rol_str, ?_⟩) | (with_reducible refine ⟨_, Mi.isi_rol_list, ?_⟩) | (with_reducible refine ⟨_, Mi.isi_rol_tuple, ?_⟩) | (with_reducible refine ⟨_, Mi.isi_rol_dict, ?_⟩) | (with_reducible refine ⟨_, Mi.isi_tup_bool, ?_⟩) | (with_reducible refine ⟨_, Mi.isi_tup_int, ?_⟩) | (with_reducible refine ⟨_, Mi.isi_tup_str, ?_⟩) | (with_reducible refine ⟨_, Mi.isi_tup_list, ?_⟩) | (with_reducible refine ⟨_, Mi.isi_tup_tuple, ?_⟩) | (with_reducible refine ⟨_, Mi.isi_tup_dict, ?_⟩) | (with_reducible refine ⟨_, Mi.isi_dct_bool, ?_⟩) | (with_reducible refine ⟨_, Mi.isi_dct_int, ?_⟩) | (with_reducible refine ⟨_, Mi.isi_dct_str, ?_⟩) | (with_reducible refine ⟨_, Mi.isi_dct_list, ?_⟩) | (with_reducible refine ⟨_, Mi.isi_dct_tuple, ?_⟩) | (with_reducible refine ⟨_, Mi.isi_dct_dict, ?_⟩) | (with_reducible refine ⟨_, Mi.add_int, ?_⟩) | (with_reducible refine ⟨_, Mi.sub_int, ?_⟩) | (with_reducible refine ⟨_, Mi.lt_int, ?_⟩) | (with_reducible refine ⟨_, Mi.le_int, ?_⟩) | (with_reducible refine ⟨_, Mi.gt_int, ?_⟩) | (with_reducible refine ⟨_, Mi.ge_int, ?_⟩) | (with_reducible refine ⟨_, Mi.neg_int, ?_⟩) | (with_reducible refine ⟨_, Mi.asBl_bl, ?_⟩) | (with_reducible refine ⟨_, Mi.pow_lit (by decide) (by decide), ?_⟩) | (with_reducible refine ⟨_, Mi.mul_int (by decide), ?_⟩) | (with_reducible refine ⟨_, Mi.mod_int (by decide), ?_⟩) | (with_reducible refine ⟨_, Mi.fdiv_int (by decide), ?_⟩) | (with_reducible refine ⟨_, Mi.eqq_int, ?_⟩) | (with_reducible refine ⟨_, Mi.neq_int, ?_⟩) | (with_reducible refine Mi.ift_t ?_) | (with_reducible refine Mi.ift_f ?_) | (with_reducible refine Mi.ift_nt ?_) | (with_reducible refine Mi.ift_nf ?_) | ((with_reducible refine Mi.ift_bt ?_ ?_); · rfl) | ((with_reducible refine Mi.ift_bf ?_ ?_); · rfl) | (refine ⟨_, _, _, _, _, rfl, rfl, rfl, rfl, ?_⟩) | (refine ⟨_, _, rfl, rfl, ?_⟩) | (refine ⟨_, _, rfl, ?_⟩) | (refine ⟨⟨rfl, rfl, rfl⟩, ?_⟩) | (refine ⟨Nat.le_of_ble_eq_true rfl, ?_⟩) | (refine ⟨by decide, ?_⟩) | (refine ⟨_, rfl, ?_⟩) | (refine ⟨rfl, ?_⟩) | (with_reducible refine ⟨fun hh => ?_, fun hh => ?_⟩) | fail)); (all_goals (try (with_reducible refine Mi.here ?_))))
          all_goals (refine ⟨?_, hj⟩; first | rfl | (congr 1; simp only [Bool.not_eq_true', Bool.not_eq_false', decide_eq_true_eq, decide_eq_false_iff_not] at *; simp [inB, lowB, highB, isI] <;> omega))
        | int b =>
          ((repeat' (first | (with_reducible refine Mi.wp_seq ?_) | (with_reducible refine Mi.wp_ifS ?_) | (with_reducible refine Mi.wp_asg ?_) | (with_reducible refine Mi.wp_retS ?_) | (with_reducible refine Mi.wp_bin ?_) | ((with_reducible apply Mi.wp_var1); · rfl) | (with_reducible refine Mi.wp_C ?_) | (with_reducible refine Mi.wp_asCons ?_) | (with_reducible refine Mi.wp_asNil ?_) | (with_reducible refine Mi.wp_call ?_) | (with_reducible refine Mi.wp_callIO ?_) | (with_reducible refine Mi.wp_args ?_) | (with_reducible refine Mi.wp_frzXn ?_) | (with_reducible refine Mi.wp_frzX0 ?_) | (with_reducible refine Mi.wp_frzXS ?_) | (with_reducible refine Mi.wp_frzsCons ?_) | (with_reducible refine Mi.wp_frzsNil ?_) | (with_reducible refine Mi.wp_frzD ?_) | (with_reducible refine Mi.wp_boolA ?_) | (with_reducible refine Mi.wp_blT ?_) | (with_reducible refine Mi.wp_tst ?_) | (with_reducible refine Mi.wp_andT ?_) | (with_reducible refine Mi.wp_orT ?_) | (with_reducible refine Mi.wp_notT ?_) | (with_reducible refine Mi.wp_ifA ?_) | (with_reducible refine Mi.wp_andA ?_) | (with_reducible refine Mi.wp_orA ?_) | (with_reducible refine Mi.wp_notA ?_) | (with_reducible refine Mi.wp_chainT ?_) | (with_reducible refine Mi.wp_cb ?_) | (with_reducible refine Mi.wp_un ?_) | (with_reducible refine Mi.wp_next ?_) | (with_reducible refine Mi.wp_asgN ?_) | (with_reducible refine Mi.wp_retNS ?_) | (with_reducible refine Mi.wp_drop ?_) | (with_reducible refine Mi.wp_par2 ?_) | (with_reducible refine Mi.wp_asgG ?_) | (with_reducible refine Mi.wp_subG ?_) | (with_reducible refine Mi.wp_appA ?_) | (with_reducible refine Mi.wp_tup ?_) | (with_reducible refine Mi.wp_lst ?_) | (with_reducible refine Mi.wp_new ?_) | (with_reducible refine Mi.wp_slice ?_) | (with_reducible refine Mi.wp_prtN ?_) | (with_reducible refine Mi.wp_prtS ?_) | (with_reducible refine Mi.wp_mt ?_) | (with_reducible refine Mi.wp_mt0 ?_) | (with_reducible refine Mi.wp_seqI ?_) | (with_reducible refine Mi.wp_compN ?_) | (with_reducible refine Mi.wp_fnI ?_) | (with_reducible refine Mi.wp_forS ?_) | (with_reducible refine Mi.wp_tgTup ?_) | (with_reducible refine Mi.wp_gsCons ?_) | (with_reducible refine Mi.wp_gsNil ?_) | (with_reducible refine Mi.wp_callN ?_) | ((with_reducible apply Mi.wp_putV); · rfl) | ((with_reducible apply Mi.wp_putN); · rfl) | (with_reducible refine Mi.wp_bnd ?_) | (with_reducible refine Mi.wp_ret ?_) | (with_reducible refine Mi.wp_opt ?_) | (with_reducible refine Mi.wp_view ?_) | ((with_reducible refine Mi.nm_a ?_); (try (conv => arg 1; simp only [Mi.putCell, Mi.wipeL, Mi.backL, Mi.pick, List.filterMap_cons, List.filterMap_nil, List.filterMap_cons_some, List.map_nil, List.map_cons, List.append_nil, List.nil_append, List.cons_append, List.getElem?_cons_zero, List.getElem?_cons_succ, List.set_cons_zero, List.set_cons_succ, List.getD_cons_zero, List.getD_cons_succ, Int.reduceToNat])); (with_reducible refine Mi.nm_b ?_)) | (with_reducible refine ⟨_, Mi.add_int, ?_⟩) | (with_reducible refine ⟨_, Mi.sub_int, ?_⟩) | (with_reducible refine ⟨_, Mi.lt_int, ?_⟩) | (with_reducible refine ⟨_, Mi.le_int, ?_⟩) | (with_reducible refine ⟨_, Mi.gt_int, ?_⟩) | (with_reducible refine ⟨_, Mi.ge_int, ?_⟩) | (with_reducible refine ⟨_, Mi.neg_int, ?_⟩) | (with_reducible refine ⟨_, Mi.asBl_bl, ?_⟩) | (with_reducible refine ⟨_, Mi.pow_lit (by decide) (by decide), ?_⟩) | (with_reducible refine ⟨_, Mi.mul_int (by decide), ?_⟩) | (with_reducible refine ⟨_, Mi.mod_int (by decide), ?_⟩) | (with_reducible refine ⟨_, Mi.fdiv_int (by decide), ?_⟩) | (with_reducible refine ⟨_, Mi.eqq_int, ?_⟩) | (with_reducible refine ⟨_, Mi.neq_int, ?_⟩) | (with_reducible refine Mi.ift_t ?_) | (with_reducible refine Mi.ift_f ?_) | (with_reducible refine Mi.ift_nt ?_) | (with_reducible refine Mi.ift_nf ?_) | ((with_reducible refine Mi.ift_bt ?_ ?_); · rfl) | ((with_reducible refine Mi.ift_bf ?_ ?_); · rfl) | (refine ⟨_, _, _, _, _, rfl, rfl, rfl, rfl, ?_⟩) | (refine ⟨_, _, rfl, rfl, ?_⟩) | (refine ⟨_, _, rfl, ?_⟩) | (refine ⟨⟨rfl, rfl, rfl⟩, ?_⟩) | (refine ⟨Nat.le_of_ble_eq_true rfl, ?_⟩) | (refine ⟨by decide, ?_⟩) | (refine ⟨_, rfl, ?_⟩) | (refine ⟨rfl, ?_⟩) | (with_reducible refine ⟨fun hh => ?_, fun hh => ?_⟩) | fail)); (all_goals (try (with_reducible refine Mi.here ?_))))
          all_goals (refine fp_ok (within_ok hv ha hb) ?_)
          ((repeat' (first | (with_reducible refine Mi.wp_seq ?_) | (with_reducible refine Mi.wp_ifS ?_) | (with_reducible refine Mi.wp_asg ?_) | (with_reducible refine Mi.wp_retS ?_) | (with_reducible refine Mi.wp_bin ?_) | ((with_reducible apply Mi.wp_var1); · rfl) | (with_reducible refine Mi.wp_C ?_) | (with_reducible refine Mi.wp_asCons ?_) | (with_reducible refine Mi.wp_asNil ?_) | (with_reducible refine Mi.wp_call ?_) | (with_reducible refine Mi.wp_callIO ?_) | (with_reducible refine Mi.wp_args ?_) | (with_reducible refine Mi.wp_frzXn ?_) | (with_reducible refine Mi.wp_frzX0 ?_) | (with_reducible refine Mi.wp_frzXS ?_) | (with_reducible refine Mi.wp_frzsCons ?_) | (with_reducible refine Mi.wp_frzsNil ?_) | (with_reducible refine Mi.wp_frzD ?_) | (with_reducible refine Mi.wp_boolA ?_) | (with_reducible refine Mi.wp_blT ?_) | (with_reducible refine Mi.wp_tst ?_) | (with_reducible refine Mi.wp_andT ?_) | (with_reducible refine Mi.wp_orT ?_) | (with_reducible refine Mi.wp_notT ?_) | (with_reducible refine Mi.wp_ifA ?_) | (with_reducible refine Mi.wp_andA ?_) | (with_reducible refine Mi.wp_orA ?_) | (with_reducible refine Mi.wp_notA ?_) | (with_reducible refine Mi.wp_chainT ?_) | (with_reducible refine Mi.wp_cb ?_) | (with_reducible refine Mi.wp_un ?_) | (with_reducible refine Mi.wp_next ?_) | (with_reducible refine Mi.wp_asgN ?_) | (with_reducible refine Mi.wp_retNS ?_) | (with_reducible refine Mi.wp_drop ?_) | (with_reducible refine Mi.wp_par2 ?_) | (with_reducible refine Mi.wp_asgG ?_) | (with_reducible refine Mi.wp_subG ?_) | (with_reducible refine Mi.wp_appA ?_) | (with_reducible refine Mi.wp_tup ?_) | (with_reducible refine Mi.wp_lst ?_) | (with_reducible refine Mi.wp_new ?_) | (with_reducible refine Mi.wp_slice ?_) | (with_reducible refine Mi.wp_prtN ?_) | (with_reducible refine Mi.wp_prtS ?_) | (with_reducible refine Mi.wp_mt ?_) | (with_reducible refine Mi.wp_mt0 ?_) | (with_reducible refine Mi.wp_seqI ?_) | (with_reducible refine Mi.wp_compN ?_) | (with_reducible refine Mi.wp_fnI ?_) | (with_reducible refine Mi.wp_forS ?_) | (with_reducible refine Mi.wp_tgTup ?_) | (with_reducible refine Mi.wp_gsCons ?_) | (with_reducible refine Mi.wp_gsNil ?_) | (with_reducible refine Mi.wp_callN ?_) | ((with_reducible apply Mi.wp_putV); · rfl) | ((with_reducible apply Mi.wp_putN); · rfl) | (with_reducible refine Mi.wp_bnd ?_) | (with_reducible refine Mi.wp_ret ?_) | (with_reducible refine Mi.wp_opt ?_) | (with_reducible refine Mi.wp_view ?_) | ((with_reducible refine Mi.nm_a ?_); (try (conv => arg 1; simp only [Mi.putCell, Mi.wipeL, Mi.backL, Mi.pick, List.filterMap_cons, List.filterMap_nil, List.filterMap_cons_some, List.map_nil, List.map_cons, List.append_nil, List.nil_append, List.cons_append, List.getElem?_cons_zero, List.getElem?_cons_succ, List.set_cons_zero, List.set_cons_succ, List.getD_cons_zero, List.getD_cons_succ, Int.reduceToNat])); (with_reducible refine Mi.nm_b ?_)) | (with_reducible refine ⟨_, eqq_bl, ?_⟩) | (with_reducible refine ⟨_, Mi.isi_non_bool, ?_⟩) | (with_reducible refine ⟨_, Mi.isi_non_int, ?_⟩) | (with_reducible refine ⟨_, Mi.isi_non_str, ?_⟩) | (with_reducible refine ⟨_, Mi.isi_non_list, ?_⟩) | (with_reducible refine ⟨_, Mi.isi_non_tuple, ?_⟩) | (with_reducible refine ⟨_, Mi.isi_non_dict, ?_⟩) | (with_reducible refine ⟨_, Mi.isi_bl_bool, ?_⟩) | (with_reducible refine ⟨_, Mi.isi_bl_int, ?_⟩) | (with_reducible refine ⟨_, Mi.isi_bl_str, ?_⟩) | (with_reducible refine ⟨_, Mi.isi_bl_list, ?_⟩) | (with_reducible refine ⟨_, Mi.isi_bl_tuple, ?_⟩) | (with_reducible refine ⟨_, Mi.isi_bl_dict, ?_⟩) | (with_reducible refine ⟨_, Mi.isi_int_bool, ?_⟩) | (with_reducible refine ⟨_, Mi.isi_int_int, ?_⟩) | (with_reducible refine ⟨_, Mi.isi_int_str, ?_⟩) | (with_reducible refine ⟨_, Mi.isi_int_list, ?_⟩) | (with_reducible refine ⟨_, Mi.isi_int_tuple, ?_⟩) | (with_reducible refine ⟨_, Mi.isi_int_dict, ?_⟩) | (with_reducible refine ⟨_, Mi.isi_str_bool, ?_⟩) | (with_reducible refine ⟨_, Mi.isi_str_int, ?_⟩) | (with_reducible refine ⟨_, Mi.isi_str_str, ?_⟩) | (with_reducible refine ⟨_, Mi.isi_str_list, ?_⟩) | (with_reducible refine ⟨_, Mi.isi_str_tuple, ?_⟩) | (with_reducible refine ⟨_, Mi.isi_str_dict, ?_⟩) | (with_reducible refine ⟨_, Mi.isi_lst_bool, ?_⟩) | (with_reducible refine ⟨_, Mi.isi_lst_int, ?_⟩) | (with_reducible refine ⟨_, Mi.isi_lst_str, ?_⟩) | (with_reducible refine ⟨_, Mi.isi_lst_list, ?_⟩) | (with_reducible refine ⟨_, Mi.isi_lst_tuple, ?_⟩) | (with_reducible refine ⟨_, Mi.isi_lst_dict, ?_⟩) | (with_reducible refine ⟨_, Mi.isi_rol_bool, ?_⟩) | (with_reducible refine ⟨_, Mi.isi_rol_int, ?_⟩) | (with_reducible refine ⟨_, Mi.isi_rol_str, ?_⟩) | (with_reducible refine ⟨_, Mi.isi_rol_list, ?_⟩) | (with_reducible refine ⟨_, Mi.isi_rol_tuple, ?_⟩) | (with_reducible refine ⟨_, Mi.isi_rol_dict, ?_⟩) | (with_reducible refine ⟨_, Mi.isi_tup_bool, ?_⟩) | (with_reducible refine ⟨_, Mi.isi_tup_int, ?_⟩) | (with_reducible refine ⟨_, Mi.isi_tup_str, ?_⟩) | (with_reducible refine ⟨_, Mi.isi_tup_list, ?_⟩) | (with_reducible refine ⟨_, Mi.isi_tup_tuple, ?_⟩) | (with_reducible refine ⟨_, Mi.isi_tup_dict, ?_⟩) | (with_reducible refine ⟨_, Mi.isi_dct_bool, ?_⟩) | (with_reducible refine ⟨_, Mi.isi_dct_int, ?_⟩) | (with_reducible refine ⟨_, Mi.isi_dct_str, ?_⟩) | (with_reducible refine ⟨_, Mi.isi_dct_list, ?_⟩) | (with_reducible refine ⟨_, Mi.isi_dct_tuple, ?_⟩) | (with_reducible refine ⟨_, Mi.isi_dct_dict, ?_⟩) | (with_reducible refine ⟨_, Mi.add_int, ?_⟩) | (with_reducible refine ⟨_, Mi.sub_int, ?_⟩) | (with_reducible refine ⟨_, Mi.lt_int, ?_⟩) | (with_reducible refine ⟨_, Mi.le_int, ?_⟩) | (with_reducible refine ⟨_, Mi.gt_int, ?_⟩) | (with_reducible refine ⟨_, Mi.ge_int, ?_⟩) | (with_reducible refine ⟨_, Mi.neg_int, ?_⟩) | (with_reducible refine ⟨_, Mi.asBl_bl, ?_⟩) | (with_reducible refine ⟨_, Mi.pow_lit (by decide) (by decide), ?_⟩) | (with_reducible refine ⟨_, Mi.mul_int (by decide), ?_⟩) | (with_reducible refine ⟨_, Mi.mod_int (by decide), ?_⟩) | (with_reducible refine ⟨_, Mi.fdiv_int (by decide), ?_⟩) | (with_reducible refine ⟨_, Mi.eqq_int, ?_⟩) | (with_reducible refine ⟨_, Mi.neq_int, ?_⟩) | (with_reducible refine Mi.ift_t ?_) | (with_reducible refine Mi.ift_f ?_) | (with_reducible refine Mi.ift_nt ?_) | (with_reducible refine Mi.ift_nf ?_) | ((with_reducible refine Mi.ift_bt ?_ ?_); · rfl) | ((with_reducible refine Mi.ift_bf ?_ ?_); · rfl) | (refine ⟨_, _, _, _, _, rfl, rfl, rfl, rfl, ?_⟩) | (refine ⟨_, _, rfl, rfl, ?_⟩) | (refine ⟨_, _, rfl, ?_⟩) | (refine ⟨⟨rfl, rfl, rfl⟩, ?_⟩) | (refine ⟨Nat.le_of_ble_eq_true rfl, ?_⟩) | (refine ⟨by decide, ?_⟩) | (refine ⟨_, rfl, ?_⟩) | (refine ⟨rfl, ?_⟩) | (with_reducible refine ⟨fun hh => ?_, fun hh => ?_⟩) | fail)); (all_goals (try (with_reducible refine Mi.here ?_))))
          all_goals (refine ⟨?_, hj⟩; first | rfl | (congr 1; simp only [Bool.not_eq_true', Bool.not_eq_false', decide_eq_true_eq, decide_eq_false_iff_not] at *; simp [inB, lowB, highB, isI] <;> omega))
        | _ => exact hb.elim
      | int a => cases b with
        | non =>
          ((repeat' (first | (with_reducible refine Mi.wp_seq ?_) | (with_reducible refine Mi.wp_ifS ?_) | (with_reducible refine Mi.wp_asg ?_) | (with_reducible refine Mi.wp_retS ?_) | (with_reducible refine Mi.wp_bin ?_) | ((with_reducible apply Mi.wp_var1); · rfl) | (with_reducible refine Mi.wp_C ?_) | (with_reducible refine Mi.wp_asCons ?_) | (with_reducible refine Mi.wp_asNil ?_) | (with_reducible refine Mi.wp_call ?_) | (with_reducible refine Mi.wp_callIO ?_) | (with_reducible refine Mi.wp_args ?_) | (with_reducible refine Mi.wp_frzXn ?_) | (with_reducible refine Mi.wp_frzX0 ?_) | (with_reducible refine Mi.wp_frzXS ?_) | (with_reducible refine Mi.wp_frzsCons ?_) | (with_reducible refine Mi.wp_frzsNil ?_) | (with_reducible refine Mi.wp_frzD ?_) | (with_reducible refine Mi.wp_boolA ?_) | (with_reducible refine Mi.wp_blT ?_) | (with_reducible refine Mi.wp_tst ?_) | (with_reducible refine Mi.wp_andT ?_) | (with_reducible refine Mi.wp_orT ?_) | (with_reducible refine Mi.wp_notT ?_) | (with_reducible refine Mi.wp_ifA ?_) | (with_reducible refine Mi.wp_andA ?_) | (with_reducible refine Mi.wp_orA ?_) | (with_reducible refine Mi.wp_notA ?_) | (with_reducible refine Mi.wp_chainT ?_) | (with_reducible refine Mi.wp_cb ?_) | (with_reducible refine Mi.wp_un ?_) | (with_reducible refine Mi.wp_next ?_) | (with_reducible refine Mi.wp_asgN ?_) | (with_reducible refine Mi.wp_retNS ?_) | (with_reducible refine Mi.wp_drop ?_) | (with_reducible refine Mi.wp_par2 ?_) | (with_reducible refine Mi.wp_asgG ?_) | (with_reducible refine Mi.wp_subG ?_) | (with_reducible refine Mi.wp_appA ?_) | (with_reducible refine Mi.wp_tup ?_) | (with_reducible refine Mi.wp_lst ?_) | (with_reducible refine Mi.wp_new ?_) | (with_reducible refine Mi.wp_slice ?_) | (with_reducible refine Mi.wp_prtN ?_) | (with_reducible refine Mi.wp_prtS ?_) | (with_reducible refine Mi.wp_mt ?_) | (with_reducible refine Mi.wp_mt0 ?_) | (with_reducible refine Mi.wp_seqI ?_) | (with_reducible refine Mi.wp_compN ?_) | (with_reducible refine Mi.wp_fnI ?_) | (with_reducible refine Mi.wp_forS ?_) | (with_reducible refine Mi.wp_tgTup ?_) | (with_reducible refine Mi.wp_gsCons ?_) | (with_reducible refine Mi.wp_gsNil ?_) | (with_reducible refine Mi.wp_callN ?_) | ((with_reducible apply Mi.wp_putV); · rfl) | ((with_reducible apply Mi.wp_putN); · rfl) | (with_reducible refine Mi.wp_bnd ?_) | (with_reducible refine Mi.wp_ret ?_) | (with_reducible refine Mi.wp_opt ?_) | (with_reducible refine Mi.wp_view ?_) | ((with_reducible refine Mi.nm_a ?_); (try (conv => arg 1; simp only [Mi.putCell, Mi.wipeL, Mi.backL, Mi.pick, List.filterMap_cons, List.filterMap_nil, List.filterMap_cons_some, List.map_nil, List.map_cons, List.append_nil, List.nil_append, List.cons_append, List.getElem?_cons_zero, List.getElem?_cons_succ, List.set_cons_zero, List.set_cons_succ, List.getD_cons_zero, List.getD_cons_succ, Int.reduceToNat])); (with_reducible refine Mi.nm_b ?_)) | (with_reducible refine ⟨_, Mi.add_int, ?_⟩) | (with_reducible refine ⟨_, Mi.sub_int, ?_⟩) | (with_reducible refine ⟨_, Mi.lt_int, ?_⟩) | (with_reducible refine ⟨_, Mi.le_int, ?_⟩) | (with_reducible refine ⟨_, Mi.gt_int, ?_⟩) | (with_reducible refine ⟨_, Mi.ge_int, ?_⟩) | (with_reducible refine ⟨_, Mi.neg_int, ?_⟩) | (with_reducible refine ⟨_, Mi.asBl_bl, ?_⟩) | (with_reducible refine ⟨_, Mi.pow_lit (by decide) (by decide), ?_⟩) | (with_reducible refine ⟨_, Mi.mul_int (by decide), ?_⟩) | (with_reducible refine ⟨_, Mi.mod_int (by decide), ?_⟩) | (with_reducible refine ⟨_, Mi.fdiv_int (by decide), ?_⟩) | (with_reducible refine ⟨_, Mi.eqq_int, ?_⟩) | (with_reducible refine ⟨_, Mi.neq_int, ?_⟩) | (with_reducible refine Mi.ift_t ?_) | (with_reducible refine Mi.ift_f ?_) | (with_reducible refine Mi.ift_nt ?_) | (with_reducible refine Mi.ift_nf ?_) | ((with_reducible refine Mi.ift_bt ?_ ?_); · rfl) | ((with_reducible refine Mi.ift_bf ?_ ?_); · rfl) | (refine ⟨_, _, _, _, _, rfl, rfl, rfl, rfl, ?_⟩) | (refine ⟨_, _, rfl, rfl, ?_⟩) | (refine ⟨_, _, rfl, ?_⟩) | (refine ⟨⟨rfl, rfl, rfl⟩, ?_⟩) | (refine ⟨Nat.le_of_ble_eq_true rfl, ?_⟩) | (refine ⟨by decide, ?_⟩) | (refine ⟨_, rfl, ?_⟩) | (refine ⟨rfl, ?_⟩) | (with_reducible refine ⟨fun hh => ?_, fun hh => ?_⟩) | fail)); (all_goals (try (with_reducible refine Mi.here ?_))))
          all_goals (refine fp_ok (within_ok hv ha hb) ?_)
          ((repeat' (first | (with_reducible refine Mi.wp_seq ?_) | (with_reducible refine Mi.wp_ifS ?_) | (with_reducible refine Mi.wp_asg ?_) | (with_reducible refine Mi.wp_retS ?_) | (with_reducible refine Mi.wp_bin ?_) | ((with_reducible apply Mi.wp_var1); · rfl) | (with_reducible refine Mi.wp_C ?_) | (with_reducible refine Mi.wp_asCons ?_) | (with_reducible refine Mi.wp_asNil ?_) | (with_reducible refine Mi.wp_call ?_) | (with_reducible refine Mi.wp_callIO ?_) | (with_reducible refine Mi.wp_args ?_) | (with_reducible refine Mi.wp_frzXn ?_) | (with_reducible refine Mi.wp_frzX0 ?_) | (with_reducible refine Mi.wp_frzXS ?_) | (with_reducible refine Mi.wp_frzsCons ?_) | (with_reducible refine Mi.wp_frzsNil ?_) | (with_reducible refine Mi.wp_frzD ?_) | (with_reducible refine Mi.wp_boolA ?_) | (with_reducible refine Mi.wp_blT ?_) | (with_reducible refine Mi.wp_tst ?_) | (with_reducible refine Mi.wp_andT ?_) | (with_reducible refine Mi.wp_orT ?_) | (with_reducible refine Mi.wp_notT ?_) | (with_reducible refine Mi.wp_ifA ?_) | (with_reducible refine Mi.wp_andA ?_) | (with_reducible refine Mi.wp_orA ?_) | (with_reducible refine Mi.wp_notA ?_) | (with_reducible refine Mi.wp_chainT ?_) | (with_reducible refine Mi.wp_cb ?_) | (with_reducible refine Mi.wp_un ?_) | (with_reducible refine Mi.wp_next ?_) | (with_reducible refine Mi.wp_asgN ?_) | (with_reducible refine Mi.wp_retNS ?_) | (with_reducible refine Mi.wp_drop ?_) | (with_reducible refine Mi.wp_par2 ?_) | (with_reducible refine Mi.wp_asgG ?_) | (with_reducible refine Mi.wp_subG ?_) | (with_reducible refine Mi.wp_appA ?_) | (with_reducible refine Mi.wp_tup ?_) | (with_reducible refine Mi.wp_lst ?_) | (with_reducible refine Mi.wp_new ?_) | (with_reducible refine Mi.wp_slice ?_) | (with_reducible refine Mi.wp_prtN ?_) | (with_reducible refine Mi.wp_prtS ?_) | (with_reducible refine Mi.wp_mt ?_) | (with_reducible refine Mi.wp_mt0 ?_) | (with_reducible refine Mi.wp_seqI ?_) | (with_reducible refine Mi.wp_compN ?_) | (with_reducible refine Mi.wp_fnI ?_) | (with_reducible refine Mi.wp_forS ?_) | (with_reducible refine Mi.wp_tgTup ?_) | (with_reducible refine Mi.wp_gsCons ?_) | (with_reducible refine Mi.wp_gsNil ?_) | (with_reducible refine Mi.wp_callN ?_) | ((with_reducible apply Mi.wp_putV); · rfl) | ((with_reducible apply Mi.wp_putN); · rfl) | (with_reducible refine Mi.wp_bnd ?_) | (with_reducible refine Mi.wp_ret ?_) | (with_reducible refine Mi.wp_opt ?_) | (with_reducible refine Mi.wp_view ?_) | ((with_reducible refine Mi.nm_a ?_); (try (conv => arg 1; simp only [Mi.putCell, Mi.wipeL, Mi.backL, Mi.pick, List.filterMap_cons, List.filterMap_nil, List.filterMap_cons_some, List.map_nil, List.map_cons, List.append_nil, List.nil_append, List.cons_append, List.getElem?_cons_zero, List.getElem?_cons_succ, List.set_cons_zero, List.set_cons_succ, List.getD_cons_zero, List.getD_cons_succ, Int.reduceToNat])); (with_reducible refine Mi.nm_b ?_)) | (with_reducible refine ⟨_, eqq_bl, ?_⟩) | (with_reducible refine ⟨_, Mi.isi_non_bool, ?_⟩) | (with_reducible refine ⟨_, Mi.isi_non_int, ?_⟩) | (with_reducible refine ⟨_, Mi.isi_non_str, ?_⟩) | (with_reducible refine ⟨_, Mi.isi_non_list, ?_⟩) | (with_reducible refine ⟨_, Mi.isi_non_tuple, ?_⟩) | (with_reducible refine ⟨_, Mi.isi_non_dict, ?_⟩) | (with_reducible refine ⟨_, Mi.isi_bl_bool, ?_⟩) | (with_reducible refine ⟨_, Mi.isi_bl_int, ?_⟩) | (with_reducible refine ⟨_, Mi.isi_bl_str, ?_⟩) | (with_reducible refine ⟨_, Mi.isi_bl_list, ?_⟩) | (with_reducible refine ⟨_, Mi.isi_bl_tuple, ?_⟩) | (with_reducible refine ⟨_, Mi.isi_bl_dict, ?_⟩) | (with_reducible refine ⟨_, Mi.isi_int_bool, ?_⟩) | (with_reducible refine ⟨_, Mi.isi_int_int, ?_⟩) | (with_reducible refine ⟨_, Mi.isi_int_str, ?_⟩) | (with_reducible refine ⟨_, Mi.isi_int_list, ?_⟩) | (with_reducible refine ⟨_, Mi.isi_int_tuple, ?_⟩) | (with_reducible refine ⟨_, Mi.isi_int_dict, ?_⟩) | (with_reducible refine ⟨_, Mi.isi_str_bool, ?_⟩) | (with_reducible refine ⟨_, Mi.isi_str_int, ?_⟩) | (with_reducible refine ⟨_, Mi.isi_str_str, ?_⟩) | (with_reducible refine ⟨_, Mi.isi_str_list, ?_⟩) | (with_reducible refine ⟨_, Mi.isi_str_tuple, ?_⟩) | (with_reducible refine ⟨_, Mi.isi_str_dict, ?_⟩) | (with_reducible refine ⟨_, Mi.isi_lst_bool, ?_⟩) | (with_reducible refine ⟨_, Mi.isi_lst_int, ?_⟩) | (with_reducible refine ⟨_, Mi.isi_lst_str, ?_⟩) | (with_reducible refine ⟨_, Mi.isi_lst_list, ?_⟩) | (with_reducible refine ⟨_, Mi.isi_lst_tuple, ?_⟩) | (with_reducible refine ⟨_, Mi.isi_lst_dict, ?_⟩) | (with_reducible refine ⟨_, Mi.isi_rol_bool, ?_⟩) | (with_reducible refine ⟨_, Mi.isi_rol_int, ?_⟩) | (with_reducible refine ⟨_, Mi.isi_rol_str, ?_⟩) | (with_reducible refine ⟨_, Mi.isi_rol_list, ?_⟩) | (with_reducible refine ⟨_, Mi.isi_rol_tuple, ?_⟩) | (with_reducible refine ⟨_, Mi.isi_rol_dict, ?_⟩) | (with_reducible refine ⟨_, Mi.isi_tup_bool, ?_⟩) | (with_reducible refine ⟨_, Mi.isi_tup_int, ?_⟩) | (with_reducible refine ⟨_, Mi.isi_tup_str, ?_⟩) | (with_reducible refine ⟨_, Mi.isi_tup_list, ?_⟩) | (with_reducible refine ⟨_, Mi.isi_tup_tuple, ?_⟩) | (with_reducible refine ⟨_, Mi.isi_tup_dict, ?_⟩) | (with_reducible refine ⟨_, Mi.isi_dct_bool, ?_⟩) | (with_reducible refine ⟨_, Mi.isi_dct_int, ?_⟩) | (with_reducible refine ⟨_, Mi.isi_dct_str, ?_⟩) | (with_reducible refine ⟨_, Mi.isi_dct_list, ?_⟩) | (with_reducible refine ⟨_, Mi.isi_dct_tuple, ?_⟩) | (with_reducible refine ⟨_, Mi.isi_dct_dict, ?_⟩) | (with_reducible refine ⟨_, Mi.add_int, ?_⟩) | (with_reducible refine ⟨_, Mi.sub_int, ?_⟩) | (with_reducible refine ⟨_, Mi.lt_int, ?_⟩) | (with_reducible refine ⟨_, Mi.le_int, ?_⟩) | (with_reducible refine ⟨_, Mi.gt_int, ?_⟩) | (with_reducible refine ⟨_, Mi.ge_int, ?_⟩) | (with_reducible refine ⟨_, Mi.neg_int, ?_⟩) | (with_reducible refine ⟨_, Mi.asBl_bl, ?_⟩) | (with_reducible refine ⟨_, Mi.pow_lit (by decide) (by decide), ?_⟩) | (with_reducible refine ⟨_, Mi.mul_int (by decide), ?_⟩) | (with_reducible refine ⟨_, Mi.mod_int (by decide), ?_⟩) | (with_reducible refine ⟨_, Mi.fdiv_int (by decide), ?_⟩) | (with_reducible refine ⟨_, Mi.eqq_int, ?_⟩) | (with_reducible refine ⟨_, Mi.neq_int, ?_⟩) | (with_reducible refine Mi.ift_t ?_) | (with_reducible refine Mi.ift_f ?_) | (with_reducible refine Mi.ift_nt ?_) | (with_reducible refine Mi.ift_nf ?_) | ((with_reducible refine Mi.ift_bt ?_ ?_); · rfl) | ((with_reducible refine Mi.ift_bf ?_ ?_); · rfl) | (refine ⟨_, _, _, _, _, rfl, rfl, rfl, rfl, ?_⟩) | (refine ⟨_, _, rfl, rfl, ?_⟩) | (refine ⟨_, _, rfl, ?_⟩) | (refine ⟨⟨rfl, rfl, rfl⟩, ?_⟩) | (refine ⟨Nat.le_of_ble_eq_true rfl, ?_⟩) | (refine ⟨by decide, ?_⟩) | (refine ⟨_, rfl, ?_⟩) | (refine ⟨rfl, ?_⟩) | (with_reducible refine ⟨fun hh => ?_, fun hh => ?_⟩) | fail)); (all_goals (try (with_reducible refine Mi.here ?_))))
          all_goals (refine ⟨?_, hj⟩; first | rfl | (congr 1; simp only [Bool.not_eq_true', Bool.not_eq_false', decide_eq_true_eq, decide_eq_false_iff_not] at *; simp [inB, lowB, highB, isI] <;> omega))
        | int b =>
          ((repeat' (first | (with_reducible refine Mi.wp_seq ?_) | (with_reducible refine Mi.wp_ifS ?_) | (with_reducible refine Mi.wp_asg ?_) | (with_reducible refine Mi.wp_retS ?_) | (with_reducible refine Mi.wp_bin ?_) | ((with_reducible apply Mi.wp_var1); · rfl) | (with_reducible refine Mi.wp_C ?_) | (with_reducible refine Mi.wp_asCons ?_) | (with_reducible refine Mi.wp_asNil ?_) | (with_reducible refine Mi.wp_call ?_) | (with_reducible refine Mi.wp_callIO ?_) | (with_reducible refine Mi.wp_args ?_) | (with_reducible refine Mi.wp_frzXn ?_) | (with_reducible refine Mi.wp_frzX0 ?_) | (with_reducible refine Mi.wp_frzXS ?_) | (with_reducible refine Mi.wp_frzsCons ?_) | (with_reducible refine Mi.wp_frzsNil ?_) | (with_reducible refine Mi.wp_frzD ?_) | (with_reducible refine Mi.wp_boolA ?_) | (with_reducible refine Mi.wp_blT ?_) | (with_reducible refine Mi.wp_tst ?_) | (with_reducible refine Mi.wp_andT ?_) | (with_reducible refine Mi.wp_orT ?_) | (with_reducible refine Mi.wp_notT ?_) | (with_reducible refine Mi.wp_ifA ?_) | (with_reducible refine Mi.wp_andA ?_) | (with_reducible refine Mi.wp_orA ?_) | (with_reducible refine Mi.wp_notA ?_) | (with_reducible refine Mi.wp_chainT ?_) | (with_reducible refine Mi.wp_cb ?_) | (with_reducible refine Mi.wp_un ?_) | (with_reducible refine Mi.wp_next ?_) | (with_reducible refine Mi.wp_asgN ?_) | (with_reducible refine Mi.wp_retNS ?_) | (with_reducible refine Mi.wp_drop ?_) | (with_reducible refine Mi.wp_par2 ?_) | (with_reducible refine Mi.wp_asgG ?_) | (with_reducible refine Mi.wp_subG ?_) | (with_reducible refine Mi.wp_appA ?_) | (with_reducible refine Mi.wp_tup ?_) | (with_reducible refine Mi.wp_lst ?_) | (with_reducible refine Mi.wp_new ?_) | (with_reducible refine Mi.wp_slice ?_) | (with_reducible refine Mi.wp_prtN ?_) | (with_reducible refine Mi.wp_prtS ?_) | (with_reducible refine Mi.wp_mt ?_) | (with_reducible refine Mi.wp_mt0 ?_) | (with_reducible refine Mi.wp_seqI ?_) | (with_reducible refine Mi.wp_compN ?_) | (with_reducible refine Mi.wp_fnI ?_) | (with_reducible refine Mi.wp_forS ?_) | (with_reducible refine Mi.wp_tgTup ?_) | (with_reducible refine Mi.wp_gsCons ?_) | (with_reducible refine Mi.wp_gsNil ?_) | (with_reducible refine Mi.wp_callN ?_) | ((with_reducible apply Mi.wp_putV); · rfl) | ((with_reducible apply Mi.wp_putN); · rfl) | (with_reducible refine Mi.wp_bnd ?_) | (with_reducible refine Mi.wp_ret ?_) | (with_reducible refine Mi.wp_opt ?_) | (with_reducible refine Mi.wp_view ?_) | ((with_reducible refine Mi.nm_a ?_); (try (conv => arg 1; simp only [Mi.putCell, Mi.wipeL, Mi.backL, Mi.pick, List.filterMap_cons, List.filterMap_nil, List.filterMap_cons_some, List.map_nil, List.map_cons, List.append_nil, List.nil_append, List.cons_append, List.getElem?_cons_zero, List.getElem?_cons_succ, List.set_cons_zero, List.set_cons_succ, List.getD_cons_zero, List.getD_cons_succ, Int.reduceToNat])); (with_reducible refine Mi.nm_b ?_)) | (with_reducible refine ⟨_, Mi.add_int, ?_⟩) | (with_reducible refine ⟨_, Mi.sub_int, ?_⟩) | (with_reducible refine ⟨_, Mi.lt_int, ?_⟩) | (with_reducible refine ⟨_, Mi.le_int, ?_⟩) | (with_reducible refine ⟨_, Mi.gt_int, ?_⟩) | (with_reducible refine ⟨_, Mi.ge_int, ?_⟩) | (with_reducible refine ⟨_, Mi.neg_int, ?_⟩) | (with_reducible refine ⟨_, Mi.asBl_bl, ?_⟩) | (with_reducible refine ⟨_, Mi.pow_lit (by decide) (by decide), ?_⟩) | (with_reducible refine ⟨_, Mi.mul_int (by decide), ?_⟩) | (with_reducible refine ⟨_, Mi.mod_int (by decide), ?_⟩) | (with_reducible refine ⟨_, Mi.fdiv_int (by decide), ?_⟩) | (with_reducible refine ⟨_, Mi.eqq_int, ?_⟩) | (with_reducible refine ⟨_, Mi.neq_int, ?_⟩) | (with_reducible refine Mi.ift_t ?_) | (with_reducible refine Mi.ift_f ?_) | (with_reducible refine Mi.ift_nt ?_) | (with_reducible refine Mi.ift_nf ?_) | ((with_reducible refine Mi.ift_bt ?_ ?_); · rfl) | ((with_reducible refine Mi.ift_bf ?_ ?_); · rfl) | (refine ⟨_, _, _, _, _, rfl, rfl, rfl, rfl, ?_⟩) | (refine ⟨_, _, rfl, rfl, ?_⟩) | (refine ⟨_, _, rfl, ?_⟩) | (refine ⟨⟨rfl, rfl, rfl⟩, ?_⟩) | (refine ⟨Nat.le_of_ble_eq_true rfl, ?_⟩) | (refine ⟨by decide, ?_⟩) | (refine ⟨_, rfl, ?_⟩) | (refine ⟨rfl, ?_⟩) | (with_reducible refine ⟨fun hh => ?_, fun hh => ?_⟩) | fail)); (all_goals (try (with_reducible refine Mi.here ?_))))
          all_goals (refine fp_ok (within_ok hv ha hb) ?_)
          ((repeat' (first | (with_reducible refine Mi.wp_seq ?_) | (with_reducible refine Mi.wp_ifS ?_) | (with_reducible refine Mi.wp_asg ?_) | (with_reducible refine Mi.wp_retS ?_) | (with_reducible refine Mi.wp_bin ?_) | ((with_reducible apply Mi.wp_var1); · rfl) | (with_reducible refine Mi.wp_C ?_) | (with_reducible refine Mi.wp_asCons ?_) | (with_reducible refine Mi.wp_asNil ?_) | (with_reducible refine Mi.wp_call ?_) | (with_reducible refine Mi.wp_callIO ?_) | (with_reducible refine Mi.wp_args ?_) | (with_reducible refine Mi.wp_frzXn ?_) | (with_reducible refine Mi.wp_frzX0 ?_) | (with_reducible refine Mi.wp_frzXS ?_) | (with_reducible refine Mi.wp_frzsCons ?_) | (with_reducible refine Mi.wp_frzsNil ?_) | (with_reducible refine Mi.wp_frzD ?_) | (with_reducible refine Mi.wp_boolA ?_) | (with_reducible refine Mi.wp_blT ?_) | (with_reducible refine Mi.wp_tst ?_) | (with_reducible refine Mi.wp_andT ?_) | (with_reducible refine Mi.wp_orT ?_) | (with_reducible refine Mi.wp_notT ?_) | (with_reducible refine Mi.wp_ifA ?_) | (with_reducible refine Mi.wp_andA ?_) | (with_reducible refine Mi.wp_orA ?_) | (with_reducible refine Mi.wp_notA ?_) | (with_reducible refine Mi.wp_chainT ?_) | (with_reducible refine Mi.wp_cb ?_) | (with_reducible refine Mi.wp_un ?_) | (with_reducible refine Mi.wp_next ?_) | (with_reducible refine Mi.wp_asgN ?_) | (with_reducible refine Mi.wp_retNS ?_) | (with_reducible refine Mi.wp_drop ?_) | (with_reducible refine Mi.wp_par2 ?_) | (with_reducible refine Mi.wp_asgG ?_) | (with_reducible refine Mi.wp_subG ?_) | (with_reducible refine Mi.wp_appA ?_) | (with_reducible refine Mi.wp_tup ?_) | (with_reducible refine Mi.wp_lst ?_) | (with_reducible refine Mi.wp_new ?_) | (with_reducible refine Mi.wp_slice ?_) | (with_reducible refine Mi.wp_prtN ?_) | (with_reducible refine Mi.wp_prtS ?_) | (with_reducible refine Mi.wp_mt ?_) | (with_reducible refine Mi.wp_mt0 ?_) | (with_reducible refine Mi.wp_seqI ?_) | (with_reducible refine Mi.wp_compN ?_) | (with_reducible refine Mi.wp_fnI ?_) | (with_reducible refine Mi.wp_forS ?_) | (with_reducible refine Mi.wp_tgTup ?_) | (with_reducible refine Mi.wp_gsCons ?_) | (with_reducible refine Mi.wp_gsNil ?_) | (with_reducible refine Mi.wp_callN ?_) | ((with_reducible apply Mi.wp_putV); · rfl) | ((with_reducible apply Mi.wp_putN); · rfl) | (with_reducible refine Mi.wp_bnd ?_) | (with_reducible refine Mi.wp_ret ?_) | (with_reducible refine Mi.wp_opt ?_) | (with_reducible refine Mi.wp_view ?_) | ((with_reducible refine Mi.nm_a ?_); (try (conv => arg 1; simp only [Mi.putCell, Mi.wipeL, Mi.backL, Mi.pick, List.filterMap_cons, List.filterMap_nil, List.filterMap_cons_some, List.map_nil, List.map_cons, List.append_nil, List.nil_append, List.cons_append, List.getElem?_cons_zero, List.getElem?_cons_succ, List.set_cons_zero, List.set_cons_succ, List.getD_cons_zero, List.getD_cons_succ, Int.reduceToNat])); (with_reducible refine Mi.nm_b ?_)) | (with_reducible refine ⟨_, eqq_bl, ?_⟩) | (with_reducible refine ⟨_, Mi.isi_non_bool, ?_⟩) | (with_reducible refine ⟨_, Mi.isi_non_int, ?_⟩) | (with_reducible refine ⟨_, Mi.isi_non_str, ?_⟩) | (with_reducible refine ⟨_, Mi.isi_non_list, ?_⟩) | (with_reducible refine ⟨_, Mi.isi_non_tuple, ?_⟩) | (with_reducible refine ⟨_, Mi.isi_non_dict, ?_⟩) | (with_reducible refine ⟨_, Mi.isi_bl_bool, ?_⟩) | (with_reducible refine ⟨_, Mi.isi_bl_int, ?_⟩) | (with_reducible refine ⟨_, Mi.isi_bl_str, ?_⟩) | (with_reducible refine ⟨_, Mi.isi_bl_list, ?_⟩) | (with_reducible refine ⟨_, Mi.isi_bl_tuple, ?_⟩) | (with_reducible refine ⟨_, Mi.isi_bl_dict, ?_⟩) | (with_reducible refine ⟨_, Mi.isi_int_bool, ?_⟩) | (with_reducible refine ⟨_, Mi.isi_int_int, ?_⟩) | (with_reducible refine ⟨_, Mi.isi_int_str, ?_⟩) | (with_reducible refine ⟨_, Mi.isi_int_list, ?_⟩) | (with_reducible refine ⟨_, Mi.isi_int_tuple, ?_⟩) | (with_reducible refine ⟨_, Mi.isi_int_dict, ?_⟩) | (with_reducible refine ⟨_, Mi.isi_str_bool, ?_⟩) | (with_reducible refine ⟨_, Mi.isi_str_int, ?_⟩) | (with_reducible refine ⟨_, Mi.isi_str_str, ?_⟩) | (with_reducible refine ⟨_, Mi.isi_str_list, ?_⟩) | (with_reducible refine ⟨_, Mi.isi_str_tuple, ?_⟩) | (with_reducible refine ⟨_, Mi.isi_str_dict, ?_⟩) | (with_reducible refine ⟨_, Mi.isi_lst_bool, ?_⟩) | (with_reducible refine ⟨_, Mi.isi_lst_int, ?_⟩) | (with_reducible refine ⟨_, Mi.isi_lst_str, ?_⟩) | (with_reducible refine ⟨_, Mi.isi_lst_list, ?_⟩) | (with_reducible refine ⟨_, Mi.isi_lst_tuple, ?_⟩) | (with_reducible refine ⟨_, Mi.isi_lst_dict, ?_⟩) | (with_reducible refine ⟨_, Mi.isi_rol_bool, ?_⟩) | (with_reducible refine ⟨_, Mi.isi_rol_int, ?_⟩) | (with_reducible refine ⟨_, Mi.isi_rol_str, ?_⟩) | (with_reducible refine ⟨_, Mi.isi_rol_list, ?_⟩) | (with_reducible refine ⟨_, Mi.isi_rol_tuple, ?_⟩) | (with_reducible refine ⟨_, Mi.isi_rol_dict, ?_⟩) | (with_reducible refine ⟨_, Mi.isi_tup_bool, ?_⟩) | (with_reducible refine ⟨_, Mi.isi_tup_int, ?_⟩) | (with_reducible refine ⟨_, Mi.isi_tup_str, ?_⟩) | (with_reducible refine ⟨_, Mi.isi_tup_list, ?_⟩) | (with_reducible refine ⟨_, Mi.isi_tup_tuple, ?_⟩) | (with_reducible refine ⟨_, Mi.isi_tup_dict, ?_⟩) | (with_reducible refine ⟨_, Mi.isi_dct_bool, ?_⟩) | (with_reducible refine ⟨_, Mi.isi_dct_int, ?_⟩) | (with_reducible refine ⟨_, Mi.isi_dct_str, ?_⟩) | (with_reducible refine ⟨_, Mi.isi_dct_list, ?_⟩) | (with_reducible refine ⟨_, Mi.isi_dct_tuple, ?_⟩) | (with_reducible refine ⟨_, Mi.isi_dct_dict, ?_⟩) | (with_reducible refine ⟨_, Mi.add_int, ?_⟩) | (with_reducible refine ⟨_, Mi.sub_int, ?_⟩) | (with_reducible refine ⟨_, Mi.lt_int, ?_⟩) | (with_reducible refine ⟨_, Mi.le_int, ?_⟩) | (with_reducible refine ⟨_, Mi.gt_int, ?_⟩) | (with_reducible refine ⟨_, Mi.ge_int, ?_⟩) | (with_reducible refine ⟨_, Mi.neg_int, ?_⟩) | (with_reducible refine ⟨_, Mi.asBl_bl, ?_⟩) | (with_reducible refine ⟨_, Mi.pow_lit (by decide) (by decide), ?_⟩) | (with_reducible refine ⟨_, Mi.mul_int (by decide), ?_⟩) | (with_reducible refine ⟨_, Mi.mod_int (by decide), ?_⟩) | (with_reducible refine ⟨_, Mi.fdiv_int (by decide), ?_⟩) | (with_reducible refine ⟨_, Mi.eqq_int, ?_⟩) | (with_reducible refine ⟨_, Mi.neq_int, ?_⟩) | (with_reducible refine Mi.ift_t ?_) | (with_reducible refine Mi.ift_f ?_) | (with_reducible refine Mi.ift_nt ?_) | (with_reducible refine Mi.ift_nf ?_) | ((with_reducible refine Mi.ift_bt ?_ ?_); · rfl) | ((with_reducible refine Mi.ift_bf ?_ ?_); · rfl) | (refine ⟨_, _, _, _, _, rfl, rfl, rfl, rfl, ?_⟩) | (refine ⟨_, _, rfl, rfl, ?_⟩) | (refine ⟨_, _, rfl, ?_⟩) | (refine ⟨⟨rfl, rfl, rfl⟩, ?_⟩) | (refine ⟨Nat.le_of_ble_eq_true rfl, ?_⟩) | (refine ⟨by decide, ?_⟩) | (refine ⟨_, rfl, ?_⟩) | (refine ⟨rfl, ?_⟩) | (with_reducible refine ⟨fun hh => ?_, fun hh => ?_⟩) | fail)); (all_goals (try (with_reducible refine Mi.here ?_))))
          all_goals (refine ⟨?_, hj⟩; first | rfl | (congr 1; simp only [Bool.not_eq_true', Bool.not_eq_false', decide_eq_true_eq, decide_eq_false_iff_not] at *; simp [inB, lowB, highB, isI] <;> omega))
        | _ => exact hb.elim
      | _ => exact ha.elim
    | _ => first
      | exact hv.elim
      | (((repeat (first | (with_reducible refine Mi.wp_seq ?_) | (with_reducible refine Mi.wp_ifS ?_) | (with_reducible refine Mi.wp_asg ?_) | (with_reducible refine Mi.wp_retS ?_) | (with_reducible refine Mi.wp_bin ?_) | ((with_reducible apply Mi.wp_var1); · rfl) | (with_reducible refine Mi.wp_C ?_) | (with_reducible refine Mi.wp_asCons ?_) | (with_reducible refine Mi.wp_asNil ?_) | (with_reducible refine Mi.wp_call ?_) | (with_reducible refine Mi.wp_callIO ?_) | (with_reducible refine Mi.wp_args ?_) | (with_reducible refine Mi.wp_frzXn ?_) | (with_reducible refine Mi.wp_frzX0 ?_) | (with_reducible refine Mi.wp_frzXS ?_) | (with_reducible refine Mi.wp_frzsCons ?_) | (with_reducible refine Mi.wp_frzsNil ?_) | (with_reducible refine Mi.wp_frzD ?_) | (with_reducible refine Mi.wp_boolA ?_) | (with_reducible refine Mi.wp_blT ?_) | (with_reducible refine Mi.wp_tst ?_) | (with_reducible refine Mi.wp_andT ?_) | (with_reducible refine Mi.wp_orT ?_) | (with_reducible refine Mi.wp_notT ?_) | (with_reducible refine Mi.wp_ifA ?_) | (with_reducible refine Mi.wp_andA ?_) | (with_reducible refine Mi.wp_orA ?_) | (with_reducible refine Mi.wp_notA ?_) | (with_reducible refine Mi.wp_chainT ?_) | (with_reducible refine Mi.wp_cb ?_) | (with_reducible refine Mi.wp_un ?_) | (with_reducible refine Mi.wp_next ?_) | (with_reducible refine Mi.wp_asgN ?_) | (with_reducible refine Mi.wp_retNS ?_) | (with_reducible refine Mi.wp_drop ?_) | (with_reducible refine Mi.wp_par2 ?_) | (with_reducible refine Mi.wp_asgG ?_) | (with_reducible refine Mi.wp_subG ?_) | (with_reducible refine Mi.wp_appA ?_) | (with_reducible refine Mi.wp_tup ?_) | (with_reducible refine Mi.wp_lst ?_) | (with_reducible refine Mi.wp_new ?_) | (with_reducible refine Mi.wp_slice ?_) | (with_reducible refine Mi.wp_prtN ?_) | (with_reducible refine Mi.wp_prtS ?_) | (with_reducible refine Mi.wp_mt ?_) | (with_reducible refine Mi.wp_mt0 ?_) | (with_reducible refine Mi.wp_seqI ?_) | (with_reducible refine Mi.wp_compN ?_) | (with_reducible refine Mi.wp_fnI ?_) | (with_reducible refine Mi.wp_forS ?_) | (with_reducible refine Mi.wp_tgTup ?_) | (with_reducible refine Mi.wp_gsCons ?_) | (with_reducible refine Mi.wp_gsNil ?_) | (with_reducible refine Mi.wp_callN ?_) | ((with_reducible apply Mi.wp_putV); · rfl) | ((with_reducible apply Mi.wp_putN); · rfl) | (with_reducible refine Mi.wp_bnd ?_) | (with_reducible refine Mi.wp_ret ?_) | (with_reducible refine Mi.wp_opt ?_) | (with_reducible refine Mi.wp_view ?_) | ((with_reducible refine Mi.nm_a ?_); (try (conv => arg 1; simp only [Mi.putCell, Mi.wipeL, Mi.backL, Mi.pick, List.filterMap_cons, List.filterMap_nil, List.filterMap_cons_some, List.map_nil, List.map_cons, List.append_nil, List.nil_append, List.cons_append, List.getElem?_cons_zero, List.getElem?_cons_succ, List.set_cons_zero, List.set_cons_succ, List.getD_cons_zero, List.getD_cons_succ, Int.reduceToNat])); (with_reducible refine Mi.nm_b ?_)) | (with_reducible refine ⟨_, Mi.add_int, ?_⟩) | (with_reducible refine ⟨_, Mi.sub_int, ?_⟩) | (with_reducible refine ⟨_, Mi.lt_int, ?_⟩) | (with_reducible refine ⟨_, Mi.le_int, ?_⟩) | (with_reducible refine ⟨_, Mi.gt_int, ?_⟩) | (with_reducible refine ⟨_, Mi.ge_int, ?_⟩) | (with_reducible refine ⟨_, Mi.neg_int, ?_⟩) | (with_reducible refine ⟨_, Mi.asBl_bl, ?_⟩) | (with_reducible refine ⟨_, Mi.pow_lit (by decide) (by decide), ?_⟩) | (with_reducible refine ⟨_, Mi.mul_int (by decide), ?_⟩) | (with_reducible refine ⟨_, Mi.mod_int (by decide), ?_⟩) | (with_reducible refine ⟨_, Mi.fdiv_int (by decide), ?_⟩) | (with_reducible refine ⟨_, Mi.eqq_int, ?_⟩) | (with_reducible refine ⟨_, Mi.neq_int, ?_⟩) | (with_reducible refine Mi.ift_t ?_) | (with_reducible refine Mi.ift_f ?_) | (with_reducible refine Mi.ift_nt ?_) | (with_reducible refine Mi.ift_nf ?_) | ((with_reducible refine Mi.ift_bt ?_ ?_); · rfl) | ((with_reducible refine Mi.ift_bf ?_ ?_); · rfl) | (refine ⟨_, _, _, _, _, rfl, rfl, rfl, rfl, ?_⟩) | (refine ⟨_, _, rfl, rfl, ?_⟩) | (refine ⟨_, _, rfl, ?_⟩) | (refine ⟨⟨rfl, rfl, rfl⟩, ?_⟩) | (refine ⟨Nat.le_of_ble_eq_true rfl, ?_⟩) | (refine ⟨by decide, ?_⟩) | (refine ⟨_, rfl, ?_⟩) | (refine ⟨rfl, ?_⟩))); (try (with_reducible refine Mi.here ?_)))
         refine fp_ok (within_ok hv ha hb) ?_
         ((repeat (first | (with_reducible refine Mi.wp_seq ?_) | (with_reducible refine Mi.wp_ifS ?_) | (with_reducible refine Mi.wp_asg ?_) | (with_reducible refine Mi.wp_retS ?_) | (with_reducible refine Mi.wp_bin ?_) | ((with_reducible apply Mi.wp_var1); · rfl) | (with_reducible refine Mi.wp_C ?_) | (with_reducible refine Mi.wp_asCons ?_) | (with_reducible refine Mi.wp_asNil ?_) | (with_reducible refine Mi.wp_call ?_) | (with_reducible refine Mi.wp_callIO ?_) | (with_reducible refine Mi.wp_args ?_) | (with_reducible refine Mi.wp_frzXn ?_) | (with_reducible refine Mi.wp_frzX0 ?_) | (with_reducible refine Mi.wp_frzXS ?_) | (with_reducible refine Mi.wp_frzsCons ?_) | (with_reducible refine Mi.wp_frzsNil ?_) | (with_reducible refine Mi.wp_frzD ?_) | (with_reducible refine Mi.wp_boolA ?_) | (with_reducible refine Mi.wp_blT ?_) | (with_reducible refine Mi.wp_tst ?_) | (with_reducible refine Mi.wp_andT ?_) | (with_reducible refine Mi.wp_orT ?_) | (with_reducible refine Mi.wp_notT ?_) | (with_reducible refine Mi.wp_ifA ?_) | (with_reducible refine Mi.wp_andA ?_) | (with_reducible refine Mi.wp_orA ?_) | (with_reducible refine Mi.wp_notA ?_) | (with_reducible refine Mi.wp_chainT ?_) | (with_reducible refine Mi.wp_cb ?_) | (with_reducible refine Mi.wp_un ?_) | (with_reducible refine Mi.wp_next ?_) | (with_reducible refine Mi.wp_asgN ?_) | (with_reducible refine Mi.wp_retNS ?_) | (with_reducible refine Mi.wp_drop ?_) | (with_reducible refine Mi.wp_par2 ?_) | (with_reducible refine Mi.wp_asgG ?_) | (with_reducible refine Mi.wp_subG ?_) | (with_reducible refine Mi.wp_appA ?_) | (with_reducible refine Mi.wp_tup ?_) | (with_reducible refine Mi.wp_lst ?_) | (with_reducible refine Mi.wp_new ?_) | (with_reducible refine Mi.wp_slice ?_) | (with_reducible refine Mi.wp_prtN ?_) | (with_reducible refine Mi.wp_prtS ?_) | (with_reducible refine Mi.wp_mt ?_) | (with_reducible refine Mi.wp_mt0 ?_) | (with_reducible refine Mi.wp_seqI ?_) | (with_reducible refine Mi.wp_compN ?_) | (with_reducible refine Mi.wp_fnI ?_) | (with_reducible refine Mi.wp_forS ?_) | (with_reducible refine Mi.wp_tgTup ?_) | (with_reducible refine Mi.wp_gsCons ?_) | (with_reducible refine Mi.wp_gsNil ?_) | (with_reducible refine Mi.wp_callN ?_) | ((with_reducible apply Mi.wp_putV); · rfl) | ((with_reducible apply Mi.wp_putN); · rfl) | (with_reducible refine Mi.wp_bnd ?_) | (with_reducible refine Mi.wp_ret ?_) | (with_reducible refine Mi.wp_opt ?_) | (with_reducible refine Mi.wp_view ?_) | ((with_reducible refine Mi.nm_a ?_); (try (conv => arg 1; simp only [Mi.putCell, Mi.wipeL, Mi.backL, Mi.pick, List.filterMap_cons, List.filterMap_nil, List.filterMap_cons_some, List.map_nil, List.map_cons, List.append_nil, List.nil_append, List.cons_append, List.getElem?_cons_zero, List.getElem?_cons_succ, List.set_cons_zero, List.set_cons_succ, List.getD_cons_zero, List.getD_cons_succ, Int.reduceToNat])); (with_reducible refine Mi.nm_b ?_)) | (with_reducible refine ⟨_, eqq_bl, ?_⟩) | (with_reducible refine ⟨_, Mi.isi_non_bool, ?_⟩) | (with_reducible refine ⟨_, Mi.isi_non_int, ?_⟩) | (with_reducible refine ⟨_, Mi.isi_non_str, ?_⟩) | (with_reducible refine ⟨_, Mi.isi_non_list, ?_⟩) | (with_reducible refine ⟨_, Mi.isi_non_tuple, ?_⟩) | (with_reducible refine ⟨_, Mi.isi_non_dict, ?_⟩) | (with_reducible refine ⟨_, Mi.isi_bl_bool, ?_⟩) | (with_reducible refine ⟨_, Mi.isi_bl_int, ?_⟩) | (with_reducible refine ⟨_, Mi.isi_bl_str, ?_⟩) | (with_reducible refine ⟨_, Mi.isi_bl_list, ?_⟩) | (with_reducible refine ⟨_, Mi.isi_bl_tuple, ?_⟩) | (with_reducible refine ⟨_, Mi.isi_bl_dict, ?_⟩) | (with_reducible refine ⟨_, Mi.isi_int_bool, ?_⟩) | (with_reducible refine ⟨_, Mi.isi_int_int, ?_⟩) | (with_reducible refine ⟨_, Mi.isi_int_str, ?_⟩) | (with_reducible refine ⟨_, Mi.isi_int_list, ?_⟩) | (with_reducible refine ⟨_, Mi.isi_int_tuple, ?_⟩) | (with_reducible refine ⟨_, Mi.isi_int_dict, ?_⟩) | (with_reducible refine ⟨_, Mi.isi_str_bool, ?_⟩) | (with_reducible refine ⟨_, Mi.isi_str_int, ?_⟩) | (with_reducible refine ⟨_, Mi.isi_str_str, ?_⟩) | (with_reducible refine ⟨_, Mi.isi_str_list, ?_⟩) | (with_reducible refine ⟨_, Mi.isi_str_tuple, ?_⟩) | (with_reducible refine ⟨_, Mi.isi_str_dict, ?_⟩) | (with_reducible refine ⟨_, Mi.isi_lst_bool, ?_⟩) | (with_reducible refine ⟨_, Mi.isi_lst_int, ?_⟩) | (with_reducible refine ⟨_, Mi.isi_lst_str, ?_⟩) | (with_reducible refine ⟨_, Mi.isi_lst_list, ?_⟩) | (with_reducible refine ⟨_, Mi.isi_lst_tuple, ?_⟩) | (with_reducible refine ⟨_, Mi.isi_lst_dict, ?_⟩) | (with_reducible refine ⟨_, Mi.isi_rol_bool, ?_⟩) | (with_reducible refine ⟨_, Mi.isi_rol_int, ?_⟩) | (with_reducible refine ⟨_, Mi.isi_rol_str, ?_⟩) | (with_reducible refine ⟨_, Mi.isi_rol_list, ?_⟩) | (with_reducible refine ⟨_, Mi.isi_rol_tuple, ?_⟩) | (with_reducible refine ⟨_, Mi.isi_rol_dict, ?_⟩) | (with_reducible refine ⟨_, Mi.isi_tup_bool, ?_⟩) | (with_reducible refine ⟨_, Mi.isi_tup_int, ?_⟩) | (with_reducible refine ⟨_, Mi.isi_tup_str, ?_⟩) | (with_reducible refine ⟨_, Mi.isi_tup_list, ?_⟩) | (with_reducible refine ⟨_, Mi.isi_tup_tuple, ?_⟩) | (with_reducible refine ⟨_, Mi.isi_tup_dict, ?_⟩) | (with_reducible refine ⟨_, Mi.isi_dct_bool, ?_⟩) | (with_reducible refine ⟨_, Mi.isi_dct_int, ?_⟩) | (with_reducible refine ⟨_, Mi.isi_dct_str, ?_⟩) | (with_reducible refine ⟨_, Mi.isi_dct_list, ?_⟩) | (with_reducible refine ⟨_, Mi.isi_dct_tuple, ?_⟩) | (with_reducible refine ⟨_, Mi.isi_dct_dict, ?_⟩) | (with_reducible refine ⟨_, Mi.add_int, ?_⟩) | (with_reducible refine ⟨_, Mi.sub_int, ?_⟩) | (with_reducible refine ⟨_, Mi.lt_int, ?_⟩) | (with_reducible refine ⟨_, Mi.le_int, ?_⟩) | (with_reducible refine ⟨_, Mi.gt_int, ?_⟩) | (with_reducible refine ⟨_, Mi.ge_int, ?_⟩) | (with_reducible refine ⟨_, Mi.neg_int, ?_⟩) | (with_reducible refine ⟨_, Mi.asBl_bl, ?_⟩) | (with_reducible refine ⟨_, Mi.pow_lit (by decide) (by decide), ?_⟩) | (with_reducible refine ⟨_, Mi.mul_int (by decide), ?_⟩) | (with_reducible refine ⟨_, Mi.mod_int (by decide), ?_⟩) | (with_reducible refine ⟨_, Mi.fdiv_int (by decide), ?_⟩) | (with_reducible refine ⟨_, Mi.eqq_int, ?_⟩) | (with_reducible refine ⟨_, Mi.neq_int, ?_⟩) | (with_reducible refine Mi.ift_t ?_) | (with_reducible refine Mi.ift_f ?_) | (with_reducible refine Mi.ift_nt ?_) | (with_reducible refine Mi.ift_nf ?_) | ((with_reducible refine Mi.ift_bt ?_ ?_); · rfl) | ((with_reducible refine Mi.ift_bf ?_ ?_); · rfl) | (refine ⟨_, _, _, _, _, rfl, rfl, rfl, rfl, ?_⟩) | (refine ⟨_, _, rfl, rfl, ?_⟩) | (refine ⟨_, _, rfl, ?_⟩) | (refine ⟨⟨rfl, rfl, rfl⟩, ?_⟩) | (refine ⟨Nat.le_of_ble_eq_true rfl, ?_⟩) | (refine ⟨by decide, ?_⟩) | (refine ⟨_, rfl, ?_⟩) | (refine ⟨rfl, ?_⟩))); (try (with_reducible refine Mi.here ?_)))
         exact ⟨rfl, hj⟩)
  obtain ⟨d, o, e, rfl, h⟩ := fp_ex z
  exact ⟨o, e, h⟩
theorem fp_value {k : Nat} {j : D} {E : Str → List Str → List D → D → Prop} {Q : D → D → Prop} (hj : Jg k j) (hk : k + 200 < 2 ^ 40) (h : ∀ d o, VOk d → Jg (k + 200) o → Q d o) : Fp (f__law_value [j]) E Q := by
  obtain ⟨a, o, e, h1, h2⟩ := value_ok hj hk
  exact fp_ok e (h a o h1 h2)
theorem fp_right {k : Nat} {j d : D} {E : Str → List Str → List D → D → Prop} {Q : D → D → Prop} (hj : Jg k j) (hv : VOk d) (hk : k + 20 < 2 ^ 40) (h : ∀ o, Jg (k + 2) o → Q (.bl true) o) : Fp (f__law_within_right [j, d]) E Q := by
  obtain ⟨o, e, h1⟩ := right_ok hj hv hk
  exact fp_ok e (h o h1)
theorem neq_two {a b : Bool} : neqD (.lst [.bl a, .bl b]) (.lst [.bl a, .bl b]) = some (.bl false) := by cases a <;> cases b <;> rfl
end Lw
end
section
set_option maxHeartbeats 1000000
namespace Lw
open PySem L2 Mi
theorem law_m (ns : List Int) (hl : ns.length ≤ 63) : ∃ out, f_law [.rol (ns.map D.int)] = .ok (.bl true) out := by
  have z : Fp (f_law [.rol (ns.map D.int)]) noX fun r _ => r = .bl true := by
    refine fp_run (ρ := [.val _, .nil, .nil, .nil, .nil]) rfl ?_
    unfold m_law
    ((repeat (first | (with_reducible refine Mi.wp_seq ?_) | (with_reducible refine Mi.wp_ifS ?_) | (with_reducible refine Mi.wp_asg ?_) | (with_reducible refine Mi.wp_retS ?_) | (with_reducible refine Mi.wp_bin ?_) | ((with_reducible apply Mi.wp_var1); · rfl) | (with_reducible refine Mi.wp_C ?_) | (with_reducible refine Mi.wp_asCons ?_) | (with_reducible refine Mi.wp_asNil ?_) | (with_reducible refine Mi.wp_call ?_) | (with_reducible refine Mi.wp_callIO ?_) | (with_reducible refine Mi.wp_args ?_) | (with_reducible refine Mi.wp_frzXn ?_) | (with_reducible refine Mi.wp_frzX0 ?_) | (with_reducible refine Mi.wp_frzXS ?_) | (with_reducible refine Mi.wp_frzsCons ?_) | (with_reducible refine Mi.wp_frzsNil ?_) | (with_reducible refine Mi.wp_frzD ?_) | (with_reducible refine Mi.wp_boolA ?_) | (with_reducible refine Mi.wp_blT ?_) | (with_reducible refine Mi.wp_tst ?_) | (with_reducible refine Mi.wp_andT ?_) | (with_reducible refine Mi.wp_orT ?_) | (with_reducible refine Mi.wp_notT ?_) | (with_reducible refine Mi.wp_ifA ?_) | (with_reducible refine Mi.wp_andA ?_) | (with_reducible refine Mi.wp_orA ?_) | (with_reducible refine Mi.wp_notA ?_) | (with_reducible refine Mi.wp_chainT ?_) | (with_reducible refine Mi.wp_cb ?_) | (with_reducible refine Mi.wp_un ?_) | (with_reducible refine Mi.wp_next ?_) | (with_reducible refine Mi.wp_asgN ?_) | (with_reducible refine Mi.wp_retNS ?_) | (with_reducible refine Mi.wp_drop ?_) | (with_reducible refine Mi.wp_par2 ?_) | (with_reducible refine Mi.wp_asgG ?_) | (with_reducible refine Mi.wp_subG ?_) | (with_reducible refine Mi.wp_appA ?_) | (with_reducible refine Mi.wp_tup ?_) | (with_reducible refine Mi.wp_lst ?_) | (with_reducible refine Mi.wp_new ?_) | (with_reducible refine Mi.wp_slice ?_) | (with_reducible refine Mi.wp_prtN ?_) | (with_reducible refine Mi.wp_prtS ?_) | (with_reducible refine Mi.wp_mt ?_) | (with_reducible refine Mi.wp_mt0 ?_) | (with_reducible refine Mi.wp_seqI ?_) | (with_reducible refine Mi.wp_compN ?_) | (with_reducible refine Mi.wp_fnI ?_) | (with_reducible refine Mi.wp_forS ?_) | (with_reducible refine Mi.wp_tgTup ?_) | (with_reducible refine Mi.wp_gsCons ?_) | (with_reducible refine Mi.wp_gsNil ?_) | (with_reducible refine Mi.wp_callN ?_) | ((with_reducible apply Mi.wp_putV); · rfl) | ((with_reducible apply Mi.wp_putN); · rfl) | (with_reducible refine Mi.wp_bnd ?_) | (with_reducible refine Mi.wp_ret ?_) | (with_reducible refine Mi.wp_opt ?_) | (with_reducible refine Mi.wp_view ?_) | ((with_reducible refine Mi.nm_a ?_); (try (conv => arg 1; simp only [Mi.putCell, Mi.wipeL, Mi.backL, Mi.pick, List.filterMap_cons, List.filterMap_nil, List.filterMap_cons_some, List.map_nil, List.map_cons, List.append_nil, List.nil_append, List.cons_append, List.getElem?_cons_zero, List.getElem?_cons_succ, List.set_cons_zero, List.set_cons_succ, List.getD_cons_zero, List.getD_cons_succ, Int.reduceToNat])); (with_reducible refine Mi.nm_b ?_)) | (with_reducible refine ⟨_, Mi.add_int, ?_⟩) | (with_reducible refine ⟨_, Mi.sub_int, ?_⟩) | (with_reducible refine ⟨_, Mi.lt_int, ?_⟩) | (with_reducible refine ⟨_, Mi.le_int, ?_⟩) | (with_reducible refine ⟨_, Mi.gt_int, ?_⟩) | (with_reducible refine ⟨_, Mi.ge_int, ?_⟩) | (with_reducible refine ⟨_, Mi.neg_int, ?_⟩) | (with_reducible refine ⟨_, Mi.asBl_bl, ?_⟩) | (with_reducible refine ⟨_, Mi.pow_lit (by decide) (by decide), ?_⟩) | (with_reducible refine ⟨_, Mi.mul_int (by decide), ?_⟩) | (with_reducible refine ⟨_, Mi.mod_int (by decide), ?_⟩) | (with_reducible refine ⟨_, Mi.fdiv_int (by decide), ?_⟩) | (with_reducible refine ⟨_, Mi.eqq_int, ?_⟩) | (with_reducible refine ⟨_, Mi.neq_int, ?_⟩) | (with_reducible refine Mi.ift_t ?_) | (with_reducible refine Mi.ift_f ?_) | (with_reducible refine Mi.ift_nt ?_) | (with_reducible refine Mi.ift_nf ?_) | ((with_reducible refine Mi.ift_bt ?_ ?_); · rfl) | ((with_reducible refine Mi.ift_bf ?_ ?_); · rfl) | (refine ⟨_, _, _, _, _, rfl, rfl, rfl, rfl, ?_⟩) | (refine ⟨_, _, rfl, rfl, ?_⟩) | (refine ⟨_, _, rfl, ?_⟩) | (refine ⟨⟨rfl, rfl, rfl⟩, ?_⟩) | (refine ⟨Nat.le_of_ble_eq_true rfl, ?_⟩) | (refine ⟨by decide, ?_⟩) | (refine ⟨_, rfl, ?_⟩) | (refine ⟨rfl, ?_⟩))); (try (with_reducible refine Mi.here ?_)))
    obtain ⟨j, o, e, hj⟩ := jug_ok ns hl
    refine fpN_ok e ?_
    ((repeat (first | (with_reducible refine Mi.wp_seq ?_) | (with_reducible refine Mi.wp_ifS ?_) | (with_reducible refine Mi.wp_asg ?_) | (with_reducible refine Mi.wp_retS ?_) | (with_reducible refine Mi.wp_bin ?_) | ((with_reducible apply Mi.wp_var1); · rfl) | (with_reducible refine Mi.wp_C ?_) | (with_reducible refine Mi.wp_asCons ?_) | (with_reducible refine Mi.wp_asNil ?_) | (with_reducible refine Mi.wp_call ?_) | (with_reducible refine Mi.wp_callIO ?_) | (with_reducible refine Mi.wp_args ?_) | (with_reducible refine Mi.wp_frzXn ?_) | (with_reducible refine Mi.wp_frzX0 ?_) | (with_reducible refine Mi.wp_frzXS ?_) | (with_reducible refine Mi.wp_frzsCons ?_) | (with_reducible refine Mi.wp_frzsNil ?_) | (with_reducible refine Mi.wp_frzD ?_) | (with_reducible refine Mi.wp_boolA ?_) | (with_reducible refine Mi.wp_blT ?_) | (with_reducible refine Mi.wp_tst ?_) | (with_reducible refine Mi.wp_andT ?_) | (with_reducible refine Mi.wp_orT ?_) | (with_reducible refine Mi.wp_notT ?_) | (with_reducible refine Mi.wp_ifA ?_) | (with_reducible refine Mi.wp_andA ?_) | (with_reducible refine Mi.wp_orA ?_) | (with_reducible refine Mi.wp_notA ?_) | (with_reducible refine Mi.wp_chainT ?_) | (with_reducible refine Mi.wp_cb ?_) | (with_reducible refine Mi.wp_un ?_) | (with_reducible refine Mi.wp_next ?_) | (with_reducible refine Mi.wp_asgN ?_) | (with_reducible refine Mi.wp_retNS ?_) | (with_reducible refine Mi.wp_drop ?_) | (with_reducible refine Mi.wp_par2 ?_) | (with_reducible refine Mi.wp_asgG ?_) | (with_reducible refine Mi.wp_subG ?_) | (with_reducible refine Mi.wp_appA ?_) | (with_reducible refine Mi.wp_tup ?_) | (with_reducible refine Mi.wp_lst ?_) | (with_reducible refine Mi.wp_new ?_) | (with_reducible refine Mi.wp_slice ?_) | (with_reducible refine Mi.wp_prtN ?_) | (with_reducible refine Mi.wp_prtS ?_) | (with_reducible refine Mi.wp_mt ?_) | (with_reducible refine Mi.wp_mt0 ?_) | (with_reducible refine Mi.wp_seqI ?_) | (with_reducible refine Mi.wp_compN ?_) | (with_reducible refine Mi.wp_fnI ?_) | (with_reducible refine Mi.wp_forS ?_) | (with_reducible refine Mi.wp_tgTup ?_) | (with_reducible refine Mi.wp_gsCons ?_) | (with_reducible refine Mi.wp_gsNil ?_) | (with_reducible refine Mi.wp_callN ?_) | ((with_reducible apply Mi.wp_putV); · rfl) | ((with_reducible apply Mi.wp_putN); · rfl) | (with_reducible refine Mi.wp_bnd ?_) | (with_reducible refine Mi.wp_ret ?_) | (with_reducible refine Mi.wp_opt ?_) | (with_reducible refine Mi.wp_view ?_) | ((with_reducible refine Mi.nm_a ?_); (try (conv => arg 1; simp only [Mi.putCell, Mi.wipeL, Mi.backL, Mi.pick, List.filterMap_cons, List.filterMap_nil, List.filterMap_cons_some, List.map_nil, List.map_cons, List.append_nil, List.nil_append, List.cons_append, List.getElem?_cons_zero, List.getElem?_cons_succ, List.set_cons_zero, List.set_cons_succ, List.getD_cons_zero, List.getD_cons_succ, Int.reduceToNat])); (with_reducible refine Mi.nm_b ?_)) | (with_reducible refine ⟨_, Mi.add_int, ?_⟩) | (with_reducible refine ⟨_, Mi.sub_int, ?_⟩) | (with_reducible refine ⟨_, Mi.lt_int, ?_⟩) | (with_reducible refine ⟨_, Mi.le_int, ?_⟩) | (with_reducible refine ⟨_, Mi.gt_int, ?_⟩) | (with_reducible refine ⟨_, Mi.ge_int, ?_⟩) | (with_reducible refine ⟨_, Mi.neg_int, ?_⟩) | (with_reducible refine ⟨_, Mi.asBl_bl, ?_⟩) | (with_reducible refine ⟨_, Mi.pow_lit (by decide) (by decide), ?_⟩) | (with_reducible refine ⟨_, Mi.mul_int (by decide), ?_⟩) | (with_reducible refine ⟨_, Mi.mod_int (by decide), ?_⟩) | (with_reducible refine ⟨_, Mi.fdiv_int (by decide), ?_⟩) | (with_reducible refine ⟨_, Mi.eqq_int, ?_⟩) | (with_reducible refine ⟨_, Mi.neq_int, ?_⟩) | (with_reducible refine Mi.ift_t ?_) | (with_reducible refine Mi.ift_f ?_) | (with_reducible refine Mi.ift_nt ?_) | (with_reducible refine Mi.ift_nf ?_) | ((with_reducible refine Mi.ift_bt ?_ ?_); · rfl) | ((with_reducible refine Mi.ift_bf ?_ ?_); · rfl) | (refine ⟨_, _, _, _, _, rfl, rfl, rfl, rfl, ?_⟩) | (refine ⟨_, _, rfl, rfl, ?_⟩) | (refine ⟨_, _, rfl, ?_⟩) | (refine ⟨⟨rfl, rfl, rfl⟩, ?_⟩) | (refine ⟨Nat.le_of_ble_eq_true rfl, ?_⟩) | (refine ⟨by decide, ?_⟩) | (refine ⟨_, rfl, ?_⟩) | (refine ⟨rfl, ?_⟩))); (try (with_reducible refine Mi.here ?_)))
    refine wp_for (fun ds ρ => ∃ (k : Nat) (j : D) (s2 s3 s4 : Sl), Jg k j ∧ k + 1000 * ds.length ≤ 20000 ∧ ρ = [.val (.rol (ns.map D.int)), .cel false j, s2, s3, s4] ∧ ((s2 = .nil ∧ s3 = .nil ∧ s4 = .nil) ∨ ∃ d2 d3 d4, s2 = .val d2 ∧ s3 = .val d3 ∧ s4 = .val d4)) ?_ ?_ _ _ ?_
    · rintro ρ ⟨k, j, s2, s3, s4, -, -, rfl, -⟩
      ((repeat (first | (with_reducible refine Mi.wp_seq ?_) | (with_reducible refine Mi.wp_ifS ?_) | (with_reducible refine Mi.wp_asg ?_) | (with_reducible refine Mi.wp_retS ?_) | (with_reducible refine Mi.wp_bin ?_) | ((with_reducible apply Mi.wp_var1); · rfl) | (with_reducible refine Mi.wp_C ?_) | (with_reducible refine Mi.wp_asCons ?_) | (with_reducible refine Mi.wp_asNil ?_) | (with_reducible refine Mi.wp_call ?_) | (with_reducible refine Mi.wp_callIO ?_) | (with_reducible refine Mi.wp_args ?_) | (with_reducible refine Mi.wp_frzXn ?_) | (with_reducible refine Mi.wp_frzX0 ?_) | (with_reducible refine Mi.wp_frzXS ?_) | (with_reducible refine Mi.wp_frzsCons ?_) | (with_reducible refine Mi.wp_frzsNil ?_) | (with_reducible refine Mi.wp_frzD ?_) | (with_reducible refine Mi.wp_boolA ?_) | (with_reducible refine Mi.wp_blT ?_) | (with_reducible refine Mi.wp_tst ?_) | (with_reducible refine Mi.wp_andT ?_) | (with_reducible refine Mi.wp_orT ?_) | (with_reducible refine Mi.wp_notT ?_) | (with_reducible refine Mi.wp_ifA ?_) | (with_reducible refine Mi.wp_andA ?_) | (with_reducible refine Mi.wp_orA ?_) | (with_reducible refine Mi.wp_notA ?_) | (with_reducible refine Mi.wp_chainT ?_) | (with_reducible refine Mi.wp_cb ?_) | (with_reducible refine Mi.wp_un ?_) | (with_reducible refine Mi.wp_next ?_) | (with_reducible refine Mi.wp_asgN ?_) | (with_reducible refine Mi.wp_retNS ?_) | (with_reducible refine Mi.wp_drop ?_) | (with_reducible refine Mi.wp_par2 ?_) | (with_reducible refine Mi.wp_asgG ?_) | (with_reducible refine Mi.wp_subG ?_) | (with_reducible refine Mi.wp_appA ?_) | (with_reducible refine Mi.wp_tup ?_) | (with_reducible refine Mi.wp_lst ?_) | (with_reducible refine Mi.wp_new ?_) | (with_reducible refine Mi.wp_slice ?_) | (with_reducible refine Mi.wp_prtN ?_) | (with_reducible refine Mi.wp_prtS ?_) | (with_reducible refine Mi.wp_mt ?_) | (with_reducible refine Mi.wp_mt0 ?_) | (with_reducible refine Mi.wp_seqI ?_) | (with_reducible refine Mi.wp_compN ?_) | (with_reducible refine Mi.wp_fnI ?_) | (with_reducible refine Mi.wp_forS ?_) | (with_reducible refine Mi.wp_tgTup ?_) | (with_reducible refine Mi.wp_gsCons ?_) | (with_reducible refine Mi.wp_gsNil ?_) | (with_reducible refine Mi.wp_callN ?_) | ((with_reducible apply Mi.wp_putV); · rfl) | ((with_reducible apply Mi.wp_putN); · rfl) | (with_reducible refine Mi.wp_bnd ?_) | (with_reducible refine Mi.wp_ret ?_) | (with_reducible refine Mi.wp_opt ?_) | (with_reducible refine Mi.wp_view ?_) | ((with_reducible refine Mi.nm_a ?_); (try (conv => arg 1; simp only [Mi.putCell, Mi.wipeL, Mi.backL, Mi.pick, List.filterMap_cons, List.filterMap_nil, List.filterMap_cons_some, List.map_nil, List.map_cons, List.append_nil, List.nil_append, List.cons_append, List.getElem?_cons_zero, List.getElem?_cons_succ, List.set_cons_zero, List.set_cons_succ, List.getD_cons_zero, List.getD_cons_succ, Int.reduceToNat])); (with_reducible refine Mi.nm_b ?_)) | (with_reducible refine ⟨_, Mi.add_int, ?_⟩) | (with_reducible refine ⟨_, Mi.sub_int, ?_⟩) | (with_reducible refine ⟨_, Mi.lt_int, ?_⟩) | (with_reducible refine ⟨_, Mi.le_int, ?_⟩) | (with_reducible refine ⟨_, Mi.gt_int, ?_⟩) | (with_reducible refine ⟨_, Mi.ge_int, ?_⟩) | (with_reducible refine ⟨_, Mi.neg_int, ?_⟩) | (with_reducible refine ⟨_, Mi.asBl_bl, ?_⟩) | (with_reducible refine ⟨_, Mi.pow_lit (by decide) (by decide), ?_⟩) | (with_reducible refine ⟨_, Mi.mul_int (by decide), ?_⟩) | (with_reducible refine ⟨_, Mi.mod_int (by decide), ?_⟩) | (with_reducible refine ⟨_, Mi.fdiv_int (by decide), ?_⟩) | (with_reducible refine ⟨_, Mi.eqq_int, ?_⟩) | (with_reducible refine ⟨_, Mi.neq_int, ?_⟩) | (with_reducible refine Mi.ift_t ?_) | (with_reducible refine Mi.ift_f ?_) | (with_reducible refine Mi.ift_nt ?_) | (with_reducible refine Mi.ift_nf ?_) | ((with_reducible refine Mi.ift_bt ?_ ?_); · rfl) | ((with_reducible refine Mi.ift_bf ?_ ?_); · rfl) | (refine ⟨_, _, _, _, _, rfl, rfl, rfl, rfl, ?_⟩) | (refine ⟨_, _, rfl, rfl, ?_⟩) | (refine ⟨_, _, rfl, ?_⟩) | (refine ⟨⟨rfl, rfl, rfl⟩, ?_⟩) | (refine ⟨Nat.le_of_ble_eq_true rfl, ?_⟩) | (refine ⟨by decide, ?_⟩) | (refine ⟨_, rfl, ?_⟩) | (refine ⟨rfl, ?_⟩))); (try (with_reducible refine Mi.here ?_)))
      exact rfl
    · rintro d ds ρ ⟨k, j, s2, s3, s4, hj, hk, rfl, hs⟩
      rw [List.length_cons] at hk
      rcases hs with ⟨rfl, rfl, rfl⟩ | ⟨d2, d3, d4, rfl, rfl, rfl⟩
      · ((repeat (first | (with_reducible refine Mi.wp_seq ?_) | (with_reducible refine Mi.wp_ifS ?_) | (with_reducible refine Mi.wp_asg ?_) | (with_reducible refine Mi.wp_retS ?_) | (with_reducible refine Mi.wp_bin ?_) | ((with_reducible apply Mi.wp_var1); · rfl) | (with_reducible refine Mi.wp_C ?_) | (with_reducible refine Mi.wp_asCons ?_) | (with_reducible refine Mi.wp_asNil ?_) | (with_reducible refine Mi.wp_call ?_) | (with_reducible refine Mi.wp_callIO ?_) | (with_reducible refine Mi.wp_args ?_) | (with_reducible refine Mi.wp_frzXn ?_) | (with_reducible refine Mi.wp_frzX0 ?_) | (with_reducible refine Mi.wp_frzXS ?_) | (with_reducible refine Mi.wp_frzsCons ?_) | (with_reducible refine Mi.wp_frzsNil ?_) | (with_reducible refine Mi.wp_frzD ?_) | (with_reducible refine Mi.wp_boolA ?_) | (with_reducible refine Mi.wp_blT ?_) | (with_reducible refine Mi.wp_tst ?_) | (with_reducible refine Mi.wp_andT ?_) | (with_reducible refine Mi.wp_orT ?_) | (with_reducible refine Mi.wp_notT ?_) | (with_reducible refine Mi.wp_ifA ?_) | (with_reducible refine Mi.wp_andA ?_) | (with_reducible refine Mi.wp_orA ?_) | (with_reducible refine Mi.wp_notA ?_) | (with_reducible refine Mi.wp_chainT ?_) | (with_reducible refine Mi.wp_cb ?_) | (with_reducible refine Mi.wp_un ?_) | (with_reducible refine Mi.wp_next ?_) | (with_reducible refine Mi.wp_asgN ?_) | (with_reducible refine Mi.wp_retNS ?_) | (with_reducible refine Mi.wp_drop ?_) | (with_reducible refine Mi.wp_par2 ?_) | (with_reducible refine Mi.wp_asgG ?_) | (with_reducible refine Mi.wp_subG ?_) | (with_reducible refine Mi.wp_appA ?_) | (with_reducible refine Mi.wp_tup ?_) | (with_reducible refine Mi.wp_lst ?_) | (with_reducible refine Mi.wp_new ?_) | (with_reducible refine Mi.wp_slice ?_) | (with_reducible refine Mi.wp_prtN ?_) | (with_reducible refine Mi.wp_prtS ?_) | (with_reducible refine Mi.wp_mt ?_) | (with_reducible refine Mi.wp_mt0 ?_) | (with_reducible refine Mi.wp_seqI ?_) | (with_reducible refine Mi.wp_compN ?_) | (with_reducible refine Mi.wp_fnI ?_) | (with_reducible refine Mi.wp_forS ?_) | (with_reducible refine Mi.wp_tgTup ?_) | (with_reducible refine Mi.wp_gsCons ?_) | (with_reducible refine Mi.wp_gsNil ?_) | (with_reducible refine Mi.wp_callN ?_) | ((with_reducible apply Mi.wp_putV); · rfl) | ((with_reducible apply Mi.wp_putN); · rfl) | (with_reducible refine Mi.wp_bnd ?_) | (with_reducible refine Mi.wp_ret ?_) | (with_reducible refine Mi.wp_opt ?_) | (with_reducible refine Mi.wp_view ?_) | ((with_reducible refine Mi.nm_a ?_); (try (conv => arg 1; simp only [Mi.putCell, Mi.wipeL, Mi.backL, Mi.pick, List.filterMap_cons, List.filterMap_nil, List.filterMap_cons_some, List.map_nil, List.map_cons, List.append_nil, List.nil_append, List.cons_append, List.getElem?_cons_zero, List.getElem?_cons_succ, List.set_cons_zero, List.set_cons_succ, List.getD_cons_zero, List.getD_cons_succ, Int.reduceToNat])); (with_reducible refine Mi.nm_b ?_)) | (with_reducible refine ⟨_, Mi.add_int, ?_⟩) | (with_reducible refine ⟨_, Mi.sub_int, ?_⟩) | (with_reducible refine ⟨_, Mi.lt_int, ?_⟩) | (with_reducible refine ⟨_, Mi.le_int, ?_⟩) | (with_reducible refine ⟨_, Mi.gt_int, ?_⟩) | (with_reducible refine ⟨_, Mi.ge_int, ?_⟩) | (with_reducible refine ⟨_, Mi.neg_int, ?_⟩) | (with_reducible refine ⟨_, Mi.asBl_bl, ?_⟩) | (with_reducible refine ⟨_, Mi.pow_lit (by decide) (by decide), ?_⟩) | (with_reducible refine ⟨_, Mi.mul_int (by decide), ?_⟩) | (with_reducible refine ⟨_, Mi.mod_int (by decide), ?_⟩) | (with_reducible refine ⟨_, Mi.fdiv_int (by decide), ?_⟩) | (with_reducible refine ⟨_, Mi.eqq_int, ?_⟩) | (with_reducible refine ⟨_, Mi.neq_int, ?_⟩) | (with_reducible refine Mi.ift_t ?_) | (with_reducible refine Mi.ift_f ?_) | (with_reducible refine Mi.ift_nt ?_) | (with_reducible refine Mi.ift_nf ?_) | ((with_reducible refine Mi.ift_bt ?_ ?_); · rfl) | ((with_reducible refine Mi.ift_bf ?_ ?_); · rfl) | (refine ⟨_, _, _, _, _, rfl, rfl, rfl, rfl, ?_⟩) | (refine ⟨_, _, rfl, rfl, ?_⟩) | (refine ⟨_, _, rfl, ?_⟩) | (refine ⟨⟨rfl, rfl, rfl⟩, ?_⟩) | (refine ⟨Nat.le_of_ble_eq_true rfl, ?_⟩) | (refine ⟨by decide, ?_⟩) | (refine ⟨_, rfl, ?_⟩) | (refine ⟨rfl, ?_⟩))); (try (with_reducible refine Mi.here ?_)))
        refine fp_value hj (by omega) fun v o hv hj => ?_
        ((repeat (first | (with_reducible refine Mi.wp_seq ?_) | (with_reducible refine Mi.wp_ifS ?_) | (with_reducible refine Mi.wp_asg ?_) | (with_reducible refine Mi.wp_retS ?_) | (with_reducible refine Mi.wp_bin ?_) | ((with_reducible apply Mi.wp_var1); · rfl) | (with_reducible refine Mi.wp_C ?_) | (with_reducible refine Mi.wp_asCons ?_) | (with_reducible refine Mi.wp_asNil ?_) | (with_reducible refine Mi.wp_call ?_) | (with_reducible refine Mi.wp_callIO ?_) | (with_reducible refine Mi.wp_args ?_) | (with_reducible refine Mi.wp_frzXn ?_) | (with_reducible refine Mi.wp_frzX0 ?_) | (with_reducible refine Mi.wp_frzXS ?_) | (with_reducible refine Mi.wp_frzsCons ?_) | (with_reducible refine Mi.wp_frzsNil ?_) | (with_reducible refine Mi.wp_frzD ?_) | (with_reducible refine Mi.wp_boolA ?_) | (with_reducible refine Mi.wp_blT ?_) | (with_reducible refine Mi.wp_tst ?_) | (with_reducible refine Mi.wp_andT ?_) | (with_reducible refine Mi.wp_orT ?_) | (with_reducible refine Mi.wp_notT ?_) | (with_reducible refine Mi.wp_ifA ?_) | (with_reducible refine Mi.wp_andA ?_) | (with_reducible refine Mi.wp_orA ?_) | (with_reducible refine Mi.wp_notA ?_) | (with_reducible refine Mi.wp_chainT ?_) | (with_reducible refine Mi.wp_cb ?_) | (with_reducible refine Mi.wp_un ?_) | (with_reducible refine Mi.wp_next ?_) | (with_reducible refine Mi.wp_asgN ?_) | (with_reducible refine Mi.wp_retNS ?_) | (with_reducible refine Mi.wp_drop ?_) | (with_reducible refine Mi.wp_par2 ?_) | (with_reducible refine Mi.wp_asgG ?_) | (with_reducible refine Mi.wp_subG ?_) | (with_reducible refine Mi.wp_appA ?_) | (with_reducible refine Mi.wp_tup ?_) | (with_reducible refine Mi.wp_lst ?_) | (with_reducible refine Mi.wp_new ?_) | (with_reducible refine Mi.wp_slice ?_) | (with_reducible refine Mi.wp_prtN ?_) | (with_reducible refine Mi.wp_prtS ?_) | (with_reducible refine Mi.wp_mt ?_) | (with_reducible refine Mi.wp_mt0 ?_) | (with_reducible refine Mi.wp_seqI ?_) | (with_reducible refine Mi.wp_compN ?_) | (with_reducible refine Mi.wp_fnI ?_) | (with_reducible refine Mi.wp_forS ?_) | (with_reducible refine Mi.wp_tgTup ?_) | (with_reducible refine Mi.wp_gsCons ?_) | (with_reducible refine Mi.wp_gsNil ?_) | (with_reducible refine Mi.wp_callN ?_) | ((with_reducible apply Mi.wp_putV); · rfl) | ((with_reducible apply Mi.wp_putN); · rfl) | (with_reducible refine Mi.wp_bnd ?_) | (with_reducible refine Mi.wp_ret ?_) | (with_reducible refine Mi.wp_opt ?_) | (with_reducible refine Mi.wp_view ?_) | ((with_reducible refine Mi.nm_a ?_); (try (conv => arg 1; simp only [Mi.putCell, Mi.wipeL, Mi.backL, Mi.pick, List.filterMap_cons, List.filterMap_nil, List.filterMap_cons_some, List.map_nil, List.map_cons, List.append_nil, List.nil_append, List.cons_append, List.getElem?_cons_zero, List.getElem?_cons_succ, List.set_cons_zero, List.set_cons_succ, List.getD_cons_zero, List.getD_cons_succ, Int.reduceToNat])); (with_reducible refine Mi.nm_b ?_)) | (with_reducible refine ⟨_, Mi.add_int, ?_⟩) | (with_reducible refine ⟨_, Mi.sub_int, ?_⟩) | (with_reducible refine ⟨_, Mi.lt_int, ?_⟩) | (with_reducible refine ⟨_, Mi.le_int, ?_⟩) | (with_reducible refine ⟨_, Mi.gt_int, ?_⟩) | (with_reducible refine ⟨_, Mi.ge_int, ?_⟩) | (with_reducible refine ⟨_, Mi.neg_int, ?_⟩) | (with_reducible refine ⟨_, Mi.asBl_bl, ?_⟩) | (with_reducible refine ⟨_, Mi.pow_lit (by decide) (by decide), ?_⟩) | (with_reducible refine ⟨_, Mi.mul_int (by decide), ?_⟩) | (with_reducible refine ⟨_, Mi.mod_int (by decide), ?_⟩) | (with_reducible refine ⟨_, Mi.fdiv_int (by decide), ?_⟩) | (with_reducible refine ⟨_, Mi.eqq_int, ?_⟩) | (with_reducible refine ⟨_, Mi.neq_int, ?_⟩) | (with_reducible refine Mi.ift_t ?_) | (with_reducible refine Mi.ift_f ?_) | (with_reducible refine Mi.ift_nt ?_) | (with_reducible refine Mi.ift_nf ?_) | ((with_reducible refine Mi.ift_bt ?_ ?_); · rfl) | ((with_reducible refine Mi.ift_bf ?_ ?_); · rfl) | (refine ⟨_, _, _, _, _, rfl, rfl, rfl, rfl, ?_⟩) | (refine ⟨_, _, rfl, rfl, ?_⟩) | (refine ⟨_, _, rfl, ?_⟩) | (refine ⟨⟨rfl, rfl, rfl⟩, ?_⟩) | (refine ⟨Nat.le_of_ble_eq_true rfl, ?_⟩) | (refine ⟨by decide, ?_⟩) | (refine ⟨_, rfl, ?_⟩) | (refine ⟨rfl, ?_⟩))); (try (with_reducible refine Mi.here ?_)))
        refine fp_ok (int_ok hv) ?_
        ((repeat (first | (with_reducible refine Mi.wp_seq ?_) | (with_reducible refine Mi.wp_ifS ?_) | (with_reducible refine Mi.wp_asg ?_) | (with_reducible refine Mi.wp_retS ?_) | (with_reducible refine Mi.wp_bin ?_) | ((with_reducible apply Mi.wp_var1); · rfl) | (with_reducible refine Mi.wp_C ?_) | (with_reducible refine Mi.wp_asCons ?_) | (with_reducible refine Mi.wp_asNil ?_) | (with_reducible refine Mi.wp_call ?_) | (with_reducible refine Mi.wp_callIO ?_) | (with_reducible refine Mi.wp_args ?_) | (with_reducible refine Mi.wp_frzXn ?_) | (with_reducible refine Mi.wp_frzX0 ?_) | (with_reducible refine Mi.wp_frzXS ?_) | (with_reducible refine Mi.wp_frzsCons ?_) | (with_reducible refine Mi.wp_frzsNil ?_) | (with_reducible refine Mi.wp_frzD ?_) | (with_reducible refine Mi.wp_boolA ?_) | (with_reducible refine Mi.wp_blT ?_) | (with_reducible refine Mi.wp_tst ?_) | (with_reducible refine Mi.wp_andT ?_) | (with_reducible refine Mi.wp_orT ?_) | (with_reducible refine Mi.wp_notT ?_) | (with_reducible refine Mi.wp_ifA ?_) | (with_reducible refine Mi.wp_andA ?_) | (with_reducible refine Mi.wp_orA ?_) | (with_reducible refine Mi.wp_notA ?_) | (with_reducible refine Mi.wp_chainT ?_) | (with_reducible refine Mi.wp_cb ?_) | (with_reducible refine Mi.wp_un ?_) | (with_reducible refine Mi.wp_next ?_) | (with_reducible refine Mi.wp_asgN ?_) | (with_reducible refine Mi.wp_retNS ?_) | (with_reducible refine Mi.wp_drop ?_) | (with_reducible refine Mi.wp_par2 ?_) | (with_reducible refine Mi.wp_asgG ?_) | (with_reducible refine Mi.wp_subG ?_) | (with_reducible refine Mi.wp_appA ?_) | (with_reducible refine Mi.wp_tup ?_) | (with_reducible refine Mi.wp_lst ?_) | (with_reducible refine Mi.wp_new ?_) | (with_reducible refine Mi.wp_slice ?_) | (with_reducible refine Mi.wp_prtN ?_) | (with_reducible refine Mi.wp_prtS ?_) | (with_reducible refine Mi.wp_mt ?_) | (with_reducible refine Mi.wp_mt0 ?_) | (with_reducible refine Mi.wp_seqI ?_) | (with_reducible refine Mi.wp_compN ?_) | (with_reducible refine Mi.wp_fnI ?_) | (with_reducible refine Mi.wp_forS ?_) | (with_reducible refine Mi.wp_tgTup ?_) | (with_reducible refine Mi.wp_gsCons ?_) | (with_reducible refine Mi.wp_gsNil ?_) | (with_reducible refine Mi.wp_callN ?_) | ((with_reducible apply Mi.wp_putV); · rfl) | ((with_reducible apply Mi.wp_putN); · rfl) | (with_reducible refine Mi.wp_bnd ?_) | (with_reducible refine Mi.wp_ret ?_) | (with_reducible refine Mi.wp_opt ?_) | (with_reducible refine Mi.wp_view ?_) | ((with_reducible refine Mi.nm_a ?_); (try (conv => arg 1; simp only [Mi.putCell, Mi.wipeL, Mi.backL, Mi.pick, List.filterMap_cons, List.filterMap_nil, List.filterMap_cons_some, List.map_nil, List.map_cons, List.append_nil, List.nil_append, List.cons_append, List.getElem?_cons_zero, List.getElem?_cons_succ, List.set_cons_zero, List.set_cons_succ, List.getD_cons_zero, List.getD_cons_succ, Int.reduceToNat])); (with_reducible refine Mi.nm_b ?_)) | (with_reducible refine ⟨_, Mi.add_int, ?_⟩) | (with_reducible refine ⟨_, Mi.sub_int, ?_⟩) | (with_reducible refine ⟨_, Mi.lt_int, ?_⟩) | (with_reducible refine ⟨_, Mi.le_int, ?_⟩) | (with_reducible refine ⟨_, Mi.gt_int, ?_⟩) | (with_reducible refine ⟨_, Mi.ge_int, ?_⟩) | (with_reducible refine ⟨_, Mi.neg_int, ?_⟩) | (with_reducible refine ⟨_, Mi.asBl_bl, ?_⟩) | (with_reducible refine ⟨_, Mi.pow_lit (by decide) (by decide), ?_⟩) | (with_reducible refine ⟨_, Mi.mul_int (by decide), ?_⟩) | (with_reducible refine ⟨_, Mi.mod_int (by decide), ?_⟩) | (with_reducible refine ⟨_, Mi.fdiv_int (by decide), ?_⟩) | (with_reducible refine ⟨_, Mi.eqq_int, ?_⟩) | (with_reducible refine ⟨_, Mi.neq_int, ?_⟩) | (with_reducible refine Mi.ift_t ?_) | (with_reducible refine Mi.ift_f ?_) | (with_reducible refine Mi.ift_nt ?_) | (with_reducible refine Mi.ift_nf ?_) | ((with_reducible refine Mi.ift_bt ?_ ?_); · rfl) | ((with_reducible refine Mi.ift_bf ?_ ?_); · rfl) | (refine ⟨_, _, _, _, _, rfl, rfl, rfl, rfl, ?_⟩) | (refine ⟨_, _, rfl, rfl, ?_⟩) | (refine ⟨_, _, rfl, ?_⟩) | (refine ⟨⟨rfl, rfl, rfl⟩, ?_⟩) | (refine ⟨Nat.le_of_ble_eq_true rfl, ?_⟩) | (refine ⟨by decide, ?_⟩) | (refine ⟨_, rfl, ?_⟩) | (refine ⟨rfl, ?_⟩))); (try (with_reducible refine Mi.here ?_)))
        refine fp_ok (name_all hv) ?_
        ((repeat (first | (with_reducible refine Mi.wp_seq ?_) | (with_reducible refine Mi.wp_ifS ?_) | (with_reducible refine Mi.wp_asg ?_) | (with_reducible refine Mi.wp_retS ?_) | (with_reducible refine Mi.wp_bin ?_) | ((with_reducible apply Mi.wp_var1); · rfl) | (with_reducible refine Mi.wp_C ?_) | (with_reducible refine Mi.wp_asCons ?_) | (with_reducible refine Mi.wp_asNil ?_) | (with_reducible refine Mi.wp_call ?_) | (with_reducible refine Mi.wp_callIO ?_) | (with_reducible refine Mi.wp_args ?_) | (with_reducible refine Mi.wp_frzXn ?_) | (with_reducible refine Mi.wp_frzX0 ?_) | (with_reducible refine Mi.wp_frzXS ?_) | (with_reducible refine Mi.wp_frzsCons ?_) | (with_reducible refine Mi.wp_frzsNil ?_) | (with_reducible refine Mi.wp_frzD ?_) | (with_reducible refine Mi.wp_boolA ?_) | (with_reducible refine Mi.wp_blT ?_) | (with_reducible refine Mi.wp_tst ?_) | (with_reducible refine Mi.wp_andT ?_) | (with_reducible refine Mi.wp_orT ?_) | (with_reducible refine Mi.wp_notT ?_) | (with_reducible refine Mi.wp_ifA ?_) | (with_reducible refine Mi.wp_andA ?_) | (with_reducible refine Mi.wp_orA ?_) | (with_reducible refine Mi.wp_notA ?_) | (with_reducible refine Mi.wp_chainT ?_) | (with_reducible refine Mi.wp_cb ?_) | (with_reducible refine Mi.wp_un ?_) | (with_reducible refine Mi.wp_next ?_) | (with_reducible refine Mi.wp_asgN ?_) | (with_reducible refine Mi.wp_retNS ?_) | (with_reducible refine Mi.wp_drop ?_) | (with_reducible refine Mi.wp_par2 ?_) | (with_reducible refine Mi.wp_asgG ?_) | (with_reducible refine Mi.wp_subG ?_) | (with_reducible refine Mi.wp_appA ?_) | (with_reducible refine Mi.wp_tup ?_) | (with_reducible refine Mi.wp_lst ?_) | (with_reducible refine Mi.wp_new ?_) | (with_reducible refine Mi.wp_slice ?_) | (with_reducible refine Mi.wp_prtN ?_) | (with_reducible refine Mi.wp_prtS ?_) | (with_reducible refine Mi.wp_mt ?_) | (with_reducible refine Mi.wp_mt0 ?_) | (with_reducible refine Mi.wp_seqI ?_) | (with_reducible refine Mi.wp_compN ?_) | (with_reducible refine Mi.wp_fnI ?_) | (with_reducible refine Mi.wp_forS ?_) | (with_reducible refine Mi.wp_tgTup ?_) | (with_reducible refine Mi.wp_gsCons ?_) | (with_reducible refine Mi.wp_gsNil ?_) | (with_reducible refine Mi.wp_callN ?_) | ((with_reducible apply Mi.wp_putV); · rfl) | ((with_reducible apply Mi.wp_putN); · rfl) | (with_reducible refine Mi.wp_bnd ?_) | (with_reducible refine Mi.wp_ret ?_) | (with_reducible refine Mi.wp_opt ?_) | (with_reducible refine Mi.wp_view ?_) | ((with_reducible refine Mi.nm_a ?_); (try (conv => arg 1; simp only [Mi.putCell, Mi.wipeL, Mi.backL, Mi.pick, List.filterMap_cons, List.filterMap_nil, List.filterMap_cons_some, List.map_nil, List.map_cons, List.append_nil, List.nil_append, List.cons_append, List.getElem?_cons_zero, List.getElem?_cons_succ, List.set_cons_zero, List.set_cons_succ, List.getD_cons_zero, List.getD_cons_succ, Int.reduceToNat])); (with_reducible refine Mi.nm_b ?_)) | (with_reducible refine ⟨_, Mi.add_int, ?_⟩) | (with_reducible refine ⟨_, Mi.sub_int, ?_⟩) | (with_reducible refine ⟨_, Mi.lt_int, ?_⟩) | (with_reducible refine ⟨_, Mi.le_int, ?_⟩) | (with_reducible refine ⟨_, Mi.gt_int, ?_⟩) | (with_reducible refine ⟨_, Mi.ge_int, ?_⟩) | (with_reducible refine ⟨_, Mi.neg_int, ?_⟩) | (with_reducible refine ⟨_, Mi.asBl_bl, ?_⟩) | (with_reducible refine ⟨_, Mi.pow_lit (by decide) (by decide), ?_⟩) | (with_reducible refine ⟨_, Mi.mul_int (by decide), ?_⟩) | (with_reducible refine ⟨_, Mi.mod_int (by decide), ?_⟩) | (with_reducible refine ⟨_, Mi.fdiv_int (by decide), ?_⟩) | (with_reducible refine ⟨_, Mi.eqq_int, ?_⟩) | (with_reducible refine ⟨_, Mi.neq_int, ?_⟩) | (with_reducible refine Mi.ift_t ?_) | (with_reducible refine Mi.ift_f ?_) | (with_reducible refine Mi.ift_nt ?_) | (with_reducible refine Mi.ift_nf ?_) | ((with_reducible refine Mi.ift_bt ?_ ?_); · rfl) | ((with_reducible refine Mi.ift_bf ?_ ?_); · rfl) | (refine ⟨_, _, _, _, _, rfl, rfl, rfl, rfl, ?_⟩) | (refine ⟨_, _, rfl, rfl, ?_⟩) | (refine ⟨_, _, rfl, ?_⟩) | (refine ⟨⟨rfl, rfl, rfl⟩, ?_⟩) | (refine ⟨Nat.le_of_ble_eq_true rfl, ?_⟩) | (refine ⟨by decide, ?_⟩) | (refine ⟨_, rfl, ?_⟩) | (refine ⟨rfl, ?_⟩))); (try (with_reducible refine Mi.here ?_)))
        refine fp_ok (num_ok hv) ?_
        ((repeat (first | (with_reducible refine Mi.wp_seq ?_) | (with_reducible refine Mi.wp_ifS ?_) | (with_reducible refine Mi.wp_asg ?_) | (with_reducible refine Mi.wp_retS ?_) | (with_reducible refine Mi.wp_bin ?_) | ((with_reducible apply Mi.wp_var1); · rfl) | (with_reducible refine Mi.wp_C ?_) | (with_reducible refine Mi.wp_asCons ?_) | (with_reducible refine Mi.wp_asNil ?_) | (with_reducible refine Mi.wp_call ?_) | (with_reducible refine Mi.wp_callIO ?_) | (with_reducible refine Mi.wp_args ?_) | (with_reducible refine Mi.wp_frzXn ?_) | (with_reducible refine Mi.wp_frzX0 ?_) | (with_reducible refine Mi.wp_frzXS ?_) | (with_reducible refine Mi.wp_frzsCons ?_) | (with_reducible refine Mi.wp_frzsNil ?_) | (with_reducible refine Mi.wp_frzD ?_) | (with_reducible refine Mi.wp_boolA ?_) | (with_reducible refine Mi.wp_blT ?_) | (with_reducible refine Mi.wp_tst ?_) | (with_reducible refine Mi.wp_andT ?_) | (with_reducible refine Mi.wp_orT ?_) | (with_reducible refine Mi.wp_notT ?_) | (with_reducible refine Mi.wp_ifA ?_) | (with_reducible refine Mi.wp_andA ?_) | (with_reducible refine Mi.wp_orA ?_) | (with_reducible refine Mi.wp_notA ?_) | (with_reducible refine Mi.wp_chainT ?_) | (with_reducible refine Mi.wp_cb ?_) | (with_reducible refine Mi.wp_un ?_) | (with_reducible refine Mi.wp_next ?_) | (with_reducible refine Mi.wp_asgN ?_) | (with_reducible refine Mi.wp_retNS ?_) | (with_reducible refine Mi.wp_drop ?_) | (with_reducible refine Mi.wp_par2 ?_) | (with_reducible refine Mi.wp_asgG ?_) | (with_reducible refine Mi.wp_subG ?_) | (with_reducible refine Mi.wp_appA ?_) | (with_reducible refine Mi.wp_tup ?_) | (with_reducible refine Mi.wp_lst ?_) | (with_reducible refine Mi.wp_new ?_) | (with_reducible refine Mi.wp_slice ?_) | (with_reducible refine Mi.wp_prtN ?_) | (with_reducible refine Mi.wp_prtS ?_) | (with_reducible refine Mi.wp_mt ?_) | (with_reducible refine Mi.wp_mt0 ?_) | (with_reducible refine Mi.wp_seqI ?_) | (with_reducible refine Mi.wp_compN ?_) | (with_reducible refine Mi.wp_fnI ?_) | (with_reducible refine Mi.wp_forS ?_) | (with_reducible refine Mi.wp_tgTup ?_) | (with_reducible refine Mi.wp_gsCons ?_) | (with_reducible refine Mi.wp_gsNil ?_) | (with_reducible refine Mi.wp_callN ?_) | ((with_reducible apply Mi.wp_putV); · rfl) | ((with_reducible apply Mi.wp_putN); · rfl) | (with_reducible refine Mi.wp_bnd ?_) | (with_reducible refine Mi.wp_ret ?_) | (with_reducible refine Mi.wp_opt ?_) | (with_reducible refine Mi.wp_view ?_) | ((with_reducible refine Mi.nm_a ?_); (try (conv => arg 1; simp only [Mi.putCell, Mi.wipeL, Mi.backL, Mi.pick, List.filterMap_cons, List.filterMap_nil, List.filterMap_cons_some, List.map_nil, List.map_cons, List.append_nil, List.nil_append, List.cons_append, List.getElem?_cons_zero, List.getElem?_cons_succ, List.set_cons_zero, List.set_cons_succ, List.getD_cons_zero, List.getD_cons_succ, Int.reduceToNat])); (with_reducible refine Mi.nm_b ?_)) | (with_reducible refine ⟨_, Mi.add_int, ?_⟩) | (with_reducible refine ⟨_, Mi.sub_int, ?_⟩) | (with_reducible refine ⟨_, Mi.lt_int, ?_⟩) | (with_reducible refine ⟨_, Mi.le_int, ?_⟩) | (with_reducible refine ⟨_, Mi.gt_int, ?_⟩) | (with_reducible refine ⟨_, Mi.ge_int, ?_⟩) | (with_reducible refine ⟨_, Mi.neg_int, ?_⟩) | (with_reducible refine ⟨_, Mi.asBl_bl, ?_⟩) | (with_reducible refine ⟨_, Mi.pow_lit (by decide) (by decide), ?_⟩) | (with_reducible refine ⟨_, Mi.mul_int (by decide), ?_⟩) | (with_reducible refine ⟨_, Mi.mod_int (by decide), ?_⟩) | (with_reducible refine ⟨_, Mi.fdiv_int (by decide), ?_⟩) | (with_reducible refine ⟨_, Mi.eqq_int, ?_⟩) | (with_reducible refine ⟨_, Mi.neq_int, ?_⟩) | (with_reducible refine Mi.ift_t ?_) | (with_reducible refine Mi.ift_f ?_) | (with_reducible refine Mi.ift_nt ?_) | (with_reducible refine Mi.ift_nf ?_) | ((with_reducible refine Mi.ift_bt ?_ ?_); · rfl) | ((with_reducible refine Mi.ift_bf ?_ ?_); · rfl) | (refine ⟨_, _, _, _, _, rfl, rfl, rfl, rfl, ?_⟩) | (refine ⟨_, _, rfl, rfl, ?_⟩) | (refine ⟨_, _, rfl, ?_⟩) | (refine ⟨⟨rfl, rfl, rfl⟩, ?_⟩) | (refine ⟨Nat.le_of_ble_eq_true rfl, ?_⟩) | (refine ⟨by decide, ?_⟩) | (refine ⟨_, rfl, ?_⟩) | (refine ⟨rfl, ?_⟩))); (try (with_reducible refine Mi.here ?_)))
        refine fp_ok (lname_all hv) ?_
        ((repeat (first | (with_reducible refine Mi.wp_seq ?_) | (with_reducible refine Mi.wp_ifS ?_) | (with_reducible refine Mi.wp_asg ?_) | (with_reducible refine Mi.wp_retS ?_) | (with_reducible refine Mi.wp_bin ?_) | ((with_reducible apply Mi.wp_var1); · rfl) | (with_reducible refine Mi.wp_C ?_) | (with_reducible refine Mi.wp_asCons ?_) | (with_reducible refine Mi.wp_asNil ?_) | (with_reducible refine Mi.wp_call ?_) | (with_reducible refine Mi.wp_callIO ?_) | (with_reducible refine Mi.wp_args ?_) | (with_reducible refine Mi.wp_frzXn ?_) | (with_reducible refine Mi.wp_frzX0 ?_) | (with_reducible refine Mi.wp_frzXS ?_) | (with_reducible refine Mi.wp_frzsCons ?_) | (with_reducible refine Mi.wp_frzsNil ?_) | (with_reducible refine Mi.wp_frzD ?_) | (with_reducible refine Mi.wp_boolA ?_) | (with_reducible refine Mi.wp_blT ?_) | (with_reducible refine Mi.wp_tst ?_) | (with_reducible refine Mi.wp_andT ?_) | (with_reducible refine Mi.wp_orT ?_) | (with_reducible refine Mi.wp_notT ?_) | (with_reducible refine Mi.wp_ifA ?_) | (with_reducible refine Mi.wp_andA ?_) | (with_reducible refine Mi.wp_orA ?_) | (with_reducible refine Mi.wp_notA ?_) | (with_reducible refine Mi.wp_chainT ?_) | (with_reducible refine Mi.wp_cb ?_) | (with_reducible refine Mi.wp_un ?_) | (with_reducible refine Mi.wp_next ?_) | (with_reducible refine Mi.wp_asgN ?_) | (with_reducible refine Mi.wp_retNS ?_) | (with_reducible refine Mi.wp_drop ?_) | (with_reducible refine Mi.wp_par2 ?_) | (with_reducible refine Mi.wp_asgG ?_) | (with_reducible refine Mi.wp_subG ?_) | (with_reducible refine Mi.wp_appA ?_) | (with_reducible refine Mi.wp_tup ?_) | (with_reducible refine Mi.wp_lst ?_) | (with_reducible refine Mi.wp_new ?_) | (with_reducible refine Mi.wp_slice ?_) | (with_reducible refine Mi.wp_prtN ?_) | (with_reducible refine Mi.wp_prtS ?_) | (with_reducible refine Mi.wp_mt ?_) | (with_reducible refine Mi.wp_mt0 ?_) | (with_reducible refine Mi.wp_seqI ?_) | (with_reducible refine Mi.wp_compN ?_) | (with_reducible refine Mi.wp_fnI ?_) | (with_reducible refine Mi.wp_forS ?_) | (with_reducible refine Mi.wp_tgTup ?_) | (with_reducible refine Mi.wp_gsCons ?_) | (with_reducible refine Mi.wp_gsNil ?_) | (with_reducible refine Mi.wp_callN ?_) | ((with_reducible apply Mi.wp_putV); · rfl) | ((with_reducible apply Mi.wp_putN); · rfl) | (with_reducible refine Mi.wp_bnd ?_) | (with_reducible refine Mi.wp_ret ?_) | (with_reducible refine Mi.wp_opt ?_) | (with_reducible refine Mi.wp_view ?_) | ((with_reducible refine Mi.nm_a ?_); (try (conv => arg 1; simp only [Mi.putCell, Mi.wipeL, Mi.backL, Mi.pick, List.filterMap_cons, List.filterMap_nil, List.filterMap_cons_some, List.map_nil, List.map_cons, List.append_nil, List.nil_append, List.cons_append, List.getElem?_cons_zero, List.getElem?_cons_succ, List.set_cons_zero, List.set_cons_succ, List.getD_cons_zero, List.getD_cons_succ, Int.reduceToNat])); (with_reducible refine Mi.nm_b ?_)) | (with_reducible refine ⟨_, neq_two, ?_⟩) | (with_reducible refine ⟨_, Mi.isi_non_bool, ?_⟩) | (with_reducible refine ⟨_, Mi.isi_non_int, ?_⟩) | (with_reducible refine ⟨_, Mi.isi_non_str, ?_⟩) | (with_reducible refine ⟨_, Mi.isi_non_list, ?_⟩) | (with_reducible refine ⟨_, Mi.isi_non_tuple, ?_⟩) | (with_reducible refine ⟨_, Mi.isi_non_dict, ?_⟩) | (with_reducible refine ⟨_, Mi.isi_bl_bool, ?_⟩) | (with_reducible refine ⟨_, Mi.isi_bl_int, ?_⟩) | (with_reducible refine ⟨_, Mi.isi_bl_str, ?_⟩) | (with_reducible refine ⟨_, Mi.isi_bl_list, ?_⟩) | (with_reducible refine ⟨_, Mi.isi_bl_tuple, ?_⟩) | (with_reducible refine ⟨_, Mi.isi_bl_dict, ?_⟩) | (with_reducible refine ⟨_, Mi.isi_int_bool, ?_⟩) | (with_reducible refine ⟨_, Mi.isi_int_int, ?_⟩) | (with_reducible refine ⟨_, Mi.isi_int_str, ?_⟩) | (with_reducible refine ⟨_, Mi.isi_int_list, ?_⟩) | (with_reducible refine ⟨_, Mi.isi_int_tuple, ?_⟩) | (with_reducible refine ⟨_, Mi.isi_int_dict, ?_⟩) | (with_reducible refine ⟨_, Mi.isi_str_bool, ?_⟩) | (with_reducible refine ⟨_, Mi.isi_str_int, ?_⟩) | (with_reducible refine ⟨_, Mi.isi_str_str, ?_⟩) | (with_reducible refine ⟨_, Mi.isi_str_list, ?_⟩) | (with_reducible refine ⟨_, Mi.isi_str_tuple, ?_⟩) | (with_reducible refine ⟨_, Mi.isi_str_dict, ?_⟩) | (with_reducible refine ⟨_, Mi.isi_lst_bool, ?_⟩) | (with_reducible refine ⟨_, Mi.isi_lst_int, ?_⟩) | (with_reducible refine ⟨_, Mi.isi_lst_str, ?_⟩) | (with_reducible refine ⟨_, Mi.isi_lst_list, ?_⟩) | (with_reducible refine ⟨_, Mi.isi_lst_tuple, ?_⟩) | (with_reducible refine ⟨_, Mi.isi_lst_dict, ?_⟩) | (with_reducible refine ⟨_, Mi.isi_rol_bool, ?_⟩) | (with_reducible refine ⟨_, Mi.isi_rol_int, ?_⟩) | (with_reducible refine ⟨_, Mi.isi_rol_str, ?_⟩) | (with_reducible refine ⟨_, Mi.isi_rol_list, ?_⟩) | (with_reducible refine ⟨_, Mi.isi_rol_tuple, ?_⟩) | (with_reducible refine ⟨_, Mi.isi_rol_dict, ?_⟩) | (with_reducible refine ⟨_, Mi.isi_tup_bool, ?_⟩) | (with_reducible refine ⟨_, Mi.isi_tup_int, ?_⟩) | (with_reducible refine ⟨_, Mi.isi_tup_str, ?_⟩) | (with_reducible refine ⟨_, Mi.isi_tup_list, ?_⟩) | (with_reducible refine ⟨_, Mi.isi_tup_tuple, ?_⟩) | (with_reducible refine ⟨_, Mi.isi_tup_dict, ?_⟩) | (with_reducible refine ⟨_, Mi.isi_dct_bool, ?_⟩) | (with_reducible refine ⟨_, Mi.isi_dct_int, ?_⟩) | (with_reducible refine ⟨_, Mi.isi_dct_str, ?_⟩) | (with_reducible refine ⟨_, Mi.isi_dct_list, ?_⟩) | (with_reducible refine ⟨_, Mi.isi_dct_tuple, ?_⟩) | (with_reducible refine ⟨_, Mi.isi_dct_dict, ?_⟩) | (with_reducible refine ⟨_, Mi.add_int, ?_⟩) | (with_reducible refine ⟨_, Mi.sub_int, ?_⟩) | (with_reducible refine ⟨_, Mi.lt_int, ?_⟩) | (with_reducible refine ⟨_, Mi.le_int, ?_⟩) | (with_reducible refine ⟨_, Mi.gt_int, ?_⟩) | (with_reducible refine ⟨_, Mi.ge_int, ?_⟩) | (with_reducible refine ⟨_, Mi.neg_int, ?_⟩) | (with_reducible refine ⟨_, Mi.asBl_bl, ?_⟩) | (with_reducible refine ⟨_, Mi.pow_lit (by decide) (by decide), ?_⟩) | (with_reducible refine ⟨_, Mi.mul_int (by decide), ?_⟩) | (with_reducible refine ⟨_, Mi.mod_int (by decide), ?_⟩) | (with_reducible refine ⟨_, Mi.fdiv_int (by decide), ?_⟩) | (with_reducible refine ⟨_, Mi.eqq_int, ?_⟩) | (with_reducible refine ⟨_, Mi.neq_int, ?_⟩) | (with_reducible refine Mi.ift_t ?_) | (with_reducible refine Mi.ift_f ?_) | (with_reducible refine Mi.ift_nt ?_) | (with_reducible refine Mi.ift_nf ?_) | ((with_reducible refine Mi.ift_bt ?_ ?_); · rfl) | ((with_reducible refine Mi.ift_bf ?_ ?_); · rfl) | (refine ⟨_, _, _, _, _, rfl, rfl, rfl, rfl, ?_⟩) | (refine ⟨_, _, rfl, rfl, ?_⟩) | (refine ⟨_, _, rfl, ?_⟩) | (refine ⟨⟨rfl, rfl, rfl⟩, ?_⟩) | (refine ⟨Nat.le_of_ble_eq_true rfl, ?_⟩) | (refine ⟨by decide, ?_⟩) | (refine ⟨_, rfl, ?_⟩) | (refine ⟨rfl, ?_⟩))); (try (with_reducible refine Mi.here ?_)))
        refine fp_right hj hv (by omega) fun o hj => ?_
        ((repeat (first | (with_reducible refine Mi.wp_seq ?_) | (with_reducible refine Mi.wp_ifS ?_) | (with_reducible refine Mi.wp_asg ?_) | (with_reducible refine Mi.wp_retS ?_) | (with_reducible refine Mi.wp_bin ?_) | ((with_reducible apply Mi.wp_var1); · rfl) | (with_reducible refine Mi.wp_C ?_) | (with_reducible refine Mi.wp_asCons ?_) | (with_reducible refine Mi.wp_asNil ?_) | (with_reducible refine Mi.wp_call ?_) | (with_reducible refine Mi.wp_callIO ?_) | (with_reducible refine Mi.wp_args ?_) | (with_reducible refine Mi.wp_frzXn ?_) | (with_reducible refine Mi.wp_frzX0 ?_) | (with_reducible refine Mi.wp_frzXS ?_) | (with_reducible refine Mi.wp_frzsCons ?_) | (with_reducible refine Mi.wp_frzsNil ?_) | (with_reducible refine Mi.wp_frzD ?_) | (with_reducible refine Mi.wp_boolA ?_) | (with_reducible refine Mi.wp_blT ?_) | (with_reducible refine Mi.wp_tst ?_) | (with_reducible refine Mi.wp_andT ?_) | (with_reducible refine Mi.wp_orT ?_) | (with_reducible refine Mi.wp_notT ?_) | (with_reducible refine Mi.wp_ifA ?_) | (with_reducible refine Mi.wp_andA ?_) | (with_reducible refine Mi.wp_orA ?_) | (with_reducible refine Mi.wp_notA ?_) | (with_reducible refine Mi.wp_chainT ?_) | (with_reducible refine Mi.wp_cb ?_) | (with_reducible refine Mi.wp_un ?_) | (with_reducible refine Mi.wp_next ?_) | (with_reducible refine Mi.wp_asgN ?_) | (with_reducible refine Mi.wp_retNS ?_) | (with_reducible refine Mi.wp_drop ?_) | (with_reducible refine Mi.wp_par2 ?_) | (with_reducible refine Mi.wp_asgG ?_) | (with_reducible refine Mi.wp_subG ?_) | (with_reducible refine Mi.wp_appA ?_) | (with_reducible refine Mi.wp_tup ?_) | (with_reducible refine Mi.wp_lst ?_) | (with_reducible refine Mi.wp_new ?_) | (with_reducible refine Mi.wp_slice ?_) | (with_reducible refine Mi.wp_prtN ?_) | (with_reducible refine Mi.wp_prtS ?_) | (with_reducible refine Mi.wp_mt ?_) | (with_reducible refine Mi.wp_mt0 ?_) | (with_reducible refine Mi.wp_seqI ?_) | (with_reducible refine Mi.wp_compN ?_) | (with_reducible refine Mi.wp_fnI ?_) | (with_reducible refine Mi.wp_forS ?_) | (with_reducible refine Mi.wp_tgTup ?_) | (with_reducible refine Mi.wp_gsCons ?_) | (with_reducible refine Mi.wp_gsNil ?_) | (with_reducible refine Mi.wp_callN ?_) | ((with_reducible apply Mi.wp_putV); · rfl) | ((with_reducible apply Mi.wp_putN); · rfl) | (with_reducible refine Mi.wp_bnd ?_) | (with_reducible refine Mi.wp_ret ?_) | (with_reducible refine Mi.wp_opt ?_) | (with_reducible refine Mi.wp_view ?_) | ((with_reducible refine Mi.nm_a ?_); (try (conv => arg 1; simp only [Mi.putCell, Mi.wipeL, Mi.backL, Mi.pick, List.filterMap_cons, List.filterMap_nil, List.filterMap_cons_some, List.map_nil, List.map_cons, List.append_nil, List.nil_append, List.cons_append, List.getElem?_cons_zero, List.getElem?_cons_succ, List.set_cons_zero, List.set_cons_succ, List.getD_cons_zero, List.getD_cons_succ, Int.reduceToNat])); (with_reducible refine Mi.nm_b ?_)) | (with_reducible refine ⟨_, Mi.add_int, ?_⟩) | (with_reducible refine ⟨_, Mi.sub_int, ?_⟩) | (with_reducible refine ⟨_, Mi.lt_int, ?_⟩) | (with_reducible refine ⟨_, Mi.le_int, ?_⟩) | (with_reducible refine ⟨_, Mi.gt_int, ?_⟩) | (with_reducible refine ⟨_, Mi.ge_int, ?_⟩) | (with_reducible refine ⟨_, Mi.neg_int, ?_⟩) | (with_reducible refine ⟨_, Mi.asBl_bl, ?_⟩) | (with_reducible refine ⟨_, Mi.pow_lit (by decide) (by decide), ?_⟩) | (with_reducible refine ⟨_, Mi.mul_int (by decide), ?_⟩) | (with_reducible refine ⟨_, Mi.mod_int (by decide), ?_⟩) | (with_reducible refine ⟨_, Mi.fdiv_int (by decide), ?_⟩) | (with_reducible refine ⟨_, Mi.eqq_int, ?_⟩) | (with_reducible refine ⟨_, Mi.neq_int, ?_⟩) | (with_reducible refine Mi.ift_t ?_) | (with_reducible refine Mi.ift_f ?_) | (with_reducible refine Mi.ift_nt ?_) | (with_reducible refine Mi.ift_nf ?_) | ((with_reducible refine Mi.ift_bt ?_ ?_); · rfl) | ((with_reducible refine Mi.ift_bf ?_ ?_); · rfl) | (refine ⟨_, _, _, _, _, rfl, rfl, rfl, rfl, ?_⟩) | (refine ⟨_, _, rfl, rfl, ?_⟩) | (refine ⟨_, _, rfl, ?_⟩) | (refine ⟨⟨rfl, rfl, rfl⟩, ?_⟩) | (refine ⟨Nat.le_of_ble_eq_true rfl, ?_⟩) | (refine ⟨by decide, ?_⟩) | (refine ⟨_, rfl, ?_⟩) | (refine ⟨rfl, ?_⟩))); (try (with_reducible refine Mi.here ?_)))
        refine fp_right hj hv (by omega) fun o hj => ?_
        ((repeat (first | (with_reducible refine Mi.wp_seq ?_) | (with_reducible refine Mi.wp_ifS ?_) | (with_reducible refine Mi.wp_asg ?_) | (with_reducible refine Mi.wp_retS ?_) | (with_reducible refine Mi.wp_bin ?_) | ((with_reducible apply Mi.wp_var1); · rfl) | (with_reducible refine Mi.wp_C ?_) | (with_reducible refine Mi.wp_asCons ?_) | (with_reducible refine Mi.wp_asNil ?_) | (with_reducible refine Mi.wp_call ?_) | (with_reducible refine Mi.wp_callIO ?_) | (with_reducible refine Mi.wp_args ?_) | (with_reducible refine Mi.wp_frzXn ?_) | (with_reducible refine Mi.wp_frzX0 ?_) | (with_reducible refine Mi.wp_frzXS ?_) | (with_reducible refine Mi.wp_frzsCons ?_) | (with_reducible refine Mi.wp_frzsNil ?_) | (with_reducible refine Mi.wp_frzD ?_) | (with_reducible refine Mi.wp_boolA ?_) | (with_reducible refine Mi.wp_blT ?_) | (with_reducible refine Mi.wp_tst ?_) | (with_reducible refine Mi.wp_andT ?_) | (with_reducible refine Mi.wp_orT ?_) | (with_reducible refine Mi.wp_notT ?_) | (with_reducible refine Mi.wp_ifA ?_) | (with_reducible refine Mi.wp_andA ?_) | (with_reducible refine Mi.wp_orA ?_) | (with_reducible refine Mi.wp_notA ?_) | (with_reducible refine Mi.wp_chainT ?_) | (with_reducible refine Mi.wp_cb ?_) | (with_reducible refine Mi.wp_un ?_) | (with_reducible refine Mi.wp_next ?_) | (with_reducible refine Mi.wp_asgN ?_) | (with_reducible refine Mi.wp_retNS ?_) | (with_reducible refine Mi.wp_drop ?_) | (with_reducible refine Mi.wp_par2 ?_) | (with_reducible refine Mi.wp_asgG ?_) | (with_reducible refine Mi.wp_subG ?_) | (with_reducible refine Mi.wp_appA ?_) | (with_reducible refine Mi.wp_tup ?_) | (with_reducible refine Mi.wp_lst ?_) | (with_reducible refine Mi.wp_new ?_) | (with_reducible refine Mi.wp_slice ?_) | (with_reducible refine Mi.wp_prtN ?_) | (with_reducible refine Mi.wp_prtS ?_) | (with_reducible refine Mi.wp_mt ?_) | (with_reducible refine Mi.wp_mt0 ?_) | (with_reducible refine Mi.wp_seqI ?_) | (with_reducible refine Mi.wp_compN ?_) | (with_reducible refine Mi.wp_fnI ?_) | (with_reducible refine Mi.wp_forS ?_) | (with_reducible refine Mi.wp_tgTup ?_) | (with_reducible refine Mi.wp_gsCons ?_) | (with_reducible refine Mi.wp_gsNil ?_) | (with_reducible refine Mi.wp_callN ?_) | ((with_reducible apply Mi.wp_putV); · rfl) | ((with_reducible apply Mi.wp_putN); · rfl) | (with_reducible refine Mi.wp_bnd ?_) | (with_reducible refine Mi.wp_ret ?_) | (with_reducible refine Mi.wp_opt ?_) | (with_reducible refine Mi.wp_view ?_) | ((with_reducible refine Mi.nm_a ?_); (try (conv => arg 1; simp only [Mi.putCell, Mi.wipeL, Mi.backL, Mi.pick, List.filterMap_cons, List.filterMap_nil, List.filterMap_cons_some, List.map_nil, List.map_cons, List.append_nil, List.nil_append, List.cons_append, List.getElem?_cons_zero, List.getElem?_cons_succ, List.set_cons_zero, List.set_cons_succ, List.getD_cons_zero, List.getD_cons_succ, Int.reduceToNat])); (with_reducible refine Mi.nm_b ?_)) | (with_reducible refine ⟨_, Mi.add_int, ?_⟩) | (with_reducible refine ⟨_, Mi.sub_int, ?_⟩) | (with_reducible refine ⟨_, Mi.lt_int, ?_⟩) | (with_reducible refine ⟨_, Mi.le_int, ?_⟩) | (with_reducible refine ⟨_, Mi.gt_int, ?_⟩) | (with_reducible refine ⟨_, Mi.ge_int, ?_⟩) | (with_reducible refine ⟨_, Mi.neg_int, ?_⟩) | (with_reducible refine ⟨_, Mi.asBl_bl, ?_⟩) | (with_reducible refine ⟨_, Mi.pow_lit (by decide) (by decide), ?_⟩) | (with_reducible refine ⟨_, Mi.mul_int (by decide), ?_⟩) | (with_reducible refine ⟨_, Mi.mod_int (by decide), ?_⟩) | (with_reducible refine ⟨_, Mi.fdiv_int (by decide), ?_⟩) | (with_reducible refine ⟨_, Mi.eqq_int, ?_⟩) | (with_reducible refine ⟨_, Mi.neq_int, ?_⟩) | (with_reducible refine Mi.ift_t ?_) | (with_reducible refine Mi.ift_f ?_) | (with_reducible refine Mi.ift_nt ?_) | (with_reducible refine Mi.ift_nf ?_) | ((with_reducible refine Mi.ift_bt ?_ ?_); · rfl) | ((with_reducible refine Mi.ift_bf ?_ ?_); · rfl) | (refine ⟨_, _, _, _, _, rfl, rfl, rfl, rfl, ?_⟩) | (refine ⟨_, _, rfl, rfl, ?_⟩) | (refine ⟨_, _, rfl, ?_⟩) | (refine ⟨⟨rfl, rfl, rfl⟩, ?_⟩) | (refine ⟨Nat.le_of_ble_eq_true rfl, ?_⟩) | (refine ⟨by decide, ?_⟩) | (refine ⟨_, rfl, ?_⟩) | (refine ⟨rfl, ?_⟩))); (try (with_reducible refine Mi.here ?_)))
        exact ⟨_, _, _, _, _, hj, by omega, rfl, .inr ⟨_, _, _, rfl, rfl, rfl⟩⟩
      · ((repeat (first | (with_reducible refine Mi.wp_seq ?_) | (with_reducible refine Mi.wp_ifS ?_) | (with_reducible refine Mi.wp_asg ?_) | (with_reducible refine Mi.wp_retS ?_) | (with_reducible refine Mi.wp_bin ?_) | ((with_reducible apply Mi.wp_var1); · rfl) | (with_reducible refine Mi.wp_C ?_) | (with_reducible refine Mi.wp_asCons ?_) | (with_reducible refine Mi.wp_asNil ?_) | (with_reducible refine Mi.wp_call ?_) | (with_reducible refine Mi.wp_callIO ?_) | (with_reducible refine Mi.wp_args ?_) | (with_reducible refine Mi.wp_frzXn ?_) | (with_reducible refine Mi.wp_frzX0 ?_) | (with_reducible refine Mi.wp_frzXS ?_) | (with_reducible refine Mi.wp_frzsCons ?_) | (with_reducible refine Mi.wp_frzsNil ?_) | (with_reducible refine Mi.wp_frzD ?_) | (with_reducible refine Mi.wp_boolA ?_) | (with_reducible refine Mi.wp_blT ?_) | (with_reducible refine Mi.wp_tst ?_) | (with_reducible refine Mi.wp_andT ?_) | (with_reducible refine Mi.wp_orT ?_) | (with_reducible refine Mi.wp_notT ?_) | (with_reducible refine Mi.wp_ifA ?_) | (with_reducible refine Mi.wp_andA ?_) | (with_reducible refine Mi.wp_orA ?_) | (with_reducible refine Mi.wp_notA ?_) | (with_reducible refine Mi.wp_chainT ?_) | (with_reducible refine Mi.wp_cb ?_) | (with_reducible refine Mi.wp_un ?_) | (with_reducible refine Mi.wp_next ?_) | (with_reducible refine Mi.wp_asgN ?_) | (with_reducible refine Mi.wp_retNS ?_) | (with_reducible refine Mi.wp_drop ?_) | (with_reducible refine Mi.wp_par2 ?_) | (with_reducible refine Mi.wp_asgG ?_) | (with_reducible refine Mi.wp_subG ?_) | (with_reducible refine Mi.wp_appA ?_) | (with_reducible refine Mi.wp_tup ?_) | (with_reducible refine Mi.wp_lst ?_) | (with_reducible refine Mi.wp_new ?_) | (with_reducible refine Mi.wp_slice ?_) | (with_reducible refine Mi.wp_prtN ?_) | (with_reducible refine Mi.wp_prtS ?_) | (with_reducible refine Mi.wp_mt ?_) | (with_reducible refine Mi.wp_mt0 ?_) | (with_reducible refine Mi.wp_seqI ?_) | (with_reducible refine Mi.wp_compN ?_) | (with_reducible refine Mi.wp_fnI ?_) | (with_reducible refine Mi.wp_forS ?_) | (with_reducible refine Mi.wp_tgTup ?_) | (with_reducible refine Mi.wp_gsCons ?_) | (with_reducible refine Mi.wp_gsNil ?_) | (with_reducible refine Mi.wp_callN ?_) | ((with_reducible apply Mi.wp_putV); · rfl) | ((with_reducible apply Mi.wp_putN); · rfl) | (with_reducible refine Mi.wp_bnd ?_) | (with_reducible refine Mi.wp_ret ?_) | (with_reducible refine Mi.wp_opt ?_) | (with_reducible refine Mi.wp_view ?_) | ((with_reducible refine Mi.nm_a ?_); (try (conv => arg 1; simp only [Mi.putCell, Mi.wipeL, Mi.backL, Mi.pick, List.filterMap_cons, List.filterMap_nil, List.filterMap_cons_some, List.map_nil, List.map_cons, List.append_nil, List.nil_append, List.cons_append, List.getElem?_cons_zero, List.getElem?_cons_succ, List.set_cons_zero, List.set_cons_succ, List.getD_cons_zero, List.getD_cons_succ, Int.reduceToNat])); (with_reducible refine Mi.nm_b ?_)) | (with_reducible refine ⟨_, Mi.add_int, ?_⟩) | (with_reducible refine ⟨_, Mi.sub_int, ?_⟩) | (with_reducible refine ⟨_, Mi.lt_int, ?_⟩) | (with_reducible refine ⟨_, Mi.le_int, ?_⟩) | (with_reducible refine ⟨_, Mi.gt_int, ?_⟩) | (with_reducible refine ⟨_, Mi.ge_int, ?_⟩) | (with_reducible refine ⟨_, Mi.neg_int, ?_⟩) | (with_reducible refine ⟨_, Mi.asBl_bl, ?_⟩) | (with_reducible refine ⟨_, Mi.pow_lit (by decide) (by decide), ?_⟩) | (with_reducible refine ⟨_, Mi.mul_int (by decide), ?_⟩) | (with_reducible refine ⟨_, Mi.mod_int (by decide), ?_⟩) | (with_reducible refine ⟨_, Mi.fdiv_int (by decide), ?_⟩) | (with_reducible refine ⟨_, Mi.eqq_int, ?_⟩) | (with_reducible refine ⟨_, Mi.neq_int, ?_⟩) | (with_reducible refine Mi.ift_t ?_) | (with_reducible refine Mi.ift_f ?_) | (with_reducible refine Mi.ift_nt ?_) | (with_reducible refine Mi.ift_nf ?_) | ((with_reducible refine Mi.ift_bt ?_ ?_); · rfl) | ((with_reducible refine Mi.ift_bf ?_ ?_); · rfl) | (refine ⟨_, _, _, _, _, rfl, rfl, rfl, rfl, ?_⟩) | (refine ⟨_, _, rfl, rfl, ?_⟩) | (refine ⟨_, _, rfl, ?_⟩) | (refine ⟨⟨rfl, rfl, rfl⟩, ?_⟩) | (refine ⟨Nat.le_of_ble_eq_true rfl, ?_⟩) | (refine ⟨by decide, ?_⟩) | (refine ⟨_, rfl, ?_⟩) | (refine ⟨rfl, ?_⟩))); (try (with_reducible refine Mi.here ?_)))
        refine fp_value hj (by omega) fun v o hv hj => ?_
        ((repeat (first | (with_reducible refine Mi.wp_seq ?_) | (with_reducible refine Mi.wp_ifS ?_) | (with_reducible refine Mi.wp_asg ?_) | (with_reducible refine Mi.wp_retS ?_) | (with_reducible refine Mi.wp_bin ?_) | ((with_reducible apply Mi.wp_var1); · rfl) | (with_reducible refine Mi.wp_C ?_) | (with_reducible refine Mi.wp_asCons ?_) | (with_reducible refine Mi.wp_asNil ?_) | (with_reducible refine Mi.wp_call ?_) | (with_reducible refine Mi.wp_callIO ?_) | (with_reducible refine Mi.wp_args ?_) | (with_reducible refine Mi.wp_frzXn ?_) | (with_reducible refine Mi.wp_frzX0 ?_) | (with_reducible refine Mi.wp_frzXS ?_) | (with_reducible refine Mi.wp_frzsCons ?_) | (with_reducible refine Mi.wp_frzsNil ?_) | (with_reducible refine Mi.wp_frzD ?_) | (with_reducible refine Mi.wp_boolA ?_) | (with_reducible refine Mi.wp_blT ?_) | (with_reducible refine Mi.wp_tst ?_) | (with_reducible refine Mi.wp_andT ?_) | (with_reducible refine Mi.wp_orT ?_) | (with_reducible refine Mi.wp_notT ?_) | (with_reducible refine Mi.wp_ifA ?_) | (with_reducible refine Mi.wp_andA ?_) | (with_reducible refine Mi.wp_orA ?_) | (with_reducible refine Mi.wp_notA ?_) | (with_reducible refine Mi.wp_chainT ?_) | (with_reducible refine Mi.wp_cb ?_) | (with_reducible refine Mi.wp_un ?_) | (with_reducible refine Mi.wp_next ?_) | (with_reducible refine Mi.wp_asgN ?_) | (with_reducible refine Mi.wp_retNS ?_) | (with_reducible refine Mi.wp_drop ?_) | (with_reducible refine Mi.wp_par2 ?_) | (with_reducible refine Mi.wp_asgG ?_) | (with_reducible refine Mi.wp_subG ?_) | (with_reducible refine Mi.wp_appA ?_) | (with_reducible refine Mi.wp_tup ?_) | (with_reducible refine Mi.wp_lst ?_) | (with_reducible refine Mi.wp_new ?_) | (with_reducible refine Mi.wp_slice ?_) | (with_reducible refine Mi.wp_prtN ?_) | (with_reducible refine Mi.wp_prtS ?_) | (with_reducible refine Mi.wp_mt ?_) | (with_reducible refine Mi.wp_mt0 ?_) | (with_reducible refine Mi.wp_seqI ?_) | (with_reducible refine Mi.wp_compN ?_) | (with_reducible refine Mi.wp_fnI ?_) | (with_reducible refine Mi.wp_forS ?_) | (with_reducible refine Mi.wp_tgTup ?_) | (with_reducible refine Mi.wp_gsCons ?_) | (with_reducible refine Mi.wp_gsNil ?_) | (with_reducible refine Mi.wp_callN ?_) | ((with_reducible apply Mi.wp_putV); · rfl) | ((with_reducible apply Mi.wp_putN); · rfl) | (with_reducible refine Mi.wp_bnd ?_) | (with_reducible refine Mi.wp_ret ?_) | (with_reducible refine Mi.wp_opt ?_) | (with_reducible refine Mi.wp_view ?_) | ((with_reducible refine Mi.nm_a ?_); (try (conv => arg 1; simp only [Mi.putCell, Mi.wipeL, Mi.backL, Mi.pick, List.filterMap_cons, List.filterMap_nil, List.filterMap_cons_some, List.map_nil, List.map_cons, List.append_nil, List.nil_append, List.cons_append, List.getElem?_cons_zero, List.getElem?_cons_succ, List.set_cons_zero, List.set_cons_succ, List.getD_cons_zero, List.getD_cons_succ, Int.reduceToNat])); (with_reducible refine Mi.nm_b ?_)) | (with_reducible refine ⟨_, Mi.add_int, ?_⟩) | (with_reducible refine ⟨_, Mi.sub_int, ?_⟩) | (with_reducible refine ⟨_, Mi.lt_int, ?_⟩) | (with_reducible refine ⟨_, Mi.le_int, ?_⟩) | (with_reducible refine ⟨_, Mi.gt_int, ?_⟩) | (with_reducible refine ⟨_, Mi.ge_int, ?_⟩) | (with_reducible refine ⟨_, Mi.neg_int, ?_⟩) | (with_reducible refine ⟨_, Mi.asBl_bl, ?_⟩) | (with_reducible refine ⟨_, Mi.pow_lit (by decide) (by decide), ?_⟩) | (with_reducible refine ⟨_, Mi.mul_int (by decide), ?_⟩) | (with_reducible refine ⟨_, Mi.mod_int (by decide), ?_⟩) | (with_reducible refine ⟨_, Mi.fdiv_int (by decide), ?_⟩) | (with_reducible refine ⟨_, Mi.eqq_int, ?_⟩) | (with_reducible refine ⟨_, Mi.neq_int, ?_⟩) | (with_reducible refine Mi.ift_t ?_) | (with_reducible refine Mi.ift_f ?_) | (with_reducible refine Mi.ift_nt ?_) | (with_reducible refine Mi.ift_nf ?_) | ((with_reducible refine Mi.ift_bt ?_ ?_); · rfl) | ((with_reducible refine Mi.ift_bf ?_ ?_); · rfl) | (refine ⟨_, _, _, _, _, rfl, rfl, rfl, rfl, ?_⟩) | (refine ⟨_, _, rfl, rfl, ?_⟩) | (refine ⟨_, _, rfl, ?_⟩) | (refine ⟨⟨rfl, rfl, rfl⟩, ?_⟩) | (refine ⟨Nat.le_of_ble_eq_true rfl, ?_⟩) | (refine ⟨by decide, ?_⟩) | (refine ⟨_, rfl, ?_⟩) | (refine ⟨rfl, ?_⟩))); (try (with_reducible refine Mi.here ?_)))
        refine fp_ok (int_ok hv) ?_
        ((repeat (first | (with_reducible refine Mi.wp_seq ?_) | (with_reducible refine Mi.wp_ifS ?_) | (with_reducible refine Mi.wp_asg ?_) | (with_reducible refine Mi.wp_retS ?_) | (with_reducible refine Mi.wp_bin ?_) | ((with_reducible apply Mi.wp_var1); · rfl) | (with_reducible refine Mi.wp_C ?_) | (with_reducible refine Mi.wp_asCons ?_) | (with_reducible refine Mi.wp_asNil ?_) | (with_reducible refine Mi.wp_call ?_) | (with_reducible refine Mi.wp_callIO ?_) | (with_reducible refine Mi.wp_args ?_) | (with_reducible refine Mi.wp_frzXn ?_) | (with_reducible refine Mi.wp_frzX0 ?_) | (with_reducible refine Mi.wp_frzXS ?_) | (with_reducible refine Mi.wp_frzsCons ?_) | (with_reducible refine Mi.wp_frzsNil ?_) | (with_reducible refine Mi.wp_frzD ?_) | (with_reducible refine Mi.wp_boolA ?_) | (with_reducible refine Mi.wp_blT ?_) | (with_reducible refine Mi.wp_tst ?_) | (with_reducible refine Mi.wp_andT ?_) | (with_reducible refine Mi.wp_orT ?_) | (with_reducible refine Mi.wp_notT ?_) | (with_reducible refine Mi.wp_ifA ?_) | (with_reducible refine Mi.wp_andA ?_) | (with_reducible refine Mi.wp_orA ?_) | (with_reducible refine Mi.wp_notA ?_) | (with_reducible refine Mi.wp_chainT ?_) | (with_reducible refine Mi.wp_cb ?_) | (with_reducible refine Mi.wp_un ?_) | (with_reducible refine Mi.wp_next ?_) | (with_reducible refine Mi.wp_asgN ?_) | (with_reducible refine Mi.wp_retNS ?_) | (with_reducible refine Mi.wp_drop ?_) | (with_reducible refine Mi.wp_par2 ?_) | (with_reducible refine Mi.wp_asgG ?_) | (with_reducible refine Mi.wp_subG ?_) | (with_reducible refine Mi.wp_appA ?_) | (with_reducible refine Mi.wp_tup ?_) | (with_reducible refine Mi.wp_lst ?_) | (with_reducible refine Mi.wp_new ?_) | (with_reducible refine Mi.wp_slice ?_) | (with_reducible refine Mi.wp_prtN ?_) | (with_reducible refine Mi.wp_prtS ?_) | (with_reducible refine Mi.wp_mt ?_) | (with_reducible refine Mi.wp_mt0 ?_) | (with_reducible refine Mi.wp_seqI ?_) | (with_reducible refine Mi.wp_compN ?_) | (with_reducible refine Mi.wp_fnI ?_) | (with_reducible refine Mi.wp_forS ?_) | (with_reducible refine Mi.wp_tgTup ?_) | (with_reducible refine Mi.wp_gsCons ?_) | (with_reducible refine Mi.wp_gsNil ?_) | (with_reducible refine Mi.wp_callN ?_) | ((with_reducible apply Mi.wp_putV); · rfl) | ((with_reducible apply Mi.wp_putN); · rfl) | (with_reducible refine Mi.wp_bnd ?_) | (with_reducible refine Mi.wp_ret ?_) | (with_reducible refine Mi.wp_opt ?_) | (with_reducible refine Mi.wp_view ?_) | ((with_reducible refine Mi.nm_a ?_); (try (conv => arg 1; simp only [Mi.putCell, Mi.wipeL, Mi.backL, Mi.pick, List.filterMap_cons, List.filterMap_nil, List.filterMap_cons_some, List.map_nil, List.map_cons, List.append_nil, List.nil_append, List.cons_append, List.getElem?_cons_zero, List.getElem?_cons_succ, List.set_cons_zero, List.set_cons_succ, List.getD_cons_zero, List.getD_cons_succ, Int.reduceToNat])); (with_reducible refine Mi.nm_b ?_)) | (with_reducible refine ⟨_, Mi.add_int, ?_⟩) | (with_reducible refine ⟨_, Mi.sub_int, ?_⟩) | (with_reducible refine ⟨_, Mi.lt_int, ?_⟩) | (with_reducible refine ⟨_, Mi.le_int, ?_⟩) | (with_reducible refine ⟨_, Mi.gt_int, ?_⟩) | (with_reducible refine ⟨_, Mi.ge_int, ?_⟩) | (with_reducible refine ⟨_, Mi.neg_int, ?_⟩) | (with_reducible refine ⟨_, Mi.asBl_bl, ?_⟩) | (with_reducible refine ⟨_, Mi.pow_lit (by decide) (by decide), ?_⟩) | (with_reducible refine ⟨_, Mi.mul_int (by decide), ?_⟩) | (with_reducible refine ⟨_, Mi.mod_int (by decide), ?_⟩) | (with_reducible refine ⟨_, Mi.fdiv_int (by decide), ?_⟩) | (with_reducible refine ⟨_, Mi.eqq_int, ?_⟩) | (with_reducible refine ⟨_, Mi.neq_int, ?_⟩) | (with_reducible refine Mi.ift_t ?_) | (with_reducible refine Mi.ift_f ?_) | (with_reducible refine Mi.ift_nt ?_) | (with_reducible refine Mi.ift_nf ?_) | ((with_reducible refine Mi.ift_bt ?_ ?_); · rfl) | ((with_reducible refine Mi.ift_bf ?_ ?_); · rfl) | (refine ⟨_, _, _, _, _, rfl, rfl, rfl, rfl, ?_⟩) | (refine ⟨_, _, rfl, rfl, ?_⟩) | (refine ⟨_, _, rfl, ?_⟩) | (refine ⟨⟨rfl, rfl, rfl⟩, ?_⟩) | (refine ⟨Nat.le_of_ble_eq_true rfl, ?_⟩) | (refine ⟨by decide, ?_⟩) | (refine ⟨_, rfl, ?_⟩) | (refine ⟨rfl, ?_⟩))); (try (with_reducible refine Mi.here ?_)))
        refine fp_ok (name_all hv) ?_
        ((repeat (first | (with_reducible refine Mi.wp_seq ?_) | (with_reducible refine Mi.wp_ifS ?_) | (with_reducible refine Mi.wp_asg ?_) | (with_reducible refine Mi.wp_retS ?_) | (with_reducible refine Mi.wp_bin ?_) | ((with_reducible apply Mi.wp_var1); · rfl) | (with_reducible refine Mi.wp_C ?_) | (with_reducible refine Mi.wp_asCons ?_) | (with_reducible refine Mi.wp_asNil ?_) | (with_reducible refine Mi.wp_call ?_) | (with_reducible refine Mi.wp_callIO ?_) | (with_reducible refine Mi.wp_args ?_) | (with_reducible refine Mi.wp_frzXn ?_) | (with_reducible refine Mi.wp_frzX0 ?_) | (with_reducible refine Mi.wp_frzXS ?_) | (with_reducible refine Mi.wp_frzsCons ?_) | (with_reducible refine Mi.wp_frzsNil ?_) | (with_reducible refine Mi.wp_frzD ?_) | (with_reducible refine Mi.wp_boolA ?_) | (with_reducible refine Mi.wp_blT ?_) | (with_reducible refine Mi.wp_tst ?_) | (with_reducible refine Mi.wp_andT ?_) | (with_reducible refine Mi.wp_orT ?_) | (with_reducible refine Mi.wp_notT ?_) | (with_reducible refine Mi.wp_ifA ?_) | (with_reducible refine Mi.wp_andA ?_) | (with_reducible refine Mi.wp_orA ?_) | (with_reducible refine Mi.wp_notA ?_) | (with_reducible refine Mi.wp_chainT ?_) | (with_reducible refine Mi.wp_cb ?_) | (with_reducible refine Mi.wp_un ?_) | (with_reducible refine Mi.wp_next ?_) | (with_reducible refine Mi.wp_asgN ?_) | (with_reducible refine Mi.wp_retNS ?_) | (with_reducible refine Mi.wp_drop ?_) | (with_reducible refine Mi.wp_par2 ?_) | (with_reducible refine Mi.wp_asgG ?_) | (with_reducible refine Mi.wp_subG ?_) | (with_reducible refine Mi.wp_appA ?_) | (with_reducible refine Mi.wp_tup ?_) | (with_reducible refine Mi.wp_lst ?_) | (with_reducible refine Mi.wp_new ?_) | (with_reducible refine Mi.wp_slice ?_) | (with_reducible refine Mi.wp_prtN ?_) | (with_reducible refine Mi.wp_prtS ?_) | (with_reducible refine Mi.wp_mt ?_) | (with_reducible refine Mi.wp_mt0 ?_) | (with_reducible refine Mi.wp_seqI ?_) | (with_reducible refine Mi.wp_compN ?_) | (with_reducible refine Mi.wp_fnI ?_) | (with_reducible refine Mi.wp_forS ?_) | (with_reducible refine Mi.wp_tgTup ?_) | (with_reducible refine Mi.wp_gsCons ?_) | (with_reducible refine Mi.wp_gsNil ?_) | (with_reducible refine Mi.wp_callN ?_) | ((with_reducible apply Mi.wp_putV); · rfl) | ((with_reducible apply Mi.wp_putN); · rfl) | (with_reducible refine Mi.wp_bnd ?_) | (with_reducible refine Mi.wp_ret ?_) | (with_reducible refine Mi.wp_opt ?_) | (with_reducible refine Mi.wp_view ?_) | ((with_reducible refine Mi.nm_a ?_); (try (conv => arg 1; simp only [Mi.putCell, Mi.wipeL, Mi.backL, Mi.pick, List.filterMap_cons, List.filterMap_nil, List.filterMap_cons_some, List.map_nil, List.map_cons, List.append_nil, List.nil_append, List.cons_append, List.getElem?_cons_zero, List.getElem?_cons_succ, List.set_cons_zero, List.set_cons_succ, List.getD_cons_zero, List.getD_cons_succ, Int.reduceToNat])); (with_reducible refine Mi.nm_b ?_)) | (with_reducible refine ⟨_, Mi.add_int, ?_⟩) | (with_reducible refine ⟨_, Mi.sub_int, ?_⟩) | (with_reducible refine ⟨_, Mi.lt_int, ?_⟩) | (with_reducible refine ⟨_, Mi.le_int, ?_⟩) | (with_reducible refine ⟨_, Mi.gt_int, ?_⟩) | (with_reducible refine ⟨_, Mi.ge_int, ?_⟩) | (with_reducible refine ⟨_, Mi.neg_int, ?_⟩) | (with_reducible refine ⟨_, Mi.asBl_bl, ?_⟩) | (with_reducible refine ⟨_, Mi.pow_lit (by decide) (by decide), ?_⟩) | (with_reducible refine ⟨_, Mi.mul_int (by decide), ?_⟩) | (with_reducible refine ⟨_, Mi.mod_int (by decide), ?_⟩) | (with_reducible refine ⟨_, Mi.fdiv_int (by decide), ?_⟩) | (with_reducible refine ⟨_, Mi.eqq_int, ?_⟩) | (with_reducible refine ⟨_, Mi.neq_int, ?_⟩) | (with_reducible refine Mi.ift_t ?_) | (with_reducible refine Mi.ift_f ?_) | (with_reducible refine Mi.ift_nt ?_) | (with_reducible refine Mi.ift_nf ?_) | ((with_reducible refine Mi.ift_bt ?_ ?_); · rfl) | ((with_reducible refine Mi.ift_bf ?_ ?_); · rfl) | (refine ⟨_, _, _, _, _, rfl, rfl, rfl, rfl, ?_⟩) | (refine ⟨_, _, rfl, rfl, ?_⟩) | (refine ⟨_, _, rfl, ?_⟩) | (refine ⟨⟨rfl, rfl, rfl⟩, ?_⟩) | (refine ⟨Nat.le_of_ble_eq_true rfl, ?_⟩) | (refine ⟨by decide, ?_⟩) | (refine ⟨_, rfl, ?_⟩) | (refine ⟨rfl, ?_⟩))); (try (with_reducible refine Mi.here ?_)))
        refine fp_ok (num_ok hv) ?_
        ((repeat (first | (with_reducible refine Mi.wp_seq ?_) | (with_reducible refine Mi.wp_ifS ?_) | (with_reducible refine Mi.wp_asg ?_) | (with_reducible refine Mi.wp_retS ?_) | (with_reducible refine Mi.wp_bin ?_) | ((with_reducible apply Mi.wp_var1); · rfl) | (with_reducible refine Mi.wp_C ?_) | (with_reducible refine Mi.wp_asCons ?_) | (with_reducible refine Mi.wp_asNil ?_) | (with_reducible refine Mi.wp_call ?_) | (with_reducible refine Mi.wp_callIO ?_) | (with_reducible refine Mi.wp_args ?_) | (with_reducible refine Mi.wp_frzXn ?_) | (with_reducible refine Mi.wp_frzX0 ?_) | (with_reducible refine Mi.wp_frzXS ?_) | (with_reducible refine Mi.wp_frzsCons ?_) | (with_reducible refine Mi.wp_frzsNil ?_) | (with_reducible refine Mi.wp_frzD ?_) | (with_reducible refine Mi.wp_boolA ?_) | (with_reducible refine Mi.wp_blT ?_) | (with_reducible refine Mi.wp_tst ?_) | (with_reducible refine Mi.wp_andT ?_) | (with_reducible refine Mi.wp_orT ?_) | (with_reducible refine Mi.wp_notT ?_) | (with_reducible refine Mi.wp_ifA ?_) | (with_reducible refine Mi.wp_andA ?_) | (with_reducible refine Mi.wp_orA ?_) | (with_reducible refine Mi.wp_notA ?_) | (with_reducible refine Mi.wp_chainT ?_) | (with_reducible refine Mi.wp_cb ?_) | (with_reducible refine Mi.wp_un ?_) | (with_reducible refine Mi.wp_next ?_) | (with_reducible refine Mi.wp_asgN ?_) | (with_reducible refine Mi.wp_retNS ?_) | (with_reducible refine Mi.wp_drop ?_) | (with_reducible refine Mi.wp_par2 ?_) | (with_reducible refine Mi.wp_asgG ?_) | (with_reducible refine Mi.wp_subG ?_) | (with_reducible refine Mi.wp_appA ?_) | (with_reducible refine Mi.wp_tup ?_) | (with_reducible refine Mi.wp_lst ?_) | (with_reducible refine Mi.wp_new ?_) | (with_reducible refine Mi.wp_slice ?_) | (with_reducible refine Mi.wp_prtN ?_) | (with_reducible refine Mi.wp_prtS ?_) | (with_reducible refine Mi.wp_mt ?_) | (with_reducible refine Mi.wp_mt0 ?_) | (with_reducible refine Mi.wp_seqI ?_) | (with_reducible refine Mi.wp_compN ?_) | (with_reducible refine Mi.wp_fnI ?_) | (with_reducible refine Mi.wp_forS ?_) | (with_reducible refine Mi.wp_tgTup ?_) | (with_reducible refine Mi.wp_gsCons ?_) | (with_reducible refine Mi.wp_gsNil ?_) | (with_reducible refine Mi.wp_callN ?_) | ((with_reducible apply Mi.wp_putV); · rfl) | ((with_reducible apply Mi.wp_putN); · rfl) | (with_reducible refine Mi.wp_bnd ?_) | (with_reducible refine Mi.wp_ret ?_) | (with_reducible refine Mi.wp_opt ?_) | (with_reducible refine Mi.wp_view ?_) | ((with_reducible refine Mi.nm_a ?_); (try (conv => arg 1; simp only [Mi.putCell, Mi.wipeL, Mi.backL, Mi.pick, List.filterMap_cons, List.filterMap_nil, List.filterMap_cons_some, List.map_nil, List.map_cons, List.append_nil, List.nil_append, List.cons_append, List.getElem?_cons_zero, List.getElem?_cons_succ, List.set_cons_zero, List.set_cons_succ, List.getD_cons_zero, List.getD_cons_succ, Int.reduceToNat])); (with_reducible refine Mi.nm_b ?_)) | (with_reducible refine ⟨_, Mi.add_int, ?_⟩) | (with_reducible refine ⟨_, Mi.sub_int, ?_⟩) | (with_reducible refine ⟨_, Mi.lt_int, ?_⟩) | (with_reducible refine ⟨_, Mi.le_int, ?_⟩) | (with_reducible refine ⟨_, Mi.gt_int, ?_⟩) | (with_reducible refine ⟨_, Mi.ge_int, ?_⟩) | (with_reducible refine ⟨_, Mi.neg_int, ?_⟩) | (with_reducible refine ⟨_, Mi.asBl_bl, ?_⟩) | (with_reducible refine ⟨_, Mi.pow_lit (by decide) (by decide), ?_⟩) | (with_reducible refine ⟨_, Mi.mul_int (by decide), ?_⟩) | (with_reducible refine ⟨_, Mi.mod_int (by decide), ?_⟩) | (with_reducible refine ⟨_, Mi.fdiv_int (by decide), ?_⟩) | (with_reducible refine ⟨_, Mi.eqq_int, ?_⟩) | (with_reducible refine ⟨_, Mi.neq_int, ?_⟩) | (with_reducible refine Mi.ift_t ?_) | (with_reducible refine Mi.ift_f ?_) | (with_reducible refine Mi.ift_nt ?_) | (with_reducible refine Mi.ift_nf ?_) | ((with_reducible refine Mi.ift_bt ?_ ?_); · rfl) | ((with_reducible refine Mi.ift_bf ?_ ?_); · rfl) | (refine ⟨_, _, _, _, _, rfl, rfl, rfl, rfl, ?_⟩) | (refine ⟨_, _, rfl, rfl, ?_⟩) | (refine ⟨_, _, rfl, ?_⟩) | (refine ⟨⟨rfl, rfl, rfl⟩, ?_⟩) | (refine ⟨Nat.le_of_ble_eq_true rfl, ?_⟩) | (refine ⟨by decide, ?_⟩) | (refine ⟨_, rfl, ?_⟩) | (refine ⟨rfl, ?_⟩))); (try (with_reducible refine Mi.here ?_)))
        refine fp_ok (lname_all hv) ?_
        ((repeat (first | (with_reducible refine Mi.wp_seq ?_) | (with_reducible refine Mi.wp_ifS ?_) | (with_reducible refine Mi.wp_asg ?_) | (with_reducible refine Mi.wp_retS ?_) | (with_reducible refine Mi.wp_bin ?_) | ((with_reducible apply Mi.wp_var1); · rfl) | (with_reducible refine Mi.wp_C ?_) | (with_reducible refine Mi.wp_asCons ?_) | (with_reducible refine Mi.wp_asNil ?_) | (with_reducible refine Mi.wp_call ?_) | (with_reducible refine Mi.wp_callIO ?_) | (with_reducible refine Mi.wp_args ?_) | (with_reducible refine Mi.wp_frzXn ?_) | (with_reducible refine Mi.wp_frzX0 ?_) | (with_reducible refine Mi.wp_frzXS ?_) | (with_reducible refine Mi.wp_frzsCons ?_) | (with_reducible refine Mi.wp_frzsNil ?_) | (with_reducible refine Mi.wp_frzD ?_) | (with_reducible refine Mi.wp_boolA ?_) | (with_reducible refine Mi.wp_blT ?_) | (with_reducible refine Mi.wp_tst ?_) | (with_reducible refine Mi.wp_andT ?_) | (with_reducible refine Mi.wp_orT ?_) | (with_reducible refine Mi.wp_notT ?_) | (with_reducible refine Mi.wp_ifA ?_) | (with_reducible refine Mi.wp_andA ?_) | (with_reducible refine Mi.wp_orA ?_) | (with_reducible refine Mi.wp_notA ?_) | (with_reducible refine Mi.wp_chainT ?_) | (with_reducible refine Mi.wp_cb ?_) | (with_reducible refine Mi.wp_un ?_) | (with_reducible refine Mi.wp_next ?_) | (with_reducible refine Mi.wp_asgN ?_) | (with_reducible refine Mi.wp_retNS ?_) | (with_reducible refine Mi.wp_drop ?_) | (with_reducible refine Mi.wp_par2 ?_) | (with_reducible refine Mi.wp_asgG ?_) | (with_reducible refine Mi.wp_subG ?_) | (with_reducible refine Mi.wp_appA ?_) | (with_reducible refine Mi.wp_tup ?_) | (with_reducible refine Mi.wp_lst ?_) | (with_reducible refine Mi.wp_new ?_) | (with_reducible refine Mi.wp_slice ?_) | (with_reducible refine Mi.wp_prtN ?_) | (with_reducible refine Mi.wp_prtS ?_) | (with_reducible refine Mi.wp_mt ?_) | (with_reducible refine Mi.wp_mt0 ?_) | (with_reducible refine Mi.wp_seqI ?_) | (with_reducible refine Mi.wp_compN ?_) | (with_reducible refine Mi.wp_fnI ?_) | (with_reducible refine Mi.wp_forS ?_) | (with_reducible refine Mi.wp_tgTup ?_) | (with_reducible refine Mi.wp_gsCons ?_) | (with_reducible refine Mi.wp_gsNil ?_) | (with_reducible refine Mi.wp_callN ?_) | ((with_reducible apply Mi.wp_putV); · rfl) | ((with_reducible apply Mi.wp_putN); · rfl) | (with_reducible refine Mi.wp_bnd ?_) | (with_reducible refine Mi.wp_ret ?_) | (with_reducible refine Mi.wp_opt ?_) | (with_reducible refine Mi.wp_view ?_) | ((with_reducible refine Mi.nm_a ?_); (try (conv => arg 1; simp only [Mi.putCell, Mi.wipeL, Mi.backL, Mi.pick, List.filterMap_cons, List.filterMap_nil, List.filterMap_cons_some, List.map_nil, List.map_cons, List.append_nil, List.nil_append, List.cons_append, List.getElem?_cons_zero, List.getElem?_cons_succ, List.set_cons_zero, List.set_cons_succ, List.getD_cons_zero, List.getD_cons_succ, Int.reduceToNat])); (with_reducible refine Mi.nm_b ?_)) | (with_reducible refine ⟨_, neq_two, ?_⟩) | (with_reducible refine ⟨_, Mi.isi_non_bool, ?_⟩) | (with_reducible refine ⟨_, Mi.isi_non_int, ?_⟩) | (with_reducible refine ⟨_, Mi.isi_non_str, ?_⟩) | (with_reducible refine ⟨_, Mi.isi_non_list, ?_⟩) | (with_reducible refine ⟨_, Mi.isi_non_tuple, ?_⟩) | (with_reducible refine ⟨_, Mi.isi_non_dict, ?_⟩) | (with_reducible refine ⟨_, Mi.isi_bl_bool, ?_⟩) | (with_reducible refine ⟨_, Mi.isi_bl_int, ?_⟩) | (with_reducible refine ⟨_, Mi.isi_bl_str, ?_⟩) | (with_reducible refine ⟨_, Mi.isi_bl_list, ?_⟩) | (with_reducible refine ⟨_, Mi.isi_bl_tuple, ?_⟩) | (with_reducible refine ⟨_, Mi.isi_bl_dict, ?_⟩) | (with_reducible refine ⟨_, Mi.isi_int_bool, ?_⟩) | (with_reducible refine ⟨_, Mi.isi_int_int, ?_⟩) | (with_reducible refine ⟨_, Mi.isi_int_str, ?_⟩) | (with_reducible refine ⟨_, Mi.isi_int_list, ?_⟩) | (with_reducible refine ⟨_, Mi.isi_int_tuple, ?_⟩) | (with_reducible refine ⟨_, Mi.isi_int_dict, ?_⟩) | (with_reducible refine ⟨_, Mi.isi_str_bool, ?_⟩) | (with_reducible refine ⟨_, Mi.isi_str_int, ?_⟩) | (with_reducible refine ⟨_, Mi.isi_str_str, ?_⟩) | (with_reducible refine ⟨_, Mi.isi_str_list, ?_⟩) | (with_reducible refine ⟨_, Mi.isi_str_tuple, ?_⟩) | (with_reducible refine ⟨_, Mi.isi_str_dict, ?_⟩) | (with_reducible refine ⟨_, Mi.isi_lst_bool, ?_⟩) | (with_reducible refine ⟨_, Mi.isi_lst_int, ?_⟩) | (with_reducible refine ⟨_, Mi.isi_lst_str, ?_⟩) | (with_reducible refine ⟨_, Mi.isi_lst_list, ?_⟩) | (with_reducible refine ⟨_, Mi.isi_lst_tuple, ?_⟩) | (with_reducible refine ⟨_, Mi.isi_lst_dict, ?_⟩) | (with_reducible refine ⟨_, Mi.isi_rol_bool, ?_⟩) | (with_reducible refine ⟨_, Mi.isi_rol_int, ?_⟩) | (with_reducible refine ⟨_, Mi.isi_rol_str, ?_⟩) | (with_reducible refine ⟨_, Mi.isi_rol_list, ?_⟩) | (with_reducible refine ⟨_, Mi.isi_rol_tuple, ?_⟩) | (with_reducible refine ⟨_, Mi.isi_rol_dict, ?_⟩) | (with_reducible refine ⟨_, Mi.isi_tup_bool, ?_⟩) | (with_reducible refine ⟨_, Mi.isi_tup_int, ?_⟩) | (with_reducible refine ⟨_, Mi.isi_tup_str, ?_⟩) | (with_reducible refine ⟨_, Mi.isi_tup_list, ?_⟩) | (with_reducible refine ⟨_, Mi.isi_tup_tuple, ?_⟩) | (with_reducible refine ⟨_, Mi.isi_tup_dict, ?_⟩) | (with_reducible refine ⟨_, Mi.isi_dct_bool, ?_⟩) | (with_reducible refine ⟨_, Mi.isi_dct_int, ?_⟩) | (with_reducible refine ⟨_, Mi.isi_dct_str, ?_⟩) | (with_reducible refine ⟨_, Mi.isi_dct_list, ?_⟩) | (with_reducible refine ⟨_, Mi.isi_dct_tuple, ?_⟩) | (with_reducible refine ⟨_, Mi.isi_dct_dict, ?_⟩) | (with_reducible refine ⟨_, Mi.add_int, ?_⟩) | (with_reducible refine ⟨_, Mi.sub_int, ?_⟩) | (with_reducible refine ⟨_, Mi.lt_int, ?_⟩) | (with_reducible refine ⟨_, Mi.le_int, ?_⟩) | (with_reducible refine ⟨_, Mi.gt_int, ?_⟩) | (with_reducible refine ⟨_, Mi.ge_int, ?_⟩) | (with_reducible refine ⟨_, Mi.neg_int, ?_⟩) | (with_reducible refine ⟨_, Mi.asBl_bl, ?_⟩) | (with_reducible refine ⟨_, Mi.pow_lit (by decide) (by decide), ?_⟩) | (with_reducible refine ⟨_, Mi.mul_int (by decide), ?_⟩) | (with_reducible refine ⟨_, Mi.mod_int (by decide), ?_⟩) | (with_reducible refine ⟨_, Mi.fdiv_int (by decide), ?_⟩) | (with_reducible refine ⟨_, Mi.eqq_int, ?_⟩) | (with_reducible refine ⟨_, Mi.neq_int, ?_⟩) | (with_reducible refine Mi.ift_t ?_) | (with_reducible refine Mi.ift_f ?_) | (with_reducible refine Mi.ift_nt ?_) | (with_reducible refine Mi.ift_nf ?_) | ((with_reducible refine Mi.ift_bt ?_ ?_); · rfl) | ((with_reducible refine Mi.ift_bf ?_ ?_); · rfl) | (refine ⟨_, _, _, _, _, rfl, rfl, rfl, rfl, ?_⟩) | (refine ⟨_, _, rfl, rfl, ?_⟩) | (refine ⟨_, _, rfl, ?_⟩) | (refine ⟨⟨rfl, rfl, rfl⟩, ?_⟩) | (refine ⟨Nat.le_of_ble_eq_true rfl, ?_⟩) | (refine ⟨by decide, ?_⟩) | (refine ⟨_, rfl, ?_⟩) | (refine ⟨rfl, ?_⟩))); (try (with_reducible refine Mi.here ?_)))
        refine fp_right hj hv (by omega) fun o hj => ?_
        ((repeat (first | (with_reducible refine Mi.wp_seq ?_) | (with_reducible refine Mi.wp_ifS ?_) | (with_reducible refine Mi.wp_asg ?_) | (with_reducible refine Mi.wp_retS ?_) | (with_reducible refine Mi.wp_bin ?_) | ((with_reducible apply Mi.wp_var1); · rfl) | (with_reducible refine Mi.wp_C ?_) | (with_reducible refine Mi.wp_asCons ?_) | (with_reducible refine Mi.wp_asNil ?_) | (with_reducible refine Mi.wp_call ?_) | (with_reducible refine Mi.wp_callIO ?_) | (with_reducible refine Mi.wp_args ?_) | (with_reducible refine Mi.wp_frzXn ?_) | (with_reducible refine Mi.wp_frzX0 ?_) | (with_reducible refine Mi.wp_frzXS ?_) | (with_reducible refine Mi.wp_frzsCons ?_) | (with_reducible refine Mi.wp_frzsNil ?_) | (with_reducible refine Mi.wp_frzD ?_) | (with_reducible refine Mi.wp_boolA ?_) | (with_reducible refine Mi.wp_blT ?_) | (with_reducible refine Mi.wp_tst ?_) | (with_reducible refine Mi.wp_andT ?_) | (with_reducible refine Mi.wp_orT ?_) | (with_reducible refine Mi.wp_notT ?_) | (with_reducible refine Mi.wp_ifA ?_) | (with_reducible refine Mi.wp_andA ?_) | (with_reducible refine Mi.wp_orA ?_) | (with_reducible refine Mi.wp_notA ?_) | (with_reducible refine Mi.wp_chainT ?_) | (with_reducible refine Mi.wp_cb ?_) | (with_reducible refine Mi.wp_un ?_) | (with_reducible refine Mi.wp_next ?_) | (with_reducible refine Mi.wp_asgN ?_) | (with_reducible refine Mi.wp_retNS ?_) | (with_reducible refine Mi.wp_drop ?_) | (with_reducible refine Mi.wp_par2 ?_) | (with_reducible refine Mi.wp_asgG ?_) | (with_reducible refine Mi.wp_subG ?_) | (with_reducible refine Mi.wp_appA ?_) | (with_reducible refine Mi.wp_tup ?_) | (with_reducible refine Mi.wp_lst ?_) | (with_reducible refine Mi.wp_new ?_) | (with_reducible refine Mi.wp_slice ?_) | (with_reducible refine Mi.wp_prtN ?_) | (with_reducible refine Mi.wp_prtS ?_) | (with_reducible refine Mi.wp_mt ?_) | (with_reducible refine Mi.wp_mt0 ?_) | (with_reducible refine Mi.wp_seqI ?_) | (with_reducible refine Mi.wp_compN ?_) | (with_reducible refine Mi.wp_fnI ?_) | (with_reducible refine Mi.wp_forS ?_) | (with_reducible refine Mi.wp_tgTup ?_) | (with_reducible refine Mi.wp_gsCons ?_) | (with_reducible refine Mi.wp_gsNil ?_) | (with_reducible refine Mi.wp_callN ?_) | ((with_reducible apply Mi.wp_putV); · rfl) | ((with_reducible apply Mi.wp_putN); · rfl) | (with_reducible refine Mi.wp_bnd ?_) | (with_reducible refine Mi.wp_ret ?_) | (with_reducible refine Mi.wp_opt ?_) | (with_reducible refine Mi.wp_view ?_) | ((with_reducible refine Mi.nm_a ?_); (try (conv => arg 1; simp only [Mi.putCell, Mi.wipeL, Mi.backL, Mi.pick, List.filterMap_cons, List.filterMap_nil, List.filterMap_cons_some, List.map_nil, List.map_cons, List.append_nil, List.nil_append, List.cons_append, List.getElem?_cons_zero, List.getElem?_cons_succ, List.set_cons_zero, List.set_cons_succ, List.getD_cons_zero, List.getD_cons_succ, Int.reduceToNat])); (with_reducible refine Mi.nm_b ?_)) | (with_reducible refine ⟨_, Mi.add_int, ?_⟩) | (with_reducible refine ⟨_, Mi.sub_int, ?_⟩) | (with_reducible refine ⟨_, Mi.lt_int, ?_⟩) | (with_reducible refine ⟨_, Mi.le_int, ?_⟩) | (with_reducible refine ⟨_, Mi.gt_int, ?_⟩) | (with_reducible refine ⟨_, Mi.ge_int, ?_⟩) | (with_reducible refine ⟨_, Mi.neg_int, ?_⟩) | (with_reducible refine ⟨_, Mi.asBl_bl, ?_⟩) | (with_reducible refine ⟨_, Mi.pow_lit (by decide) (by decide), ?_⟩) | (with_reducible refine ⟨_, Mi.mul_int (by decide), ?_⟩) | (with_reducible refine ⟨_, Mi.mod_int (by decide), ?_⟩) | (with_reducible refine ⟨_, Mi.fdiv_int (by decide), ?_⟩) | (with_reducible refine ⟨_, Mi.eqq_int, ?_⟩) | (with_reducible refine ⟨_, Mi.neq_int, ?_⟩) | (with_reducible refine Mi.ift_t ?_) | (with_reducible refine Mi.ift_f ?_) | (with_reducible refine Mi.ift_nt ?_) | (with_reducible refine Mi.ift_nf ?_) | ((with_reducible refine Mi.ift_bt ?_ ?_); · rfl) | ((with_reducible refine Mi.ift_bf ?_ ?_); · rfl) | (refine ⟨_, _, _, _, _, rfl, rfl, rfl, rfl, ?_⟩) | (refine ⟨_, _, rfl, rfl, ?_⟩) | (refine ⟨_, _, rfl, ?_⟩) | (refine ⟨⟨rfl, rfl, rfl⟩, ?_⟩) | (refine ⟨Nat.le_of_ble_eq_true rfl, ?_⟩) | (refine ⟨by decide, ?_⟩) | (refine ⟨_, rfl, ?_⟩) | (refine ⟨rfl, ?_⟩))); (try (with_reducible refine Mi.here ?_)))
        refine fp_right hj hv (by omega) fun o hj => ?_
        ((repeat (first | (with_reducible refine Mi.wp_seq ?_) | (with_reducible refine Mi.wp_ifS ?_) | (with_reducible refine Mi.wp_asg ?_) | (with_reducible refine Mi.wp_retS ?_) | (with_reducible refine Mi.wp_bin ?_) | ((with_reducible apply Mi.wp_var1); · rfl) | (with_reducible refine Mi.wp_C ?_) | (with_reducible refine Mi.wp_asCons ?_) | (with_reducible refine Mi.wp_asNil ?_) | (with_reducible refine Mi.wp_call ?_) | (with_reducible refine Mi.wp_callIO ?_) | (with_reducible refine Mi.wp_args ?_) | (with_reducible refine Mi.wp_frzXn ?_) | (with_reducible refine Mi.wp_frzX0 ?_) | (with_reducible refine Mi.wp_frzXS ?_) | (with_reducible refine Mi.wp_frzsCons ?_) | (with_reducible refine Mi.wp_frzsNil ?_) | (with_reducible refine Mi.wp_frzD ?_) | (with_reducible refine Mi.wp_boolA ?_) | (with_reducible refine Mi.wp_blT ?_) | (with_reducible refine Mi.wp_tst ?_) | (with_reducible refine Mi.wp_andT ?_) | (with_reducible refine Mi.wp_orT ?_) | (with_reducible refine Mi.wp_notT ?_) | (with_reducible refine Mi.wp_ifA ?_) | (with_reducible refine Mi.wp_andA ?_) | (with_reducible refine Mi.wp_orA ?_) | (with_reducible refine Mi.wp_notA ?_) | (with_reducible refine Mi.wp_chainT ?_) | (with_reducible refine Mi.wp_cb ?_) | (with_reducible refine Mi.wp_un ?_) | (with_reducible refine Mi.wp_next ?_) | (with_reducible refine Mi.wp_asgN ?_) | (with_reducible refine Mi.wp_retNS ?_) | (with_reducible refine Mi.wp_drop ?_) | (with_reducible refine Mi.wp_par2 ?_) | (with_reducible refine Mi.wp_asgG ?_) | (with_reducible refine Mi.wp_subG ?_) | (with_reducible refine Mi.wp_appA ?_) | (with_reducible refine Mi.wp_tup ?_) | (with_reducible refine Mi.wp_lst ?_) | (with_reducible refine Mi.wp_new ?_) | (with_reducible refine Mi.wp_slice ?_) | (with_reducible refine Mi.wp_prtN ?_) | (with_reducible refine Mi.wp_prtS ?_) | (with_reducible refine Mi.wp_mt ?_) | (with_reducible refine Mi.wp_mt0 ?_) | (with_reducible refine Mi.wp_seqI ?_) | (with_reducible refine Mi.wp_compN ?_) | (with_reducible refine Mi.wp_fnI ?_) | (with_reducible refine Mi.wp_forS ?_) | (with_reducible refine Mi.wp_tgTup ?_) | (with_reducible refine Mi.wp_gsCons ?_) | (with_reducible refine Mi.wp_gsNil ?_) | (with_reducible refine Mi.wp_callN ?_) | ((with_reducible apply Mi.wp_putV); · rfl) | ((with_reducible apply Mi.wp_putN); · rfl) | (with_reducible refine Mi.wp_bnd ?_) | (with_reducible refine Mi.wp_ret ?_) | (with_reducible refine Mi.wp_opt ?_) | (with_reducible refine Mi.wp_view ?_) | ((with_reducible refine Mi.nm_a ?_); (try (conv => arg 1; simp only [Mi.putCell, Mi.wipeL, Mi.backL, Mi.pick, List.filterMap_cons, List.filterMap_nil, List.filterMap_cons_some, List.map_nil, List.map_cons, List.append_nil, List.nil_append, List.cons_append, List.getElem?_cons_zero, List.getElem?_cons_succ, List.set_cons_zero, List.set_cons_succ, List.getD_cons_zero, List.getD_cons_succ, Int.reduceToNat])); (with_reducible refine Mi.nm_b ?_)) | (with_reducible refine ⟨_, Mi.add_int, ?_⟩) | (with_reducible refine ⟨_, Mi.sub_int, ?_⟩) | (with_reducible refine ⟨_, Mi.lt_int, ?_⟩) | (with_reducible refine ⟨_, Mi.le_int, ?_⟩) | (with_reducible refine ⟨_, Mi.gt_int, ?_⟩) | (with_reducible refine ⟨_, Mi.ge_int, ?_⟩) | (with_reducible refine ⟨_, Mi.neg_int, ?_⟩) | (with_reducible refine ⟨_, Mi.asBl_bl, ?_⟩) | (with_reducible refine ⟨_, Mi.pow_lit (by decide) (by decide), ?_⟩) | (with_reducible refine ⟨_, Mi.mul_int (by decide), ?_⟩) | (with_reducible refine ⟨_, Mi.mod_int (by decide), ?_⟩) | (with_reducible refine ⟨_, Mi.fdiv_int (by decide), ?_⟩) | (with_reducible refine ⟨_, Mi.eqq_int, ?_⟩) | (with_reducible refine ⟨_, Mi.neq_int, ?_⟩) | (with_reducible refine Mi.ift_t ?_) | (with_reducible refine Mi.ift_f ?_) | (with_reducible refine Mi.ift_nt ?_) | (with_reducible refine Mi.ift_nf ?_) | ((with_reducible refine Mi.ift_bt ?_ ?_); · rfl) | ((with_reducible refine Mi.ift_bf ?_ ?_); · rfl) | (refine ⟨_, _, _, _, _, rfl, rfl, rfl, rfl, ?_⟩) | (refine ⟨_, _, rfl, rfl, ?_⟩) | (refine ⟨_, _, rfl, ?_⟩) | (refine ⟨⟨rfl, rfl, rfl⟩, ?_⟩) | (refine ⟨Nat.le_of_ble_eq_true rfl, ?_⟩) | (refine ⟨by decide, ?_⟩) | (refine ⟨_, rfl, ?_⟩) | (refine ⟨rfl, ?_⟩))); (try (with_reducible refine Mi.here ?_)))
        exact ⟨_, _, _, _, _, hj, by omega, rfl, .inr ⟨_, _, _, rfl, rfl, rfl⟩⟩
    · exact ⟨0, j, .nil, .nil, .nil, hj, by simp, rfl, .inl ⟨rfl, rfl, rfl⟩⟩
  obtain ⟨d, o, e, rfl⟩ := fp_ex z
  exact ⟨o, e⟩
end Lw
end
section
set_option maxHeartbeats 0
namespace Lw
open PySem L2 Mi
def dd__law_jug : He.DefD := ⟨("_law_jug", none), "_law_jug", "_law_jug", defArgs s__law_jug, defBody s__law_jug, defScope s__law_jug, [], []⟩
def dd__law_pour : He.DefD := ⟨("_law_pour", none), "_law_pour", "_law_pour", defArgs s__law_pour, defBody s__law_pour, defScope s__law_pour, [], []⟩
def dd__law_text : He.DefD := ⟨("_law_text", none), "_law_text", "_law_text", defArgs s__law_text, defBody s__law_text, defScope s__law_text, [], []⟩
def dd__law_value : He.DefD := ⟨("_law_value", none), "_law_value", "_law_value", defArgs s__law_value, defBody s__law_value, defScope s__law_value, [], []⟩
def dd_is_integer : He.DefD := ⟨("is_integer", none), "is_integer", "is_integer", defArgs s_is_integer, defBody s_is_integer, defScope s_is_integer, [], []⟩
def dd_is_name : He.DefD := ⟨("is_name", none), "is_name", "is_name", defArgs s_is_name, defBody s_is_name, defScope s_is_name, [], []⟩
def dd__law_is_number : He.DefD := ⟨("_law_is_number", none), "_law_is_number", "_law_is_number", defArgs s__law_is_number, defBody s__law_is_number, defScope s__law_is_number, [], []⟩
def dd_is_within : He.DefD := ⟨("is_within", none), "is_within", "is_within", defArgs s_is_within, defBody s_is_within, defScope s_is_within, [], []⟩
def dd__law_bound : He.DefD := ⟨("_law_bound", none), "_law_bound", "_law_bound", defArgs s__law_bound, defBody s__law_bound, defScope s__law_bound, [], []⟩
def dd__law_within_right : He.DefD := ⟨("_law_within_right", none), "_law_within_right", "_law_within_right", defArgs s__law_within_right, defBody s__law_within_right, defScope s__law_within_right, [], []⟩
def dd__law_is_name : He.DefD := ⟨("_law_is_name", none), "_law_is_name", "_law_is_name", defArgs s__law_is_name, defBody s__law_is_name, defScope s__law_is_name, [], []⟩
def dd_law : He.DefD := ⟨("law", none), "law", "law", defArgs s_law, defBody s_law, defScope s_law, [], []⟩
def fn : List He.DefD := [dd__law_jug, dd__law_pour, dd__law_text, dd__law_value, dd_is_integer, dd_is_name, dd__law_is_number, dd_is_within, dd__law_bound, dd__law_within_right, dd__law_is_name, dd_law]
def fa : List He.Fa := [.free "int", .free "abs", .free "range", .free "len", .free "isinstance", .free "bool", .free "str", .int "MOST_SIGNS" 12, .str "SMALL" "abcdefghijklmnopqrstuvwxyz", .str "DIGITS" "0123456789", .free "all", .glo "_law_jug", .glo "_law_pour", .glo "_law_text", .glo "_law_value", .glo "is_integer", .glo "is_name", .glo "_law_is_number", .glo "is_within", .glo "_law_bound", .glo "_law_within_right", .glo "_law_is_name", .glo "law"]
theorem tx {K : PySem.W.Frag} {h : Heap} {mg : Str → Option Value} (X : K.In h) (G : h.Ns mainGlobals mg) (c : He.SaysD fa fn K) : TX K mg := { f_int := He.free_ok X G (c.fact 0 (f := .free "int") rfl), f_abs := He.free_ok X G (c.fact 1 (f := .free "abs") rfl), f_range := He.free_ok X G (c.fact 2 (f := .free "range") rfl), f_len := He.free_ok X G (c.fact 3 (f := .free "len") rfl), f_isinstance := He.free_ok X G (c.fact 4 (f := .free "isinstance") rfl), f_bool := He.free_ok X G (c.fact 5 (f := .free "bool") rfl), f_str := He.free_ok X G (c.fact 6 (f := .free "str") rfl), i_MOST_SIGNS := He.int_ok X G (c.fact 7 (f := .int "MOST_SIGNS" 12) rfl), s_SMALL := He.str_ok X G (c.fact 8 (f := .str "SMALL" "abcdefghijklmnopqrstuvwxyz") rfl), s_DIGITS := He.str_ok X G (c.fact 9 (f := .str "DIGITS" "0123456789") rfl), f_all := He.free_ok X G (c.fact 10 (f := .free "all") rfl) }
theorem bd__law_jug_1 {K : PySem.W.Frag} {f : Addr} {fd : FuncData} (F : FunD K "_law_jug" "_law_jug" (defArgs s__law_jug) (defBody s__law_jug) (defScope s__law_jug) [] [] f fd) : BndP K fd ["_law_script"] 1 [] [0] [] :=
  bndP0 F fun _ _ _ _ _ _ us ws h1 h2 => match us, ws, h1, h2 with | [u0], [], _, _ => rfl
theorem bd__law_pour_2 {K : PySem.W.Frag} {f : Addr} {fd : FuncData} (F : FunD K "_law_pour" "_law_pour" (defArgs s__law_pour) (defBody s__law_pour) (defScope s__law_pour) [] [] f fd) : BndP K fd ["_law_jug_here", "_law_many"] 2 [] [0, 1] [] :=
  bndP0 F fun _ _ _ _ _ _ us ws h1 h2 => match us, ws, h1, h2 with | [u0, u1], [], _, _ => rfl
theorem bd__law_text_1 {K : PySem.W.Frag} {f : Addr} {fd : FuncData} (F : FunD K "_law_text" "_law_text" (defArgs s__law_text) (defBody s__law_text) (defScope s__law_text) [] [] f fd) : BndP K fd ["_law_jug_here"] 1 [] [0] [] :=
  bndP0 F fun _ _ _ _ _ _ us ws h1 h2 => match us, ws, h1, h2 with | [u0], [], _, _ => rfl
theorem bd__law_value_1 {K : PySem.W.Frag} {f : Addr} {fd : FuncData} (F : FunD K "_law_value" "_law_value" (defArgs s__law_value) (defBody s__law_value) (defScope s__law_value) [] [] f fd) : BndP K fd ["_law_jug_here"] 1 [] [0] [] :=
  bndP0 F fun _ _ _ _ _ _ us ws h1 h2 => match us, ws, h1, h2 with | [u0], [], _, _ => rfl
theorem bd_is_integer_1 {K : PySem.W.Frag} {f : Addr} {fd : FuncData} (F : FunD K "is_integer" "is_integer" (defArgs s_is_integer) (defBody s_is_integer) (defScope s_is_integer) [] [] f fd) : BndP K fd ["value"] 1 [] [0] [] :=
  bndP0 F fun _ _ _ _ _ _ us ws h1 h2 => match us, ws, h1, h2 with | [u0], [], _, _ => rfl
theorem bd_is_integer_0_value {K : PySem.W.Frag} {f : Addr} {fd : FuncData} (F : FunD K "is_integer" "is_integer" (defArgs s_is_integer) (defBody s_is_integer) (defScope s_is_integer) [] [] f fd) : BndP K fd ["value"] 0 ["value"] [0] [] :=
  bndP0 F fun _ _ _ _ _ _ us ws h1 h2 => match us, ws, h1, h2 with | [], [w0], _, _ => rfl
theorem bd_is_name_0_value {K : PySem.W.Frag} {f : Addr} {fd : FuncData} (F : FunD K "is_name" "is_name" (defArgs s_is_name) (defBody s_is_name) (defScope s_is_name) [] [] f fd) : BndP K fd ["value"] 0 ["value"] [0] [] :=
  bndP0 F fun _ _ _ _ _ _ us ws h1 h2 => match us, ws, h1, h2 with | [], [w0], _, _ => rfl
theorem bd__law_is_number_1 {K : PySem.W.Frag} {f : Addr} {fd : FuncData} (F : FunD K "_law_is_number" "_law_is_number" (defArgs s__law_is_number) (defBody s__law_is_number) (defScope s__law_is_number) [] [] f fd) : BndP K fd ["_law_value_here"] 1 [] [0] [] :=
  bndP0 F fun _ _ _ _ _ _ us ws h1 h2 => match us, ws, h1, h2 with | [u0], [], _, _ => rfl
theorem bd_is_within_0_most_value_least {K : PySem.W.Frag} {f : Addr} {fd : FuncData} (F : FunD K "is_within" "is_within" (defArgs s_is_within) (defBody s_is_within) (defScope s_is_within) [] [] f fd) : BndP K fd ["value", "least", "most"] 0 ["most", "value", "least"] [1, 2, 0] [] :=
  bndP0 F fun _ _ _ _ _ _ us ws h1 h2 => match us, ws, h1, h2 with | [], [w0, w1, w2], _, _ => rfl
theorem bd__law_bound_2 {K : PySem.W.Frag} {f : Addr} {fd : FuncData} (F : FunD K "_law_bound" "_law_bound" (defArgs s__law_bound) (defBody s__law_bound) (defScope s__law_bound) [] [] f fd) : BndP K fd ["_law_jug_here", "_law_value_here"] 2 [] [0, 1] [] :=
  bndP0 F fun _ _ _ _ _ _ us ws h1 h2 => match us, ws, h1, h2 with | [u0, u1], [], _, _ => rfl
theorem bd__law_within_right_2 {K : PySem.W.Frag} {f : Addr} {fd : FuncData} (F : FunD K "_law_within_right" "_law_within_right" (defArgs s__law_within_right) (defBody s__law_within_right) (defScope s__law_within_right) [] [] f fd) : BndP K fd ["_law_jug_here", "_law_value_here"] 2 [] [0, 1] [] :=
  bndP0 F fun _ _ _ _ _ _ us ws h1 h2 => match us, ws, h1, h2 with | [u0, u1], [], _, _ => rfl
theorem bd__law_is_name_1 {K : PySem.W.Frag} {f : Addr} {fd : FuncData} (F : FunD K "_law_is_name" "_law_is_name" (defArgs s__law_is_name) (defBody s__law_is_name) (defScope s__law_is_name) [] [] f fd) : BndP K fd ["_law_value_here"] 1 [] [0] [] :=
  bndP0 F fun _ _ _ _ _ _ us ws h1 h2 => match us, ws, h1, h2 with | [u0], [], _, _ => rfl
abbrev R : PySem.W.OpenRow := PySem.W.OpenLaw.row PySem.Challenge.rw_truthwell_k01_kinds_of_any_values
abbrev hk : PySem.W.Hook := He.hookD 4 fa fn
def ob (s : PySem.W.SharedT) : He.AlD := He.obsDG 4 fa fn (HandSHeadRun.getT s)
theorem ob_eq (s : PySem.W.SharedT) : ob s = hk.obs s.abs := He.obsDG_eq (HandSHeadRun.getT_eq s)
def loose0 : List Str := ["MOST_SIGNS", "SMALL", "DIGITS", "is_integer", "is_within", "is_name", "_law_jug", "_law_pour", "_law_text", "_law_value", "_law_is_number", "_law_is_name", "_law_bound", "_law_within_right"]
def loose : List Str := loose0
theorem run (w : World) : HandSHeadRun.RunEq R (PySem.W.view R.prog [16]) hk ob 1000 loose w := by
  intro os
  kernel_rfl
theorem facts {w : World} {K : PySem.W.Frag} {h : Heap} {mg : Str → Option Value} {f : Addr} (X : K.In h) (G : h.Ns mainGlobals mg) (hfa : mg ("law" : Str) = some (.ref f)) (c : He.SaysD fa fn K) :
    ∃ fd : FuncData, (∀ (s : Shared) (v : Value), BindsTo s fd ⟨[v], []⟩ [("_law_script", v)]) ∧ ∀ base : Heap, K.In base → base.Ns mainGlobals mg → FnOk PySem.Challenge.rw_truthwell_k01_kinds_of_any_values.prog w K mg base (L2.CX PySem.Challenge.rw_truthwell_k01_kinds_of_any_values.prog w) 4 f fd ["_law_script"] (spOf K mg none 1 f_law) := by
  have T := tx X G c
  obtain ⟨fd__law_jug, F__law_jug⟩ := c.def_ 0 (d := dd__law_jug) rfl
  obtain ⟨fd__law_pour, F__law_pour⟩ := c.def_ 1 (d := dd__law_pour) rfl
  obtain ⟨fd__law_text, F__law_text⟩ := c.def_ 2 (d := dd__law_text) rfl
  obtain ⟨fd__law_value, F__law_value⟩ := c.def_ 3 (d := dd__law_value) rfl
  obtain ⟨fd_is_integer, F_is_integer⟩ := c.def_ 4 (d := dd_is_integer) rfl
  obtain ⟨fd_is_name, F_is_name⟩ := c.def_ 5 (d := dd_is_name) rfl
  obtain ⟨fd__law_is_number, F__law_is_number⟩ := c.def_ 6 (d := dd__law_is_number) rfl
  obtain ⟨fd_is_within, F_is_within⟩ := c.def_ 7 (d := dd_is_within) rfl
  obtain ⟨fd__law_bound, F__law_bound⟩ := c.def_ 8 (d := dd__law_bound) rfl
  obtain ⟨fd__law_within_right, F__law_within_right⟩ := c.def_ 9 (d := dd__law_within_right) rfl
  obtain ⟨fd__law_is_name, F__law_is_name⟩ := c.def_ 10 (d := dd__law_is_name) rfl
  obtain ⟨fd_law, F_law⟩ := c.def_ 11 (d := dd_law) rfl
  have e := hfa.symm.trans (He.glo_ok X G (c.fact 22 (f := .glo "law") rfl))
  cases e
  have b := FunD.bindsA (ps := ["_law_script"]) F_law fun _ _ _ _ _ _ us hl => match us, hl with | [_], _ => rfl
  refine ⟨fd_law, fun s v => b s [v] rfl, fun base _ _ => ?_⟩
  have d__law_jug : DefF PySem.Challenge.rw_truthwell_k01_kinds_of_any_values.prog w K mg base "_law_jug" fd__law_jug ["_law_script"] 1 none f__law_jug := ⟨_, ok__law_jug T F__law_jug, He.glo_ok X G (c.fact 11 (f := .glo "_law_jug") rfl), F__law_jug.kp⟩
  have d__law_pour : DefF PySem.Challenge.rw_truthwell_k01_kinds_of_any_values.prog w K mg base "_law_pour" fd__law_pour ["_law_jug_here", "_law_many"] 1 (some 0) f__law_pour := ⟨_, ok__law_pour T F__law_pour, He.glo_ok X G (c.fact 12 (f := .glo "_law_pour") rfl), F__law_pour.kp⟩
  have d__law_text : DefF PySem.Challenge.rw_truthwell_k01_kinds_of_any_values.prog w K mg base "_law_text" fd__law_text ["_law_jug_here"] 2 (some 0) f__law_text := ⟨_, ok__law_text T d__law_pour (bd__law_pour_2 F__law_pour) F__law_text, He.glo_ok X G (c.fact 13 (f := .glo "_law_text") rfl), F__law_text.kp⟩
  have d__law_value : DefF PySem.Challenge.rw_truthwell_k01_kinds_of_any_values.prog w K mg base "_law_value" fd__law_value ["_law_jug_here"] 3 (some 0) f__law_value := ⟨_, ok__law_value T d__law_pour (bd__law_pour_2 F__law_pour) d__law_text (bd__law_text_1 F__law_text) F__law_value, He.glo_ok X G (c.fact 14 (f := .glo "_law_value") rfl), F__law_value.kp⟩
  have d_is_integer : DefF PySem.Challenge.rw_truthwell_k01_kinds_of_any_values.prog w K mg base "is_integer" fd_is_integer ["value"] 1 none f_is_integer := ⟨_, ok_is_integer T F_is_integer, He.glo_ok X G (c.fact 15 (f := .glo "is_integer") rfl), F_is_integer.kp⟩
  have d_is_name : DefF PySem.Challenge.rw_truthwell_k01_kinds_of_any_values.prog w K mg base "is_name" fd_is_name ["value"] 1 none f_is_name := ⟨_, ok_is_name T F_is_name, He.glo_ok X G (c.fact 16 (f := .glo "is_name") rfl), F_is_name.kp⟩
  have d__law_is_number : DefF PySem.Challenge.rw_truthwell_k01_kinds_of_any_values.prog w K mg base "_law_is_number" fd__law_is_number ["_law_value_here"] 1 none f__law_is_number := ⟨_, ok__law_is_number T F__law_is_number, He.glo_ok X G (c.fact 17 (f := .glo "_law_is_number") rfl), F__law_is_number.kp⟩
  have d_is_within : DefF PySem.Challenge.rw_truthwell_k01_kinds_of_any_values.prog w K mg base "is_within" fd_is_within ["value", "least", "most"] 2 none f_is_within := ⟨_, ok_is_within T d_is_integer (bd_is_integer_1 F_is_integer) F_is_within, He.glo_ok X G (c.fact 18 (f := .glo "is_within") rfl), F_is_within.kp⟩
  have d__law_bound : DefF PySem.Challenge.rw_truthwell_k01_kinds_of_any_values.prog w K mg base "_law_bound" fd__law_bound ["_law_jug_here", "_law_value_here"] 2 (some 0) f__law_bound := ⟨_, ok__law_bound T d__law_is_number (bd__law_is_number_1 F__law_is_number) d__law_pour (bd__law_pour_2 F__law_pour) F__law_bound, He.glo_ok X G (c.fact 19 (f := .glo "_law_bound") rfl), F__law_bound.kp⟩
  have d__law_within_right : DefF PySem.Challenge.rw_truthwell_k01_kinds_of_any_values.prog w K mg base "_law_within_right" fd__law_within_right ["_law_jug_here", "_law_value_here"] 3 (some 0) f__law_within_right := ⟨_, ok__law_within_right T d__law_is_number (bd__law_is_number_1 F__law_is_number) d_is_within (bd_is_within_0_most_value_least F_is_within) d__law_bound (bd__law_bound_2 F__law_bound) F__law_within_right, He.glo_ok X G (c.fact 20 (f := .glo "_law_within_right") rfl), F__law_within_right.kp⟩
  have d__law_is_name : DefF PySem.Challenge.rw_truthwell_k01_kinds_of_any_values.prog w K mg base "_law_is_name" fd__law_is_name ["_law_value_here"] 1 none f__law_is_name := ⟨_, ok__law_is_name T F__law_is_name, He.glo_ok X G (c.fact 21 (f := .glo "_law_is_name") rfl), F__law_is_name.kp⟩
  exact ok_law T d__law_jug (bd__law_jug_1 F__law_jug) d__law_value (bd__law_value_1 F__law_value) d_is_integer (bd_is_integer_0_value F_is_integer) d_is_name (bd_is_name_0_value F_is_name) d__law_within_right (bd__law_within_right_2 F__law_within_right) d__law_is_number (bd__law_is_number_1 F__law_is_number) d__law_is_name (bd__law_is_name_1 F__law_is_name) F_law
end Lw
end
open PySem PySem.W PySem.Calls PyProof.Rows
theorem PySem.Challenge.cw_truthwell_k01_kinds_of_any_values_holds : PySem.Challenge.rw_truthwell_k01_kinds_of_any_values.Holds := by
  w_on; o_law
  refine HandSHeadRun.head_any (r := OpenLaw.row PySem.Challenge.rw_truthwell_k01_kinds_of_any_values) (q := view (OpenLaw.row PySem.Challenge.rw_truthwell_k01_kinds_of_any_values).prog [16]) (H := Lw.hk) (ob := Lw.ob) (M := 1000) (loose := Lw.loose) (d := HandSHeadRun.topDef (OpenLaw.row PySem.Challenge.rw_truthwell_k01_kinds_of_any_values).prog 16) (kwd := []) Lw.ob_eq
    (by kernel_rfl) (fun s => by kernel_rfl) Lw.run (by kernel_rfl) (by kernel_rfl) (by kernel_rfl) (by rfl) (by first | assumption | decide +kernel) (by decide +kernel) ⟨rfl, rfl, rfl, rfl, rfl, by decide +kernel⟩ ?hw ?hc
  case hw => w_witness2
  case hc =>
    refine Mi.walkW (l := PySem.Challenge.rw_truthwell_k01_kinds_of_any_values) (n := 63) (k := 4) (x := "_law_script") (f := Lw.f_law) rfl (by decide) (by kernel_rfl) ⟨rfl, by decide, by decide⟩ Lw.law_m ?F
    intro w mg fa h Y G hmg0
    obtain ⟨K, KX, c⟩ := Y
    have hmg : mg ("law" : PySem.Str) = some (.ref fa) := by
      have e : (HandSHeadRun.topDef (OpenLaw.row PySem.Challenge.rw_truthwell_k01_kinds_of_any_values).prog 16).name = ("law" : PySem.Str) := by kernel_rfl
      rw [← e]
      exact hmg0
    obtain ⟨fd, hb, hF⟩ := Lw.facts (w := w) KX G hmg c
    exact ⟨K, fd, KX, hb, hF⟩
