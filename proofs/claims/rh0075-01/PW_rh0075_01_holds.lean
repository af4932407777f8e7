import PyProof.Rows.All
import Wide.All
import OpenK.AllK
import Wide.FinOn
import PySem.Challenge.RW_rh0075_01
open PySem PySem.W PyProof.Rows
set_option Elab.async false
set_option linter.unusedVariables false
set_option linter.unusedSectionVars false
set_option linter.unusedSimpArgs false
set_option maxRecDepth 100000
set_option maxHeartbeats 8000000
namespace Mine
/-! the top, run on a tree -/
noncomputable def topRunT (tb : String → Option Builtin) (p : Program) (w : World) (n₀ : Nat) (ann : Option Value) : Nat → SharedT → Thread → Option SharedT
  | 0, _, _ => none
  | n + 1, s, t => match through t with
    | true => some s
    | false => match stepOk n₀ ann t with
      | false => none
      | true => match stepT (denote tb) p w s t with
        | some (s', t') => topRunT tb p w n₀ ann n s' t'
        | none => none
theorem topRunT_of {tb : String → Option Builtin} {p : Program} {w : World} {n₀ : Nat} {ann : Option Value} : ∀ {n : Nat} {s s' : SharedT} {t : Thread}, topRunT tb p w n₀ ann n s t = some s' → topRun tb p w n₀ ann n s.abs t = some s'.abs
  | 0, _, _, _, h => by cases h
  | n + 1, s, s', t, h => by
    unfold topRunT at h
    unfold topRun
    cases he : through t with
    | true => rw [he] at h; cases h; rfl
    | false =>
      rw [he] at h
      cases hk : stepOk n₀ ann t with
      | false => rw [hk] at h; cases h
      | true =>
        rw [hk] at h
        cases hs : stepT (denote tb) p w s t with
        | none => rw [hs] at h; cases h
        | some r => obtain ⟨s₂, t₂⟩ := r; rw [hs] at h; rw [stepT_spec hs]; exact topRunT_of h
noncomputable def insAll (l : List Obj) : Nat → BT → BT := List.rec (fun _ t => t) (fun o _ ih n t => ih (n + 1) (t.ins n o)) l
noncomputable def bootT (P : Params) : BT := insAll (boot_heap P).objs.toList 0 .nil
noncomputable def bootS (w : World) (os : OsState) : SharedT := ⟨bootT w.params, (boot_heap w.params).objs.size, (boot_heap w.params).life, Array.mk [], boot_drawn, boot_toks, os⟩
theorem boot_abs (w : World) (os : OsState) : (bootS w os).abs = ⟨boot_heap w.params, Array.mk [], boot_drawn, boot_toks, os⟩ := by kernel_rfl

noncomputable def T1 {A B C D F G H I J : Type} (t : A × B × C × D × F × G × H × I × J) : B × C × D × F × H × I × J := (t.2.1, t.2.2.1, t.2.2.2.1, t.2.2.2.2.1, t.2.2.2.2.2.2.1, t.2.2.2.2.2.2.2.1, t.2.2.2.2.2.2.2.2)
theorem T1_ext {A B C D F G H I J : Type} {t u : A × B × C × D × F × G × H × I × J} (h1 : T1 t = T1 u) (h2 : t.1 = u.1) (h3 : t.2.2.2.2.2.1 = u.2.2.2.2.2.1) : t = u :=
  Prod.ext h2 (Prod.ext (congrArg (·.1) h1) (Prod.ext (congrArg (·.2.1) h1) (Prod.ext (congrArg (·.2.2.1) h1) (Prod.ext (congrArg (·.2.2.2.1) h1) (Prod.ext h3 (congrArg (·.2.2.2.2) h1))))))
noncomputable def C1 (p q : Program) (N : Nat) (h₀ : Heap) (s₀ : SharedT) (w : World) :=
  (topRunT treeTable p w h₀.objs.size (h₀.nsMap mainGlobals "__annotations__") N s₀ (topStub p)).map fun s =>
    ((staticsOk (importedModules p.main.body) h₀ s.abs.heap && namesBound p s.abs.heap && gensDone s.abs && laidKept h₀ s.abs.heap),
      T1 (openSeen q [] (importedModules p.main.body) (fun s => xlAt q [] s && recOk [] s) true s.abs))
noncomputable def C2 (p q : Program) (N : Nat) (h₀ : Heap) (s₀ : SharedT) (w : World) :=
  (topRunT treeTable p w h₀.objs.size (h₀.nsMap mainGlobals "__annotations__") N s₀ (topStub p)).map fun s => (openSeen q [] (importedModules p.main.body) (fun s => xlAt q [] s && recOk [] s) true s.abs).1
noncomputable def C3 (p q : Program) (N : Nat) (h₀ : Heap) (s₀ : SharedT) (w : World) :=
  (topRunT treeTable p w h₀.objs.size (h₀.nsMap mainGlobals "__annotations__") N s₀ (topStub p)).map fun s => (openSeen q [] (importedModules p.main.body) (fun s => xlAt q [] s && recOk [] s) true s.abs).2.2.2.2.2.1
noncomputable def C4 (p : Program) (N : Nat) (as : List Addr) (h₀ : Heap) (s₀ : SharedT) (w : World) :=
  (topRunT treeTable p w h₀.objs.size (h₀.nsMap mainGlobals "__annotations__") N s₀ (topStub p)).map fun s => as.map s.abs.heap.get?
theorem left_tree {p q : Program} {N : Nat} {as : List Addr} {v : World → List (Option Obj)} (e : opening p = plainProg p.main.scope.names) (hN : Nat.ble 600 N = true) (f : ∀ s, fenceModules? p s = some s)
    (run1 : ∀ (w : World) (os : OsState), C1 p q N (boot_heap w.params) (bootS w os) w = some (true, T1 (openGood q [])))
    (run2 : ∀ (w : World) (os : OsState), C2 p q N (boot_heap w.params) (bootS w os) w = some (openGood q []).1)
    (run3 : ∀ (w : World) (os : OsState), C3 p q N (boot_heap w.params) (bootS w os) w = some (openGood q []).2.2.2.2.2.1)
    (run4 : ∀ (w : World) (os : OsState), C4 p N as (boot_heap w.params) (bootS w os) w = some (v w)) :
    LeftO p q [] (fun s => xlAt q [] s && recOk [] s) (fun s => as.map s.heap.get?) v N true := fun w => by
  obtain ⟨⟨h, gs, d, k, os⟩, e1, e2⟩ := Option.map_eq_some_iff.mp (boot_open e hN f w)
  obtain ⟨rfl, rfl, rfl, rfl⟩ : h = boot_heap w.params ∧ gs = Array.mk [] ∧ d = boot_drawn ∧ k = boot_toks := by simpa using e2
  obtain ⟨s, hs, hv⟩ := Option.map_eq_some_iff.mp (run1 w os)
  obtain ⟨s2, hs2, hv2⟩ := Option.map_eq_some_iff.mp (run2 w os)
  obtain ⟨s3, hs3, hv3⟩ := Option.map_eq_some_iff.mp (run3 w os)
  obtain ⟨s4, hs4, l3⟩ := Option.map_eq_some_iff.mp (run4 w os)
  rw [hs] at hs2 hs3 hs4
  cases hs2; cases hs3; cases hs4
  have r := topRunT_of hs
  rw [boot_abs] at r
  obtain ⟨l1, l23⟩ := Prod.mk.inj hv
  have l2 := T1_ext l23 hv2 hv3
  have hns : ((boot_heap w.params).isNs mainGlobals && (Array.mk [] : Array GenState).size == 0) = true := by kernel_rfl
  have t : topFrom treeTable p w N ⟨boot_heap w.params, Array.mk [], boot_drawn, boot_toks, os⟩ = some s.abs := by
    unfold topFrom
    dsimp only
    rw [hns, r]
    show (match staticsOk (importedModules p.main.body) (boot_heap w.params) s.abs.heap && namesBound p s.abs.heap && gensDone s.abs && laidKept (boot_heap w.params) s.abs.heap with | true => some s.abs | false => none) = _
    rw [l1]
  unfold openEnds
  rw [e1]
  show (topFrom treeTable p w N _).map _ = _
  rw [t]
  exact congrArg some (Prod.ext l2 l3)
lay_quick Mine.C1 Mine.C2 Mine.C3 Mine.C4
noncomputable def vw : Program := view PySem.Challenge.rw_rh0075_01.row.prog ((List.range 43).filter fun i => !(i == 1 || i == 14 || i == 23 || i == 33))
end Mine
namespace Mine
theorem r1 (w : World) (os : OsState) : C1 PySem.Challenge.rw_rh0075_01.row.prog vw 5468 (boot_heap w.params) (bootS w os) w = some (true, T1 (openGood vw [])) := by
  rw [PySem.W.Fast.te1758448112672720170]; kernel_rfl
theorem r2 (w : World) (os : OsState) : C2 PySem.Challenge.rw_rh0075_01.row.prog vw 5468 (boot_heap w.params) (bootS w os) w = some (openGood vw []).1 := by
  rw [PySem.W.Fast.te3274305487118034127]; kernel_rfl
theorem r3 (w : World) (os : OsState) : C3 PySem.Challenge.rw_rh0075_01.row.prog vw 5468 (boot_heap w.params) (bootS w os) w = some (openGood vw []).2.2.2.2.2.1 := by
  rw [PySem.W.Fast.te3143868899440327991]; kernel_rfl
theorem run4 {p : Program} {N : Nat} {as : List Addr} {h₀ : Heap} {s₀ : SharedT} {w : World} {v : List (Option Obj)} (h : PySem.W.Fast.tw14733020885606073181 p N as h₀ s₀ w = some v) : C4 p N as h₀ s₀ w = some v := by
  rw [PySem.W.Fast.te14733020885606073181]; exact h
theorem said : PySem.Challenge.rw_rh0075_01.wellSaid = true := by
  unfold OpenLaw.wellSaid OpenRow.wellSaid OpenRow.partSaid looksOpen
  repeat' with_reducible refine look_both ?_ ?_
  all_goals (decide +kernel)
theorem headO (H : Hook) {d : DefRec} {kwd : List (Str × Expr)} (left : LeftO PySem.Challenge.rw_rh0075_01.row.prog vw [] (fun s => xlAt vw [] s && recOk [] s) H.obs H.val 5468)
    (hdef : defOf vw PySem.Challenge.rw_rh0075_01.row.name = some (d, kwd)) (hp : PySem.Challenge.rw_rh0075_01.row.prog.theDef PySem.Challenge.rw_rh0075_01.row.name = some (d.params, d.body, d.scope)) (hk : kwWritten? d.params.kwonlyargs d.params.kw_defaults = some kwd)
    (hw : PySem.Challenge.rw_rh0075_01.row.toRowW.promised) (call : WalkO vw [] (XL vw []) H.says PySem.Challenge.rw_rh0075_01.row.toRowW d kwd fun f vs => PySem.call f vs) : PySem.Challenge.rw_rh0075_01.row.Holds :=
  holds_open (q := vw) (loose := []) (Xt := fun s => xlAt vw [] s && recOk [] s) (XP := XL vw []) (Yf := H.obs) (Ya := H.val) (YP := H.says) (N := 5468) left H.of H.keeps (fun s e => xl_of s (Bool.and_eq_true_iff.mp e).1) XL.keeps hdef hp hk (fun s e => recFacts_of (Bool.and_eq_true_iff.mp e).2) (by rfl) (row_said said) (by decide +kernel) ⟨rfl, rfl, rfl, rfl, rfl, by decide +kernel⟩ hw call
local macro_rules | `(tactic| o_law) => `(tactic| (refine holds_law Mine.said fun said => ?_))
set_option hygiene false in
local macro_rules | `(tactic| o_head $H) => `(tactic| (
  refine Mine.headO $H ?hl (by rfl) (by rfl) (by rfl) ?hw ?hc;
  (case hl => exact left_tree (by rfl) (by decide) (fun s => rfl) r1 r2 r3 (fun w os => run4 (by kernel_rfl)))))
open_top hd for PySem.Challenge.rw_rh0075_01
end Mine

namespace Mine

/-- scalar keys -/
inductive Sc where
  | int (i : Int)
  | str (x : Str)
  deriving DecidableEq

noncomputable def Sc.is : Sc → Value → Bool
  | .int i, v => Value.isInt i v
  | .str x, v => Value.isStrOf x v

/-- abstract values -/
inductive V where
  | none
  | bool (b : Bool)
  | int (i : Int)
  | str (x : Str)
  | tup (xs : List V)
  | loc (l : Nat)
  | typ (T : String)

noncomputable def Sc.v : Sc → V
  | .int i => .int i
  | .str x => .str x

/-- abstract mutable objects -/
inductive MO where
  | list (xs : List V)
  | sdict (es : List (Sc × V))
  | tdict (es : List (List Sc × V))
  | inst (C : Addr) (fs : List (Str × V))
  | lockS (es : List (Sc × V)) (o : Obj)
  | lockT (es : List (List Sc × V)) (o : Obj)
  | raw (o : Obj)
  | listO (xs : List V) (o : Obj)

noncomputable abbrev Ro := List (Addr × Addr)
noncomputable abbrev MS := List MO

mutual
inductive RV (h : Heap) (r : Ro) : Value → V → Prop
  | none : RV h r .none .none
  | bool (b) : RV h r (.bool b) (.bool b)
  | int (i t) : RV h r (.int i t) (.int i)
  | str (x t) : RV h r (.str x t) (.str x)
  | tup {a o items n xs} : h.get? a = some o → o.cls = .type "tuple" → o.data = .seq items n → RVs h r items.toList xs → RV h r (.ref a) (.tup xs)
  | loc {l a d} : r[l]? = some (a, d) → RV h r (.ref a) (.loc l)
  | typ (T) : RV h r (.type T) (.typ T)
inductive RVs (h : Heap) (r : Ro) : List Value → List V → Prop
  | nil : RVs h r [] []
  | cons {v vs x xs} : RV h r v x → RVs h r vs xs → RVs h r (v :: vs) (x :: xs)
end

/-- objects that no step changes, but for their slots -/
noncomputable def frozen (o : Obj) : Bool := match o.data with
  | .seq .. => o.cls == .type "tuple"
  | .plain => true
  | _ => false

noncomputable def Kp (h h' : Heap) : Prop := ∀ a o, h.get? a = some o → frozen o = true → ∃ o', h'.get? a = some o' ∧ o'.cls = o.cls ∧ o'.dict = o.dict ∧ o'.data = o.data

theorem Kp.refl (h : Heap) : Kp h h := fun _ o e _ => ⟨o, e, rfl, rfl, rfl⟩
theorem frozen_of {o o' : Obj} (hf : frozen o = true) (hc : o'.cls = o.cls) (hd : o'.data = o.data) : frozen o' = true := by
  unfold frozen at hf ⊢; rw [hd, hc]; exact hf
theorem Kp.trans {h h' h'' : Heap} (x : Kp h h') (y : Kp h' h'') : Kp h h'' := fun a o e f => by
  obtain ⟨o', e', c, d, t⟩ := x a o e f
  obtain ⟨o2, e2, c2, d2, t2⟩ := y a o' e' (frozen_of f c t)
  exact ⟨o2, e2, c2.trans c, d2.trans d, t2.trans t⟩
theorem Kp.of_keeps {h h' : Heap} (k : ∀ b o, h.get? b = some o → h'.get? b = some o) : Kp h h' := fun a o e _ => ⟨o, k a o e, rfl, rfl, rfl⟩
theorem Kp.of_sameBut {h h' : Heap} {d : Addr} (k : Heap.SameBut d h h') (hd : ∀ o, h.get? d = some o → frozen o = false) : Kp h h' := fun a o e f => by
  by_cases q : a = d
  · subst q; rw [hd o e] at f; cases f
  · exact ⟨o, (k.2 a q).trans e, rfl, rfl, rfl⟩

noncomputable abbrev Pre (r r' : Ro) : Prop := ∀ (l : Nat) (p : Addr × Addr), r[l]? = some p → r'[l]? = some p
theorem Pre.refl (r : Ro) : Pre r r := fun _ _ e => e
theorem Pre.trans {r r' r'' : Ro} (x : Pre r r') (y : Pre r' r'') : Pre r r'' := fun l p e => y l p (x l p e)
theorem Pre.app (r : Ro) (p : Ro) : Pre r (r ++ p) := fun l q e => by
  rw [List.getElem?_append_left (List.getElem?_eq_some_iff.mp e).1]; exact e

theorem RVs.ind {h : Heap} {r : Ro} {M : List Value → List V → Prop} (n : M [] []) (c : ∀ {v x vs xs}, RV h r v x → RVs h r vs xs → M vs xs → M (v :: vs) (x :: xs)) {vs : List Value} {xs : List V} (R : RVs h r vs xs) : M vs xs :=
  @RVs.rec h r (fun _ _ _ => True) (fun vs xs _ => M vs xs) trivial (fun _ => trivial) (fun _ _ => trivial) (fun _ _ => trivial) (fun _ _ _ _ _ => trivial) (fun _ => trivial) (fun _ => trivial) n (fun a b _ ih => c a b ih) _ _ R
theorem RV.mono {h h' : Heap} {r r' : Ro} (k : Kp h h') (q : Pre r r') {v : Value} {x : V} (R : RV h r v x) : RV h' r' v x :=
  @RV.rec h r (fun v x _ => RV h' r' v x) (fun vs xs _ => RVs h' r' vs xs) .none .bool .int .str (fun e c d _ ih => by
    obtain ⟨o', e', c', _, t'⟩ := k _ _ e (by unfold frozen; rw [d, c]; rfl)
    exact .tup e' (c'.trans c) (t'.trans d) ih) (fun e => .loc (q _ _ e)) .typ .nil (fun _ _ a b => .cons a b) _ _ R
theorem RVs.mono {h h' : Heap} {r r' : Ro} (k : Kp h h') (q : Pre r r') {vs : List Value} {xs : List V} (R : RVs h r vs xs) : RVs h' r' vs xs :=
  R.ind (M := fun vs xs => RVs h' r' vs xs) .nil fun a _ ih => .cons (a.mono k q) ih

theorem RVs.length {h : Heap} {r : Ro} {vs : List Value} {xs : List V} (R : RVs h r vs xs) : vs.length = xs.length :=
  R.ind (M := fun vs xs => vs.length = xs.length) rfl fun _ _ ih => congrArg Nat.succ ih
theorem RVs.app {h : Heap} {r : Ro} {vs ws : List Value} {xs ys : List V} (R : RVs h r vs xs) (y : RVs h r ws ys) : RVs h r (vs ++ ws) (xs ++ ys) :=
  R.ind (M := fun vs xs => RVs h r (vs ++ ws) (xs ++ ys)) y fun a _ ih => .cons a ih
theorem RVs.get {h : Heap} {r : Ro} : ∀ {vs : List Value} {xs : List V} {i : Nat} {x : V}, RVs h r vs xs → xs[i]? = some x → ∃ v, vs[i]? = some v ∧ RV h r v x := by
  intro vs xs i x R e
  induction i generalizing vs xs with
  | zero =>
    cases R with
    | nil => simp at e
    | cons a b => simp at e; exact ⟨_, rfl, e ▸ a⟩
  | succ i ih =>
    cases R with
    | nil => simp at e
    | cons a b => rw [List.getElem?_cons_succ] at e; rw [List.getElem?_cons_succ]; exact ih b e
theorem RVs.rev {h : Heap} {r : Ro} {vs : List Value} {xs : List V} (R : RVs h r vs xs) : RVs h r vs.reverse xs.reverse :=
  R.ind (M := fun vs xs => RVs h r vs.reverse xs.reverse) .nil fun a _ ih => by rw [List.reverse_cons, List.reverse_cons]; exact ih.app (.cons a .nil)
theorem RVs.take {h : Heap} {r : Ro} {vs : List Value} {xs : List V} (n : Nat) (R : RVs h r vs xs) : RVs h r (vs.take n) (xs.take n) :=
  R.ind (M := fun vs xs => ∀ n : Nat, RVs h r (vs.take n) (xs.take n)) (fun n => by rw [List.take_nil, List.take_nil]; exact .nil) (fun a _ ih n => by
    cases n with
    | zero => exact .nil
    | succ n => exact .cons a (ih n)) n
theorem RVs.drop {h : Heap} {r : Ro} {vs : List Value} {xs : List V} (n : Nat) (R : RVs h r vs xs) : RVs h r (vs.drop n) (xs.drop n) :=
  R.ind (M := fun vs xs => ∀ n : Nat, RVs h r (vs.drop n) (xs.drop n)) (fun n => by rw [List.drop_nil, List.drop_nil]; exact .nil) (fun a b ih n => by
    cases n with
    | zero => exact .cons a b
    | succ n => exact ih n) n

end Mine

namespace Mine

section kinds
variable {prog : Program} {w : World} {A : Around} {E : Value → Shared → Prop} {s : Shared}
theorem eqBool_int_str {i : Int} {t : Tok} {x : Str} {u : Tok} {Q : Bool → Shared → Prop} (h : Q false s) : wpAny (model prog w) A (eqBool (.int i t) (.str x u)) Q E s := by
  unfold eqBool
  refine wpAny_holding ?_
  show wpAny _ _ (if (Value.int i t == Value.str x u) = true then _ else _) Q E s
  rw [if_neg (by simp)]
  exact wpAny_bind (EqMixed.eq_int_str (wpAny_truthy_bool h))
theorem eqBool_str_int {i : Int} {t : Tok} {x : Str} {u : Tok} {Q : Bool → Shared → Prop} (h : Q false s) : wpAny (model prog w) A (eqBool (.str x u) (.int i t)) Q E s := by
  unfold eqBool
  refine wpAny_holding ?_
  show wpAny _ _ (if (Value.str x u == Value.int i t) = true then _ else _) Q E s
  rw [if_neg (by simp)]
  exact wpAny_bind (EqMixed.eq_str_int (wpAny_truthy_bool h))
end kinds

theorem Sc.is_int {i : Int} {v : Value} (h : Sc.is (.int i) v = true) : ∃ t, v = .int i t := Value.isInt_shape h
theorem Sc.is_str {x : Str} {v : Value} (h : Sc.is (.str x) v = true) : ∃ t, v = .str x t := Value.isStrOf_shape h
theorem Sc.inj (v : Value) (a b : Sc) (ha : Sc.is a v = true) (hb : Sc.is b v = true) : a = b := by
  cases a <;> cases b
  · rw [Value.isInt_inj v _ _ ha hb]
  · obtain ⟨t, rfl⟩ := Sc.is_int ha; obtain ⟨u, h⟩ := Sc.is_str hb; cases h
  · obtain ⟨t, rfl⟩ := Sc.is_str ha; obtain ⟨u, h⟩ := Sc.is_int hb; cases h
  · rw [Value.isStrOf_inj v _ _ ha hb]

noncomputable def scKind (prog : Program) (w : World) : KeyKind prog w Sc where
  is := Sc.is
  hash := fun k => match k with | .int i => hashInt i | .str x => hashStr w x
  inj := Sc.inj
  byValue := fun k v h => by
    cases k
    · obtain ⟨t, rfl⟩ := Sc.is_int h; rfl
    · obtain ⟨t, rfl⟩ := Sc.is_str h; rfl
  pyHash := fun {A E s k v Q} hv h => by
    cases k
    · obtain ⟨t, rfl⟩ := Sc.is_int hv; exact wpAny_pyHash_int h
    · obtain ⟨t, rfl⟩ := Sc.is_str hv; exact wpAny_pyHash_str h
  eqBool := fun {A E s a b u v Q} hu hv h => by
    cases a <;> cases b
    · obtain ⟨t, rfl⟩ := Sc.is_int hu
      obtain ⟨u, rfl⟩ := Sc.is_int hv
      simp only [Sc.int.injEq] at h; exact wpAny_eqBool_int h
    · obtain ⟨t, rfl⟩ := Sc.is_int hu
      obtain ⟨u, rfl⟩ := Sc.is_str hv
      exact eqBool_int_str (by simpa using h)
    · obtain ⟨t, rfl⟩ := Sc.is_str hu
      obtain ⟨u, rfl⟩ := Sc.is_int hv
      exact eqBool_str_int (by simpa using h)
    · obtain ⟨t, rfl⟩ := Sc.is_str hu
      obtain ⟨u, rfl⟩ := Sc.is_str hv
      exact wpAny_eqBool_str (by simpa using h)
  «strs» := fun k x t v h => by
    cases k
    · obtain ⟨u, hu⟩ := Sc.is_int h; cases hu
    · obtain ⟨u, hu⟩ := Sc.is_str h
      injection hu with hx
      subst hx
      cases v <;> rfl

theorem RV.sc {h : Heap} {r : Ro} {v : Value} : ∀ {k : Sc}, RV h r v k.v → Sc.is k v = true
  | .int i, .int _ t => by simp [Sc.is, Value.isInt]
  | .str x, .str _ t => by simp [Sc.is, Value.isStrOf]
theorem RV.of_sc {h : Heap} {r : Ro} {v : Value} : ∀ {k : Sc}, Sc.is k v = true → RV h r v k.v
  | .int i, e => by obtain ⟨t, rfl⟩ := Sc.is_int e; exact .int _ _
  | .str x, e => by obtain ⟨t, rfl⟩ := Sc.is_str e; exact .str _ _

/-- a tuple of scalars as a key -/
noncomputable def tk (ks : List Sc) : V := .tup (ks.map Sc.v)
section
variable {prog : Program} {w : World} {h : Heap} {r : Ro}
theorem items_of_rvs : ∀ {ks : List Sc} {vs : List Value}, RVs h r vs (ks.map Sc.v) → ItemsAre (scKind prog w) ks vs
  | [], _, .nil => .nil
  | _ :: _, _, .cons a b => .cons (RV.sc a) (items_of_rvs b)
theorem rvs_of_items {ks : List Sc} {vs : List Value} (q : ItemsAre (scKind prog w) ks vs) : RVs h r vs (ks.map Sc.v) := by
  induction q with
  | nil => exact .nil
  | cons a _ ih => exact .cons (RV.of_sc a) ih
theorem RV.key {v : Value} {ks : List Sc} (x : RV h r v (tk ks)) : ∃ a, v = .ref a ∧ IsTupleKey (scKind prog w) h ks a := by
  cases x with
  | tup e c d s => exact ⟨_, rfl, _, _, _, e, c, d, items_of_rvs s⟩
theorem RV.of_key {a : Addr} {ks : List Sc} (x : IsTupleKey (scKind prog w) h ks a) : RV h r (.ref a) (tk ks) := by
  obtain ⟨o, items, n, e, c, d, s⟩ := x
  exact .tup e c d (rvs_of_items s)
theorem key_kp {h' : Heap} {a : Addr} {ks : List Sc} (k : Kp h h') (x : IsTupleKey (scKind prog w) h ks a) : IsTupleKey (scKind prog w) h' ks a := by
  obtain ⟨o, items, n, e, c, d, s⟩ := x
  obtain ⟨o', e', c', _, d'⟩ := k _ _ e (by unfold frozen; rw [d, c]; rfl)
  exact ⟨o', items, n, e', c'.trans c, d'.trans d, s⟩
end

/-- fields of a made thing's own dict -/
noncomputable def FieldsAre (h : Heap) (r : Ro) (es : List DictEntry) (fs : List (Str × V)) : Prop :=
  (∀ e ∈ es, ∃ x t, e.key = .str x t) ∧ ∀ x, match fs.lookup x with
    | some v => ∃ v', getL x es = some (some v') ∧ RV h r v' v
    | none => getL x es = some none

inductive KV {K : Type} (h : Heap) (r : Ro) : List (K × Value) → List (K × V) → Prop
  | nil : KV h r [] []
  | cons {k v x vs xs} : RV h r v x → KV h r vs xs → KV h r ((k, v) :: vs) ((k, x) :: xs)
theorem KV.mono {K : Type} {h h' : Heap} {r r' : Ro} (k : Kp h h') (q : Pre r r') {a : List (K × Value)} {b : List (K × V)} (z : KV h r a b) : KV h' r' a b := by
  induction z with
  | nil => exact .nil
  | cons rv _ ih => exact .cons (rv.mono k q) ih

/-- what the data object of a mutable thing looks like -/
noncomputable def Mut (o : Obj) : Prop := frozen o = false ∧ (∀ v, o.data ≠ .cell v) ∧ (∀ vs, o.data ≠ .fields vs) ∧ o.isFreed = false
noncomputable def RO (prog : Program) (w : World) (h : Heap) (r : Ro) (p : Addr × Addr) : MO → Prop
  | .list xs => p.1 = p.2 ∧ ∃ items, h.PlainList p.2 items ∧ RVs h r items.toList xs
  | .sdict es => p.1 = p.2 ∧ ∃ kvs, h.DictOf (scKind prog w) p.2 kvs ∧ KV h r kvs es
  | .tdict es => p.1 = p.2 ∧ ∃ xs, h.DictOfH (tupleKind (scKind prog w)) p.2 xs ∧ KV h r (xs.map fun x => (x.1, x.2.2)) es
  | .lockS es o => p.1 = p.2 ∧ h.get? p.2 = some o ∧ ∃ kvs, h.DictOf (scKind prog w) p.2 kvs ∧ KV h r kvs es
  | .lockT es o => p.1 = p.2 ∧ h.get? p.2 = some o ∧ ∃ xs, h.DictOfH (tupleKind (scKind prog w)) p.2 xs ∧ KV h r (xs.map fun x => (x.1, x.2.2)) es
  | .raw o => p.1 = p.2 ∧ h.get? p.2 = some o ∧ Mut o
  | .listO xs o => p.1 = p.2 ∧ h.get? p.2 = some o ∧ ∃ items, h.PlainList p.2 items ∧ RVs h r items.toList xs
  | .inst C fs => (∃ sl, h.get? p.1 = some ⟨.ref C, some p.2, .plain, sl⟩) ∧ ∃ es n, h.get? p.2 = some (dictOf es n) ∧ es.length ≤ fs.length ∧ FieldsAre h r es fs

end Mine

namespace Mine

section
variable {prog : Program} {w : World}

theorem FieldsAre.mono {h h' : Heap} {r r' : Ro} {es : List DictEntry} {fs : List (Str × V)} (k : Kp h h') (q : Pre r r') (x : FieldsAre h r es fs) : FieldsAre h' r' es fs := by
  refine ⟨x.1, fun y => ?_⟩
  have z := x.2 y
  split <;> rename_i e <;> rw [e] at z
  · obtain ⟨v', a, b⟩ := z; exact ⟨v', a, b.mono k q⟩
  · exact z

theorem dictH_mono {h h' : Heap} {d : Addr} {xs : List (List Sc × Addr × Value)} (k : Kp h h') (hd : ∀ o, h.get? d = some o → h'.get? d = some o) (x : h.DictOfH (tupleKind (scKind prog w)) d xs) :
    h'.DictOfH (tupleKind (scKind prog w)) d xs := by
  obtain ⟨o, es, ep, ho, hc, hdd, he, hi, hn⟩ := x
  exact ⟨o, es, ep, hd o ho, hc, hdd, he, fun x hx => key_kp k (hi x hx), hn⟩

theorem RO.mono {h h' : Heap} {r r' : Ro} {p : Addr × Addr} {mo : MO} (k : Kp h h') (q : Pre r r') (h1 : ∀ o, h.get? p.1 = some o → o.data = .plain → ∃ sl, h'.get? p.1 = some { o with slots := sl }) (h2 : ∀ o, h.get? p.2 = some o → h'.get? p.2 = some o)
    (x : RO prog w h r p mo) : RO prog w h' r' p mo := by
  cases mo with
  | list xs => obtain ⟨e, items, ⟨n, ho⟩, rv⟩ := x; exact ⟨e, items, ⟨n, h2 _ ho⟩, rv.mono k q⟩
  | sdict es => obtain ⟨e, kvs, ⟨o, es', ep, ho, z⟩, rv⟩ := x; exact ⟨e, kvs, ⟨o, es', ep, h2 _ ho, z⟩, rv.mono k q⟩
  | tdict es => obtain ⟨e, xs, hd, rv⟩ := x; exact ⟨e, xs, dictH_mono k h2 hd, rv.mono k q⟩
  | lockS es oo => obtain ⟨e, hq, kvs, ⟨o, es', ep, ho, z⟩, rv⟩ := x; exact ⟨e, h2 _ hq, kvs, ⟨o, es', ep, h2 _ ho, z⟩, rv.mono k q⟩
  | lockT es oo => obtain ⟨e, hq, xs, hd, rv⟩ := x; exact ⟨e, h2 _ hq, xs, dictH_mono k h2 hd, rv.mono k q⟩
  | raw o => exact ⟨x.1, h2 _ x.2.1, x.2.2⟩
  | listO xs oo => obtain ⟨e, hq, items, ⟨n, ho⟩, rv⟩ := x; exact ⟨e, h2 _ hq, items, ⟨n, h2 _ ho⟩, rv.mono k q⟩
  | inst C fs => obtain ⟨⟨sl, ho⟩, es, n, hd, hl, hf⟩ := x; exact ⟨h1 _ ho rfl, es, n, h2 _ hd, hl, hf.mono k q⟩

theorem RO.mutAt {h : Heap} {r : Ro} {p : Addr × Addr} {mo : MO} (x : RO prog w h r p mo) : ∃ o, h.get? p.2 = some o ∧ Mut o := by
  cases mo with
  | list xs => obtain ⟨e, items, ⟨n, ho⟩, rv⟩ := x; exact ⟨_, ho, rfl, nofun, nofun, rfl⟩
  | sdict es =>
    obtain ⟨e, kvs, ⟨o, es', ep, ho, hc, hd, _⟩, _⟩ := x
    refine ⟨o, ho, ?_, ?_, ?_, Obj.isFreed_of_dict hd⟩
    · unfold frozen; rw [hd]
    · rw [hd]; exact nofun
    · rw [hd]; exact nofun
  | tdict es =>
    obtain ⟨e, kvs, ⟨o, es', ep, ho, hc, hd, _⟩, _⟩ := x
    refine ⟨o, ho, ?_, ?_, ?_, Obj.isFreed_of_dict hd⟩
    · unfold frozen; rw [hd]
    · rw [hd]; exact nofun
    · rw [hd]; exact nofun
  | lockS es q =>
    obtain ⟨e, _, kvs, ⟨o, es', ep, ho, hc, hd, _⟩, _⟩ := x
    refine ⟨o, ho, ?_, ?_, ?_, Obj.isFreed_of_dict hd⟩
    · unfold frozen; rw [hd]
    · rw [hd]; exact nofun
    · rw [hd]; exact nofun
  | lockT es q =>
    obtain ⟨e, _, kvs, ⟨o, es', ep, ho, hc, hd, _⟩, _⟩ := x
    refine ⟨o, ho, ?_, ?_, ?_, Obj.isFreed_of_dict hd⟩
    · unfold frozen; rw [hd]
    · rw [hd]; exact nofun
    · rw [hd]; exact nofun
  | raw o => exact ⟨o, x.2.1, x.2.2⟩
  | listO xs oo => obtain ⟨e, hq, items, ⟨n, ho⟩, rv⟩ := x; exact ⟨_, ho, rfl, nofun, nofun, rfl⟩
  | inst C fs => obtain ⟨⟨sl, ho⟩, es, n, hd, hl, hf⟩ := x; exact ⟨_, hd, rfl, nofun, nofun, rfl⟩
/-- the first address is the data's own, or a plain object's -/
theorem RO.fstAt {h : Heap} {r : Ro} {p : Addr × Addr} {mo : MO} (x : RO prog w h r p mo) : p.1 = p.2 ∨ ∃ o, h.get? p.1 = some o ∧ frozen o = true ∧ o.data = .plain := by
  cases mo with
  | list xs => exact .inl x.1
  | sdict es => exact .inl x.1
  | tdict es => exact .inl x.1
  | lockS es q => exact .inl x.1
  | lockT es q => exact .inl x.1
  | raw o => exact .inl x.1
  | listO xs oo => exact .inl x.1
  | inst C fs => obtain ⟨⟨sl, ho⟩, _⟩ := x; exact .inr ⟨_, ho, rfl, rfl⟩

noncomputable def HRep (prog : Program) (w : World) (h : Heap) (r : Ro) (S : MS) : Prop :=
  r.length = S.length ∧ (r.map (·.2)).Nodup ∧ ∀ (l : Nat) (mo : MO), S[l]? = some mo → ∃ p, r[l]? = some p ∧ RO prog w h r p mo

theorem HRep.at {h : Heap} {r : Ro} {S : MS} {l : Nat} {p : Addr × Addr} (x : HRep prog w h r S) (e : r[l]? = some p) : ∃ mo, S[l]? = some mo ∧ RO prog w h r p mo := by
  have hl := (List.getElem?_eq_some_iff.mp e).1
  rw [x.1] at hl
  obtain ⟨q, e', ro⟩ := x.2.2 l _ (List.getElem?_eq_getElem hl)
  rw [e] at e'; cases e'
  exact ⟨_, List.getElem?_eq_getElem hl, ro⟩

theorem HRep.keeps {h h' : Heap} {r : Ro} {S : MS} (k : ∀ b o, h.get? b = some o → h'.get? b = some o) (x : HRep prog w h r S) : HRep prog w h' r S :=
  ⟨x.1, x.2.1, fun l mo e => let ⟨p, e', ro⟩ := x.2.2 l mo e; ⟨p, e', ro.mono (.of_keeps k) (.refl r) (fun o ho _ => ⟨o.slots, k _ _ ho⟩) (k _)⟩⟩

/-- a change of an object that is none of the represented data, nor a frozen one -/
theorem HRep.sameBut {h h' : Heap} {r : Ro} {S : MS} {d : Addr} (hs : Heap.SameBut d h h') (hf : ∀ o, h.get? d = some o → frozen o = false) (hd : ∀ p ∈ r, p.2 ≠ d) (x : HRep prog w h r S) : HRep prog w h' r S := by
  refine ⟨x.1, x.2.1, fun l mo e => ?_⟩
  obtain ⟨p, e', ro⟩ := x.2.2 l mo e
  have h2 : p.2 ≠ d := hd p (List.mem_of_getElem? e')
  have h1 : p.1 ≠ d := by
    rcases ro.fstAt with q | ⟨o, ho, hfo, _⟩
    · rw [q]; exact h2
    · rintro rfl; rw [hf o ho] at hfo; cases hfo
  exact ⟨p, e', ro.mono (.of_sameBut hs hf) (.refl r) (fun o ho _ => ⟨o.slots, (hs.2 _ h1).trans ho⟩) (fun o ho => (hs.2 _ h2).trans ho)⟩

/-- one represented object changes -/
theorem HRep.set {h h' : Heap} {r : Ro} {S : MS} {l : Nat} {p : Addr × Addr} {mo' : MO} (hs : Heap.SameBut p.2 h h') (hl : r[l]? = some p) (ro' : RO prog w h' r p mo') (x : HRep prog w h r S) : HRep prog w h' r (S.set l mo') := by
  obtain ⟨mo₀, e₀, ro₀⟩ := x.at hl
  obtain ⟨o₀, ho₀, hm₀⟩ := ro₀.mutAt
  have hf : ∀ o, h.get? p.2 = some o → frozen o = false := fun o ho => by rw [ho₀] at ho; cases ho; exact hm₀.1
  refine ⟨by rw [List.length_set]; exact x.1, x.2.1, fun j mo e => ?_⟩
  by_cases hj : l = j
  · subst hj
    rw [List.getElem?_set_self (List.getElem?_eq_some_iff.mp e₀).1] at e
    cases e
    exact ⟨p, hl, ro'⟩
  · rw [List.getElem?_set_ne hj] at e
    obtain ⟨q, e', ro⟩ := x.2.2 j mo e
    have h2 : q.2 ≠ p.2 := fun z => hj (by
      have a : (r.map (·.2))[l]? = some p.2 := by rw [List.getElem?_map, hl]; rfl
      have b : (r.map (·.2))[j]? = some p.2 := by rw [List.getElem?_map, e']; simp [z]
      exact (List.getElem?_inj (List.getElem?_eq_some_iff.mp a).1 x.2.1).mp (a.trans b.symm))
    have h1 : q.1 ≠ p.2 := by
      rcases ro.fstAt with z | ⟨o, ho, hfo, _⟩
      · rw [z]; exact h2
      · intro z; rw [z] at ho; rw [hf o ho] at hfo; cases hfo
    exact ⟨q, e', ro.mono (.of_sameBut hs hf) (.refl r) (fun o ho _ => ⟨o.slots, (hs.2 _ h1).trans ho⟩) (fun o ho => (hs.2 _ h2).trans ho)⟩

/-- one more represented object -/
theorem HRep.add {h h' : Heap} {r : Ro} {S : MS} {p : Addr × Addr} {mo : MO} (k : ∀ b o, h.get? b = some o → h'.get? b = some o) (hn : h.get? p.2 = none) (ro : RO prog w h' (r ++ [p]) p mo) (x : HRep prog w h r S) : HRep prog w h' (r ++ [p]) (S ++ [mo]) := by
  refine ⟨by simp [x.1], ?_, fun j mo' e => ?_⟩
  · rw [List.map_append, List.nodup_append]
    refine ⟨x.2.1, by simp, fun a ha b hb => ?_⟩
    simp only [List.map_cons, List.map_nil, List.mem_singleton] at hb
    subst hb
    obtain ⟨q, hq, rfl⟩ := List.mem_map.mp ha
    obtain ⟨l, hl⟩ := List.mem_iff_getElem?.mp hq
    obtain ⟨mo₁, _, ro₁⟩ := x.at hl
    obtain ⟨o₁, ho₁, _⟩ := ro₁.mutAt
    intro z; rw [z, hn] at ho₁; cases ho₁
  · rcases Nat.lt_or_ge j S.length with hj | hj
    · rw [List.getElem?_append_left hj] at e
      obtain ⟨q, e', ro'⟩ := x.2.2 j mo' e
      refine ⟨q, by rw [List.getElem?_append_left (by rw [x.1]; exact hj)]; exact e', ro'.mono (.of_keeps k) (.app r [p]) (fun o ho _ => ⟨o.slots, k _ _ ho⟩) (k _)⟩
    · rw [List.getElem?_append_right hj] at e
      have : j - S.length = 0 := by
        have := (List.getElem?_eq_some_iff.mp e).1
        simp at this; omega
      rw [this] at e
      cases e
      refine ⟨p, ?_, ro⟩
      have e2 : j = r.length := by rw [x.1]; omega
      rw [e2, List.getElem?_append_right (Nat.le_refl _), Nat.sub_self]; rfl
end

/-- an activation -/
structure Cx where
  A₀ : Around
  base : Heap
  outer : List Env
  g : Heap
  cn : Str
  cs : Scope
  L : Addr
  fa : Addr
  cd : Value
  cl : List (Str × Addr)
  n : Nat
  own : Bool
  keep : List Addr := []
noncomputable abbrev Cx.env (X : Cx) : Env := envX X.cn X.cs X.L X.fa X.cd X.cl
noncomputable abbrev Cx.A (X : Cx) : Around := X.A₀.deeper X.env

structure Ok (K : Frag) (X : Cx) : Prop where
  below : Below X.A₀ X.base X.outer X.g
  K : K.In X.g
  top : ∃ p loose mg mb, TopRead p loose mg mb X.g
  kind : X.cs.kind = .function
  depth : X.A₀.depth + 4 * X.n + 8 < recursionLimit
  units : X.A₀.units + 20 * X.n + 60 < cLine
  hand : X.A₀.handled = none
  cnod : (X.cl.map (·.2)).Nodup
  cfree : ∀ x c, X.cl.lookup x = some c → X.g.get? c = none ∧ c ≠ X.L

noncomputable abbrev Loc := Str → Option V
noncomputable def upd (m : Loc) (x : Str) (v : V) : Loc := fun y => if y = x then some v else m y

structure In (prog : Program) (w : World) (K : Frag) (X : Cx) (m : Loc) (S : MS) (r : Ro) (s : Shared) : Prop where
  ok : Ok K X
  fr : ∃ mm, Fr X.g X.L s.heap mm ∧ ∀ x v, m x = some v → ∃ v', RV s.heap r v' v ∧ (match X.cl.lookup x with | some c => s.heap.IsCell c (some v') | none => mm x = some v')
  cells : ∀ x c, X.cl.lookup x = some c → ∃ v, s.heap.IsCell c v
  rep : HRep prog w s.heap r S
  new : ∀ p ∈ r, X.g.get? p.2 = none ∧ p.2 ≠ X.L ∧ p.2 ≠ sysModules ∧ p.2 ∉ X.keep
  kept : ∀ b ∈ X.keep, b ≠ X.L ∧ X.g.get? b = none ∧ ∃ o, s.heap.get? b = some o ∧ ∃ es n, o.data = .dict es n

noncomputable def PE : Addr := 51

noncomputable abbrev frOf (l : List Env) : List Addr := l.filterMap (·.frame)
noncomputable def BallAt (h : Heap) (r : Ro) (de : Addr) (ball : V) : Prop := ∃ es n v, h.get? de = some (dictOf es n) ∧ getL "ball" es = some (some v) ∧ RV h r v ball
noncomputable def TracedB (h base : Heap) (e de : Addr) (fl : Value) : Prop :=
  ∃ vs T oT ts sl, h.get? e = some ⟨.ref PE, some de, .fields vs, sl⟩ ∧ vs[1]? = some (.ref T) ∧ base.get? T = none ∧ T ≠ e ∧ h.get? T = some oT ∧ (oT.data = .fields ts ∧ oT.cls = .type "traceback") ∧ ts[3]? = some fl
noncomputable def MadeB (h : Heap) (e de : Addr) : Prop := ∃ vs sl, h.get? e = some ⟨.ref PE, some de, .fields vs, sl⟩ ∧ vs[1]? = some .none

/-- an exception on its way through the activation -/
noncomputable def Raised (prog : Program) (w : World) (X : Cx) (e : Value) (s : Shared) (r : Ro) (S : MS) (ball : V) : Prop :=
  ∃ ea de, e = .ref ea ∧ X.base.StaysIn s.heap ∧ X.base.get? ea = none ∧ s.heap.FunFrames X.base (X.env :: X.outer) ∧
    (MadeB s.heap ea de ∨ TracedB s.heap X.base ea de .none ∨ TracedB s.heap X.base ea de (rawInt X.L)) ∧ de ∉ frOf (X.env :: X.outer) ∧ BallAt s.heap r de ball ∧ HRep prog w s.heap r S ∧ ∀ p ∈ r, X.base.get? p.2 = none ∧ p.2 ∉ frOf (X.env :: X.outer) ∧ p.2 ≠ sysModules

/-- no record of an exception -/
noncomputable def Nrec (o : Obj) : Prop := (∀ vs, o.data ≠ .fields vs) ∨ (o.cls ≠ .type "traceback" ∧ o.cls ≠ .ref PE)
/-- what stands for no list, dict or made thing of ours, whatever comes -/
noncomputable def Never (o : Obj) : Prop := (∃ vs, o.data = .fields vs) ∨ ∃ v, o.data = .cell v
noncomputable def Up (X : Cx) (h h' : Heap) : Prop :=
  ∀ b o, h.get? b = some o → (b = X.L ∨ Never o ∨ X.g.get? b ≠ none ∨ b ∈ X.keep) → (X.own = true → b ≠ X.L ∧ ∀ x c, X.cl.lookup x = some c → c ≠ b) → Nrec o → ∃ sl, h'.get? b = some { o with slots := sl } ∧ ((∃ vs, o.data = .fields vs) → sl = o.slots)
theorem Pre.mem {r r' : Ro} (x : Pre r r') {p : Addr × Addr} (h : p ∈ r) : p ∈ r' := by
  obtain ⟨l, hl⟩ := List.mem_iff_getElem?.mp h
  exact List.mem_of_getElem? (x l p hl)
theorem Up.of_keeps {X : Cx} {h h' : Heap} (k : ∀ b o, h.get? b = some o → h'.get? b = some o) : Up X h h' := fun b o e _ _ _ => ⟨o.slots, k b o e, fun _ => rfl⟩
theorem Up.trans {X : Cx} {h h₁ h₂ : Heap} (x : Up X h h₁) (y : Up X h₁ h₂) : Up X h h₂ := fun b o e a1 a2 a3 => by
  obtain ⟨sl, e₁, z₁⟩ := x b o e a1 a2 a3
  obtain ⟨sl₂, e₂, z₂⟩ := y b _ e₁ a1 a2 a3
  exact ⟨sl₂, e₂, fun z => (z₂ z).trans (z₁ z)⟩

noncomputable def Ext (X : Cx) (s : Shared) (r : Ro) (s' : Shared) (r' : Ro) : Prop := Kp s.heap s'.heap ∧ Pre r r' ∧ Up X s.heap s'.heap ∧ s'.gens = s.gens ∧ s'.drawn = s.drawn ∧ s'.os = s.os
theorem Ext.refl {X : Cx} {s : Shared} {r : Ro} : Ext X s r s r := ⟨.refl _, .refl _, .of_keeps fun _ _ e => e, rfl, rfl, rfl⟩
theorem Ext.trans {X : Cx} {s s' s'' : Shared} {r r' r'' : Ro} (x : Ext X s r s' r') (y : Ext X s' r' s'' r'') : Ext X s r s'' r'' :=
  ⟨x.1.trans y.1, x.2.1.trans y.2.1, x.2.2.1.trans y.2.2.1, y.2.2.2.1.trans x.2.2.2.1, y.2.2.2.2.1.trans x.2.2.2.2.1, y.2.2.2.2.2.trans x.2.2.2.2.2⟩
theorem Ext.grow {X : Cx} {s : Shared} {r : Ro} {h' : Heap} {t : Nat} (k : ∀ b o, s.heap.get? b = some o → h'.get? b = some o) : Ext X s r { s with heap := h', toks := t } r :=
  ⟨.of_keeps k, .refl _, .of_keeps k, rfl, rfl, rfl⟩
theorem Ext.growAdd {X : Cx} {s : Shared} {r : Ro} {h' : Heap} {t : Nat} {p : Addr × Addr} (k : ∀ b o, s.heap.get? b = some o → h'.get? b = some o) : Ext X s r { s with heap := h', toks := t } (r ++ [p]) :=
  ⟨.of_keeps k, .app _ _, .of_keeps k, rfl, rfl, rfl⟩
theorem Ext.but {X : Cx} {s : Shared} {r : Ro} {h' : Heap} {t : Nat} {d : Addr} (hs : Heap.SameBut d s.heap h') (hf : ∀ o, s.heap.get? d = some o → frozen o = false)
    (hd : ∀ o, s.heap.get? d = some o → (d = X.L ∨ Never o ∨ X.g.get? d ≠ none ∨ d ∈ X.keep) → (X.own = true → d ≠ X.L ∧ ∀ x c, X.cl.lookup x = some c → c ≠ d) → False) : Ext X s r { s with heap := h', toks := t } r := by
  refine ⟨.of_sameBut hs hf, .refl _, fun b o e a1 a2 a3 => ⟨o.slots, (hs.2 b ?_).trans e, fun _ => rfl⟩, rfl, rfl, rfl⟩
  rintro rfl
  exact hd o e a1 a2

section
variable {prog : Program} {w : World} {K : Frag} {X : Cx} {m : Loc} {S : MS} {r : Ro} {s : Shared}
theorem In.keeps {h' : Heap} {g d t os} (I : In prog w K X m S r s) (k : ∀ b o, s.heap.get? b = some o → h'.get? b = some o) : In prog w K X m S r ⟨h', g, d, t, os⟩ := by
  obtain ⟨mm, F, hm⟩ := I.fr
  refine ⟨I.ok, ⟨mm, F.keeps k, fun x v e => ?_⟩, fun x c e => let ⟨v, hv⟩ := I.cells x c e; ⟨v, hv.keeps k⟩, I.rep.keeps k, I.new, fun b hb => let ⟨a1, a2, o, ho, hd⟩ := I.kept b hb; ⟨a1, a2, o, k b o ho, hd⟩⟩
  obtain ⟨v', a, b⟩ := hm x v e
  refine ⟨v', a.mono (.of_keeps k) (.refl _), ?_⟩
  split <;> rename_i q <;> rw [q] at b
  · exact b.keeps k
  · exact b
theorem In.toks {t : Nat} (I : In prog w K X m S r s) : In prog w K X m S r { s with toks := t } := I.keeps fun _ _ e => e

theorem In.gnone (I : In prog w K X m S r s) {b : Addr} (h : s.heap.get? b = none) : X.g.get? b = none := by
  obtain ⟨mm, F, _⟩ := I.fr
  cases q : X.g.get? b with
  | none => rfl
  | some o => rw [F.keep b o q] at h; cases h
theorem In.Lat (I : In prog w K X m S r s) : ∃ o, s.heap.get? X.L = some o ∧ (∃ es n, o.data = .dict es n) ∧ frozen o = false := by
  obtain ⟨mm, ⟨⟨o, es, n, ho, hd, _⟩, _, _⟩, _⟩ := I.fr
  exact ⟨o, ho, ⟨es, n, hd⟩, by unfold frozen; rw [hd]⟩

theorem In.cls (I : In prog w K X m S r s) {b : Addr} {o : Obj} (e : s.heap.get? b = some o) (h : b = X.L ∨ Never o ∨ X.g.get? b ≠ none ∨ b ∈ X.keep) : ∀ p ∈ r, p.2 ≠ b := fun p hp q => by
  rcases h with h | h | h | h
  · exact (I.new p hp).2.1 (q.trans h)
  · obtain ⟨l, hl⟩ := List.mem_iff_getElem?.mp hp
    obtain ⟨mo, _, ro⟩ := I.rep.at hl
    obtain ⟨o', ho', hm⟩ := ro.mutAt
    rw [q, e] at ho'; cases ho'
    rcases h with ⟨vs, h⟩ | ⟨v, h⟩
    · exact hm.2.2.1 vs h
    · exact hm.2.1 v h
  · exact h (q ▸ (I.new p hp).1)
  · exact (I.new p hp).2.2.2 (q ▸ h)
theorem In.big (I : In prog w K X m S r s) : sysModules < s.heap.objs.size := by
  obtain ⟨mm, F, _⟩ := I.fr
  obtain ⟨p, loose, mg, mb, T⟩ := I.ok.top
  exact Nat.lt_trans (by decide) (T.g.keeps F.keep).lt
/-- a new represented object -/
theorem In.add {h' : Heap} {g d t os} {p : Addr × Addr} {mo : MO} (I : In prog w K X m S r s) (k : ∀ b o, s.heap.get? b = some o → h'.get? b = some o) (hn : s.heap.objs.size ≤ p.2)
    (ro : RO prog w h' (r ++ [p]) p mo) : In prog w K X m (S ++ [mo]) (r ++ [p]) ⟨h', g, d, t, os⟩ := by
  have big := I.big
  have hn : s.heap.get? p.2 = none := by
    cases q : s.heap.get? p.2 with
    | none => rfl
    | some o => exact absurd (Nat.lt_of_lt_of_le (Heap.lt_size q) hn) (Nat.lt_irrefl _)
  have hz : p.2 ≠ sysModules := Nat.ne_of_gt (Nat.lt_of_lt_of_le big (by assumption))
  obtain ⟨mm, F, hm⟩ := I.fr
  refine ⟨I.ok, ⟨mm, F.keeps k, fun x v e => ?_⟩, fun x c e => let ⟨v, hv⟩ := I.cells x c e; ⟨v, hv.keeps k⟩, I.rep.add k hn ro, fun q hq => ?_, fun b hb => let ⟨a1, a2, o, ho, hd⟩ := I.kept b hb; ⟨a1, a2, o, k b o ho, hd⟩⟩
  · obtain ⟨v', a, b⟩ := hm x v e
    refine ⟨v', a.mono (.of_keeps k) (.app _ _), ?_⟩
    split <;> rename_i q <;> rw [q] at b
    · exact b.keeps k
    · exact b
  · rcases List.mem_append.mp hq with hq | hq
    · exact I.new q hq
    · obtain rfl := List.mem_singleton.mp hq
      obtain ⟨o, ho, _⟩ := I.Lat
      exact ⟨I.gnone hn, (fun z => by rw [z, ho] at hn; cases hn), hz, fun z => by
        obtain ⟨_, _, o, ho, _⟩ := I.kept _ z
        rw [hn] at ho; cases ho⟩

/-- a change of one represented object -/
theorem In.set {h' : Heap} {g d t os} {l : Nat} {p : Addr × Addr} {mo' : MO} (I : In prog w K X m S r s) (hl : r[l]? = some p) (hs : Heap.SameBut p.2 s.heap h') (ro' : RO prog w h' r p mo') :
    In prog w K X m (S.set l mo') r ⟨h', g, d, t, os⟩ := by
  obtain ⟨mm, F, hm⟩ := I.fr
  obtain ⟨mo₀, _, ro₀⟩ := I.rep.at hl
  obtain ⟨o₀, ho₀, hm₀⟩ := ro₀.mutAt
  have hf : ∀ o, s.heap.get? p.2 = some o → frozen o = false := fun o ho => by rw [ho₀] at ho; cases ho; exact hm₀.1
  obtain ⟨hg, hL, _, _⟩ := I.new p (List.mem_of_getElem? hl)
  have hc : ∀ x c, X.cl.lookup x = some c → c ≠ p.2 := fun x c e z => by
    obtain ⟨v, o, ho, hd⟩ := I.cells x c e
    rw [z, ho₀] at ho; cases ho; exact hm₀.2.1 _ hd
  have F' : Fr X.g X.L h' mm := ⟨F.ns.sameBut hs (Ne.symm hL), fun b o e => (hs.2 b (fun q => by rw [q, hg] at e; cases e)).trans (F.keep b o e), F.above⟩
  refine ⟨I.ok, ⟨mm, F', fun x v e => ?_⟩, fun x c e => let ⟨v, hv⟩ := I.cells x c e; ⟨v, hv.sameBut hs (hc x c e)⟩, I.rep.set hs hl ro', I.new, fun b hb => let ⟨a1, a2, o, ho, hd⟩ := I.kept b hb; ⟨a1, a2, o, (hs.2 b fun q => (I.new p (List.mem_of_getElem? hl)).2.2.2 (q ▸ hb)).trans ho, hd⟩⟩
  obtain ⟨v', a', b⟩ := hm x v e
  refine ⟨v', a'.mono (.of_sameBut hs hf) (.refl _), ?_⟩
  split <;> rename_i c q <;> rw [q] at b
  · exact b.sameBut hs (hc x c q)
  · exact b

/-- a name of the frame's -/
theorem In.local {h' : Heap} {g d t os} {x : Str} {v' : Value} {v : V} (I : In prog w K X m S r s) (hx : X.cl.lookup x = none) (rv : RV s.heap r v' v) (mm : Str → Option Value) (hn : s.heap.Ns X.L mm)
    (hs : Heap.SameBut X.L s.heap h') (hn' : h'.Ns X.L (fun y => if y = x then some v' else mm y)) : In prog w K X (upd m x v) S r ⟨h', g, d, t, os⟩ := by
  obtain ⟨mm₁, F, hm⟩ := I.fr
  obtain ⟨oL, hoL, ⟨es, n, hdL⟩, hfL⟩ := I.Lat
  have emm : mm₁ = mm := by
    obtain ⟨⟨o, es, n, ho, hd, _, h1⟩, _, _⟩ := F
    obtain ⟨o', es', n', ho', hd', _, h2⟩ := hn
    rw [ho] at ho'; cases ho'; rw [hd] at hd'; cases hd'
    funext y; rw [← h1, ← h2]
  subst emm
  have hf : ∀ o, s.heap.get? X.L = some o → frozen o = false := fun o ho => by rw [hoL] at ho; cases ho; exact hfL
  have hc : ∀ x c, X.cl.lookup x = some c → c ≠ X.L := fun x c e => (I.ok.cfree x c e).2
  refine ⟨I.ok, ⟨_, F.set hn' hs, fun y u e => ?_⟩, fun x c e => let ⟨v, hv⟩ := I.cells x c e; ⟨v, hv.sameBut hs (hc x c e)⟩, I.rep.sameBut hs hf fun p hp => (I.new p hp).2.1, I.new, fun b hb => let ⟨a1, a2, o, ho, hd⟩ := I.kept b hb; ⟨a1, a2, o, (hs.2 b a1).trans ho, hd⟩⟩
  unfold upd at e
  by_cases hy : y = x
  · subst hy
    rw [if_pos rfl] at e; cases e
    refine ⟨v', rv.mono (.of_sameBut hs hf) (.refl _), ?_⟩
    rw [hx]; simp
  · rw [if_neg hy] at e
    obtain ⟨u', a, b⟩ := hm y u e
    refine ⟨u', a.mono (.of_sameBut hs hf) (.refl _), ?_⟩
    split <;> rename_i q <;> rw [q] at b
    · exact b.sameBut hs (hc y _ q)
    · simp only [hy, if_false]; exact b
/-- a cell of the frame's -/
theorem In.cell {h' : Heap} {g d t os} {x : Str} {c : Addr} {v' : Value} {v : V} (I : In prog w K X m S r s) (hx : X.cl.lookup x = some c) (rv : RV s.heap r v' v)
    (hs : Heap.SameBut c s.heap h') (hn' : h'.IsCell c (some v')) : In prog w K X (upd m x v) S r ⟨h', g, d, t, os⟩ := by
  obtain ⟨mm, F, hm⟩ := I.fr
  obtain ⟨hg, hL⟩ := I.ok.cfree x c hx
  obtain ⟨v₀, oc, hoc, hdc⟩ := I.cells x c hx
  have hf : ∀ o, s.heap.get? c = some o → frozen o = false := fun o ho => by rw [hoc] at ho; cases ho; unfold frozen; rw [hdc]
  have one : ∀ y, X.cl.lookup y = some c → y = x := fun y e => by
    have key : ∀ (l : List (Str × Addr)), (l.map (·.2)).Nodup → l.lookup y = some c → l.lookup x = some c → y = x := by
      intro l
      induction l with
      | nil => intro _ e; cases e
      | cons q l ih =>
        intro nd e1 e2
        rw [List.map_cons, List.nodup_cons] at nd
        obtain ⟨z, a⟩ := q
        have mem : ∀ u, l.lookup u = some c → c ∈ l.map (·.2) := fun u hu => by
          have : ∀ (l : List (Str × Addr)), l.lookup u = some c → c ∈ l.map (·.2) := by
            intro l
            induction l with
            | nil => intro h; cases h
            | cons q l ih2 =>
              intro h
              rw [List.lookup_cons] at h
              split at h
              · cases h; simp
              · simp [ih2 h]
          exact this l hu
        rw [List.lookup_cons] at e1 e2
        split at e1 <;> split at e2
        · rename_i _ h1 _ h2; rw [beq_iff_eq.mp h1, beq_iff_eq.mp h2]
        · cases e1; exact absurd (mem _ e2) nd.1
        · cases e2; exact absurd (mem _ e1) nd.1
        · exact ih nd.2 e1 e2
    exact key X.cl I.ok.cnod e hx
  have hr : ∀ p ∈ r, p.2 ≠ c := fun p hp z => by
    obtain ⟨l, hl⟩ := List.mem_iff_getElem?.mp hp
    obtain ⟨mo₀, _, ro₀⟩ := I.rep.at hl
    obtain ⟨o₀, ho₀, hm₀⟩ := ro₀.mutAt
    rw [z, hoc] at ho₀; cases ho₀; exact hm₀.2.1 _ hdc
  have F' : Fr X.g X.L h' mm := ⟨F.ns.sameBut hs (Ne.symm hL), fun b o e => (hs.2 b (fun q => by rw [q, hg] at e; cases e)).trans (F.keep b o e), F.above⟩
  refine ⟨I.ok, ⟨mm, F', fun y u e => ?_⟩, fun y c' e => ?_, I.rep.sameBut hs hf hr, I.new, fun b hb => let ⟨a1, a2, o, ho, hd⟩ := I.kept b hb; ⟨a1, a2, o, (hs.2 b fun q => by
    obtain ⟨es, n, hd⟩ := hd
    rw [q, hoc] at ho; cases ho; rw [hdc] at hd; cases hd).trans ho, hd⟩⟩
  · unfold upd at e
    by_cases hy : y = x
    · subst hy
      rw [if_pos rfl] at e; cases e
      refine ⟨v', rv.mono (.of_sameBut hs hf) (.refl _), ?_⟩
      rw [hx]; exact hn'
    · rw [if_neg hy] at e
      obtain ⟨u', a, b⟩ := hm y u e
      refine ⟨u', a.mono (.of_sameBut hs hf) (.refl _), ?_⟩
      split <;> rename_i q <;> rw [q] at b
      · exact b.sameBut hs (fun z => hy (one y (z ▸ q)))
      · exact b
  · by_cases hy : c' = c
    · subst hy; exact ⟨_, hn'⟩
    · obtain ⟨u, hu⟩ := I.cells y c' e; exact ⟨u, hu.sameBut hs hy⟩
end

/-! the judgements -/
section
variable (prog : Program) (w : World) (K : Frag) {α β : Type}
noncomputable def Post (rel : Heap → Ro → α → β → Prop) (X : Cx) (s : Shared) (r : Ro) (P : β → Loc → MS → Prop) : α → Shared → Prop :=
  fun a s' => ∃ b m' S' r', In prog w K X m' S' r' s' ∧ Ext X s r s' r' ∧ rel s'.heap r' a b ∧ P b m' S'
noncomputable def PostE (X : Cx) (s : Shared) (r : Ro) (E : V → MS → Prop) : Value → Shared → Prop :=
  fun e s' => ∃ ball S' r', Raised prog w X e s' r' S' ball ∧ Ext X s r s' r' ∧ E ball S'
noncomputable def aw (rel : Heap → Ro → α → β → Prop) (X : Cx) (t : Sem α) (m : Loc) (S : MS) (P : β → Loc → MS → Prop) (E : V → MS → Prop) : Prop :=
  ∀ s r, In prog w K X m S r s → wpAny (model prog w) X.A t (Post prog w K rel X s r P) (PostE prog w X s r E) s
end

inductive Fl where
  | next | brk | cont
  | ret (v : V)
noncomputable def RF (h : Heap) (r : Ro) : Flow → Fl → Prop
  | .next, .next => True
  | .brk, .brk => True
  | .cont, .cont => True
  | .ret v, .ret x => RV h r v x
  | _, _ => False
noncomputable def REq {α : Type} (_ : Heap) (_ : Ro) (a b : α) : Prop := a = b

section
variable (prog : Program) (w : World) (K : Frag) (X : Cx)
noncomputable def ex (e : Expr) (m : Loc) (S : MS) (P : V → MS → Prop) (E : V → MS → Prop) : Prop := aw prog w K RV X (eval e X.env) m S (fun v m' S' => m' = m ∧ P v S') E
noncomputable def te (e : Expr) (m : Loc) (S : MS) (P : Bool → MS → Prop) (E : V → MS → Prop) : Prop := aw prog w K REq X (isTrue e X.env (eval e X.env)) m S (fun v m' S' => m' = m ∧ P v S') E
noncomputable def sx (st : Stmt) (m : Loc) (S : MS) (P : Fl → Loc → MS → Prop) (E : V → MS → Prop) : Prop := aw prog w K RF X (exec st X.env) m S P E
noncomputable def ss (sts : List Stmt) (m : Loc) (S : MS) (P : Fl → Loc → MS → Prop) (E : V → MS → Prop) : Prop := aw prog w K RF X (execs sts X.env) m S P E
/-- the arguments of a display or a call -/
noncomputable def es (l : List Expr) (m : Loc) (S : MS) (P : List V → MS → Prop) (E : V → MS → Prop) : Prop :=
  aw prog w K RVs X (spliced (starEach l X.env)) m S (fun v m' S' => m' = m ∧ P v S') E
noncomputable def op1 (f : Value → Sem Value) (a : V) (m : Loc) (S : MS) (P : V → MS → Prop) (E : V → MS → Prop) : Prop :=
  ∀ s r va, In prog w K X m S r s → RV s.heap r va a → wpAny (model prog w) X.A (f va) (Post prog w K RV X s r (fun v m' S' => m' = m ∧ P v S')) (PostE prog w X s r E) s
noncomputable def op2 (f : Value → Value → Sem Value) (a b : V) (m : Loc) (S : MS) (P : V → MS → Prop) (E : V → MS → Prop) : Prop :=
  ∀ s r va vb, In prog w K X m S r s → RV s.heap r va a → RV s.heap r vb b → wpAny (model prog w) X.A (f va vb) (Post prog w K RV X s r (fun v m' S' => m' = m ∧ P v S')) (PostE prog w X s r E) s
noncomputable def opL (f : List Value → Sem Value) (as : List V) (m : Loc) (S : MS) (P : V → MS → Prop) (E : V → MS → Prop) : Prop :=
  ∀ s r vs, In prog w K X m S r s → RVs s.heap r vs as → wpAny (model prog w) X.A (f vs) (Post prog w K RV X s r (fun v m' S' => m' = m ∧ P v S')) (PostE prog w X s r E) s
end

section
variable {prog : Program} {w : World} {K : Frag} {X : Cx} {α β : Type}
theorem Post.after {rel : Heap → Ro → α → β → Prop} {s s₁ s' : Shared} {r r₁ : Ro} {P : β → Loc → MS → Prop} {a : α} (x : Ext X s r s₁ r₁) (h : Post prog w K rel X s₁ r₁ P a s') : Post prog w K rel X s r P a s' :=
  let ⟨b, m', S', r', i, e, q, p⟩ := h; ⟨b, m', S', r', i, x.trans e, q, p⟩
theorem PostE.after {s s₁ s' : Shared} {r r₁ : Ro} {E : V → MS → Prop} {e : Value} (x : Ext X s r s₁ r₁) (h : PostE prog w X s₁ r₁ E e s') : PostE prog w X s r E e s' :=
  let ⟨b, S', r', i, e', p⟩ := h; ⟨b, S', r', i, x.trans e', p⟩
theorem aw.mono {rel : Heap → Ro → α → β → Prop} {t : Sem α} {m : Loc} {S : MS} {P P' : β → Loc → MS → Prop} {E E' : V → MS → Prop} (h : aw prog w K rel X t m S P E) (hp : ∀ b m' S', P b m' S' → P' b m' S') (he : ∀ b S', E b S' → E' b S') :
    aw prog w K rel X t m S P' E' := fun s r i => wpAny_mono (h s r i) (fun _ _ ⟨b, m', S', r', i, e, q, p⟩ => ⟨b, m', S', r', i, e, q, hp _ _ _ p⟩) fun _ _ ⟨b, S', r', i, e', p⟩ => ⟨b, S', r', i, e', he _ _ p⟩
/-- one step behind another -/
theorem step {rel : Heap → Ro → α → β → Prop} {t : Sem α} {R : α → Shared → Prop} {P : β → Loc → MS → Prop} {E : V → MS → Prop} {s₀ s : Shared} {r₀ r : Ro} (e₀ : Ext X s₀ r₀ s r)
    (h : wpAny (model prog w) X.A t (Post prog w K rel X s r P) (PostE prog w X s r E) s)
    (k : ∀ a b m' S' r' s', In prog w K X m' S' r' s' → Ext X s₀ r₀ s' r' → Ext X s r s' r' → rel s'.heap r' a b → P b m' S' → R a s') :
    wpAny (model prog w) X.A t R (PostE prog w X s₀ r₀ E) s :=
  wpAny_mono h (fun a s' ⟨b, m', S', r', i, e, q, p⟩ => k a b m' S' r' s' i (e₀.trans e) e q p) fun _ _ z => z.after e₀
theorem last {rel : Heap → Ro → α → β → Prop} {t : Sem α} {P : β → Loc → MS → Prop} {E : V → MS → Prop} {s₀ s : Shared} {r₀ r : Ro} (e₀ : Ext X s₀ r₀ s r)
    (h : wpAny (model prog w) X.A t (Post prog w K rel X s r P) (PostE prog w X s r E) s) : wpAny (model prog w) X.A t (Post prog w K rel X s₀ r₀ P) (PostE prog w X s₀ r₀ E) s :=
  wpAny_mono h (fun _ _ z => z.after e₀) fun _ _ z => z.after e₀
/-- an end -/
theorem done {rel : Heap → Ro → α → β → Prop} {P : β → Loc → MS → Prop} {s s' : Shared} {r r' : Ro} {a : α} {b : β} {m : Loc} {S : MS} (i : In prog w K X m S r' s') (e : Ext X s r s' r') (q : rel s'.heap r' a b) (p : P b m S) :
    Post prog w K rel X s r P a s' := ⟨b, m, S, r', i, e, q, p⟩
end
end Mine

namespace Mine

section
variable {prog : Program} {w : World} {K : Frag} {X : Cx} {m : Loc} {S : MS} {P : V → MS → Prop} {E : V → MS → Prop}

theorem Ok.hA {X : Cx} (o : Ok K X) : X.A.handled = none := o.hand
theorem Ok.uA {X : Cx} (o : Ok K X) : X.A.units + 20 * X.n + 50 < cLine := by
  have := o.units
  show X.A₀.units + 3 + _ + _ < _; omega
theorem Ok.dA {X : Cx} (o : Ok K X) : X.A.depth + 4 * X.n + 6 < recursionLimit := by
  have := o.depth
  show X.A₀.depth + 1 + _ + _ < _; omega

theorem ex.mono {e : Expr} {P' : V → MS → Prop} {E' : V → MS → Prop} (h : ex prog w K X e m S P E) (hp : ∀ v S', P v S' → P' v S') (he : ∀ b S', E b S' → E' b S') : ex prog w K X e m S P' E' :=
  aw.mono h (fun _ _ _ z => ⟨z.1, hp _ _ z.2⟩) he

/-! constants -/
theorem ex_none {k pos} (h : P .none S) : ex prog w K X (.Constant .none k pos) m S P E := fun _ _ i => wpAny_pure (done i (.refl) .none ⟨rfl, h⟩)
theorem ex_bool {b k pos} (h : P (.bool b) S) : ex prog w K X (.Constant (.bool b) k pos) m S P E := fun _ _ i => wpAny_pure (done i (.refl) (.bool b) ⟨rfl, h⟩)
theorem ex_int {z k pos} (h : P (.int z) S) : ex prog w K X (.Constant (.int z) k pos) m S P E := fun s r i =>
  wpAny_Constant_int (done i.toks (.grow fun _ _ e => e) (.int _ _) ⟨rfl, h⟩)
theorem ex_str {x k pos} (h : P (.str x) S) : ex prog w K X (.Constant (.str x) k pos) m S P E := fun s r i => by
  show wpAny _ _ (mkText x) _ _ _
  exact wpAny_mkText (done i.toks (.grow fun _ _ e => e) (.str _ _) ⟨rfl, h⟩)

/-! names -/
theorem ex_local {x : Str} {pos : Pos} {v : V} (hx : X.cs.names.lookup x = some .local) (hm : m x = some v) (hd : (x == ("__debug__" : Str)) = false) (hc : X.cl.lookup x = none) (h : P v S) : ex prog w K X (.Name x pos) m S P E := fun s r i => by
  obtain ⟨mm, F, hl⟩ := i.fr
  obtain ⟨v', rv, q⟩ := hl x v hm
  rw [hc] at q
  exact wpAny_Name (wpAny_loadName_local i.ok.kind hx F.ns q (done i (.refl) rv ⟨rfl, h⟩)) hd
theorem ex_cell {x : Str} {pos : Pos} {v : V} {c : Addr} (hx : X.cs.names.lookup x = some .cell) (hm : m x = some v) (hd : (x == ("__debug__" : Str)) = false) (hc : X.cl.lookup x = some c) (h : P v S) : ex prog w K X (.Name x pos) m S P E := fun s r i => by
  obtain ⟨mm, F, hl⟩ := i.fr
  obtain ⟨v', rv, q⟩ := hl x v hm
  rw [hc] at q
  exact wpAny_Name (wpAny_loadName_cell i.ok.kind hx hc q (done i (.refl) rv ⟨rfl, h⟩)) hd
theorem wp_glob {A : Around} {Q : Value → Shared → Prop} {E' : Value → Shared → Prop} {x : Str} {pos : Pos} {v : Value} {s : Shared} {r : Ro} (i : In prog w K X m S r s) (hx : X.cs.names.lookup x = some .globalImplicit) (he : nsIn K mainGlobals x = some (some v)) (hd : (x == ("__debug__" : Str)) = false)
    (h : Q v s) : wpAny (model prog w) A (eval (.Name x pos) X.env) Q E' s := by
  obtain ⟨mm, F, _⟩ := i.fr
  obtain ⟨p, loose, mg, mb, T⟩ := i.ok.top
  exact nameX_K F i.ok.K T he h i.ok.kind hx hd
theorem wp_bi {A : Around} {Q : Value → Shared → Prop} {E' : Value → Shared → Prop} {x : Str} {pos : Pos} {v : Value} {s : Shared} {r : Ro} (i : In prog w K X m S r s) (hx : X.cs.names.lookup x = some .globalImplicit) (he : nsIn K mainGlobals x = some none)
    (hv : bootBuiltins x = some v) (hn : x ≠ "__name__") (hd : (x == ("__debug__" : Str)) = false) (h : Q v s) : wpAny (model prog w) A (eval (.Name x pos) X.env) Q E' s := by
  obtain ⟨mm, F, _⟩ := i.fr
  obtain ⟨p, loose, mg, mb, T⟩ := i.ok.top
  exact nameX_B F i.ok.K T he hv hn h i.ok.kind hx hd
theorem In.kin {r : Ro} {s : Shared} (i : In prog w K X m S r s) : K.In s.heap := by
  obtain ⟨mm, F, _⟩ := i.fr
  exact i.ok.K.keeps F.keep
theorem ex_glob {x : Str} {pos : Pos} {v : Value} {a : V} (hx : X.cs.names.lookup x = some .globalImplicit) (he : nsIn K mainGlobals x = some (some v)) (hd : (x == ("__debug__" : Str)) = false)
    (rv : ∀ h r, K.In h → RV h r v a) (h : P a S) : ex prog w K X (.Name x pos) m S P E := fun s r i =>
  wp_glob i hx he hd (done i (.refl) (rv _ _ i.kin) ⟨rfl, h⟩)

/-! operators -/
theorem ex_bin {l r : Expr} {op : Operator} {pos : Pos} (h : ex prog w K X l m S (fun a S1 => ex prog w K X r m S1 (fun b S2 => op2 prog w K X (binaryOp op) a b m S2 P E) E) E) :
    ex prog w K X (.BinOp l op r pos) m S P E := fun s ro i => by
  refine wpAny_BinOp (step .refl (h s ro i) fun va a m1 S1 r1 s1 i1 e1 _ q1 p1 => ?_)
  obtain ⟨rfl, p1⟩ := p1
  refine step e1 (p1 s1 r1 i1) fun vb b m2 S2 r2 s2 i2 e2 e2' q2 p2 => ?_
  obtain ⟨rfl, p2⟩ := p2
  exact last e2 (p2 s2 r2 va vb i2 (q1.mono e2'.1 e2'.2.1) q2)
theorem ex_cmp {l r : Expr} {op : CmpOp} {pos : Pos} (hm : behindInMarks op r = false) (h : ex prog w K X l m S (fun a S1 => ex prog w K X r m S1 (fun b S2 => op2 prog w K X (compareOp op) a b m S2 P E) E) E) :
    ex prog w K X (.Compare l [op] [r] pos) m S P E := fun s ro i => by
  refine wpAny_Compare1 (step .refl (h s ro i) fun va a m1 S1 r1 s1 i1 e1 _ q1 p1 => ?_) hm
  obtain ⟨rfl, p1⟩ := p1
  refine step e1 (p1 s1 r1 i1) fun vb b m2 S2 r2 s2 i2 e2 e2' q2 p2 => ?_
  obtain ⟨rfl, p2⟩ := p2
  exact last e2 (p2 s2 r2 va vb i2 (q1.mono e2'.1 e2'.2.1) q2)
theorem te_cmp {P : Bool → MS → Prop} {l r : Expr} {op : CmpOp} {pos : Pos} (hm : behindInMarks op r = false)
    (h : ex prog w K X l m S (fun a S1 => ex prog w K X r m S1 (fun b S2 => op2 prog w K X (compareOp op) a b m S2 (fun v S3 => ∃ t, v = .bool t ∧ P t S3) E) E) E) :
    te prog w K X (.Compare l [op] [r] pos) m S P E := fun s ro i => by
  refine wpAny_isTrue_Compare1 (step .refl (h s ro i) fun va a m1 S1 r1 s1 i1 e1 _ q1 p1 => ?_) hm
  obtain ⟨rfl, p1⟩ := p1
  refine step e1 (p1 s1 r1 i1) fun vb b m2 S2 r2 s2 i2 e2 e2' q2 p2 => ?_
  obtain ⟨rfl, p2⟩ := p2
  refine step e2 (p2 s2 r2 va vb i2 (q1.mono e2'.1 e2'.2.1) q2) fun vc c m3 S3 r3 s3 i3 e3 _ q3 p3 => ?_
  obtain ⟨rfl, t, rfl, p3⟩ := p3
  cases q3
  exact wpAny_truthy_bool (done i3 e3 rfl ⟨rfl, p3⟩)
theorem te_not {P : Bool → MS → Prop} {x : Expr} {pos : Pos} (h : te prog w K X x m S (fun b S' => P (!b) S') E) : te prog w K X (.UnaryOp .Not x pos) m S P E := fun s ro i =>
  wpAny_isTrue_Not (wpAny_mono (h s ro i) (fun _ _ ⟨b, m', S', r', i', e', q, p⟩ => ⟨!b, m', S', r', i', e', congrArg _ q, p⟩) fun _ _ z => z)
/-- a test that is a value -/
theorem te_val {P : Bool → MS → Prop} {e : Expr} (hs : ∀ env whole, isTrue e env whole = (do let v ← whole; standAt e.pos; holding [v] (truthy v))) (h : ex prog w K X e m S (fun v S' => ∃ b, v = .bool b ∧ P b S') E) : te prog w K X e m S P E := fun s ro i => by
  rw [hs]
  refine wpAny_bind (step .refl (h s ro i) fun va a m1 S1 r1 s1 i1 e1 _ q1 p1 => ?_)
  obtain ⟨rfl, b, rfl, p1⟩ := p1
  cases q1
  exact wpAny_bind (wpAny_standAt (wpAny_holding (wpAny_truthy_bool (done i1 e1 rfl ⟨rfl, p1⟩))))
theorem ex_if {t b o : Expr} {pos : Pos} (h : te prog w K X t m S (fun c S' => if c = true then ex prog w K X b m S' P E else ex prog w K X o m S' P E) E) : ex prog w K X (.IfExp t b o pos) m S P E := fun s ro i => by
  refine wpAny_IfExp (step .refl (h s ro i) fun va a m1 S1 r1 s1 i1 e1 _ q1 p1 => ?_)
  obtain ⟨rfl, p1⟩ := p1
  cases q1
  cases va
  · exact last e1 (p1 s1 r1 i1)
  · exact last e1 (p1 s1 r1 i1)

/-- several tests joined -/
noncomputable def tes (prog : Program) (w : World) (K : Frag) (X : Cx) (op : BoolOp) (l : List Expr) (m : Loc) (S : MS) (P : Bool → MS → Prop) (E : V → MS → Prop) : Prop :=
  aw prog w K REq X (allTrue op l X.env) m S (fun v m' S' => m' = m ∧ P v S') E
theorem te_bool {P : Bool → MS → Prop} {op : BoolOp} {l : List Expr} {pos : Pos} (h : tes prog w K X op l m S P E) : te prog w K X (.BoolOp op l pos) m S P E := h
theorem tes_nil {P : Bool → MS → Prop} {op : BoolOp} (h : P (op == .And) S) : tes prog w K X op [] m S P E := fun _ _ i => wpAny_pure (done i .refl rfl ⟨rfl, h⟩)
theorem tes_and {P : Bool → MS → Prop} {e : Expr} {l : List Expr} (h : te prog w K X e m S (fun c S' => if c = true then tes prog w K X .And l m S' P E else P false S') E) : tes prog w K X .And (e :: l) m S P E := fun s ro i => by
  show wpAny _ _ (do match BoolOp.And, ← isTrue e X.env (eval e X.env) with | .And, false => pure false | .Or, true => pure true | _, _ => allTrue .And l X.env) _ _ _
  refine wpAny_bind (step .refl (h s ro i) fun va a m1 S1 r1 s1 i1 e1 _ q1 p1 => ?_)
  obtain ⟨rfl, p1⟩ := p1
  cases q1
  cases va
  · exact wpAny_pure (done i1 e1 rfl ⟨rfl, p1⟩)
  · exact last e1 (p1 s1 r1 i1)
theorem tes_or {P : Bool → MS → Prop} {e : Expr} {l : List Expr} (h : te prog w K X e m S (fun c S' => if c = true then P true S' else tes prog w K X .Or l m S' P E) E) : tes prog w K X .Or (e :: l) m S P E := fun s ro i => by
  show wpAny _ _ (do match BoolOp.Or, ← isTrue e X.env (eval e X.env) with | .And, false => pure false | .Or, true => pure true | _, _ => allTrue .Or l X.env) _ _ _
  refine wpAny_bind (step .refl (h s ro i) fun va a m1 S1 r1 s1 i1 e1 _ q1 p1 => ?_)
  obtain ⟨rfl, p1⟩ := p1
  cases q1
  cases va
  · exact last e1 (p1 s1 r1 i1)
  · exact wpAny_pure (done i1 e1 rfl ⟨rfl, p1⟩)
/-- and, or of two as a value that is a bool -/
theorem ex_and2 {x y : Expr} {pos : Pos} (h : ex prog w K X x m S (fun v S' => ∃ b, v = .bool b ∧ (if b = true then ex prog w K X y m S' P E else P (.bool false) S')) E) : ex prog w K X (.BoolOp .And [x, y] pos) m S P E := fun s ro i => by
  refine wpAny_And2 (step .refl (h s ro i) fun va a m1 S1 r1 s1 i1 e1 _ q1 p1 => ?_)
  obtain ⟨rfl, b, rfl, p1⟩ := p1
  cases q1
  refine wpAny_truthy_bool ?_
  cases b
  · exact done i1 e1 (.bool false) ⟨rfl, p1⟩
  · exact last e1 (p1 s1 r1 i1)
theorem ex_or2 {x y : Expr} {pos : Pos} (h : ex prog w K X x m S (fun v S' => ∃ b, v = .bool b ∧ (if b = true then P (.bool true) S' else ex prog w K X y m S' P E)) E) : ex prog w K X (.BoolOp .Or [x, y] pos) m S P E := fun s ro i => by
  refine wpAny_Or2 (step .refl (h s ro i) fun va a m1 S1 r1 s1 i1 e1 _ q1 p1 => ?_)
  obtain ⟨rfl, b, rfl, p1⟩ := p1
  cases q1
  refine wpAny_truthy_bool ?_
  cases b
  · exact last e1 (p1 s1 r1 i1)
  · exact done i1 e1 (.bool true) ⟨rfl, p1⟩

/-! several expressions -/
theorem es_nil {P : List V → MS → Prop} (h : P [] S) : es prog w K X [] m S P E := fun _ _ i => wpAny_pure (done i .refl .nil ⟨rfl, h⟩)
theorem es_cons {P : List V → MS → Prop} {e : Expr} {l : List Expr} (hs : starEach (e :: l) X.env = (false, eval e X.env) :: starEach l X.env) (h : ex prog w K X e m S (fun v S' => es prog w K X l m S' (fun vs S2 => P (v :: vs) S2) E) E) :
    es prog w K X (e :: l) m S P E := fun s ro i => by
  unfold es aw at h
  rw [hs]
  show wpAny _ _ (do let v ← eval e X.env; let here ← (pure [v] : Sem (List Value)); return here ++ (← holding here (spliced (starEach l X.env)))) _ _ _
  refine wpAny_bind (step .refl (h s ro i) fun va a m1 S1 r1 s1 i1 e1 _ q1 p1 => ?_)
  obtain ⟨rfl, p1⟩ := p1
  refine wpAny_bind (wpAny_pure (wpAny_bind (wpAny_holding (step e1 (p1 s1 r1 i1) fun vs as m2 S2 r2 s2 i2 e2 e2' q2 p2 => ?_))))
  obtain ⟨rfl, p2⟩ := p2
  exact wpAny_pure (done i2 e2 (.cons (q1.mono e2'.1 e2'.2.1) q2) ⟨rfl, p2⟩)
end
end Mine

namespace Mine

/-- all but records stays, up to the frames' slots -/
noncomputable def KS (fr : List Addr) (h h' : Heap) : Prop := ∀ b o, h.get? b = some o → Nrec o → ∃ sl, h'.get? b = some { o with slots := sl } ∧ (b ∉ fr → sl = o.slots) ∧ ((∃ vs, o.data = .fields vs) → sl = o.slots)
theorem KS.refl (fr : List Addr) (h : Heap) : KS fr h h := fun b o e _ => ⟨o.slots, e, fun _ => rfl, fun _ => rfl⟩
theorem KS.trans {fr : List Addr} {h h' h'' : Heap} (x : KS fr h h') (y : KS fr h' h'') : KS fr h h'' := fun b o e n => by
  obtain ⟨sl, e1, q1, z1⟩ := x b o e n
  obtain ⟨sl2, e2, q2, z2⟩ := y b _ e1 n
  exact ⟨sl2, e2, fun hb => (q2 hb).trans (q1 hb), fun z => (z2 z).trans (z1 z)⟩
theorem KS.exact {fr : List Addr} {h h' : Heap} (x : KS fr h h') {b : Addr} {o : Obj} (e : h.get? b = some o) (n : Nrec o) (hb : b ∉ fr) : h'.get? b = some o := by
  obtain ⟨sl, e1, q, _⟩ := x b o e n
  rw [q hb] at e1; exact e1
theorem KS.frames {base h h' : Heap} {fr : List Addr} {l : List Env} (x : KS fr h h') (hl : h.FunFrames base l) : h'.FunFrames base l :=
  hl.of_keeps fun b o e n => let ⟨sl, e1, _⟩ := x b o e (.inl n); ⟨_, e1, rfl⟩
theorem KS.of_other {fr : List Addr} {h h' : Heap} {T : Addr} {oT : Obj} {ts : Array Value} (hT : h.get? T = some oT) (hd : oT.data = .fields ts ∧ oT.cls = .type "traceback") (k : ∀ b, b ≠ T → h'.get? b = h.get? b) : KS fr h h' := fun b o e n => by
  have : b ≠ T := fun q => by rw [q, hT] at e; cases e; exact (show ¬ Nrec oT from fun z => z.elim (fun z => z _ hd.1) fun z => z.1 hd.2) n
  exact ⟨o.slots, (k b this).trans e, fun _ => rfl, fun _ => rfl⟩


section
variable {M : Model} {A : Around} {E : Value → Shared → Prop} {s : Shared} {base : Heap} {env : Env} {outer : List Env} {L e de : Addr}

theorem entryB {vs : Array Value} {sl : Array (Option Value)} {head : Value} {hadNext : Bool} {Q : Unit → Shared → Prop}
    (hfr : A.frames = some (env :: outer)) (hl : s.heap.FunFrames base (env :: outer)) (hf : env.frame = some L)
    (he : s.heap.get? e = some ⟨.ref PE, some de, .fields vs, sl⟩) (hkb : base.StaysIn s.heap) (hen : base.get? e = none) (hsz : 1 < vs.size)
    (h : ∀ h', base.StaysIn h' → KS (frOf (env :: outer)) s.heap h' → TracedB h' base e de (rawInt L) → Q () { s with heap := h' }) :
    wpAny M A (do let a ← frameOf env; let pl ← entryPlaceOf L hadNext; let b ← EntryCells.newEntry head a .none (rawInt L) .none pl; setField (.ref e) 1 b) Q E s := by
  have hene : e ∉ (env :: outer).filterMap (·.frame) := fun hm => by
    obtain ⟨_, o, ho, hnf⟩ := hl.mem hm
    rw [he] at ho; injection ho with ho; subst ho; exact hnf vs rfl
  refine wpAny_bind (wpAny_frameOf_fun hfr hl hf fun h₁ hs₁ => ?_)
  refine wpAny_bind (wpAny_entryPlaceOf fun pl hpl => ?_)
  unfold EntryCells.newEntry newFields
  refine wpAny_bind (wpAny_newObj_type ?_ (hpl.sizeOk5 _ _ _ _ _))
  have he₁ : h₁.get? e = some ⟨.ref PE, some de, .fields vs, sl⟩ := (hs₁.2.1 e hene).trans he
  have kb₁ : base.StaysIn h₁ := fun b o hbo => (hs₁.2.1 b fun hm => by rw [(hl.mem hm).1] at hbo; cases hbo).trans (hkb b o hbo)
  have he₂ := Heap.get?_push_of_some (h := h₁) { cls := .type "traceback", dict := none, data := .fields ([head, .ref L, .none, rawInt L, .none] ++ (if pl.isEmpty then List.replicate 6 Value.none else pl)).toArray } he₁
  have hTe : h₁.objs.size ≠ e := Nat.ne_of_gt (Heap.lt_size he₁)
  have he₃ := Heap.get?_update_self (Obj.mapFields (·.setIfInBounds 1 (Value.ref h₁.objs.size))) he₂ rfl
  have hT₃ := (Heap.get?_update_other (h₁.push { cls := .type "traceback", dict := none, data := .fields ([head, .ref L, .none, rawInt L, .none] ++ (if pl.isEmpty then List.replicate 6 Value.none else pl)).toArray })
    (Obj.mapFields (·.setIfInBounds 1 (Value.ref h₁.objs.size))) (Ne.symm hTe)).trans (Heap.get?_push_size h₁ rfl)
  have keep : ∀ b o, b ≠ e → h₁.get? b = some o →
      ((h₁.push { cls := .type "traceback", dict := none, data := .fields ([head, .ref L, .none, rawInt L, .none] ++ (if pl.isEmpty then List.replicate 6 Value.none else pl)).toArray }).update e (Obj.mapFields (·.setIfInBounds 1 (Value.ref h₁.objs.size)))).get? b = some o := fun b o hbe hb => by
    rw [Heap.get?_update_other _ _ (Ne.symm hbe)]
    exact Heap.get?_push_of_some _ hb
  refine wpAny_setField he₂ rfl hsz (h _ (fun b o hbo => keep b o (fun q => by rw [q, hen] at hbo; cases hbo) (kb₁ b o hbo)) (fun b o hb hnf => ?_) ?_)
  · have hbe : b ≠ e := fun q => by rw [q, he] at hb; injection hb with hb; subst hb; exact hnf.elim (fun z => z vs rfl) fun z => z.2 rfl
    obtain ⟨sl', hs⟩ := hs₁.2.2 b o hb
    by_cases hm : b ∈ frOf (env :: outer)
    · exact ⟨sl', keep b _ hbe hs, fun q => absurd hm q, fun ⟨vs, hv⟩ => (by
        obtain ⟨_, o', ho', hnf'⟩ := hl.mem hm
        rw [hb] at ho'; cases ho'; exact absurd hv (hnf' vs))⟩
    · have := hs₁.2.1 b hm
      exact ⟨o.slots, keep b _ hbe (this.trans hb), fun _ => rfl, fun _ => rfl⟩
  · exact ⟨_, h₁.objs.size, _, _, sl, he₃, by simp [hsz], kb₁.fresh, hTe, hT₃, ⟨rfl, rfl⟩, by first | (simp; done) | (rcases hpl with rfl | ⟨_, _, _, _, _, _, _, rfl⟩ <;> simp)⟩

noncomputable def Tr (h base : Heap) (e de L : Addr) : Prop := MadeB h e de ∨ TracedB h base e de .none ∨ TracedB h base e de (rawInt L)

theorem noteB {Q : Unit → Shared → Prop} (hfr : A.frames = some (env :: outer)) (hl : s.heap.FunFrames base (env :: outer)) (hf : env.frame = some L) (hkb : base.StaysIn s.heap) (hen : base.get? e = none)
    (ht : Tr s.heap base e de L) (h : ∀ h', base.StaysIn h' → KS (frOf (env :: outer)) s.heap h' → TracedB h' base e de (rawInt L) → Q () { s with heap := h' }) : wpAny M A (noteFrame (.ref e) env) Q E s := by
  unfold noteFrame
  simp only [hf]
  rcases ht with ⟨vs, sl, he, h1⟩ | ⟨vs, T, oT, ts, sl, he, h1, hnT, hTe, hT, hdT, h3⟩ | ⟨vs, T, oT, ts, sl, he, h1, hnT, hTe, hT, hdT, h3⟩
  · refine wpAny_bind (wpAny_field he rfl h1 ?_)
    rw [if_neg (by decide)]
    exact entryB hfr hl hf he hkb hen (Array.getElem?_eq_some_iff.mp h1).1 h
  · refine wpAny_bind (wpAny_field he rfl h1 ?_)
    rw [if_pos (show (Value.ref T != Value.none) = true from by simp)]
    refine wpAny_bind (wpAny_field hT hdT.1 h3 ?_)
    rw [if_neg (show ¬ ((Value.none == rawInt L) = true) from by simp [rawInt])]
    refine wpAny_bind (wpAny_setField hT hdT.1 (Array.getElem?_eq_some_iff.mp h3).1 ?_)
    have other : ∀ b, b ≠ T → (s.heap.update T (Obj.mapFields (·.setIfInBounds 3 Value.none))).get? b = s.heap.get? b := fun b hb => Heap.get?_update_other _ _ (Ne.symm hb)
    have ks : KS (frOf (env :: outer)) s.heap (s.heap.update T (Obj.mapFields (·.setIfInBounds 3 Value.none))) := .of_other hT hdT other
    exact entryB hfr (ks.frames hl) hf ((other e (Ne.symm hTe)).trans he) (fun b o hbo => (other b fun q => by rw [q, hnT] at hbo; cases hbo).trans (hkb b o hbo)) hen (Array.getElem?_eq_some_iff.mp h1).1
      fun h' x1 x2 x3 => h h' x1 (ks.trans x2) x3
  · refine wpAny_bind (wpAny_field he rfl h1 ?_)
    rw [if_pos (show (Value.ref T != Value.none) = true from by simp)]
    refine wpAny_bind (wpAny_field hT hdT.1 h3 ?_)
    rw [if_pos (show (rawInt L == rawInt L) = true from by simp)]
    exact wpAny_pure (h _ hkb (.refl _ _) ⟨vs, T, oT, ts, sl, he, h1, hnT, hTe, hT, hdT, h3⟩)

theorem flightB {fl : Value} {fr : Option Addr} {Q : Unit → Shared → Prop} {l : List Addr} (hkb : base.StaysIn s.heap) (ht : TracedB s.heap base e de fl)
    (h : ∀ h', base.StaysIn h' → KS l s.heap h' → TracedB h' base e de (fr.elim .none fun f => rawInt f) → Q () { s with heap := h' }) : wpAny M A (setFlight (.ref e) fr) Q E s := by
  obtain ⟨vs, T, oT, ts, sl, he, h1, hnT, hTe, hT, hdT, h3⟩ := ht
  have hsz3 : 3 < ts.size := (Array.getElem?_eq_some_iff.mp h3).1
  have other : ∀ b, b ≠ T → (s.heap.update T (Obj.mapFields (·.setIfInBounds 3 (fr.elim Value.none fun f => rawInt f)))).get? b = s.heap.get? b :=
    fun b hb => Heap.get?_update_other _ _ (Ne.symm hb)
  unfold setFlight
  refine wpAny_bind (wpAny_field he rfl h1 ?_)
  rw [if_pos (show (Value.ref T != Value.none) = true from by simp)]
  refine wpAny_setField hT hdT.1 hsz3 (h _ (fun b o hbo => (other b fun q => by rw [q, hnT] at hbo; cases hbo).trans (hkb b o hbo)) (.of_other hT hdT other) ?_)
  exact ⟨vs, T, _, _, sl, (other e (Ne.symm hTe)).trans he, h1, hnT, hTe, Heap.get?_update_self _ hT (Obj.isFreed_of_fields (Obj.data_mapFields hdT.1 _)), ⟨Obj.data_mapFields hdT.1 _, (show (Obj.mapFields _ oT).cls = _ by obtain ⟨c, d, dat, sl⟩ := oT; obtain ⟨q1, q2⟩ := hdT; dsimp only at q1 q2; subst q1; exact q2)⟩, by simp [hsz3]⟩
end

theorem KS.kp {fr : List Addr} {h h' : Heap} (x : KS fr h h') : Kp h h' := fun a o e f => by
  obtain ⟨sl, e1, _⟩ := x a o e (.inl (by intro vs q; unfold frozen at f; rw [q] at f; cases f))
  exact ⟨_, e1, rfl, rfl, rfl⟩
section
variable {prog : Program} {w : World} {K : Frag} {X : Cx} {m : Loc} {S : MS} {E : V → MS → Prop}
theorem HRep.ks {fr : List Addr} {h h' : Heap} {r : Ro} (x : HRep prog w h r S) (k : KS fr h h') (hr : ∀ p ∈ r, p.2 ∉ fr) : HRep prog w h' r S := by
  refine ⟨x.1, x.2.1, fun l mo e => ?_⟩
  obtain ⟨p, e', ro⟩ := x.2.2 l mo e
  obtain ⟨o₂, ho₂, hm₂⟩ := ro.mutAt
  refine ⟨p, e', ro.mono k.kp (.refl _) (fun o ho hd => ?_) fun o ho => ?_⟩
  · obtain ⟨sl, e1, _⟩ := k _ o ho (.inl (by rw [hd]; exact nofun))
    exact ⟨sl, e1⟩
  · rw [ho₂] at ho; cases ho
    exact k.exact ho₂ (.inl hm₂.2.2.1) (hr p (List.mem_of_getElem? e'))
theorem BallAt.ks {fr : List Addr} {h h' : Heap} {r : Ro} {de : Addr} {ball : V} (x : BallAt h r de ball) (k : KS fr h h') (hd : de ∉ fr) : BallAt h' r de ball := by
  obtain ⟨es, n, v, e, g, rv⟩ := x
  exact ⟨es, n, v, k.exact e (.inl nofun) hd, g, rv.mono k.kp (.refl _)⟩
theorem Up.ks {fr : List Addr} {h h' : Heap} (k : KS fr h h') : Up X h h' := fun b o e _ _ n => let ⟨sl, e1, _, z⟩ := k b o e n; ⟨sl, e1, z⟩
theorem Ext.ks {fr : List Addr} {s : Shared} {h' : Heap} {r : Ro} (k : KS fr s.heap h') : Ext X s r { s with heap := h' } r := ⟨k.kp, .refl _, .ks k, rfl, rfl, rfl⟩

/-- behind a loop -/
theorem passLoop {e : Value} {s s' : Shared} {r : Ro} (hfr : X.A.frames = some (X.env :: X.outer)) (h : PostE prog w X s r E e s') :
    notedBy (model prog w) X.A X.env (fun e s' => cameBackBy (model prog w) X.A X.env (PostE prog w X s r E) e s') e s' := by
  obtain ⟨ball, S', r', ⟨ea, de, rfl, hb, hn, hF, ht, hde, hB, hR, hp⟩, ex, p⟩ := h
  refine noteB hfr hF rfl hb hn ht fun h1 b1 k1 t1 => ?_
  refine wpAny_bind ?_
  obtain ⟨vs, T, oT, ts, sl, he, hv, hnT, hTe, hT, hdT, h3⟩ := t1
  refine wpAny_field he rfl hv ?_
  rw [if_neg (show ¬ (Value.ref T == Value.none) = true from by simp)]
  refine flightB (base := X.base) (de := de) (l := frOf (X.env :: X.outer)) b1 ⟨vs, T, oT, ts, sl, he, hv, hnT, hTe, hT, hdT, h3⟩ fun h2 b2 k2 t2 => ?_
  have k := k1.trans k2
  refine ⟨ball, S', r', ⟨ea, de, rfl, b2, hn, k.frames hF, .inr (.inr t2), hde, hB.ks k hde, hR.ks k fun p hp' => (hp p hp').2.1, hp⟩, ex.trans (.ks (s := s') k), p⟩

/-- out of a def's frame -/
theorem leaveR {X' : Cx} {e : Value} {s : Shared} {r : Ro} {ball : V} {Q : Unit → Shared → Prop} {E' : Value → Shared → Prop} (hfr : X'.A.frames = some (X'.env :: X.env :: X.outer)) (hbase : X'.base = X.base) (hout : X'.outer = X.env :: X.outer)
    (h : Raised prog w X' e s r S ball) (hQ : ∀ h', Raised prog w X e { s with heap := h' } r S ball → KS (frOf (X'.env :: X'.outer)) s.heap h' → Q () { s with heap := h' }) : wpAny (model prog w) X'.A (leaving X'.env e) Q E' s := by
  obtain ⟨ea, de, rfl, hb, hn, hF, ht, hde, hB, hR, hp⟩ := h
  unfold leaving
  refine wpAny_bind (noteB (by rw [hfr, hout]) hF rfl hb hn ht fun h1 b1 k1 t1 => ?_)
  refine flightB (l := frOf (X'.env :: X'.outer)) b1 t1 fun h2 b2 k2 t2 => ?_
  have k := k1.trans k2
  have hF2 := k.frames hF
  refine hQ h2 ⟨ea, de, rfl, hbase ▸ b2, hbase ▸ hn, ?_, .inr (.inl (hbase ▸ t2)), fun z => hde ?_, hB.ks k hde, hR.ks k fun p hp' => (hp p hp').2.1, fun p hp' => ⟨hbase ▸ (hp p hp').1, fun z => (hp p hp').2.1 ?_, (hp p hp').2.2⟩⟩ k
  · rw [hout, hbase] at hF2
    exact hF2.2.2
  · rw [hout]
    exact List.mem_cons_of_mem _ z
  · rw [hout]
    exact List.mem_cons_of_mem _ z
end
end Mine

namespace Mine

inductive PR (h : Heap) (r : Ro) : List (Str × Value) → List (Str × V) → Prop
  | nil : PR h r [] []
  | cons {x v y vs ys} : RV h r v y → PR h r vs ys → PR h r ((x, v) :: vs) ((x, y) :: ys)
theorem PR.app {h : Heap} {r : Ro} {a b c d} (p : PR h r a b) (z : PR h r c d) : PR h r (a ++ c) (b ++ d) := by
  induction p with
  | nil => exact z
  | cons q _ ih => exact .cons q ih
theorem PR.rev {h : Heap} {r : Ro} {a b} (p : PR h r a b) : PR h r a.reverse b.reverse := by
  induction p with
  | nil => exact .nil
  | cons q _ ih => rw [List.reverse_cons, List.reverse_cons]; exact ih.app (.cons q .nil)
theorem PR.lookup {h : Heap} {r : Ro} {x : Str} {y : V} {a b} (p : PR h r a b) (e : b.lookup x = some y) : ∃ v, a.lookup x = some v ∧ RV h r v y := by
  induction p with
  | nil => cases e
  | @cons z _ _ _ _ q _ ih =>
    rw [List.lookup_cons] at e ⊢
    cases hz : x == z with
    | true => rw [hz] at e; cases e; exact ⟨_, rfl, q⟩
    | false => rw [hz] at e; exact ih e
theorem PR.zip {h : Heap} {r : Ro} : ∀ {ns : List Str} {vs : List Value} {ys : List V}, RVs h r vs ys → PR h r (ns.zip vs) (ns.zip ys)
  | [], _, _, _ => .nil
  | _ :: _, _, _, .nil => .nil
  | _ :: _, _, _, .cons a b => .cons a (PR.zip b)

noncomputable def locOf (ns : List Str) (as : List V) : Loc := fun y => (ns.zip as).reverse.lookup y

section
variable (prog : Program) (w : World) (K : Frag)
/-- what a def's call does -/
noncomputable def opC (X : Cx) (f : Addr) (as : List V) (m : Loc) (S : MS) (P : V → MS → Prop) (E : V → MS → Prop) : Prop :=
  ∀ s r vs, In prog w K X m S r s → RVs s.heap r vs as → codeAny (model prog w) X.A (.call (.ref f) ⟨vs, []⟩) (fun res s' => match res with
    | .ok (.ret v) => Post prog w K RV X s r (fun v m' S' => m' = m ∧ P v S') v s' | .ok _ => False | .error e => PostE prog w X s r E e s') s
noncomputable def Fn (f : Addr) (as : List V) (S : MS) (P : V → MS → Prop) (E : V → MS → Prop) (n : Nat) : Prop :=
  ∀ (X : Cx) (m : Loc), n ≤ X.n → opC prog w K X f as m S P E
theorem opC.opL {X : Cx} {f : Addr} {as : List V} {m : Loc} {S : MS} {P : V → MS → Prop} {E : V → MS → Prop} (h : opC prog w K X f as m S P E) : opL prog w K X (fun vs => call (.ref f) vs) as m S P E :=
  fun s r vs i rv => wpAny_call (h s r vs i rv)
end
section
variable {prog : Program} {w : World} {K : Frag} {S : MS} {P : V → MS → Prop} {E : V → MS → Prop}
theorem Ok.frames {X : Cx} (o : Ok K X) : X.A.frames = some (X.env :: X.outer) := Around.frames_deeper o.below.stack

theorem In.ground {X : Cx} {m : Loc} {r : Ro} {s : Shared} (I : In prog w K X m S r s) :
    ∃ mm, Fr X.g X.L s.heap mm ∧ (∀ x v, m x = some v → ∃ v', RV s.heap r v' v ∧ (match X.cl.lookup x with | some c => s.heap.IsCell c (some v') | none => mm x = some v')) ∧
      Fr X.g X.L (hideAll s.heap (r.map (·.2))) mm ∧ Below X.A X.base (X.env :: X.outer) (hideAll s.heap (r.map (·.2))) ∧ X.g.StaysIn (hideAll s.heap (r.map (·.2))) := by
  obtain ⟨mm, F, hm⟩ := I.fr
  have N : News X.g X.L s.heap (r.map fun p => (p.2, (s.heap.get? p.2).getD default)) := fun q hq => by
    obtain ⟨p, hp, rfl⟩ := List.mem_map.mp hq
    obtain ⟨l, hl⟩ := List.mem_iff_getElem?.mp hp
    obtain ⟨mo, _, ro⟩ := I.rep.at hl
    obtain ⟨o, ho, _⟩ := ro.mutAt
    exact ⟨by show s.heap.get? p.2 = some ((s.heap.get? p.2).getD default); rw [ho]; rfl, (I.new p hp).2.1, (I.new p hp).1⟩
  have G := groundX (R := fun _ _ => True) I.ok.below F N I.ok.frames rfl I.ok.kind
  rw [List.map_map] at G
  exact ⟨mm, F, hm, G.1, G.2.1, G.2.2.1⟩

theorem fn_introG (rel : Cx → Heap → Ro → Value → V → Prop) (hrel : ∀ {X X' : Cx} {h : Heap} {r : Ro} {v : Value} {b : V}, X'.base = X.base → X'.outer = X.env :: X.outer → rel X' h r v b → rel X h r v b) {f : Addr} {as : List V} {n : Nat} {name qual : Str} {params : Arguments} {body : List Stmt} {scope : Scope} {dV kV doc pm cdv ct oc : Value} {an od : Option Addr} {osl : Array (Option Value)} (ns : List Str)
    (ho : K.lookup f = some ⟨oc, od, .func (fnX name qual params body scope [] dV kV doc pm an cdv ct), osl⟩) (hcd : codeIn K cdv qual = true)
    (hb : ∀ vs : List Value, vs.length = as.length → ∀ s : Shared, K.In s.heap → BindsTo s (fnX name qual params body scope [] dV kV doc pm an cdv ct) ⟨vs, []⟩ (ns.zip vs))
    (hl : ∀ x ∈ ns, scope.names.lookup x = some .local) (hcell : ∀ x ∈ scope.names, x.2 ≠ .cell) (hco : scope.isCoroutine = false) (hgen : scope.isGenerator = false) (hk : scope.kind = .function)
    (h : ∀ A₀ base outer g L k, n ≤ k → ∀ s r, In prog w K ⟨A₀, base, outer, g, qual, scope, L, f, cdv, [], k, true, []⟩ (locOf ns as) S r s →
      wpAny (model prog w) (Cx.mk A₀ base outer g qual scope L f cdv [] k true []).A (execs body (Cx.mk A₀ base outer g qual scope L f cdv [] k true []).env)
        (fun fl s' => Post prog w K (rel ⟨A₀, base, outer, g, qual, scope, L, f, cdv, [], k, true, []⟩) ⟨A₀, base, outer, g, qual, scope, L, f, cdv, [], k, true, []⟩ s r (fun v _ S' => P v S') (match fl with | .ret v => v | _ => .none) s') (PostE prog w ⟨A₀, base, outer, g, qual, scope, L, f, cdv, [], k, true, []⟩ s r E) s)
    (X : Cx) (m : Loc) (hn : n + 1 ≤ X.n) (s : Shared) (r : Ro) (vs : List Value) (I : In prog w K X m S r s) (rvs : RVs s.heap r vs as) : codeAny (model prog w) X.A (.call (.ref f) ⟨vs, []⟩) (fun res s' => match res with
    | .ok (.ret v) => Post prog w K (rel X) X s r (fun v m' S' => m' = m ∧ P v S') v s' | .ok _ => False | .error e => PostE prog w X s r E e s') s := by
  obtain ⟨mm, F, hm, F', B', st⟩ := I.ground
  have hKf := I.kin _ _ ho
  obtain ⟨p, loose, mg, mb, T⟩ := I.ok.top
  have hd := I.ok.dA
  refine codeAny_call_def (fd := fnX name qual params body scope [] dV kV doc pm an cdv ct) (body := body) (binds := ns.zip vs) (by omega) hKf rfl (T.nolimit.keeps F.keep) (codeRec_of I.kin hcd) rfl
    (hb vs rvs.length _ I.kin) hcell (fun x hx => hl _ (List.of_mem_zip hx).1) (fun h₀ hns hks => ?_) hco hgen hk
  let X' : Cx := ⟨X.A, X.base, X.env :: X.outer, hideAll s.heap (r.map (·.2)), qual, scope, s.heap.objs.size, f, cdv, [], X.n - 1, true, []⟩
  have hlt : ∀ p ∈ r, p.2 < s.heap.objs.size := fun p hp => by
    obtain ⟨l, hl⟩ := List.mem_iff_getElem?.mp hp
    obtain ⟨mo, _, ro⟩ := I.rep.at hl
    obtain ⟨o, ho, _⟩ := ro.mutAt
    exact Heap.lt_size ho
  have I' : In prog w K X' (locOf ns as) S r { s with heap := h₀, toks := s.toks + (ns.zip vs).length } := by
    refine ⟨⟨B', I.ok.K.keeps st, ⟨p, loose, mg, mb, T.keeps st⟩, hk, ?_, ?_, I.ok.hand, List.nodup_nil, fun x c e => (nomatch e)⟩,
      ⟨_, ⟨hns, fun b o e => hks b o (of_hideAll _ e), Nat.le_of_eq (hideAll_size _ _)⟩, fun x v e => ?_⟩, fun x c e => (nomatch e), I.rep.keeps hks, fun p hp => ⟨hideAll_none _ (List.mem_map_of_mem hp), Nat.ne_of_lt (hlt p hp), (I.new p hp).2.2.1, nofun⟩, nofun⟩
    · have := I.ok.depth
      show X.A₀.depth + 1 + 4 * (X.n - 1) + 8 < _; omega
    · have := I.ok.units
      show X.A₀.units + 3 + 20 * (X.n - 1) + 60 < _; omega
    · obtain ⟨v', e', rv⟩ := (PR.zip (ns := ns) rvs).rev.lookup e
      exact ⟨v', rv.mono (.of_keeps hks) (.refl _), e'⟩
  have key : ∀ s' r' S' m', In prog w K X' m' S' r' s' → Ext X' { s with heap := h₀, toks := s.toks + (ns.zip vs).length } r s' r' → In prog w K X m S' r' s' ∧ Ext X s r s' r' := fun s' r' S' m' J x => by
    obtain ⟨mm', FJ, _⟩ := J.fr
    have kp : Kp s.heap s'.heap := (Kp.of_keeps hks).trans x.1
    have kL : ∀ b o, s.heap.get? b = some o → (∀ p ∈ r, p.2 ≠ b) → s'.heap.get? b = some o := fun b o e hr => FJ.keep b o (hideAll_get _ e fun z => by
      obtain ⟨p, hp, q⟩ := List.mem_map.mp z
      exact hr p hp q)
    have kc : ∀ x c, X.cl.lookup x = some c → ∀ p ∈ r, p.2 ≠ c := fun x c e p hp z => by
      obtain ⟨l, hl⟩ := List.mem_iff_getElem?.mp hp
      obtain ⟨mo, _, ro⟩ := I.rep.at hl
      obtain ⟨o, ho, hmu⟩ := ro.mutAt
      obtain ⟨u, oc, hoc, hdc⟩ := I.cells x c e
      rw [z, hoc] at ho; cases ho; exact hmu.2.1 _ hdc
    refine ⟨⟨I.ok, ⟨mm, F'.keeps FJ.keep, fun y v e => ?_⟩, fun y c e => ?_, J.rep, fun q hq => ⟨?_, fun z => ?_, (J.new q hq).2.2.1, fun z => ?_⟩, fun b hb => ?_⟩, kp, x.2.1, fun b o e a1 a2 a3 => ⟨o.slots, kL b o e (I.cls e a1), fun _ => rfl⟩, x.2.2.2.1, x.2.2.2.2.1, x.2.2.2.2.2⟩
    · obtain ⟨v', a, b⟩ := hm y v e
      refine ⟨v', a.mono kp x.2.1, ?_⟩
      split <;> rename_i q <;> rw [q] at b
      · obtain ⟨oc, hoc, hdc⟩ := b
        exact ⟨oc, kL _ _ hoc (kc y _ q), hdc⟩
      · exact b
    · obtain ⟨u, oc, hoc, hdc⟩ := I.cells y c e
      exact ⟨u, oc, kL _ _ hoc (kc y c e), hdc⟩
    · cases z : X.g.get? q.2 with
      | none => rfl
      | some o => have := (J.new q hq).1; rw [st _ _ z] at this; cases this
    · obtain ⟨⟨oL, _, _, hoL, _⟩, _, _⟩ := F'
      have := (J.new q hq).1
      rw [z, hoL] at this; cases this
    · obtain ⟨_, _, o, ho, _⟩ := I.kept _ z
      have h1 : X'.g.get? q.2 = some o := hideAll_get _ ho fun z2 => by
        obtain ⟨p, hp, q2⟩ := List.mem_map.mp z2
        exact I.cls ho (.inr (.inr (.inr z))) p hp q2
      have h2 := (J.new q hq).1
      rw [h1] at h2; cases h2
    · obtain ⟨a1, a2, o, ho, hd⟩ := I.kept b hb
      exact ⟨a1, a2, o, kL b o ho (I.cls ho (.inr (.inr (.inr hb)))), hd⟩
  refine wpAny_mono (h X.A X.base (X.env :: X.outer) (hideAll s.heap (r.map (·.2))) s.heap.objs.size (X.n - 1) (by omega) _ _ I') (fun fl s' hp => ?_) fun e s' hp => ?_
  · obtain ⟨b, m', S', r', J, x, q, pp⟩ := hp
    obtain ⟨J', x'⟩ := key s' r' S' m' J x
    exact done J' x' (hrel (X := X) (X' := X') rfl rfl q) ⟨rfl, pp⟩
  · obtain ⟨ball, S', r', R, x, pp⟩ := hp
    refine leaveR (X := X) (X' := X') I'.ok.frames rfl rfl R fun h' R' k => ?_
    refine ⟨ball, S', r', R', ⟨((Kp.of_keeps hks).trans x.1).trans k.kp, x.2.1, fun b o e a1 a2 a3 => ?_, x.2.2.2.1, x.2.2.2.2.1, x.2.2.2.2.2⟩, pp⟩
    obtain ⟨sl, e1, z1⟩ := x.2.2.1 b o (hks b o e) (.inr (.inr (.inl (by
      rw [show X'.g.get? b = some o from hideAll_get _ e fun z => by
        obtain ⟨p, hp, q⟩ := List.mem_map.mp z
        exact I.cls e a1 p hp q]
      exact nofun)))) (fun _ => ⟨Nat.ne_of_lt (Heap.lt_size e), fun y c z => (nomatch z)⟩) a3
    obtain ⟨sl2, e2, _, z2⟩ := k b _ e1 a3
    exact ⟨sl2, e2, fun z => (z2 z).trans (z1 z)⟩

theorem fn_introD {f : Addr} {as : List V} {n : Nat} {name qual : Str} {params : Arguments} {body : List Stmt} {scope : Scope} {dV kV doc pm cdv ct oc : Value} {an od : Option Addr} {osl : Array (Option Value)} (ns : List Str)
    (ho : K.lookup f = some ⟨oc, od, .func (fnX name qual params body scope [] dV kV doc pm an cdv ct), osl⟩) (hcd : codeIn K cdv qual = true)
    (hb : ∀ vs : List Value, vs.length = as.length → ∀ s : Shared, K.In s.heap → BindsTo s (fnX name qual params body scope [] dV kV doc pm an cdv ct) ⟨vs, []⟩ (ns.zip vs))
    (hl : ∀ x ∈ ns, scope.names.lookup x = some .local) (hcell : ∀ x ∈ scope.names, x.2 ≠ .cell) (hco : scope.isCoroutine = false) (hgen : scope.isGenerator = false) (hk : scope.kind = .function)
    (h : ∀ A₀ base outer g L k, n ≤ k → ss prog w K ⟨A₀, base, outer, g, qual, scope, L, f, cdv, [], k, true, []⟩ body (locOf ns as) S (fun fl _ S' => match fl with | .ret v => P v S' | .next => P .none S' | _ => False) E) :
    Fn prog w K f as S P E (n + 1) := fun X m hn s r vs I rvs =>
  fn_introG (fun _ => RV) (fun _ _ z => z) ns ho hcd hb hl hcell hco hgen hk (fun A₀ base outer g L k hk s r i => wpAny_mono (h A₀ base outer g L k hk s r i) (fun fl s' ⟨b, m', S', r', J, x, q, pp⟩ => by
    cases fl <;> cases b <;> first | exact q.elim | exact pp.elim | skip
    · exact done J x .none pp
    · exact done J x q pp) fun _ _ z => z) X m hn s r vs I rvs

theorem fn_intro {f : Addr} {as : List V} {n : Nat} {name qual : Str} {params : Arguments} {body : List Stmt} {scope : Scope} {dV kV doc pm cdv ct oc : Value} {an od : Option Addr} {osl : Array (Option Value)} (ns : List Str)
    (ho : K.lookup f = some ⟨oc, od, .func (fnX name qual params body scope [] dV kV doc pm an cdv ct), osl⟩) (hcd : codeIn K cdv qual = true)
    (hb : ∀ vs : List Value, vs.length = as.length → bindArgs (fnX name qual params body scope [] dV kV doc pm an cdv ct) ⟨vs, []⟩ = pure (ns.zip vs))
    (hl : ∀ x ∈ ns, scope.names.lookup x = some .local) (hcell : ∀ x ∈ scope.names, x.2 ≠ .cell) (hco : scope.isCoroutine = false) (hgen : scope.isGenerator = false) (hk : scope.kind = .function)
    (h : ∀ A₀ base outer g L k, n ≤ k → ss prog w K ⟨A₀, base, outer, g, qual, scope, L, f, cdv, [], k, true, []⟩ body (locOf ns as) S (fun fl _ S' => match fl with | .ret v => P v S' | .next => P .none S' | _ => False) E) :
    Fn prog w K f as S P E (n + 1) := fn_introD ns ho hcd (fun vs hv _ _ => .of_eq (hb vs hv)) hl hcell hco hgen hk h

theorem Fn.mono {f : Addr} {as : List V} {n n' : Nat} {P' : V → MS → Prop} {E' : V → MS → Prop} (h : Fn prog w K f as S P E n) (hn : n ≤ n') (hp : ∀ v S', P v S' → P' v S') (he : ∀ b S', E b S' → E' b S') : Fn prog w K f as S P' E' n' :=
  fun X m hx s r vs i rv => codeAny_mono (h X m (Nat.le_trans hn hx) s r vs i rv) fun res s' z => by
    rcases res with e | (v | _ | _ | _) <;> first | exact z.elim | skip
    · obtain ⟨b, S', r', i, e', p⟩ := z; exact ⟨b, S', r', i, e', he _ _ p⟩
    · obtain ⟨b, m', S', r', i, e, q, z, p⟩ := z; exact ⟨b, m', S', r', i, e, q, z, hp _ _ p⟩
end
end Mine

namespace Mine

section
variable {prog : Program} {w : World} {K : Frag} {X : Cx} {m : Loc} {S : MS} {P : V → MS → Prop} {E : V → MS → Prop}

theorem RV.handed {h : Heap} {r : Ro} {v : Value} {x : V} (rv : RV h r v x) : handedIn v = true := by cases rv <;> rfl

/-! displays -/
theorem ex_tuple {l : List Expr} {k : Nat} {pos : Pos} (hb : backTo pos (starEach l X.env) = starEach l X.env) (hz : l.length ≤ 100) (h : es prog w K X l m S (fun vs S' => vs.length ≤ 1000 ∧ P (.tup vs) S') E) : ex prog w K X (.Tuple l k pos) m S P E := fun s ro i => by
  refine wpAny_Tuple ?_
  rw [hb]
  refine step .refl (h s ro i) fun vs as m1 S1 r1 s1 i1 e1 _ q1 p1 => ?_
  obtain ⟨rfl, hn, p1⟩ := p1
  have kk : ∀ b o, s1.heap.get? b = some o → (s1.heap.push { cls := .type "tuple", data := .seq vs.toArray }).get? b = some o := fun b o => Heap.get?_push_of_some _
  have hl := q1.length
  refine ⟨by rw [sizeLine_eq]; omega, done (i1.keeps kk) (e1.trans (.grow (t := s1.toks) kk)) (.tup (Heap.get?_push_size _ rfl) rfl rfl (q1.mono (.of_keeps kk) (.refl _))) ⟨rfl, p1⟩⟩
theorem ex_list {l : List Expr} {pos : Pos} (hb : backTo pos (starEach l X.env) = starEach l X.env) (h : es prog w K X l m S (fun vs S' => vs.length ≤ 1000 ∧ P (.loc S'.length) (S' ++ [.list vs])) E) : ex prog w K X (.List l pos) m S P E := fun s ro i => by
  refine wpAny_List ?_
  rw [hb]
  refine step .refl (h s ro i) fun vs as m1 S1 r1 s1 i1 e1 _ q1 p1 => ?_
  obtain ⟨rfl, hn, p1⟩ := p1
  have kk : ∀ b o, s1.heap.get? b = some o → (s1.heap.push { cls := .type "list", data := .seq vs.toArray }).get? b = some o := fun b o => Heap.get?_push_of_some _
  have hl := q1.length
  refine ⟨by rw [sizeLine_eq]; omega, done (r' := r1 ++ [(s1.heap.objs.size, s1.heap.objs.size)]) (i1.add (p := (s1.heap.objs.size, s1.heap.objs.size)) (mo := .list as) kk (Nat.le_refl _) ⟨rfl, vs.toArray, ⟨0, Heap.get?_push_size _ rfl⟩, q1.mono (.of_keeps kk) (.app _ _)⟩) (e1.trans (.growAdd (t := s1.toks) kk)) (.loc (d := s1.heap.objs.size) ?_) ⟨rfl, p1⟩⟩
  rw [← i1.rep.1, List.getElem?_append_right (Nat.le_refl _), Nat.sub_self]; rfl
theorem hnew (h : Heap) : h.get? h.objs.size = none := by
  cases q : h.get? h.objs.size with
  | none => rfl
  | some o => exact absurd (Heap.lt_size q) (Nat.lt_irrefl _)
theorem In.newLoc {r : Ro} {s : Shared} (i : In prog w K X m S r s) (p : Addr × Addr) : (r ++ [p])[S.length]? = some p := by
  rw [← i.rep.1, List.getElem?_append_right (Nat.le_refl _), Nat.sub_self]; rfl
/-- an empty dict, of one kind of keys or the other -/
theorem ex_sdict {pos : Pos} (h : P (.loc S.length) (S ++ [.sdict []])) : ex prog w K X (.Dict [] [] pos) m S P E := fun s ro i => by
  have kk : ∀ b o, s.heap.get? b = some o → (s.heap.push { cls := .type "dict", data := .dict #[] }).get? b = some o := fun b o => Heap.get?_push_of_some _
  refine wpAny_Dict_empty (done (r' := ro ++ [(s.heap.objs.size, s.heap.objs.size)]) (i.add (p := (s.heap.objs.size, s.heap.objs.size)) (mo := .sdict []) kk (Nat.le_refl _) ⟨rfl, [], ⟨_, #[], 0, Heap.get?_push_size _ rfl, ⟨rfl, rfl, rfl⟩, rfl, fun _ he => by simp at he, .nil, List.nodup_nil⟩, .nil⟩) (.growAdd (t := s.toks) kk) (.loc (d := s.heap.objs.size) (i.newLoc _)) ⟨rfl, h⟩)
theorem ex_tdict {pos : Pos} (h : P (.loc S.length) (S ++ [.tdict []])) : ex prog w K X (.Dict [] [] pos) m S P E := fun s ro i => by
  have kk : ∀ b o, s.heap.get? b = some o → (s.heap.push { cls := .type "dict", data := .dict #[] }).get? b = some o := fun b o => Heap.get?_push_of_some _
  refine wpAny_Dict_empty (done (r' := ro ++ [(s.heap.objs.size, s.heap.objs.size)]) (i.add (p := (s.heap.objs.size, s.heap.objs.size)) (mo := .tdict []) kk (Nat.le_refl _) ⟨rfl, [], Heap.DictOfH.new _, .nil⟩) (.growAdd (t := s.toks) kk) (.loc (d := s.heap.objs.size) (i.newLoc _)) ⟨rfl, h⟩)

/-! attributes of a made thing -/
theorem In.inst {r : Ro} {s : Shared} {l : Nat} {C : Addr} {fs : List (Str × V)} (i : In prog w K X m S r s) (hl : S[l]? = some (.inst C fs)) {a : Value} (rv : RV s.heap r a (.loc l)) :
    ∃ x dx sl es n, a = .ref x ∧ r[l]? = some (x, dx) ∧ InstAt s.heap x ⟨.ref C, some dx, .plain, sl⟩ C (some (dictOf es n)) ∧ es.length ≤ fs.length ∧ FieldsAre s.heap r es fs ∧ s.heap.get? dx = some (dictOf es n) := by
  obtain ⟨p, hp, ⟨sl, hx⟩, es, n, hd, hz, hf⟩ := i.rep.2.2 l _ hl
  cases rv with
  | loc e =>
    rw [hp] at e
    cases e
    exact ⟨_, _, sl, es, n, rfl, hp, ⟨hx, rfl, rfl, hd⟩, hz, hf, hd⟩
theorem ex_attr {o : Expr} {attr : Str} {pos : Pos} {at' : Option Value} {C : Addr} (he : eval (.Attribute o attr pos) X.env = (do
      let v ← eval o X.env
      standAt pos.atName
      let r ← holding [v] (getAttr v attr true)
      letTemporaryGo o v r
      pure r)) (hg : plainGet K C attr = true) (hh : hasDictIn K C = true) (ha : findIn K (.ref C) attr = some at') (hn : noGet K at' = true)
    (h : ex prog w K X o m S (fun ov S' => ∃ l fs v, ov = .loc l ∧ S'[l]? = some (.inst C fs) ∧ fs.lookup attr = some v ∧ P v S') E) : ex prog w K X (.Attribute o attr pos) m S P E := fun s ro i => by
  refine Attribute_any_ (step .refl (h s ro i) fun ov a m1 S1 r1 s1 i1 e1 _ q1 p1 => ?_) he
  obtain ⟨rfl, l, fs, v, rfl, hl, hv, p1⟩ := p1
  obtain ⟨x, dx, sl, es, n, rfl, hr, I, hz, hf, hd⟩ := i1.inst hl q1
  obtain ⟨mm, F, _⟩ := i1.fr
  have z := hf.2 attr
  rw [hv] at z
  obtain ⟨v', g, rv⟩ := z
  exact get_own F i1.ok.K I hg hh ha hn g rv.handed (done i1.toks (e1.trans (.grow fun _ _ e => e)) rv ⟨rfl, p1⟩)

/-! calls -/
theorem callF {f : Addr} {l : List Expr} {pos cpos : Pos} {first : List Value} {fa : List V} {s₀ s : Shared} {r₀ r : Ro} (i : In prog w K X m S r s) (e₀ : Ext X s₀ r₀ s r) (rf : RVs s.heap r first fa) (hk : keepIn K (.ref f) = true) (hb : backTo pos (starEach l X.env) = starEach l X.env)
    (hs : l = [] ∨ ∃ e rest, l = e :: rest ∧ starEach (e :: rest) X.env = (false, eval e X.env) :: starEach rest X.env ∧ (backTo pos (starEach rest X.env)).any (·.1) = false)
    (h : es prog w K X l m S (fun as S' => opL prog w K X (fun vs => call (.ref f) vs) (fa ++ as) m S' P E) E) :
    wpAny (model prog w) X.A (callWith cpos (.ref f) first (backTo pos (starEach l X.env)) []) (Post prog w K RV X s₀ r₀ fun v m' S' => m' = m ∧ P v S') (PostE prog w X s₀ r₀ E) s := by
  rcases hs with rfl | ⟨e, rest, rfl, he, hpl⟩
  · have h' := h s r i
    refine callWith_of (P := K.In) rfl (keeps_K hk) (evalArgs_nil3 ?_)
    refine ⟨i.kin, ?_⟩
    have h2 : wpAny (model prog w) X.A (pure []) (Post prog w K RVs X s r fun as m' S' => m' = m ∧ opL prog w K X (fun vs => call (.ref f) vs) (fa ++ as) m S' P E) (PostE prog w X s r E) s := h'
    have h3 := step (R := fun vs s' => wpAny (model prog w) X.A (call (.ref f) (first ++ vs)) (Post prog w K RV X s₀ r₀ fun v m' S' => m' = m ∧ P v S') (PostE prog w X s₀ r₀ E) s') e₀ h2 fun vs as m1 S1 r1 s1 i1 e1 e1' q1 p1 => by
      obtain ⟨rfl, p1⟩ := p1
      exact last e1 (p1 s1 r1 _ i1 ((rf.mono e1'.1 e1'.2.1).app q1))
    intro Γ p hΓ
    exact h3 Γ p hΓ Γ p hΓ
  · have hplain : ((backTo pos (starEach (e :: rest) X.env)).any (·.1) || ([] : List (Option Str × Sem Value)).any (·.1.isNone)) = false := by
      rw [he]; show ((false || (backTo pos (starEach rest X.env)).any (·.1)) || false) = false; rw [hpl]; rfl
    refine callWith_of (P := K.In) hplain (keeps_K hk) ?_
    rw [hb, he]
    refine PySem.Calls.evalArgs_plain ?_
    rw [← he]
    refine step e₀ (h s r i) fun vs as m1 S1 r1 s1 i1 e1 e1' q1 p1 => ?_
    obtain ⟨rfl, p1⟩ := p1
    exact ⟨i1.kin, last e1 (p1 s1 r1 _ i1 ((rf.mono e1'.1 e1'.2.1).app q1))⟩

/-- the arguments are plain -/
noncomputable def Plain (X : Cx) (pos : Pos) (l : List Expr) : Prop := backTo pos (starEach l X.env) = starEach l X.env ∧
  (l = [] ∨ ∃ e rest, l = e :: rest ∧ starEach (e :: rest) X.env = (false, eval e X.env) :: starEach rest X.env ∧ (backTo pos (starEach rest X.env)).any (·.1) = false)
theorem Plain.nil {pos : Pos} : Plain X pos [] := ⟨rfl, .inl rfl⟩
theorem Plain.cons {pos : Pos} {e : Expr} {l : List Expr} (hs : starEach (e :: l) X.env = (false, eval e X.env) :: starEach l X.env) (h : Plain X pos l) : Plain X pos (e :: l) := by
  refine ⟨?_, .inr ⟨e, l, rfl, hs, ?_⟩⟩
  · rw [hs]; show (false, eval e X.env) :: backTo pos (starEach l X.env) = _; rw [h.1]
  · rcases h.2 with rfl | ⟨e', r', rfl, h1, h2⟩
    · rfl
    · rw [h1]; show (false || (backTo pos (starEach r' X.env)).any (·.1)) = false; rw [h2]; rfl

/-- a def of the text by its name -/
theorem ex_call {x : Str} {np pos : Pos} {l : List Expr} {f : Addr} (hx : X.cs.names.lookup x = some .globalImplicit) (he : nsIn K mainGlobals x = some (some (.ref f))) (hd : (x == ("__debug__" : Str)) = false) (hk : keepIn K (.ref f) = true) (hp : Plain X pos l)
    (h : es prog w K X l m S (fun as S' => Fn prog w K f as S' P E X.n) E) : ex prog w K X (.Call (.Name x np) l [] pos) m S P E := fun s ro i => by
  refine wpAny_Call_ofName (wp_glob i hx he hd ?_)
  exact callF i .refl .nil hk hp.1 hp.2 (aw.mono h (fun _ _ _ z => ⟨z.1, (z.2 X m (Nat.le_refl _)).opL⟩) fun _ _ z => z)

/-- a method of a made thing -/
theorem ex_meth {o : Expr} {name : Str} {apos pos : Pos} {l : List Expr} {f C : Addr} (hbase : ∀ env, attributeBase o name env (eval o env) = eval o env) (hline : (apos.endLine == pos.line) = true) (hform : methodCallForm l.length (starEach l X.env) [] = true)
    (hg : plainGet K C name = true) (hf : findIn K (.ref C) name = some (some (.ref f))) (ht : isFn K (.ref f) = true) (hk : keepIn K (.ref f) = true) (hp : Plain X pos l)
    (h : ex prog w K X o m S (fun ov S1 => ∃ n fs, ov = .loc n ∧ S1[n]? = some (.inst C fs) ∧ fs.lookup name = none ∧ es prog w K X l m S1 (fun as S' => Fn prog w K f (.loc n :: as) S' P E X.n) E) E) :
    ex prog w K X (.Call (.Attribute o name apos) l [] pos) m S P E := fun s ro i => by
  show wpAny _ _ (do
    let ov ← attributeBase o name X.env (eval o X.env)
    standAt apos.atName
    methodCall o name apos pos X.env ov (l.length + ([] : List Keyword).length) (backTo pos (starEach l X.env)) (backToKw pos (keywordEach [] X.env))) _ _ _
  rw [hbase]
  refine wpAny_bind (step .refl (h s ro i) fun ov a m1 S1 r1 s1 i1 e1 _ q1 p1 => ?_)
  obtain ⟨rfl, n, fs, rfl, hl, hfs, p1⟩ := p1
  obtain ⟨y, dx, sl, es', n', rfl, hr, I, hz, hfa, hd⟩ := i1.inst hl q1
  obtain ⟨mm, F, _⟩ := i1.fr
  refine wpAny_bind (wpAny_standAt ?_)
  have hpos : methodCallPos true o X.env apos pos = pure pos := by unfold methodCallPos; simp [hline]
  have hform' : methodCallForm (l.length + ([] : List Keyword).length) (backTo pos (starEach l X.env)) (backToKw pos (keywordEach [] X.env)) = true := by rw [hp.1]; exact hform
  unfold methodCall
  rw [hform']
  have z := hfa.2 name
  rw [hfs] at z
  refine wpAny_bind (wpAny_holding (method_inst F i1.ok.K I hg hf ht z ?_))
  refine wpAny_bind (wpAny_of_eq hpos ?_)
  exact callF (fa := [.loc n]) i1 e1 (.cons q1 .nil) hk hp.1 hp.2 (aw.mono p1 (fun _ _ _ z => ⟨z.1, (z.2 X m1 (Nat.le_refl _)).opL⟩) fun _ _ z => z)

/-- a thing made -/
theorem under_tc (A₀ : Around) (env : Env) (C : Addr) (rest : List Value) : (A₀.deeper env).under (.builtin "type.__call__" ⟨.ref C :: rest, []⟩) =
    ({ A₀ with depth := A₀.depth + 1, units := A₀.units + (Code.builtin "type.__call__" ⟨.ref C :: rest, []⟩).cUnits } : Around).deeper env := by
  obtain ⟨hd, d, fr, gs, u⟩ := A₀
  have h1 : (Code.builtin "type.__call__" ⟨.ref C :: rest, []⟩).weight = 1 := rfl
  have h2 : (Code.builtin "type.__call__" ⟨.ref C :: rest, []⟩).envs = [] := rfl
  have h3 : (Code.builtin "type.__call__" ⟨.ref C :: rest, []⟩).guards = [] := rfl
  simp only [Around.under, Around.deeper, h1, h2, h3, pushEnvs, pushGuards]
  congr 1

theorem opL_new {C fI : Addr} {as : List V} (hm : makesIn K C = true) (hi : findIn K (.ref C) "__init__" = some (some (.ref fI))) (hf : typeIn K (.ref fI) = some (.type "function")) (hn : 0 < X.n)
    (h : Fn prog w K fI (.loc S.length :: as) (S ++ [.inst C []]) (fun v S2 => v = .none ∧ P (.loc S.length) S2) E (X.n - 1)) : opL prog w K X (fun vs => call (.ref C) vs) as m S P E := fun s r vs i rvs => by
  obtain ⟨hh, g, d, t, os⟩ := s
  have hk := i.kin
  have kk : ∀ b o, hh.get? b = some o → ((hh.push emptyDict).push (instObj C hh.objs.size)).get? b = some o := fun b o e => Heap.get?_push_of_some _ (Heap.get?_push_of_some _ e)
  let X2 : Cx := { X with A₀ := { X.A₀ with depth := X.A₀.depth + 1, units := X.A₀.units + (Code.builtin "type.__call__" ⟨.ref C :: vs, []⟩).cUnits }, n := X.n - 1 }
  have hx : ((hh.push emptyDict).push (instObj C hh.objs.size)).get? (hh.objs.size + 1) = some (instObj C hh.objs.size) := by
    have := Heap.get?_push_size (hh.push emptyDict) (o := instObj C hh.objs.size) rfl
    rwa [Heap.size_push] at this
  have hd : ((hh.push emptyDict).push (instObj C hh.objs.size)).get? hh.objs.size = some emptyDict := Heap.get?_push_of_some _ (Heap.get?_push_size _ rfl)
  have I1 : In prog w K X m (S ++ [.inst C []]) (r ++ [(hh.objs.size + 1, hh.objs.size)]) ⟨(hh.push emptyDict).push (instObj C hh.objs.size), g, d, t, os⟩ := by
    refine i.add (p := (hh.objs.size + 1, hh.objs.size)) kk (Nat.le_refl _) ?_
    exact ⟨⟨#[], hx⟩, [], 0, hd, Nat.zero_le _, fun _ he => (nomatch he), fun x => rfl⟩
  have I2 : In prog w K X2 m (S ++ [.inst C []]) (r ++ [(hh.objs.size + 1, hh.objs.size)]) ⟨(hh.push emptyDict).push (instObj C hh.objs.size), g, d, t, os⟩ := by
    obtain ⟨⟨b, k1, tp, kd, dp, un, hd', cn, cf⟩, f1, c1, rp, nw, kp⟩ := I1
    refine ⟨⟨⟨b.stack, b.stays, b.frames⟩, k1, tp, kd, ?_, ?_, hd', cn, cf⟩, f1, c1, rp, nw, kp⟩
    · show X.A₀.depth + 1 + 4 * (X.n - 1) + 8 < _; omega
    · show X.A₀.units + 1 + 20 * (X.n - 1) + 60 < _; omega
  have x1 : Ext X ⟨hh, g, d, t, os⟩ r ⟨(hh.push emptyDict).push (instObj C hh.objs.size), g, d, t, os⟩ (r ++ [(hh.objs.size + 1, hh.objs.size)]) := .growAdd (s := ⟨hh, g, d, t, os⟩) kk
  refine wpAny_call (make_core (makes_of hk hm) (looks_findIn hk hi) (fun self => bind_fn hk self hf) (.inl rfl) ?_)
  rw [under_tc]
  refine codeAny_mono (h X2 m (Nat.le_refl _) _ _ (.ref (hh.objs.size + 1) :: vs) I2 (.cons (.loc (d := hh.objs.size) (i.newLoc _)) (rvs.mono (.of_keeps kk) (.app _ _)))) fun res s' z => ?_
  rcases res with e | (v | _ | _ | _) <;> first | exact z.elim | skip
  · exact PostE.after (X := X) x1 z
  · obtain ⟨b, m', S', r', J, x2, q, rfl, rfl, pp⟩ := z
    cases q
    refine ⟨rfl, ?_⟩
    obtain ⟨_, f1, c1, rp, nw, kp⟩ := J
    exact done (X := X) (K := K) ⟨i.ok, f1, c1, rp, nw, kp⟩ (x1.trans (X := X) x2) (.loc (d := hh.objs.size) (x2.2.1 _ _ (i.newLoc _))) ⟨rfl, pp⟩
/-- a class of the text by its name -/
theorem ex_new {x : Str} {np pos : Pos} {l : List Expr} {C fI : Addr} (hx : X.cs.names.lookup x = some .globalImplicit) (he : nsIn K mainGlobals x = some (some (.ref C))) (hd : (x == ("__debug__" : Str)) = false) (hk : keepIn K (.ref C) = true) (hp : Plain X pos l)
    (hm : makesIn K C = true) (hi : findIn K (.ref C) "__init__" = some (some (.ref fI))) (hf : typeIn K (.ref fI) = some (.type "function")) (hn : 0 < X.n)
    (h : es prog w K X l m S (fun as S' => Fn prog w K fI (.loc S'.length :: as) (S' ++ [.inst C []]) (fun v S2 => v = .none ∧ P (.loc S'.length) S2) E (X.n - 1)) E) : ex prog w K X (.Call (.Name x np) l [] pos) m S P E := fun s ro i => by
  refine wpAny_Call_ofName (wp_glob i hx he hd ?_)
  exact callF i .refl .nil hk hp.1 hp.2 (aw.mono h (fun _ _ _ z => ⟨z.1, opL_new hm hi hf hn z.2⟩) fun _ _ z => z)

/-! statements -/
theorem ss_nil {P : Fl → Loc → MS → Prop} (h : P .next m S) : ss prog w K X [] m S P E := fun s ro i => wpAny_execs_nil (done (b := Fl.next) i .refl trivial h)
theorem ss_cons {P : Fl → Loc → MS → Prop} {st : Stmt} {l : List Stmt} (h : sx prog w K X st m S (fun f m' S' => match f with | .next => ss prog w K X l m' S' P E | f => P f m' S') E) : ss prog w K X (st :: l) m S P E := fun s ro i => by
  refine wpAny_execs_cons (step .refl (h s ro i) fun f b m1 S1 r1 s1 i1 e1 _ q1 p1 => ?_)
  cases f <;> cases b <;> first | exact q1.elim | skip
  · exact last e1 (p1 s1 r1 i1)
  · exact done i1 e1 q1 p1
  · exact done i1 e1 q1 p1
  · exact done i1 e1 q1 p1
theorem sx_if {P : Fl → Loc → MS → Prop} {t : Expr} {b o : List Stmt} {pos : Pos} (h : te prog w K X t m S (fun c S' => if c = true then ss prog w K X b m S' P E else ss prog w K X o m S' P E) E) : sx prog w K X (.If t b o pos) m S P E := fun s ro i => by
  refine wpAny_If (step .refl (h s ro i) fun va a m1 S1 r1 s1 i1 e1 _ q1 p1 => ?_)
  obtain ⟨rfl, p1⟩ := p1
  cases q1
  cases va
  · exact last e1 (p1 s1 r1 i1)
  · exact last e1 (p1 s1 r1 i1)
theorem sx_return {P : Fl → Loc → MS → Prop} {e : Expr} {pos : Pos} (h : ex prog w K X e m S (fun v S' => P (.ret v) m S') E) : sx prog w K X (.Return (some e) pos) m S P E := fun s ro i => by
  refine wpAny_Return_some (step .refl (h s ro i) fun va a m1 S1 r1 s1 i1 e1 _ q1 p1 => ?_)
  obtain ⟨rfl, p1⟩ := p1
  exact done (a := Flow.ret va) (b := Fl.ret a) i1 e1 q1 p1
theorem sx_break {P : Fl → Loc → MS → Prop} {pos : Pos} (h : P .brk m S) : sx prog w K X (.Break pos) m S P E := fun s ro i => wpAny_Break (done (b := Fl.brk) i .refl trivial h)
theorem sx_expr {P : Fl → Loc → MS → Prop} {e : Expr} {pos : Pos} (h : ex prog w K X e m S (fun _ S' => P .next m S') E) (hi : interactive X.env = false) (hs : swapsWith e none pos.line X.env = pure false) : sx prog w K X (.Expr e pos) m S P E := fun s ro i => by
  refine wpAny_Expr_any (step .refl (h s ro i) fun va a m1 S1 r1 s1 i1 e1 _ q1 p1 => ?_) hi hs
  obtain ⟨rfl, p1⟩ := p1
  exact done (b := Fl.next) i1 e1 trivial p1
theorem wp_store (hO : X.own = true) {x : Str} {va : Value} {a : V} {s : Shared} {r : Ro} {E' : Value → Shared → Prop} {Q : Unit → Shared → Prop} (i : In prog w K X m S r s) (q : RV s.heap r va a) (hx : X.cs.names.lookup x = some .local) (hc : X.cl.lookup x = none)
    (h : ∀ h', In prog w K X (upd m x a) S r { s with heap := h', toks := s.toks + 1 } → Ext X s r { s with heap := h', toks := s.toks + 1 } r → Q () { s with heap := h', toks := s.toks + 1 }) : wpAny (model prog w) X.A (storeName X.env x va) Q E' s := by
  obtain ⟨mm, F, _⟩ := i.fr
  obtain ⟨oL, hoL, _, hfL⟩ := i.Lat
  refine wpAny_storeName_local hx F.ns (fun h' hn hs => h h' (i.local hc q mm F.ns hs hn) (.but hs (fun o ho => by rw [hoL] at ho; cases ho; exact hfL) fun o ho _ z => (z hO).1 rfl)) (by show (X.cs.kind == .class || (X.cs.kind == .module && X.L != mainGlobals)) = false; rw [i.ok.kind]; rfl)
theorem wp_storeC (hO : X.own = true) {x : Str} {c : Addr} {va : Value} {a : V} {s : Shared} {r : Ro} {E' : Value → Shared → Prop} {Q : Unit → Shared → Prop} (i : In prog w K X m S r s) (q : RV s.heap r va a) (hx : X.cs.names.lookup x = some .cell) (hc : X.cl.lookup x = some c)
    (h : ∀ h', In prog w K X (upd m x a) S r { s with heap := h' } → Ext X s r { s with heap := h' } r → Q () { s with heap := h' }) : wpAny (model prog w) X.A (storeName X.env x va) Q E' s := by
  obtain ⟨v₀, hv⟩ := i.cells x c hc
  obtain ⟨oc, hoc, hdc⟩ := hv
  refine wpAny_storeName_cell i.ok.kind hx hc ⟨oc, hoc, hdc⟩ fun h' hn hs => h h' (i.cell hc q hs hn) (.but (t := s.toks) hs (fun o ho => ?_) fun o ho _ z => (z hO).2 x c hc rfl)
  rw [hoc] at ho; cases ho; unfold frozen; rw [hdc]
theorem sx_assign (hO : X.own = true) {P : Fl → Loc → MS → Prop} {x : Str} {px pos : Pos} {e : Expr} (hx : X.cs.names.lookup x = some .local) (hc : X.cl.lookup x = none) (hs : swapsWith e (some (.Name x px)) pos.line X.env = pure false) (h : ex prog w K X e m S (fun v S' => P .next (upd m x v) S') E) :
    sx prog w K X (.Assign [.Name x px] e pos) m S P E := fun s ro i => by
  refine wpAny_Assign_Name (step .refl (h s ro i) fun va a m1 S1 r1 s1 i1 e1 _ q1 p1 => ?_) hs
  obtain ⟨rfl, p1⟩ := p1
  exact wp_store hO i1 q1 hx hc fun h' i2 e2 => done (b := Fl.next) i2 (e1.trans e2) trivial p1
theorem sx_assignC (hO : X.own = true) {P : Fl → Loc → MS → Prop} {x : Str} {c : Addr} {px pos : Pos} {e : Expr} (hx : X.cs.names.lookup x = some .cell) (hc : X.cl.lookup x = some c) (hs : swapsWith e (some (.Name x px)) pos.line X.env = pure false) (h : ex prog w K X e m S (fun v S' => P .next (upd m x v) S') E) :
    sx prog w K X (.Assign [.Name x px] e pos) m S P E := fun s ro i => by
  refine wpAny_Assign_Name (step .refl (h s ro i) fun va a m1 S1 r1 s1 i1 e1 _ q1 p1 => ?_) hs
  obtain ⟨rfl, p1⟩ := p1
  exact wp_storeC hO i1 q1 hx hc fun h' i2 e2 => done (b := Fl.next) i2 (e1.trans e2) trivial p1
end
end Mine

namespace Mine

/-! equality of plain values -/
mutual
noncomputable def V.py : V → PyData
  | .none => .none
  | .bool b => .bool b
  | .int i => .int i
  | .str x => .str x
  | .tup xs => .tuple (V.pys xs)
  | .loc _ => .none
  | .typ _ => .none
noncomputable def V.pys : List V → List PyData
  | [] => []
  | x :: xs => V.py x :: V.pys xs
end
mutual
/-- no bool, no place, text of real signs -/
noncomputable def V.pure : V → Bool
  | .none => true
  | .bool _ => false
  | .int _ => true
  | .str x => PyData.strOk x
  | .tup xs => V.pures xs
  | .loc _ => false
  | .typ _ => false
noncomputable def V.pures : List V → Bool
  | [] => true
  | x :: xs => V.pure x && V.pures xs
end
theorem RV.reads {h : Heap} {r : Ro} {v : Value} {x : V} (R : RV h r v x) : V.pure x = true → ∃ as, Reads h v x.py as :=
  @RV.rec h r (fun v x _ => V.pure x = true → ∃ as, Reads h v x.py as) (fun vs xs _ => V.pures xs = true → ∃ as, ReadsAll h vs (V.pys xs) as)
    (fun _ => ⟨_, .none⟩) (fun _ e => by cases e) (fun i t _ => ⟨_, .int i t⟩) (fun x t _ => ⟨_, .str x t⟩) (fun e c d _ ih p => by obtain ⟨as, q⟩ := ih p; exact ⟨as, .tuple e c d q⟩) (fun _ p => by cases p) (fun _ p => by cases p)
    (fun _ => ⟨_, .nil⟩) (fun _ _ i1 i2 p => by
      have q := Bool.and_eq_true_iff.mp p
      obtain ⟨as, h1⟩ := i1 q.1
      obtain ⟨bs, h2⟩ := i2 q.2
      exact ⟨_, .cons h1 h2⟩) _ _ R
mutual
theorem V.lay : ∀ x : V, V.pure x = true → x.py.canLay0 = true
  | .none, _ => rfl
  | .int _, _ => rfl
  | .str x, e => by simpa [V.py, V.pure, PyData.canLay0] using e
  | .tup xs, e => by
    have := V.lays xs (by simpa [V.pure] using e)
    simpa [V.py, PyData.canLay0] using this
theorem V.lays : ∀ xs : List V, V.pures xs = true → PyData.canLayAll0 (V.pys xs) = true
  | [], _ => rfl
  | x :: xs, e => by
    have q := Bool.and_eq_true_iff.mp e
    show (PyData.canLay0 x.py && PyData.canLayAll0 (V.pys xs)) = true
    rw [V.lay x q.1, V.lays xs q.2]; rfl
end
mutual
theorem V.eqv : ∀ x y : V, V.pure x = true → V.pure y = true → (PyData.eqv x.py y.py = true ↔ x = y)
  | .none, .none, _, _ => by simp [V.py, PyData.eqv]
  | .none, .int _, _, _ => by simp [V.py, PyData.eqv]
  | .none, .str _, _, _ => by simp [V.py, PyData.eqv]
  | .none, .tup _, _, _ => by simp [V.py, PyData.eqv]
  | .int _, .none, _, _ => by simp [V.py, PyData.eqv]
  | .int _, .int _, _, _ => by simp [V.py, PyData.eqv]
  | .int _, .str _, _, _ => by simp [V.py, PyData.eqv]
  | .int _, .tup _, _, _ => by simp [V.py, PyData.eqv]
  | .str _, .none, _, _ => by simp [V.py, PyData.eqv]
  | .str _, .int _, _, _ => by simp [V.py, PyData.eqv]
  | .str _, .str _, _, _ => by simp [V.py, PyData.eqv]
  | .str _, .tup _, _, _ => by simp [V.py, PyData.eqv]
  | .tup _, .none, _, _ => by simp [V.py, PyData.eqv]
  | .tup _, .int _, _, _ => by simp [V.py, PyData.eqv]
  | .tup _, .str _, _, _ => by simp [V.py, PyData.eqv]
  | .tup xs, .tup ys, a, b => by
    simp only [V.py, PyData.eqv, V.tup.injEq]
    exact V.eqvs xs ys a b
theorem V.eqvs : ∀ xs ys : List V, V.pures xs = true → V.pures ys = true → (PyData.eqvAll (V.pys xs) (V.pys ys) = true ↔ xs = ys)
  | [], [], _, _ => by simp [V.pys, PyData.eqvAll]
  | [], _ :: _, _, _ => by simp [V.pys, PyData.eqvAll]
  | _ :: _, [], _, _ => by simp [V.pys, PyData.eqvAll]
  | x :: xs, y :: ys, a, b => by
    have p := Bool.and_eq_true_iff.mp a
    have q := Bool.and_eq_true_iff.mp b
    simp only [V.pys, PyData.eqvAll, Bool.and_eq_true, List.cons.injEq]
    exact and_congr (V.eqv x y p.1 q.1) (V.eqvs xs ys p.2 q.2)
end

section
variable {prog : Program} {w : World} {K : Frag} {X : Cx} {m : Loc} {S : MS} {P : V → MS → Prop} {E : V → MS → Prop}

theorem op_eq {a b : V} (ha : V.pure a = true) (hb : V.pure b = true) (hd : min a.py.depth b.py.depth ≤ 20) (h1 : a = b → P (.bool true) S) (h2 : a ≠ b → P (.bool false) S) : op2 prog w K X (compareOp .Eq) a b m S P E := fun s r va vb i ra rb => by
  obtain ⟨as, ra⟩ := ra.reads ha
  obtain ⟨bs, rb⟩ := rb.reads hb
  have := i.ok.uA
  refine SeqAt.compareEq_reads ra rb (V.lay a ha) (V.lay b hb) (by omega) ?_
  have e := V.eqv a b ha hb
  cases q : PyData.eqv a.py b.py with
  | true => exact done i .refl (.bool _) ⟨rfl, h1 (e.mp q)⟩
  | false => exact done i .refl (.bool _) ⟨rfl, h2 fun z => by rw [e.mpr z] at q; cases q⟩
theorem op_ne {a b : V} (ha : V.pure a = true) (hb : V.pure b = true) (hd : min a.py.depth b.py.depth ≤ 20) (h1 : a = b → P (.bool false) S) (h2 : a ≠ b → P (.bool true) S) : op2 prog w K X (compareOp .NotEq) a b m S P E := fun s r va vb i ra rb => by
  obtain ⟨as, ra⟩ := ra.reads ha
  obtain ⟨bs, rb⟩ := rb.reads hb
  have := i.ok.uA
  refine SeqAt.compareNe_reads ra rb (V.lay a ha) (V.lay b hb) (by omega) ?_
  have e := V.eqv a b ha hb
  cases q : PyData.eqv a.py b.py with
  | true => exact done i .refl (.bool _) ⟨rfl, h1 (e.mp q)⟩
  | false => exact done i .refl (.bool _) ⟨rfl, h2 fun z => by rw [e.mpr z] at q; cases q⟩
theorem op_eqI {a b : Int} (h : P (.bool (decide (a = b))) S) : op2 prog w K X (compareOp .Eq) (.int a) (.int b) m S P E := fun s r va vb i ra rb => by
  cases ra; cases rb; exact wpAny_eq_int (done i .refl (.bool _) ⟨rfl, h⟩)
theorem op_lt {a b : Int} (h : P (.bool (decide (a < b))) S) : op2 prog w K X (compareOp .Lt) (.int a) (.int b) m S P E := fun s r va vb i ra rb => by
  cases ra; cases rb; exact lt_int (done i .refl (.bool _) ⟨rfl, h⟩)
theorem op_gt {a b : Int} (h : P (.bool (decide (b < a))) S) : op2 prog w K X (compareOp .Gt) (.int a) (.int b) m S P E := fun s r va vb i ra rb => by
  cases ra; cases rb; exact gt_int (done i .refl (.bool _) ⟨rfl, h⟩)
theorem op_le {a b : Int} (h : P (.bool (decide (a ≤ b))) S) : op2 prog w K X (compareOp .LtE) (.int a) (.int b) m S P E := fun s r va vb i ra rb => by
  cases ra; cases rb; exact le_int (done i .refl (.bool _) ⟨rfl, h⟩)
theorem op_ge {a b : Int} (h : P (.bool (decide (b ≤ a))) S) : op2 prog w K X (compareOp .GtE) (.int a) (.int b) m S P E := fun s r va vb i ra rb => by
  cases ra; cases rb; exact ge_int (done i .refl (.bool _) ⟨rfl, h⟩)
theorem op_isNone {a : V} (h1 : a = .none → P (.bool true) S) (h2 : a ≠ .none → P (.bool false) S) : op2 prog w K X (compareOp .Is) a .none m S P E := fun s r va vb i ra rb => by
  cases rb
  show wpAny _ _ (do return Value.bool (← isSame va .none)) _ _ _
  refine wpAny_bind ?_
  have key : ∀ b : Bool, isSame va .none = pure b → P (.bool b) S → wpAny (model prog w) X.A (isSame va .none) (fun a s' => wpAny (model prog w) X.A (pure (Value.bool a)) (Post prog w K RV X s r fun v m' S' => m' = m ∧ P v S') (PostE prog w X s r E) s') (PostE prog w X s r E) s := fun b e p => by
    rw [e]; exact wpAny_pure (wpAny_pure (done i .refl (.bool _) ⟨rfl, p⟩))
  cases ra with
  | none => exact key true rfl (h1 rfl)
  | bool b => exact key false rfl (h2 nofun)
  | int i t => exact key false rfl (h2 nofun)
  | str x t => exact key false rfl (h2 nofun)
  | tup _ _ _ _ => exact key false rfl (h2 nofun)
  | loc _ => exact key false rfl (h2 nofun)
  | typ _ => exact key false rfl (h2 nofun)

/-! arithmetic -/
theorem op_add {a b : Int} (h : P (.int (a + b)) S) : op2 prog w K X (binaryOp .Add) (.int a) (.int b) m S P E := fun s r va vb i ra rb => by
  cases ra; cases rb; exact add_int (done i.toks (.grow fun _ _ e => e) (.int _ _) ⟨rfl, h⟩)
theorem op_sub {a b : Int} (h : P (.int (a - b)) S) : op2 prog w K X (binaryOp .Sub) (.int a) (.int b) m S P E := fun s r va vb i ra rb => by
  cases ra; cases rb; exact sub_int (done i.toks (.grow fun _ _ e => e) (.int _ _) ⟨rfl, h⟩)
theorem op_mul {a b : Int} (hm : IntMulOk a b) (h : P (.int (a * b)) S) : op2 prog w K X (binaryOp .Mult) (.int a) (.int b) m S P E := fun s r va vb i ra rb => by
  cases ra; cases rb; exact mul_int (done i.toks (.grow fun _ _ e => e) (.int _ _) ⟨rfl, h⟩) hm
theorem op_mod {a b : Int} (hb : b ≠ 0) (h : P (.int (a.fmod b)) S) : op2 prog w K X (binaryOp .Mod) (.int a) (.int b) m S P E := fun s r va vb i ra rb => by
  cases ra; cases rb; exact PyProof.Rows.mod_int hb (done i.toks (.grow fun _ _ e => e) (.int _ _) ⟨rfl, h⟩)
theorem op_div {a b : Int} (hb : b ≠ 0) (hs : b.natAbs < 1073741824) (h : P (.int (a.fdiv b)) S) : op2 prog w K X (binaryOp .FloorDiv) (.int a) (.int b) m S P E := fun s r va vb i ra rb => by
  cases ra; cases rb; exact floordiv_int hb (done i.toks (.grow fun _ _ e => e) (.int _ _) ⟨rfl, h⟩) (.inl (PyProof.noPylong_small hs))
theorem ex_neg {z : Int} {k : Nat} {cp pos : Pos} (h : P (.int (-z)) S) : ex prog w K X (.UnaryOp .USub (.Constant (.int z) k cp) pos) m S P E := fun s r i =>
  wpAny_UnaryOp (wpAny_Constant_int (neg_int (done (i.keeps (t := s.toks + 1 + 1) fun _ _ e => e) (.grow (t := s.toks + 1 + 1) fun _ _ e => e) (.int _ _) ⟨rfl, h⟩)))
end
end Mine

namespace Mine

section
variable {K : Type} [DecidableEq K] {α : Type}
noncomputable def aGet (es : List (K × α)) (k : K) : Option α := (es.find? fun e => decide (e.1 = k)).map (·.2)
noncomputable def aSet (es : List (K × α)) (k : K) (v : α) : List (K × α) := if es.any (fun e => decide (e.1 = k)) then es.map (fun e => if e.1 = k then (e.1, v) else e) else es ++ [(k, v)]
noncomputable def aDel (es : List (K × α)) (k : K) : List (K × α) := es.filter fun e => decide (e.1 ≠ k)
end
section
variable {K : Type} [DecidableEq K] {h : Heap} {r : Ro}
theorem KV.get {kvs : List (K × Value)} {es : List (K × V)} (z : KV h r kvs es) (k : K) : match aGet es k with
    | some x => ∃ v, valueAt kvs k = some v ∧ RV h r v x
    | none => valueAt kvs k = none := by
  induction z with
  | nil => rfl
  | @cons k' v x vs xs rv _ ih =>
    unfold aGet valueAt at ih ⊢
    rw [List.find?_cons, List.find?_cons]
    by_cases q : k' = k
    · simp only [q, decide_true]
      exact ⟨v, rfl, rv⟩
    · simp only [q, decide_false]
      exact ih
theorem KV.any {kvs : List (K × Value)} {es : List (K × V)} (z : KV h r kvs es) (k : K) : (kvs.any fun kv => decide (kv.1 = k)) = es.any fun e => decide (e.1 = k) := by
  induction z with
  | nil => rfl
  | cons _ _ ih => rw [List.any_cons, List.any_cons, ih]
theorem KV.app {kvs kvs' : List (K × Value)} {es es' : List (K × V)} (z : KV h r kvs es) (y : KV h r kvs' es') : KV h r (kvs ++ kvs') (es ++ es') := by
  induction z with
  | nil => exact y
  | cons rv _ ih => exact .cons rv ih
theorem KV.put {kvs : List (K × Value)} {es : List (K × V)} {k : K} {v : Value} {x : V} (z : KV h r kvs es) (rv : RV h r v x) :
    KV h r (kvs.map fun kv => if kv.1 = k then (kv.1, v) else kv) (es.map fun e => if e.1 = k then (e.1, x) else e) := by
  induction z with
  | nil => exact .nil
  | @cons k' v' x' vs xs rv' _ ih =>
    rw [List.map_cons, List.map_cons]
    by_cases q : k' = k
    · simp only [q, if_true]; exact .cons rv (by simpa only [q] using ih)
    · simp only [q, if_false]; exact .cons rv' ih
theorem KV.set {kvs : List (K × Value)} {es : List (K × V)} {k : K} {v : Value} {x : V} (z : KV h r kvs es) (rv : RV h r v x) : KV h r (stored kvs k v) (aSet es k x) := by
  unfold stored aSet
  rw [z.any]
  split
  · exact z.put rv
  · exact z.app (.cons rv .nil)
theorem KV.del {kvs : List (K × Value)} {es : List (K × V)} {k : K} (z : KV h r kvs es) : KV h r (without kvs k) (aDel es k) := by
  unfold without aDel
  induction z with
  | nil => exact .nil
  | @cons k' v' x' vs xs rv' _ ih =>
    rw [List.filter_cons, List.filter_cons]
    by_cases q : k' = k
    · simp only [q]; simpa [q] using ih
    · simp only [ne_eq, q, not_false_eq_true, decide_true, if_true]; exact .cons rv' ih
theorem KV.length {kvs : List (K × Value)} {es : List (K × V)} (z : KV h r kvs es) : kvs.length = es.length := by
  induction z with
  | nil => rfl
  | cons _ _ ih => rw [List.length_cons, List.length_cons, ih]
theorem KV.keys {kvs : List (K × Value)} {es : List (K × V)} (z : KV h r kvs es) : kvs.map (·.1) = es.map (·.1) := by
  induction z with
  | nil => rfl
  | cons _ _ ih => rw [List.map_cons, List.map_cons, ih]
theorem at_map (xs : List (K × Addr × Value)) (k : K) : (atKey xs k).map (·.2) = valueAt (xs.map fun x => (x.1, x.2.2)) k := by
  unfold atKey valueAt
  induction xs with
  | nil => rfl
  | cons x xs ih =>
    rw [List.map_cons, List.find?_cons, List.find?_cons]
    by_cases q : x.1 = k
    · simp [q]
    · simp only [q, decide_false]; exact ih
theorem at_isSome (xs : List (K × Addr × Value)) (k : K) : (atKey xs k).isSome = (xs.map fun x => (x.1, x.2.2)).any fun e => decide (e.1 = k) := by
  unfold atKey
  induction xs with
  | nil => rfl
  | cons x xs ih =>
    rw [List.map_cons, List.find?_cons, List.any_cons]
    by_cases q : x.1 = k
    · simp [q]
    · simp only [q, decide_false, Bool.false_or]; exact ih
theorem stored_map (xs : List (K × Addr × Value)) (k : K) (a : Addr) (v : Value) : (storedH xs k a v).map (fun x => (x.1, x.2.2)) = stored (xs.map fun x => (x.1, x.2.2)) k v := by
  unfold storedH stored
  rw [at_isSome]
  split
  · rw [List.map_map, List.map_map]
    apply List.map_congr_left
    intro x _
    show ((putAt k v x).1, (putAt k v x).2.2) = if x.1 = k then (x.1, v) else (x.1, x.2.2)
    unfold putAt
    split <;> rfl
  · rw [List.map_append]; rfl
end

section
variable {prog : Program} {w : World} {K : Frag} {X : Cx} {m : Loc} {S : MS} {P : V → MS → Prop} {E : V → MS → Prop}

theorem In.at {r : Ro} {s : Shared} {l : Nat} {mo : MO} (i : In prog w K X m S r s) (hl : S[l]? = some mo) {a : Value} (rv : RV s.heap r a (.loc l)) : ∃ p, a = .ref p.1 ∧ r[l]? = some p ∧ RO prog w s.heap r p mo ∧ (p.2 == sysModules) = false := by
  obtain ⟨p, hp, ro⟩ := i.rep.2.2 l _ hl
  have hz := (i.new p (List.mem_of_getElem? hp)).2.2.1
  cases rv with
  | loc e => rw [hp] at e; cases e; exact ⟨_, rfl, hp, ro, beq_false_of_ne hz⟩

theorem In.sdict {r : Ro} {s : Shared} {l : Nat} {es : List (Sc × V)} (i : In prog w K X m S r s) (hl : S[l]? = some (.sdict es)) {a : Value} (rv : RV s.heap r a (.loc l)) :
    ∃ d kvs, a = .ref d ∧ r[l]? = some (d, d) ∧ s.heap.DictOf (scKind prog w) d kvs ∧ KV s.heap r kvs es ∧ (d == sysModules) = false := by
  obtain ⟨⟨p1, p2⟩, rfl, hp, ⟨e, kvs, hd, kv⟩, hz⟩ := i.at hl rv
  obtain rfl : p1 = p2 := e
  exact ⟨p1, kvs, rfl, hp, hd, kv, hz⟩
theorem In.tdict {r : Ro} {s : Shared} {l : Nat} {es : List (List Sc × V)} (i : In prog w K X m S r s) (hl : S[l]? = some (.tdict es)) {a : Value} (rv : RV s.heap r a (.loc l)) :
    ∃ d xs, a = .ref d ∧ r[l]? = some (d, d) ∧ s.heap.DictOfH (tupleKind (scKind prog w)) d xs ∧ KV s.heap r (xs.map fun x => (x.1, x.2.2)) es ∧ (d == sysModules) = false := by
  obtain ⟨⟨p1, p2⟩, rfl, hp, ⟨e, kvs, hd, kv⟩, hz⟩ := i.at hl rv
  obtain rfl : p1 = p2 := e
  exact ⟨p1, kvs, rfl, hp, hd, kv, hz⟩
theorem In.list {r : Ro} {s : Shared} {l : Nat} {xs : List V} (i : In prog w K X m S r s) (hl : S[l]? = some (.list xs)) {a : Value} (rv : RV s.heap r a (.loc l)) :
    ∃ d items, a = .ref d ∧ r[l]? = some (d, d) ∧ s.heap.PlainList d items ∧ RVs s.heap r items.toList xs := by
  obtain ⟨⟨p1, p2⟩, rfl, hp, ⟨e, items, hd, kv⟩, hz⟩ := i.at hl rv
  obtain rfl : p1 = p2 := e
  exact ⟨p1, items, rfl, hp, hd, kv⟩
theorem plainIs {h : Heap} {a : Addr} {items : Array Value} (x : h.PlainList a items) : h.IsList a items := let ⟨n, ho⟩ := x; ⟨_, ho, rfl, n, rfl⟩

theorem In.mutFrozen {r : Ro} {s : Shared} {l : Nat} {p : Addr × Addr} (i : In prog w K X m S r s) (hp : r[l]? = some p) : ∀ o, s.heap.get? p.2 = some o → frozen o = false := fun o ho => by
  obtain ⟨mo, _, ro⟩ := i.rep.at hp
  obtain ⟨o', ho', hm⟩ := ro.mutAt
  rw [ho'] at ho; cases ho; exact hm.1
theorem In.kpSet {r : Ro} {s : Shared} {l : Nat} {p : Addr × Addr} {h' : Heap} (i : In prog w K X m S r s) (hp : r[l]? = some p) (hs : Heap.SameBut p.2 s.heap h') : Kp s.heap h' := .of_sameBut hs (i.mutFrozen hp)
theorem In.extSet {r : Ro} {s : Shared} {l : Nat} {p : Addr × Addr} {h' : Heap} {t : Nat} (i : In prog w K X m S r s) (hp : r[l]? = some p) (hs : Heap.SameBut p.2 s.heap h') : Ext X s r { s with heap := h', toks := t } r :=
  .but hs (i.mutFrozen hp) fun o ho a _ => i.cls ho a p (List.mem_of_getElem? hp) rfl

/-! a store of an item -/
theorem wp_setS {r : Ro} {s : Shared} {l : Nat} {es : List (Sc × V)} {a kv va : Value} {k : Sc} {v : V} {E' : Value → Shared → Prop} {Q : Unit → Shared → Prop} (i : In prog w K X m S r s) (hl : S[l]? = some (.sdict es)) (hz : es.length ≤ 100000) (ra : RV s.heap r a (.loc l)) (rk : RV s.heap r kv k.v) (rv : RV s.heap r va v)
    (h : ∀ h', In prog w K X m (S.set l (.sdict (aSet es k v))) r { s with heap := h', toks := s.toks + 1 } → Ext X s r { s with heap := h', toks := s.toks + 1 } r → Q () { s with heap := h', toks := s.toks + 1 }) :
    wpAny (model prog w) X.A (setItem a kv va) Q E' s := by
  obtain ⟨d, kvs, rfl, hp, hd, z, hm⟩ := i.sdict hl ra
  refine wpAny_setItem_pairs (knd := scKind prog w) rk.sc hd (fun h' hd' hs => h h' (i.set hp hs ⟨rfl, _, hd', ?_⟩) (i.extSet hp hs)) (by rw [sizeLine_eq, z.length]; omega)
  exact (z.mono (i.kpSet hp hs) (.refl _)).set (rv.mono (i.kpSet hp hs) (.refl _))
theorem wp_setT {r : Ro} {s : Shared} {l : Nat} {es : List (List Sc × V)} {a kv va : Value} {k : List Sc} {v : V} {E' : Value → Shared → Prop} {Q : Unit → Shared → Prop} (i : In prog w K X m S r s) (hl : S[l]? = some (.tdict es)) (hz : es.length ≤ 100000) (ra : RV s.heap r a (.loc l)) (rk : RV s.heap r kv (tk k)) (rv : RV s.heap r va v)
    (h : ∀ h' t, In prog w K X m (S.set l (.tdict (aSet es k v))) r { s with heap := h', toks := t } → Ext X s r { s with heap := h', toks := t } r → Q () { s with heap := h', toks := t }) :
    wpAny (model prog w) X.A (setItem a kv va) Q E' s := by
  obtain ⟨d, xs, rfl, hp, hd, z, hm⟩ := i.tdict hl ra
  obtain ⟨ka, rfl, hk⟩ := rk.key (prog := prog) (w := w)
  have hu := i.ok.uA
  have hlen := z.length
  rw [List.length_map] at hlen
  refine wpAny_setItem_heap (knd := tupleKind (scKind prog w)) (by show X.A.units + 1 < cLine; omega) hk hd (fun h' hd' hs => h h' _ (i.set hp hs ⟨rfl, _, hd', ?_⟩) (i.extSet hp hs)) (by rw [sizeLine_eq, hlen]; omega)
  rw [stored_map]
  exact (z.mono (i.kpSet hp hs) (.refl _)).set (rv.mono (i.kpSet hp hs) (.refl _))
theorem sx_setS {P : Fl → Loc → MS → Prop} {o ix : Expr} {ip pos : Pos} {e : Expr} (hs : swapsWith e (some (.Subscript o ix ip)) pos.line X.env = pure false)
    (h : ex prog w K X e m S (fun v S1 => ex prog w K X o m S1 (fun ov S2 => ex prog w K X ix m S2 (fun kv S3 => ∃ l es k, ov = .loc l ∧ kv = Sc.v k ∧ S3[l]? = some (.sdict es) ∧ es.length ≤ 100000 ∧ P .next m (S3.set l (.sdict (aSet es k v)))) E) E) E) :
    sx prog w K X (.Assign [.Subscript o ix ip] e pos) m S P E := fun s ro i => by
  refine wpAny_Assign_Subscript (step .refl (h s ro i) fun va a m1 S1 r1 s1 i1 e1 _ q1 p1 => ?_) hs
  obtain ⟨rfl, p1⟩ := p1
  refine step e1 (p1 s1 r1 i1) fun vo b m2 S2 r2 s2 i2 e2 e2' q2 p2 => ?_
  obtain ⟨rfl, p2⟩ := p2
  refine step e2 (p2 s2 r2 i2) fun vk c m3 S3 r3 s3 i3 e3 e3' q3 p3 => ?_
  obtain ⟨rfl, l, es, k, rfl, rfl, hl, hz, p3⟩ := p3
  exact wp_setS i3 hl hz (q2.mono e3'.1 e3'.2.1) q3 ((q1.mono e2'.1 e2'.2.1).mono e3'.1 e3'.2.1) fun h' i4 e4 => done (b := Fl.next) i4 (e3.trans e4) trivial p3
theorem sx_setT {P : Fl → Loc → MS → Prop} {o ix : Expr} {ip pos : Pos} {e : Expr} (hs : swapsWith e (some (.Subscript o ix ip)) pos.line X.env = pure false)
    (h : ex prog w K X e m S (fun v S1 => ex prog w K X o m S1 (fun ov S2 => ex prog w K X ix m S2 (fun kv S3 => ∃ l es k, ov = .loc l ∧ kv = tk k ∧ S3[l]? = some (.tdict es) ∧ es.length ≤ 100000 ∧ P .next m (S3.set l (.tdict (aSet es k v)))) E) E) E) :
    sx prog w K X (.Assign [.Subscript o ix ip] e pos) m S P E := fun s ro i => by
  refine wpAny_Assign_Subscript (step .refl (h s ro i) fun va a m1 S1 r1 s1 i1 e1 _ q1 p1 => ?_) hs
  obtain ⟨rfl, p1⟩ := p1
  refine step e1 (p1 s1 r1 i1) fun vo b m2 S2 r2 s2 i2 e2 e2' q2 p2 => ?_
  obtain ⟨rfl, p2⟩ := p2
  refine step e2 (p2 s2 r2 i2) fun vk c m3 S3 r3 s3 i3 e3 e3' q3 p3 => ?_
  obtain ⟨rfl, l, es, k, rfl, rfl, hl, hz, p3⟩ := p3
  exact wp_setT i3 hl hz (q2.mono e3'.1 e3'.2.1) q3 ((q1.mono e2'.1 e2'.2.1).mono e3'.1 e3'.2.1) fun h' t i4 e4 => done (b := Fl.next) i4 (e3.trans e4) trivial p3

/-! del d[k] -/
theorem sx_del {P : Fl → Loc → MS → Prop} {o ix : Expr} {ip pos : Pos}
    (h : ex prog w K X o m S (fun ov S2 => ex prog w K X ix m S2 (fun kv S3 => ∃ l es k, ov = .loc l ∧ kv = Sc.v k ∧ S3[l]? = some (.sdict es) ∧ es.length ≤ 100000 ∧ (aGet es k).isSome = true ∧ P .next m (S3.set l (.sdict (aDel es k)))) E) E) :
    sx prog w K X (.Delete [.Subscript o ix ip] pos) m S P E := fun s ro i => by
  refine wpAny_Delete (wpAny_deleteEach_cons (wpAny_delete_Subscript (step .refl (h s ro i) fun vo b m2 S2 r2 s2 i2 e2 e2' q2 p2 => ?_)))
  obtain ⟨rfl, p2⟩ := p2
  refine step e2 (p2 s2 r2 i2) fun vk c m3 S3 r3 s3 i3 e3 e3' q3 p3 => ?_
  obtain ⟨rfl, l, es, k, rfl, rfl, hl, hz, hk, p3⟩ := p3
  obtain ⟨d, kvs, rfl, hp, hd, z, hm⟩ := i3.sdict hl (q2.mono e3'.1 e3'.2.1)
  have hg := z.get k
  have hth : (valueAt kvs k).isSome = true := by
    cases q : aGet es k with
    | none => rw [q] at hk; cases hk
    | some x => rw [q] at hg; obtain ⟨v, hv, _⟩ := hg; rw [hv]; rfl
  refine wpAny_delItem_slot hd.typeIs (by decide) F.slot_dict_delitem (call_meetsIn F.slot_dict_delitem hd.typeIs F.entry_dict_delitem (F.args_dict_delitem_2 _ _) (meets_dict_delitem_pairs (scKind prog w) d (RV.sc q3)) ⟨kvs, hd, by rw [sizeLine_eq, z.length]; omega, hth, fun h' hd' hs => ?_⟩)
  refine wpAny_pure (done (b := Fl.next) (i3.set (p := (d, d)) (mo' := .sdict (aDel es k)) hp hs ⟨rfl, _, hd', ?_⟩) (e3.trans (i3.extSet (t := s3.toks + 1) hp hs)) trivial p3)
  exact (z.mono (i3.kpSet hp hs) (.refl _)).del
end
end Mine

namespace Mine

section
variable {prog : Program} {w : World} {K : Frag} {X : Cx} {m : Loc} {S : MS} {P : V → MS → Prop} {E : V → MS → Prop}

/-! items -/
theorem ex_sub {value slice : Expr} {pos : Pos} (h : ex prog w K X value m S (fun a S1 => ex prog w K X slice m S1 (fun b S2 => op2 prog w K X (subscriptTail value slice) a b m S2 P E) E) E) : ex prog w K X (.Subscript value slice pos) m S P E := fun s ro i => by
  refine Subscript_ (step .refl (h s ro i) fun va a m1 S1 r1 s1 i1 e1 _ q1 p1 => ?_)
  obtain ⟨rfl, p1⟩ := p1
  refine step e1 (p1 s1 r1 i1) fun vb b m2 S2 r2 s2 i2 e2 e2' q2 p2 => ?_
  obtain ⟨rfl, p2⟩ := p2
  exact last e2 (p2 s2 r2 va vb i2 (q1.mono e2'.1 e2'.2.1) q2)
theorem sub_list {value slice : Expr} {l : Nat} {xs : List V} {k : Int} {x : V} (hl : S[l]? = some (.list xs)) (h0 : 0 ≤ k) (hk : k < 1000000) (hx : xs[k.toNat]? = some x)
    (hs : ∀ d u, subscripted slice false (.ref d) (.int k u) = operate [.ref d, .int k u] (getItem (.ref d) (.int k u))) (h : P x S) : op2 prog w K X (subscriptTail value slice) (.loc l) (.int k) m S P E := fun s r va vb i ra rb => by
  obtain ⟨d, items, rfl, hr, hp, rv⟩ := i.list hl ra
  cases rb
  obtain ⟨v, hv, rx⟩ := rv.get hx
  exact tail_any (plainIs hp).typeIs slot_list_getitem.lookup (wpAny_getItem_list (plainIs hp) h0 (by omega) (by simpa using hv) (done i .refl rx ⟨rfl, h⟩)) (hs _ _)
theorem sub_tup {value slice : Expr} {xs : List V} {k : Int} {x : V} (h0 : 0 ≤ k) (hk : k < 1000000) (hx : xs[k.toNat]? = some x)
    (hs : ∀ d u, subscripted slice false (.ref d) (.int k u) = operate [.ref d, .int k u] (getItem (.ref d) (.int k u))) (h : P x S) : op2 prog w K X (subscriptTail value slice) (.tup xs) (.int k) m S P E := fun s r va vb i ra rb => by
  cases rb
  cases ra with
  | @tup a o items n _ e c d q =>
    obtain ⟨v, hv, rx⟩ := q.get hx
    have ht : IsTup s.heap a items := ⟨o, e, c, n, d⟩
    have hlt : k < items.size := by
      have := (List.getElem?_eq_some_iff.mp hv).1
      rw [Array.length_toList] at this; omega
    exact tail_any ht.typeIs slot_tuple_getitem.lookup (getItem_tuple ht (by omega) (by omega) (seqIndex_of h0 hlt) (by simpa using hv) (done i .refl rx ⟨rfl, h⟩)) (hs _ _)
theorem sub_str {value slice : Expr} {x : Str} {k : Int} {c : Nat} (hr : (decide (k < -(2 ^ 63 : Int)) || decide (k ≥ 2 ^ 63)) = false) (hc : (seqIndex? k x.length).bind (x.cps[·]?) = some c)
    (hs : ∀ t u, subscripted slice false (.str x t) (.int k u) = operate [.str x t, .int k u] (getItem (.str x t) (.int k u))) (h : P (.str ⟨#[c]⟩) S) : op2 prog w K X (subscriptTail value slice) (.str x) (.int k) m S P E := fun s r va vb i ra rb => by
  cases rb; cases ra
  exact tail_any (T := "str") rfl slot_str_getitem.lookup (getItem_str hr hc (done (i.keeps (t := s.toks + 1) fun _ _ e => e) (.grow (t := s.toks + 1) fun _ _ e => e) (.str _ _) ⟨rfl, h⟩)) (hs _ _)

/-! calls of the machine's own -/
theorem callM {f : Value} (hf : (∃ id, f = .builtin id) ∨ ∃ T, f = .type T) {l : List Expr} {pos cpos : Pos} {first : List Value} {fa : List V} {s₀ s : Shared} {r₀ r : Ro} (i : In prog w K X m S r s) (e₀ : Ext X s₀ r₀ s r) (rf : RVs s.heap r first fa) (hb : backTo pos (starEach l X.env) = starEach l X.env)
    (hs : l = [] ∨ ∃ e rest, l = e :: rest ∧ starEach (e :: rest) X.env = (false, eval e X.env) :: starEach rest X.env ∧ (backTo pos (starEach rest X.env)).any (·.1) = false)
    (h : es prog w K X l m S (fun as S' => opL prog w K X (fun vs => call f vs) (fa ++ as) m S' P E) E) :
    wpAny (model prog w) X.A (callWith cpos f first (backTo pos (starEach l X.env)) []) (Post prog w K RV X s₀ r₀ fun v m' S' => m' = m ∧ P v S') (PostE prog w X s₀ r₀ E) s := by
  have gen : ∀ {args : List (Bool × Sem Value)} {Q E'}, args.any (·.1) = false → wpAny (model prog w) X.A (evalArgs f true args []) (fun a s₁ => wpAny (model prog w) X.A (call f (first ++ a.pos) a.kw) Q E' s₁) E' s → wpAny (model prog w) X.A (callWith cpos f first args []) Q E' s := by
    rcases hf with ⟨id, rfl⟩ | ⟨T, rfl⟩
    · exact fun a b => PySem.Calls.callWith_builtin a b
    · exact fun a b => PyProof.Rows.callWith_type a b
  rcases hs with rfl | ⟨e, rest, rfl, he, hpl⟩
  · have h' := h s r i
    refine gen rfl (evalArgs_nil3 ?_)
    have h2 : wpAny (model prog w) X.A (pure []) (Post prog w K RVs X s r fun as m' S' => m' = m ∧ opL prog w K X (fun vs => call f vs) (fa ++ as) m S' P E) (PostE prog w X s r E) s := h'
    have h3 := step (R := fun vs s' => wpAny (model prog w) X.A (call f (first ++ vs)) (Post prog w K RV X s₀ r₀ fun v m' S' => m' = m ∧ P v S') (PostE prog w X s₀ r₀ E) s') e₀ h2 fun vs as m1 S1 r1 s1 i1 e1 e1' q1 p1 => by
      obtain ⟨rfl, p1⟩ := p1
      exact last e1 (p1 s1 r1 _ i1 ((rf.mono e1'.1 e1'.2.1).app q1))
    intro Γ p hΓ
    exact h3 Γ p hΓ Γ p hΓ
  · have hb2 : backTo pos (starEach rest X.env) = starEach rest X.env := by
      have hb' := hb
      rw [he] at hb'
      exact (List.cons.inj hb').2
    refine gen (by rw [hb, he]; show (false || (starEach rest X.env).any (·.1)) = false; rw [hb2] at hpl; rw [hpl]; rfl) ?_
    rw [hb, he]
    refine PySem.Calls.evalArgs_plain ?_
    rw [← he]
    refine step e₀ (h s r i) fun vs as m1 S1 r1 s1 i1 e1 e1' q1 p1 => ?_
    obtain ⟨rfl, p1⟩ := p1
    exact last e1 (p1 s1 r1 _ i1 ((rf.mono e1'.1 e1'.2.1).app q1))

/-- a builtin by its name -/
theorem ex_bi {x : Str} {np pos : Pos} {l : List Expr} {f : Value} (hx : X.cs.names.lookup x = some .globalImplicit) (he : nsIn K mainGlobals x = some none) (hv : bootBuiltins x = some f) (hn : x ≠ "__name__") (hd : (x == ("__debug__" : Str)) = false)
    (hf : (∃ id, f = .builtin id) ∨ ∃ T, f = .type T) (hp : Plain X pos l)
    (h : es prog w K X l m S (fun as S' => opL prog w K X (fun vs => call f vs) as m S' P E) E) : ex prog w K X (.Call (.Name x np) l [] pos) m S P E := fun s ro i => by
  refine wpAny_Call_ofName (wp_bi i hx he hv hn hd ?_)
  exact callM hf i .refl .nil hp.1 hp.2 h
/-- a type's name as a value -/
theorem ex_typ {x : Str} {pos : Pos} {T : String} (hx : X.cs.names.lookup x = some .globalImplicit) (he : nsIn K mainGlobals x = some none) (hv : bootBuiltins x = some (.type T)) (hn : x ≠ "__name__") (hd : (x == ("__debug__" : Str)) = false)
    (h : P (.typ T) S) : ex prog w K X (.Name x pos) m S P E := fun s ro i => wp_bi i hx he hv hn hd (done i .refl (.typ T) ⟨rfl, h⟩)

/-- what a machine's own object is -/
noncomputable def Of (prog : Program) (w : World) (K : Frag) (X : Cx) (m : Loc) (S : MS) (v : V) (T : String) : Prop :=
  ∀ s r a, In prog w K X m S r s → RV s.heap r a v → s.TypeIs a T ∧ ∀ x, a = .ref x → ∃ ob, s.heap.get? x = some ob ∧ ob.dict = none
theorem Of.list {l : Nat} {xs : List V} (hl : S[l]? = some (.list xs)) : Of prog w K X m S (.loc l) "list" := fun s r a i ra => by
  obtain ⟨d, items, rfl, hr, hp, rv⟩ := i.list hl ra
  refine ⟨(plainIs hp).typeIs, fun x e => ?_⟩
  cases e
  obtain ⟨n, ho⟩ := hp
  exact ⟨_, ho, rfl⟩
theorem Of.sdict {l : Nat} {es : List (Sc × V)} (hl : S[l]? = some (.sdict es)) : Of prog w K X m S (.loc l) "dict" := fun s r a i ra => by
  obtain ⟨d, xs, rfl, hp, hd, z, hm⟩ := i.sdict hl ra
  exact ⟨hd.typeIs, hd.mapOf.noDict⟩
theorem Of.tdict {l : Nat} {es : List (List Sc × V)} (hl : S[l]? = some (.tdict es)) : Of prog w K X m S (.loc l) "dict" := fun s r a i ra => by
  obtain ⟨d, xs, rfl, hp, hd, z, hm⟩ := i.tdict hl ra
  refine ⟨hd.typeIs, fun x e => ?_⟩
  cases e
  obtain ⟨o, es', ep, ho, hc, _⟩ := hd
  exact ⟨o, ho, hc.2.1⟩

/-- a machine's own method -/
theorem ex_bm {o : Expr} {name : Str} {apos pos : Pos} {l : List Expr} {T id : String} (hbase : ∀ env, attributeBase o name env (eval o env) = eval o env) (hline : (apos.endLine == pos.line) = true) (hform : methodCallForm l.length (starEach l X.env) [] = true)
    (pa : PlainAttrs T) (slot : Slot T name id) (hty : typeOf (.builtin id) = pure (.type "method_descriptor")) (hp : Plain X pos l)
    (h : ex prog w K X o m S (fun ov S1 => Of prog w K X m S1 ov T ∧ es prog w K X l m S1 (fun as S' => opL prog w K X (fun vs => call (.builtin id) vs) (ov :: as) m S' P E) E) E) :
    ex prog w K X (.Call (.Attribute o name apos) l [] pos) m S P E := fun s ro i => by
  show wpAny _ _ (do
    let ov ← attributeBase o name X.env (eval o X.env)
    standAt apos.atName
    methodCall o name apos pos X.env ov (l.length + ([] : List Keyword).length) (backTo pos (starEach l X.env)) (backToKw pos (keywordEach [] X.env))) _ _ _
  rw [hbase]
  refine wpAny_bind (step .refl (h s ro i) fun ov a m1 S1 r1 s1 i1 e1 _ q1 p1 => ?_)
  obtain ⟨rfl, hof, p1⟩ := p1
  obtain ⟨hT, hd⟩ := hof _ _ _ i1 q1
  refine wpAny_bind (wpAny_standAt ?_)
  have hpos : methodCallPos true o X.env apos pos = pure pos := by unfold methodCallPos; simp [hline]
  have hform' : methodCallForm (l.length + ([] : List Keyword).length) (backTo pos (starEach l X.env)) (backToKw pos (keywordEach [] X.env)) = true := by rw [hp.1]; exact hform
  unfold methodCall
  rw [hform']
  refine wpAny_bind (wpAny_holding (getMethod_builtin hT pa slot hty hd ?_))
  refine wpAny_bind (wpAny_of_eq hpos ?_)
  exact callM (fa := [a]) (.inl ⟨id, rfl⟩) i1 e1 (.cons q1 .nil) hp.1 hp.2 p1

/-! the machine's calls -/
theorem opL_append {l : Nat} {xs : List V} {x : V} (hl : S[l]? = some (.list xs)) (hz : xs.length ≤ 100000) (h : P .none (S.set l (.list (xs ++ [x])))) : opL prog w K X (fun vs => call (.builtin "list.append") vs) [.loc l, x] m S P E := fun s r vs i rvs => by
  cases rvs with
  | cons ra rest =>
    cases rest with
    | cons rx z =>
      cases z
      obtain ⟨d, items, rfl, hp, hd, rv⟩ := i.list hl ra
      have hlen := rv.length
      rw [Array.length_toList] at hlen
      refine wpAny_list_append_plain hd (fun h' hd' hs => done (i.set (p := (d, d)) (mo' := .list (xs ++ [x])) hp hs ⟨rfl, _, hd', ?_⟩) (i.extSet (t := s.toks) hp hs) .none ⟨rfl, h⟩) (by rw [sizeLine_eq]; omega)
      rw [Array.toList_push]
      exact (rv.mono (i.kpSet hp hs) (.refl _)).app (.cons (rx.mono (i.kpSet hp hs) (.refl _)) .nil)
theorem opL_pop {l : Nat} {xs : List V} {x : V} (hl : S[l]? = some (.list (xs ++ [x]))) (hz : xs.length ≤ 100000) (h : P x (S.set l (.list xs))) : opL prog w K X (fun vs => call (.builtin "list.pop") vs) [.loc l] m S P E := fun s r vs i rvs => by
  cases rvs with
  | cons ra rest =>
    cases rest
    obtain ⟨d, items, rfl, hp, ⟨n, hd⟩, rv⟩ := i.list hl ra
    have hlen := rv.length
    rw [Array.length_toList, List.length_append, List.length_singleton] at hlen
    obtain ⟨v, hv, rx⟩ := rv.get (i := xs.length) (x := x) (by rw [List.getElem?_append_right (Nat.le_refl _), Nat.sub_self]; rfl)
    have hpk := i.kpSet (h' := s.heap.update d (Obj.mapSeq fun xs => xs.eraseIdxIfInBounds (items.size - 1))) (p := (d, d)) hp (Heap.SameBut.update ..)
    have hne : items.size ≠ 0 := by omega
    have hpop : items.eraseIdxIfInBounds (items.size - 1) = items.pop := by
      rw [Array.eraseIdxIfInBounds_eq]
      rw [dif_pos (by omega)]
      apply Array.ext'
      rw [Array.toList_eraseIdx, Array.toList_pop]
      rw [List.eraseIdx_eq_dropLast (by rw [Array.length_toList]; omega)]
    refine call_meets F.slot_list_pop ⟨_, hd, rfl⟩ F.entry_list_pop (F.args_list_pop_1 _) (PySem.MeetsSeq.list_pop_last d items n v (by rw [show items.size - 1 = xs.length by omega]; simpa using hv) (by rw [sizeLine_eq]; omega))
      ⟨hd, done (i.set (p := (d, d)) (mo' := .list xs) hp (Heap.SameBut.update ..) ⟨rfl, items.pop, ⟨n + 1, ?_⟩, ?_⟩) (i.extSet (p := (d, d)) (t := s.toks) hp (Heap.SameBut.update ..)) (rx.mono hpk (.refl _)) ⟨rfl, h⟩⟩
    · rw [Heap.get?_update_self _ hd (by simp [Obj.mapSeq]; rfl)]
      simp only [Obj.mapSeq, hpop]
      congr 2
      rw [if_neg]
      simp; omega
    · have := (rv.mono hpk (.refl _)).take xs.length
      rw [List.take_left'] at this
      · rw [Array.toList_pop, List.dropLast_eq_take, Array.length_toList, show items.size - 1 = xs.length by omega]; rw [show items.size - 1 = xs.length by omega] at this; exact this
      · rfl
theorem opL_len {l : Nat} {xs : List V} (hl : S[l]? = some (.list xs)) (hz : xs.length ≤ 100000) (h : P (.int xs.length) S) : opL prog w K X (fun vs => call (.builtin "len") vs) [.loc l] m S P E := fun s r vs i rvs => by
  cases rvs with
  | cons ra rest =>
    cases rest
    obtain ⟨d, items, rfl, hp, hd, rv⟩ := i.list hl ra
    have hlen := rv.length
    rw [Array.length_toList] at hlen
    refine PySem.Calls.call_len_list (plainIs hd) (by omega) (done (i.keeps (t := s.toks + 1 + 1) fun _ _ e => e) (.grow (t := s.toks + 1 + 1) fun _ _ e => e) (.int _ _) ⟨rfl, ?_⟩)
    rw [hlen]; exact h
theorem opL_int {z : Int} (h : P (.int z) S) : opL prog w K X (fun vs => call (.type "int") vs) [.int z] m S P E := fun s r vs i rvs => by
  cases rvs with
  | cons ra rest =>
    cases rest; cases ra
    exact call_int_int (done i .refl (.int _ _) ⟨rfl, h⟩)
theorem opL_max {a b : Int} (h : P (.int (max a b)) S) : opL prog w K X (fun vs => call (.builtin "max") vs) [.int a, .int b] m S P E := fun s r vs i rvs => by
  cases rvs with
  | cons ra rest =>
    cases rest with
    | cons rb z =>
      cases z; cases ra; cases rb
      refine max_two_ints i.ok.hA fun h' tk kk => ?_
      split
      · rename_i q
        exact done (i.keeps kk) (.grow kk) (.int b _) ⟨rfl, by rw [show max a b = b by omega] at h; exact h⟩
      · rename_i q
        exact done (i.keeps kk) (.grow kk) (.int a _) ⟨rfl, by rw [show max a b = a by omega] at h; exact h⟩
theorem opL_min {a b : Int} (h : P (.int (min a b)) S) : opL prog w K X (fun vs => call (.builtin "min") vs) [.int a, .int b] m S P E := fun s r vs i rvs => by
  cases rvs with
  | cons ra rest =>
    cases rest with
    | cons rb z =>
      cases z; cases ra; cases rb
      refine min_two_ints i.ok.hA fun h' tk kk => ?_
      split
      · rename_i q
        exact done (i.keeps kk) (.grow kk) (.int b _) ⟨rfl, by rw [show min a b = b by omega] at h; exact h⟩
      · rename_i q
        exact done (i.keeps kk) (.grow kk) (.int a _) ⟨rfl, by rw [show min a b = a by omega] at h; exact h⟩
theorem opL_tuple {l : Nat} {xs : List V} (hl : S[l]? = some (.list xs)) (hz : xs.length ≤ 100000) (h : P (.tup xs) S) : opL prog w K X (fun vs => call (.type "tuple") vs) [.loc l] m S P E := fun s r vs i rvs => by
  cases rvs with
  | cons ra rest =>
    cases rest
    obtain ⟨d, items, rfl, hp, hd, rv⟩ := i.list hl ra
    have hlen := rv.length
    rw [Array.length_toList] at hlen
    refine call_tuple_list (plainIs hd) (fun h' kk => ?_) (by rw [sizeLine_eq]; omega)
    have kk2 : ∀ b o, s.heap.get? b = some o → (h'.push { cls := .type "tuple", data := .seq items }).get? b = some o := fun b o e => Heap.get?_push_of_some _ (kk b o e)
    exact done (i.keeps kk2) (.grow (t := s.toks) kk2) (.tup (Heap.get?_push_size _ rfl) rfl rfl (rv.mono (.of_keeps kk2) (.refl _))) ⟨rfl, h⟩
theorem opL_isStr {x : Str} (h : P (.bool true) S) : opL prog w K X (fun vs => call (.builtin "isinstance") vs) [.str x, .typ "str"] m S P E := fun s r vs i rvs => by
  cases rvs with
  | cons ra rest =>
    cases rest with
    | cons rb z =>
      cases z; cases ra; cases rb
      exact PySem.IsiPair.str_str (done i .refl (.bool _) ⟨rfl, h⟩)
theorem opL_notStr {xs : List V} (h : P (.bool false) S) : opL prog w K X (fun vs => call (.builtin "isinstance") vs) [.tup xs, .typ "str"] m S P E := fun s r vs i rvs => by
  cases rvs with
  | cons ra rest =>
    cases rest with
    | cons rb z =>
      cases z; cases rb
      cases ra with
      | tup e c d q => exact PySem.IsiPair.tuple_str e c (done (i.keeps (t := s.toks + 1) fun _ _ e => e) (.grow (t := s.toks + 1) fun _ _ e => e) (.bool _) ⟨rfl, h⟩)

/-! get -/
theorem opL_getS {l : Nat} {es : List (Sc × V)} {k : Sc} {d : V} (hl : S[l]? = some (.sdict es)) (h : P ((aGet es k).getD d) S) : opL prog w K X (fun vs => call (.builtin "dict.get") vs) [.loc l, k.v, d] m S P E := fun s r vs i rvs => by
  cases rvs with
  | cons ra rest =>
    cases rest with
    | cons rk rest =>
      cases rest with
      | cons rd z =>
        cases z
        obtain ⟨a, kvs, rfl, hp, hd, z, hm⟩ := i.sdict hl ra
        have hg := z.get k
        refine call_meetsIn F.slot_dict_get hd.typeIs F.entry_dict_get (F.args_dict_get_3 _ _ _) (meets_dict_get_default (scKind prog w) a rk.sc hm _) ⟨_, hd.mapOf, ?_⟩
        cases q : aGet es k with
        | none => rw [q] at hg h; rw [hg]; exact done (i.keeps (t := s.toks + 1) fun _ _ e => e) (.grow (t := s.toks + 1) fun _ _ e => e) rd ⟨rfl, h⟩
        | some x => rw [q] at hg h; obtain ⟨v, hv, rx⟩ := hg; rw [hv]; exact done (i.keeps (t := s.toks + 1) fun _ _ e => e) (.grow (t := s.toks + 1) fun _ _ e => e) rx ⟨rfl, h⟩
end
end Mine

namespace Mine

section keys
variable {prog : Program} {w : World} {A : Around} {E : Value → Shared → Prop} {s : Shared}
/-- a walk over a dict's keys, of whatever kind -/
theorem pyIter_keys {d : Addr} {o : Obj} {es : Array DictEntry} {ep : Nat} {Q : Value → Shared → Prop} (hd : (d == sysModules) = false) (ho : s.heap.get? d = some o) (hc : o.cls = .type "dict") (hdat : o.data = .dict es ep)
    (hQ : Q (.ref s.heap.objs.size) { s with heap := s.heap.push { cls := .type "dict_keyiterator", data := .fields #[.ref d, .int 0 0, .int es.size 0, .int ep 0] } }) :
    wpAny (model prog w) A (pyIter (.ref d)) Q E s := by
  have hT : s.TypeIs (.ref d) "dict" := ⟨o, ho, hc⟩
  refine wpAny_pyIter_slot hT F.slot_dict_iter (wpAny_call_entry F.slot_dict_iter hT F.entry_dict_iter ?_ (F.args_dict_iter_1 _))
  unfold Builtin.«dict.__iter__» Builtin.Dict.dictSlotNone
  refine wpAny_bind (wpAny_bind (wpAny_notOrdered_dict hT ?_))
  refine wpAny_pure ?_
  show wpAny _ _ (Builtin.Dict.showsAll d >>= _) _ _ s
  unfold Builtin.Dict.showsAll
  rw [if_neg (by rw [hd]; exact Bool.false_ne_true)]
  refine wpAny_bind (wpAny_pure (wpAny_bind (wpAny_dictEntries ho hdat (wpAny_bind (wpAny_dictEpoch ho hdat ?_)))))
  refine wpAny_bind (wpAny_newObj_type (wpAny_pure ⟨_, rfl, "dict_keyiterator", _, ⟨_, Heap.get?_push_size _ rfl, rfl⟩, F.slot_dict_keyiterator_next.lookup, ?_⟩))
  exact hQ
theorem pyNext_keys {it d : Addr} {i ep : Nat} {o : Obj} {es : Array DictEntry} {e : DictEntry} {Q : Option Value → Shared → Prop} (hit : s.heap.IsKeyIter it d i es.size ep)
    (ho : s.heap.get? d = some o) (hdat : o.data = .dict es ep) (hx : es[i]? = some e)
    (hQ : ∀ h', h'.IsKeyIter it d (i + 1) es.size ep → Heap.SameBut it s.heap h' → Q (some e.key) { s with heap := h' }) :
    wpAny (model prog w) A (pyNext (.ref it)) Q E s := by
  obtain ⟨oi, hoi, hci, hdi⟩ := id hit
  obtain ⟨hlt, rfl⟩ := Array.getElem?_eq_some_iff.mp hx
  unfold pyNext
  refine wpAny_bind (wpAny_attempt (wpAny_callSpecial?_slot (name := Str.ofString "__next__") hit.typeIs F.slot_dict_keyiterator_next
    (wpAny_call_entry F.slot_dict_keyiterator_next hit.typeIs F.entry_dict_keyiterator_next ?_ (F.args_dict_keyiterator_next_1 _))))
  refine wpAny_bind (wpAny_pure (wpAny_bind (wpAny_bind ?_)))
  first | refine wpAny_bind (wpAny_typeNameOfWhole_keyiter hit.typeIs (wpAny_pure ?_)) | refine wpAny_bind (wpAny_typeNameOf_keyiter hit.typeIs (wpAny_pure ?_))
  refine wpAny_bind (wpAny_fieldsOf hoi hdi ?_)
  have hown : Builtin.Dict_items.ownsTuple "dict_keyiterator" = false := by decide
  rw [hown, if_neg Bool.false_ne_true]
  show wpAny _ _ (if (Value.ref d == Value.none) = true then _ else _) _ _ s
  rw [if_neg (show ¬ ((Value.ref d == Value.none) = true) from Bool.false_ne_true)]
  refine wpAny_bind (wpAny_pure (wpAny_bind (wpAny_dictEntries ho hdat ?_)))
  rw [if_neg (by simp)]
  refine wpAny_bind (wpAny_pure (wpAny_bind (wpAny_dictEpoch ho hdat ?_)))
  rw [if_neg (by simp)]
  refine wpAny_pure ?_
  dsimp only
  rw [if_neg (Int.not_lt.mpr (Int.natCast_nonneg i)), Int.toNat_natCast, Array.getElem?_eq_getElem hlt]
  dsimp only
  refine wpAny_bind ?_
  first | refine wpAny_bind (wpAny_typeNameOfWhole_keyiter hit.typeIs (wpAny_pure ?_)) | refine wpAny_bind (wpAny_typeNameOf_keyiter hit.typeIs (wpAny_pure ?_))
  refine wpAny_bind (wpAny_isOneOf_keyiter hit.typeIs ?_)
  show wpAny _ _ (setField (.ref it) 1 (rawInt ((i : Int) + 1)) >>= _) _ _ s
  refine wpAny_bind (wpAny_setField hoi hdi (by simp) ?_)
  have hit' : (s.heap.update it (Obj.mapFields (·.setIfInBounds 1 (rawInt ((i : Int) + 1))))).IsKeyIter it d (i + 1) es.size ep :=
    ⟨_, Heap.get?_update_self _ hoi (Obj.isFreed_of_fields (Obj.data_mapFields hdi _)), (Obj.cls_mapFields ..).trans hci, by rw [Obj.data_mapFields hdi]; simp [rawInt]⟩
  refine wpAny_bind (wpAny_holding ?_)
  refine wpAny_bind (wpAny_isOneOf_keyiter (s := { s with heap := s.heap.update it (Obj.mapFields (·.setIfInBounds 1 (rawInt ((i : Int) + 1)))) }) hit'.typeIs ?_)
  show wpAny _ _ (pure es[i].key) _ _ _
  exact wpAny_pure (wpAny_pure ⟨_, rfl, wpAny_pure (hQ _ hit' (Heap.SameBut.update ..))⟩)
theorem pyNext_keysEnd {it d : Addr} {i ep : Nat} {o : Obj} {es : Array DictEntry} {Q : Option Value → Shared → Prop} (hh : A.handled = none) (hit : s.heap.IsKeyIter it d i es.size ep)
    (ho : s.heap.get? d = some o) (hdat : o.data = .dict es ep) (hx : es.size ≤ i)
    (hQ : ∀ h', Heap.ExtBut it s.heap h' → Q none { s with heap := h' }) : wpAny (model prog w) A (pyNext (.ref it)) Q E s := by
  obtain ⟨oi, hoi, hci, hdi⟩ := id hit
  unfold pyNext
  refine wpAny_bind (wpAny_attempt (wpAny_callSpecial?_slot (name := Str.ofString "__next__") hit.typeIs F.slot_dict_keyiterator_next
    (wpAny_call_entry F.slot_dict_keyiterator_next hit.typeIs F.entry_dict_keyiterator_next ?_ (F.args_dict_keyiterator_next_1 _))))
  refine wpAny_bind (wpAny_pure (wpAny_bind (wpAny_bind ?_)))
  first | refine wpAny_bind (wpAny_typeNameOfWhole_keyiter hit.typeIs (wpAny_pure ?_)) | refine wpAny_bind (wpAny_typeNameOf_keyiter hit.typeIs (wpAny_pure ?_))
  refine wpAny_bind (wpAny_fieldsOf hoi hdi ?_)
  have hown : Builtin.Dict_items.ownsTuple "dict_keyiterator" = false := by decide
  rw [hown, if_neg Bool.false_ne_true]
  show wpAny _ _ (if (Value.ref d == Value.none) = true then _ else _) _ _ s
  rw [if_neg (show ¬ ((Value.ref d == Value.none) = true) from Bool.false_ne_true)]
  refine wpAny_bind (wpAny_pure (wpAny_bind (wpAny_dictEntries ho hdat ?_)))
  rw [if_neg (by simp)]
  refine wpAny_bind (wpAny_pure (wpAny_bind (wpAny_dictEpoch ho hdat ?_)))
  rw [if_neg (by simp)]
  refine wpAny_pure ?_
  dsimp only
  rw [if_neg (Int.not_lt.mpr (Int.natCast_nonneg i)), Int.toNat_natCast, Array.getElem?_eq_none hx]
  dsimp only
  refine wpAny_bind ?_
  first | refine wpAny_bind (wpAny_typeNameOfWhole_keyiter hit.typeIs (wpAny_pure ?_)) | refine wpAny_bind (wpAny_typeNameOf_keyiter hit.typeIs (wpAny_pure ?_))
  show wpAny _ _ (setField (.ref it) 0 .none >>= _) _ _ s
  refine wpAny_bind (wpAny_setField hoi hdi (by simp) ?_)
  show wpAny _ _ (newExc (.type "StopIteration") [] >>= _) _ _ _
  refine wpAny_bind ?_
  simp only [newExc, newTuple]
  refine wpAny_bind (wpAny_newObj_type ?_ (by size_fits))
  refine wpAny_bind (m := firstArgMember _ _) (wpAny_of_eq (a := Value.none) (by first | rfl | (simp only [firstArgMember]; rfl)) ?_)
  refine wpAny_newObj_type ?_ (by size_fits)
  simp only [raiseNew]
  refine wpAny_bind (wpAny_handled ?_)
  rw [show A.in1.handled = none from hh]
  refine wpAny_bind (wpAny_pure (wpAny_throw ?_))
  refine wpAny_bind (wpAny_isInstance (T := "StopIteration") (b := true) ⟨_, Heap.get?_push_size _ rfl, rfl⟩ isSubtype_stop ?_)
  exact wpAny_pure (hQ _ (((Heap.SameBut.update ..).extBut.push _).push _))
/-- nothing to let go -/
theorem letOwned_no {target : Expr} {ia : Addr} {o : Obj} {n : String} {v : Value} {Q : Unit → Shared → Prop} (ho : s.heap.get? ia = some o) (hc : o.cls = .type n)
    (hn : ["enumerate", "zip", "dict_itemiterator", "dict_reverseitemiterator", "odict_iterator", "itertools.zip_longest", "itertools.pairwise"].contains n = false) (h : Q () s) :
    wpAny (model prog w) A (letOwnedTupleGo target (.ref ia) v) Q E s := by
  have key : wpAny (model prog w) A (do
      let (.ref r, .ref a) := ((Value.ref ia), v) | return
      let o ← load r
      match o.cls, o.data with
      | .type n, .fields vs =>
        if ["enumerate", "zip", "dict_itemiterator", "dict_reverseitemiterator", "odict_iterator", "itertools.zip_longest", "itertools.pairwise"].contains n && vs[0]? == some (rawInt a) then
          rule "for.unpacks-the-owned-tuple"
          updateField r 0 .none
      | _, _ => pure ()) Q E s := by
    cases v with
    | ref a =>
      refine wpAny_bind (wpAny_load ho ?_)
      rw [hc]
      cases o.data with
      | fields vs =>
        show wpAny _ _ (if (_ && _) = true then _ else _) _ _ _
        rw [hn, Bool.false_and, if_neg Bool.false_ne_true]
        exact wpAny_pure h
      | _ => exact wpAny_pure h
    | _ => exact wpAny_pure h
  unfold letOwnedTupleGo
  cases target with
  | Tuple => exact key
  | List => exact key
  | _ => exact wpAny_pure h
end keys
end Mine

namespace Mine

theorem Kp.of_extBut {h h' : Heap} {d : Addr} (k : Heap.ExtBut d h h') (hd : ∀ o, h.get? d = some o → frozen o = false) : Kp h h' := fun a o e f => by
  by_cases q : a = d
  · subst q; rw [hd o e] at f; cases f
  · exact ⟨o, k a o q e, rfl, rfl, rfl⟩

noncomputable def Fresh (X : Cx) (a : Addr) : Prop := X.g.get? a = none ∧ a ≠ X.L ∧ (∀ x c, X.cl.lookup x = some c → c ≠ a) ∧ a ∉ X.keep

theorem Ext.over {X : Cx} {s₀ s : Shared} {r₀ r : Ro} {h' : Heap} {t : Nat} {a : Addr} (x : Ext X s₀ r₀ s r) (k : Heap.ExtBut a s.heap h') (hn : s₀.heap.get? a = none) : Ext X s₀ r₀ { s with heap := h', toks := t } r := by
  have ne : ∀ b o, s₀.heap.get? b = some o → b ≠ a := fun b o e q => by rw [q, hn] at e; cases e
  refine ⟨fun b o e f => ?_, x.2.1, fun b o e a1 a2 a3 => ?_, x.2.2.2⟩
  · obtain ⟨o', e', z⟩ := x.1 b o e f
    exact ⟨o', k b o' (ne b o e) e', z⟩
  · obtain ⟨sl, e', z⟩ := x.2.2.1 b o e a1 a2 a3
    exact ⟨sl, k b _ (ne b o e) e', z⟩

section
variable {prog : Program} {w : World} {K : Frag} {X : Cx} {m : Loc} {S : MS} {r : Ro} {s : Shared}
theorem In.fresh (I : In prog w K X m S r s) {a : Addr} (hn : s.heap.get? a = none) : Fresh X a := by
  refine ⟨I.gnone hn, fun q => ?_, fun x c e q => ?_, fun q => ?_⟩
  · obtain ⟨o, ho, _⟩ := I.Lat
    rw [← q, hn] at ho; cases ho
  · obtain ⟨v, o, ho, _⟩ := I.cells x c e
    rw [q, hn] at ho; cases ho
  · obtain ⟨_, _, o, ho, _⟩ := I.kept _ q
    rw [hn] at ho; cases ho
theorem HRep.extBut {h h' : Heap} {d : Addr} (hs : Heap.ExtBut d h h') (hf : ∀ o, h.get? d = some o → frozen o = false) (hd : ∀ p ∈ r, p.2 ≠ d) (x : HRep prog w h r S) : HRep prog w h' r S := by
  refine ⟨x.1, x.2.1, fun l mo e => ?_⟩
  obtain ⟨p, e', ro⟩ := x.2.2 l mo e
  have h2 : p.2 ≠ d := hd p (List.mem_of_getElem? e')
  have h1 : p.1 ≠ d := by
    rcases ro.fstAt with q | ⟨o, ho, hfo, _⟩
    · rw [q]; exact h2
    · rintro rfl; rw [hf o ho] at hfo; cases hfo
  exact ⟨p, e', ro.mono (.of_extBut hs hf) (.refl r) (fun o ho _ => ⟨o.slots, hs _ _ h1 ho⟩) (fun o ho => hs _ _ h2 ho)⟩
/-- a change of one fresh object -/
theorem In.butX {h' : Heap} {g d t os} {a : Addr} (I : In prog w K X m S r s) (hs : Heap.ExtBut a s.heap h') (hf : ∀ o, s.heap.get? a = some o → frozen o = false) (fr : Fresh X a) (hr : ∀ p ∈ r, p.2 ≠ a) : In prog w K X m S r ⟨h', g, d, t, os⟩ := by
  obtain ⟨hg, hL, hc, hkp⟩ := fr
  obtain ⟨mm, F, hm⟩ := I.fr
  have cell : ∀ c v, c ≠ a → s.heap.IsCell c v → h'.IsCell c v := fun c v q ⟨o, ho, hd⟩ => ⟨o, hs _ _ q ho, hd⟩
  have F' : Fr X.g X.L h' mm := ⟨F.ns.extBut hs (Ne.symm hL), fun b o e => hs _ _ (fun q => by rw [q, hg] at e; cases e) (F.keep b o e), F.above⟩
  refine ⟨I.ok, ⟨mm, F', fun x v e => ?_⟩, fun x c e => let ⟨v, hv⟩ := I.cells x c e; ⟨v, cell _ _ (hc x c e) hv⟩, I.rep.extBut hs hf hr, I.new, fun b hb => let ⟨a1, a2, o, ho, hd⟩ := I.kept b hb; ⟨a1, a2, o, hs b o (fun q => hkp (q ▸ hb)) ho, hd⟩⟩
  obtain ⟨v', a', b⟩ := hm x v e
  refine ⟨v', a'.mono (.of_extBut hs hf) (.refl _), ?_⟩
  split <;> rename_i c q <;> rw [q] at b
  · exact cell _ _ (hc x c q) b
  · exact b
end

/-- an iterator, what it walks over, and what is to come -/
inductive It (h : Heap) (r : Ro) (ia : Addr) : Option (Nat × MO) → List V → Prop
  | list {l d i xs rest} : h.IsListIter ia d i → r[l]? = some (d, d) → rest = xs.drop i → It h r ia (some (l, .list xs)) rest
  | rev {l d xs rest} {n : Nat} : h.IsRevIter ia d ((n : Int) - 1) → r[l]? = some (d, d) → n ≤ xs.length → rest = (xs.take n).reverse → It h r ia (some (l, .list xs)) rest
  | tup {t i items xs rest} : h.IsTupleIter ia t i → h.IsTuple t items → RVs h r items.toList xs → rest = xs.drop i → It h r ia none rest
  | range {a : Int} {n : Nat} {rest} : IsRangeIter h ia a n 1 → rest = (List.range n).map (fun j => .int (a + (j : Nat))) → It h r ia none rest
  | keys {l d i ep ents es o rest} : h.IsKeyIter ia d i ents.size ep → r[l]? = some (d, d) → o.data = .dict ents ep → rest = (es.map fun e => tk e.1).drop i → It h r ia (some (l, .lockT es o)) rest
  | items {l d i ep ents es o ok ov rest} : IsItemIter h ia d i ents.size ep ok ov → r[l]? = some (d, d) → o.data = .dict ents ep → rest = (es.map fun e => V.tup [e.1.v, e.2]).drop i → It h r ia (some (l, .lockS es o)) rest

theorem It.at {h : Heap} {r : Ro} {ia : Addr} {src : Option (Nat × MO)} {rest : List V} (t : It h r ia src rest) : ∃ o vs, h.get? ia = some o ∧ o.data = .fields vs ∧ (o.cls ≠ .type "traceback" ∧ o.cls ≠ .ref PE) := by
  cases t with
  | list a _ _ => obtain ⟨o, ho, hc, hd⟩ := a; exact ⟨o, _, ho, hd, by rw [hc]; decide, by rw [hc]; exact nofun⟩
  | rev a _ _ _ => obtain ⟨o, ho, hc, hd⟩ := a; exact ⟨o, _, ho, hd, by rw [hc]; decide, by rw [hc]; exact nofun⟩
  | tup a _ _ _ => obtain ⟨o, ho, hc, hd⟩ := a; exact ⟨o, _, ho, hd, by rw [hc]; decide, by rw [hc]; exact nofun⟩
  | range a _ => exact ⟨_, _, a, rfl, by show Value.type "range_iterator" ≠ _; decide, nofun⟩
  | keys a _ _ _ => obtain ⟨o, ho, hc, hd⟩ := a; exact ⟨o, _, ho, hd, by rw [hc]; decide, by rw [hc]; exact nofun⟩
  | items a _ _ _ => exact ⟨_, _, a, rfl, by show Value.type "dict_itemiterator" ≠ _; decide, nofun⟩
theorem It.mono {h h' : Heap} {r r' : Ro} {ia : Addr} {src : Option (Nat × MO)} {rest : List V} (t : It h r ia src rest) (k : Kp h h') (q : Pre r r') (e : ∀ o, h.get? ia = some o → h'.get? ia = some o) : It h' r' ia src rest := by
  cases t with
  | list a b c => obtain ⟨o, ho, hc, hd⟩ := a; exact .list ⟨o, e o ho, hc, hd⟩ (q _ _ b) c
  | rev a b n c => obtain ⟨o, ho, hc, hd⟩ := a; exact .rev ⟨o, e o ho, hc, hd⟩ (q _ _ b) n c
  | tup a b rv c =>
    obtain ⟨o, ho, hc, hd⟩ := a
    obtain ⟨ot, hot, hct, n, hdt⟩ := b
    obtain ⟨o', e', c', _, t'⟩ := k _ _ hot (by unfold frozen; rw [hdt, hct]; rfl)
    exact .tup ⟨o, e o ho, hc, hd⟩ ⟨o', e', c'.trans hct, n, t'.trans hdt⟩ (rv.mono k q) c
  | range a c => exact .range (e _ a) c
  | keys a b d c => obtain ⟨o, ho, hc, hd⟩ := a; exact .keys ⟨o, e o ho, hc, hd⟩ (q _ _ b) d c
  | items a b d c => exact .items (e _ a) (q _ _ b) d c

noncomputable def isTuple : Expr → Bool
  | .Tuple .. => true
  | _ => false
noncomputable def owned : Option (Nat × MO) → Bool
  | some (_, .lockS ..) => true
  | _ => false

section
variable {prog : Program} {w : World} {K : Frag} {X : Cx} {m : Loc} {S : MS} {r : Ro} {s : Shared} {ia : Addr} {src : Option (Nat × MO)}

theorem drop_cons {α : Type} {xs rest : List α} {x : α} {i : Nat} (e : x :: rest = xs.drop i) : xs[i]? = some x ∧ rest = xs.drop (i + 1) := by
  have h1 : xs[i]? = some x := by
    have : (xs.drop i)[0]? = some x := by rw [← e]; rfl
    rw [List.getElem?_drop] at this; simpa using this
  refine ⟨h1, ?_⟩
  have : (xs.drop i).tail = xs.drop (i + 1) := by rw [List.tail_drop]
  rw [← this, ← e]; rfl
theorem drop_nil {α : Type} {xs : List α} {i : Nat} (e : [] = xs.drop i) : xs[i]? = none := by
  rw [List.getElem?_eq_none_iff]
  exact List.drop_eq_nil_iff.mp e.symm

theorem It.frozen (t : It s.heap r ia src rest) : ∀ o, s.heap.get? ia = some o → frozen o = false := fun o ho => by
  obtain ⟨o', vs, h1, h2, _⟩ := t.at
  rw [h1] at ho; cases ho
  unfold Mine.frozen; rw [h2]
theorem It.apart (i : In prog w K X m S r s) (t : It s.heap r ia src rest) : ∀ p ∈ r, p.2 ≠ ia := by
  obtain ⟨o', vs, h1, h2, _⟩ := t.at
  exact i.cls h1 (.inr (.inl (.inl ⟨vs, h2⟩)))

theorem It.next {x : V} {rest : List V} (i : In prog w K X m S r s) (hsrc : ∀ l mo, src = some (l, mo) → S[l]? = some mo) (t : It s.heap r ia src (x :: rest)) (fr : Fresh X ia) {target : Expr} (htg : owned src = true → isTuple target = true)
    {R : Option Value → Shared → Prop} {E' : Value → Shared → Prop}
    (h : ∀ v s1, (∀ {Q : Unit → Shared → Prop} {E2 : Value → Shared → Prop}, (∀ h' t', In prog w K X m S r { s with heap := h', toks := t' } → Heap.ExtBut ia s.heap h' → RV h' r v x → It h' r ia src rest → Q () { s with heap := h', toks := t' }) →
      wpAny (model prog w) X.A (letOwnedTupleGo target (.ref ia) v) Q E2 s1) → R (some v) s1) : wpAny (model prog w) X.A (pyNext (.ref ia)) R E' s := by
  have hf := t.frozen
  have hap := t.apart i
  have kp : ∀ {h'}, Heap.ExtBut ia s.heap h' → Kp s.heap h' := fun k => .of_extBut k hf
  cases t with
  | @list l d n xs _ a b c =>
    obtain ⟨p, hp, rfl', items, hpl, rv⟩ := i.rep.2.2 l _ (hsrc _ _ rfl)
    rw [b] at hp; cases hp
    obtain ⟨hx, hrest⟩ := drop_cons c
    obtain ⟨v, hv, rx⟩ := rv.get hx
    refine wpAny_pyNext_list_item a (plainIs hpl) (by simpa using hv) fun h' a' hs => h _ _ fun {Q E2} hQ => ?_
    obtain ⟨oi, hoi, hci, _⟩ := id a'
    exact letOwned_no hoi hci (by decide) (hQ h' s.toks (i.butX hs.extBut hf fr hap) hs.extBut (rx.mono (kp hs.extBut) (.refl _)) (.list a' b hrest))
  | @rev l d xs _ n a b hn c =>
    obtain ⟨p, hp, rfl', items, hpl, rv⟩ := i.rep.2.2 l _ (hsrc _ _ rfl)
    rw [b] at hp; cases hp
    cases n with
    | zero => simp at c
    | succ n =>
      have hlt : n < xs.length := hn
      have hz : (xs.take (n + 1)).reverse = xs[n] :: (xs.take n).reverse := by rw [List.take_succ_eq_append_getElem hlt]; simp
      rw [hz] at c
      obtain ⟨rfl, hrest⟩ := List.cons.inj c
      obtain ⟨v, hv, rx⟩ := rv.get (i := n) (x := xs[n]) (by simp)
      have ae : s.heap.IsRevIter ia d (n : Int) := by have := a; rwa [show ((n + 1 : Nat) : Int) - 1 = n by omega] at this
      refine wpAny_pyNext_rev_item ae (plainIs hpl) (by simpa using hv) fun h' a' hs => h _ _ fun {Q E2} hQ => ?_
      obtain ⟨oi, hoi, hci, _⟩ := id a'
      exact letOwned_no hoi hci (by decide) (hQ h' s.toks (i.butX hs.extBut hf fr hap) hs.extBut (rx.mono (kp hs.extBut) (.refl _)) (.rev a' b (Nat.le_of_lt hlt) hrest))
  | @tup tt n items xs _ a b rv c =>
    obtain ⟨hx, hrest⟩ := drop_cons c
    obtain ⟨v, hv, rx⟩ := rv.get hx
    refine wpAny_pyNext_tuple_item a b (by simpa using hv) fun h' a' hs => h _ _ fun {Q E2} hQ => ?_
    obtain ⟨oi, hoi, hci, _⟩ := id a'
    obtain ⟨ot, hot, hct, nn, hdt⟩ := b
    obtain ⟨o', e', c', _, t'⟩ := kp hs.extBut _ _ hot (by unfold Mine.frozen; rw [hdt, hct]; rfl)
    exact letOwned_no hoi hci (by decide) (hQ h' s.toks (i.butX hs.extBut hf fr hap) hs.extBut (rx.mono (kp hs.extBut) (.refl _)) (.tup a' ⟨o', e', c'.trans hct, nn, t'.trans hdt⟩ (rv.mono (kp hs.extBut) (.refl _)) hrest))
  | @range a n _ hit c =>
    cases n with
    | zero => simp at c
    | succ n =>
      rw [List.range_succ_eq_map, List.map_cons] at c
      obtain ⟨rfl, hrest⟩ := List.cons.inj c
      refine wpAny_pyNext_range_item hit (by omega) fun h' a' hs => h _ _ fun {Q E2} hQ => ?_
      refine letOwned_no a' rfl (by decide) (hQ h' (s.toks + 1) (i.butX hs.extBut hf fr hap) hs.extBut (by rw [show a + ((0 : Nat) : Int) = a by omega]; exact .int _ _) (.range (a := a + 1) (n := n) ?_ ?_))
      · rwa [show ((n + 1 : Nat) : Int) - 1 = n by omega] at a'
      · rw [hrest, List.map_map]
        apply List.map_congr_left
        intro j _
        show V.int (a + ((j + 1 : Nat) : Int)) = V.int (a + 1 + (j : Int))
        congr 1; omega
  | @keys l d n ep ents es o _ a b hd c =>
    obtain ⟨p, hp, e0, hob, xs, hdh, kv⟩ := i.rep.2.2 l _ (hsrc _ _ rfl)
    rw [b] at hp; cases hp
    obtain ⟨hx, hrest⟩ := drop_cons c
    obtain ⟨o', ents', ep', ho', hc', hd', he', hi', hn'⟩ := id hdh
    rw [show s.heap.get? d = some o from hob] at ho'; cases ho'
    rw [hd] at hd'; cases hd'
    rw [List.getElem?_map] at hx
    have hxx : ∃ q, xs[n]? = some q ∧ x = tk q.1 := by
      have hk := kv.keys
      rw [List.map_map] at hk
      have : (xs.map (fun q => q.1))[n]? = (es.map (·.1))[n]? := by rw [← hk]; rfl
      rw [List.getElem?_map, List.getElem?_map] at this
      cases q : es[n]? with
      | none => rw [q] at hx; cases hx
      | some e =>
        rw [q] at hx this
        cases q2 : xs[n]? with
        | none => rw [q2] at this; cases this
        | some y => rw [q2] at this; cases hx; exact ⟨y, rfl, by injection this with this; exact congrArg tk (Eq.symm this)⟩
    obtain ⟨⟨ks, ka, va⟩, hq, rfl⟩ := hxx
    have hent : ents[n]? = some (entryOfKey (tupleKind (scKind prog w)) (ks, ka, va)) := by
      rw [← Array.getElem?_toList, he', List.getElem?_map, hq]; rfl
    refine pyNext_keys a hob hd hent fun h' a' hs => h _ _ fun {Q E2} hQ => ?_
    obtain ⟨oi, hoi, hci, _⟩ := id a'
    have rx : RV s.heap r (.ref ka) (tk ks) := .of_key (prog := prog) (w := w) (hi' _ (List.mem_of_getElem? hq))
    exact letOwned_no hoi hci (by decide) (hQ h' s.toks (i.butX hs.extBut hf fr hap) hs.extBut (rx.mono (kp hs.extBut) (.refl _)) (.keys a' b hd hrest))
  | @items l d n ep ents es o ok ov _ a b hd c =>
    obtain ⟨p, hp, e0, hob, kvs, hdh, kv⟩ := i.rep.2.2 l _ (hsrc _ _ rfl)
    rw [b] at hp; cases hp
    obtain ⟨hx, hrest⟩ := drop_cons c
    obtain ⟨o', ents', ep', ho', hc', hd', hk', hpr', hn'⟩ := id hdh
    rw [show s.heap.get? d = some o from hob] at ho'; cases ho'
    rw [hd] at hd'; cases hd'
    have hsz : ents.size = kvs.length := by rw [← hpr'.length]; simp
    have hat : s.heap.DictAt (scKind prog w) d kvs ep := ⟨o, ents, hob, hc', hd, hk', hpr', hn'⟩
    rw [List.getElem?_map] at hx
    have hxx : ∀ {kvs : List (Sc × Value)} {es : List (Sc × V)}, KV s.heap r kvs es → ∀ (n : Nat), (es[n]?).map (fun (e : Sc × V) => V.tup [e.1.v, e.2]) = some x → ∃ (k : Sc) (v : Value) (y : V), kvs[n]? = some (k, v) ∧ x = V.tup [k.v, y] ∧ RV s.heap r v y := by
      intro kvs es kv
      induction kv with
      | nil => intro n e; simp at e
      | @cons k v y vs xs rv _ ih =>
        intro n e
        cases n with
        | zero => simp at e; exact ⟨k, v, y, rfl, e.symm, rv⟩
        | succ n => rw [List.getElem?_cons_succ] at e; rw [List.getElem?_cons_succ]; exact ih n e
    obtain ⟨k, v, y, hq, rfl, ry⟩ := hxx kv n hx
    rw [hsz] at a
    refine wpAny_pyNext_items_item a hat hq fun key h' hkey hout htup hz' keep => h _ _ fun {Q E2} hQ => ?_
    have htt : isTuple target = true := htg rfl
    cases target <;> first | cases htt | skip
    refine wpAny_letOwnedTupleGo_items hout fun h2 hit2 hs2 => ?_
    have eb : Heap.ExtBut ia s.heap h2 := fun b o q e => hs2.extBut b o q (keep b o q e)
    have hlt : ia ≠ s.heap.objs.size := Nat.ne_of_lt (Heap.lt_size a)
    rw [← hsz] at hit2
    refine hQ h2 s.toks (i.butX eb hf fr hap) eb (.tup (o := { cls := .type "tuple", data := .seq #[key, v] }) (hs2.extBut _ _ (Ne.symm hlt) htup) rfl rfl (.cons (RV.of_sc hkey) (.cons (ry.mono (kp eb) (.refl _)) .nil))) (.items hit2 b hd hrest)

theorem It.stop (i : In prog w K X m S r s) (hsrc : ∀ l mo, src = some (l, mo) → S[l]? = some mo) (t : It s.heap r ia src []) (fr : Fresh X ia)
    {R : Option Value → Shared → Prop} {E' : Value → Shared → Prop}
    (h : ∀ h', In prog w K X m S r { s with heap := h' } → Heap.ExtBut ia s.heap h' → R none { s with heap := h' }) : wpAny (model prog w) X.A (pyNext (.ref ia)) R E' s := by
  have hf := t.frozen
  have hap := t.apart i
  have hh := i.ok.hA
  cases t with
  | @list l d n xs _ a b c =>
    obtain ⟨p, hp, rfl', items, hpl, rv⟩ := i.rep.2.2 l _ (hsrc _ _ rfl)
    rw [b] at hp; cases hp
    have hx := drop_nil c
    refine wpAny_pyNext_list_end hh a (plainIs hpl) ?_ fun h' hs => h h' (i.butX hs hf fr hap) hs
    rw [List.getElem?_eq_none_iff, ← rv.length] at hx
    rw [Array.getElem?_eq_none_iff]; simpa using hx
  | @rev l d xs _ n a b hn c =>
    have : n = 0 := by
      have := congrArg List.length c
      simp at this; omega
    subst this
    exact wpAny_pyNext_rev_end hh a fun h' hs => h h' (i.butX hs hf fr hap) hs
  | @tup tt n items xs _ a b rv c =>
    have hx := drop_nil c
    refine wpAny_pyNext_tuple_end hh a b ?_ fun h' hs => h h' (i.butX hs hf fr hap) hs
    rw [List.getElem?_eq_none_iff, ← rv.length] at hx
    rw [Array.getElem?_eq_none_iff]; simpa using hx
  | @range a n _ hit c =>
    have : n = 0 := by
      have := congrArg List.length c
      simp at this; omega
    subst this
    exact wpAny_pyNext_range_end hh hit (by omega) fun h' hs => h h' (i.butX hs hf fr hap) hs
  | @keys l d n ep ents es o _ a b hd c =>
    obtain ⟨p, hp, e0, hob, xs, hdh, kv⟩ := i.rep.2.2 l _ (hsrc _ _ rfl)
    rw [b] at hp; cases hp
    have hx := drop_nil c
    obtain ⟨o', ents', ep', ho', hc', hd', he', hi', hn'⟩ := id hdh
    rw [show s.heap.get? d = some o from hob] at ho'; cases ho'
    rw [hd] at hd'; cases hd'
    refine pyNext_keysEnd hh a hob hd ?_ fun h' hs => h h' (i.butX hs hf fr hap) hs
    have hl := kv.length
    rw [List.getElem?_eq_none_iff, List.length_map, ← hl, List.length_map] at hx
    rw [← Array.length_toList, he', List.length_map]; exact hx
  | @items l d n ep ents es o ok ov _ a b hd c =>
    obtain ⟨p, hp, e0, hob, kvs, hdh, kv⟩ := i.rep.2.2 l _ (hsrc _ _ rfl)
    rw [b] at hp; cases hp
    have hx := drop_nil c
    obtain ⟨o', ents', ep', ho', hc', hd', hk', hpr', hn'⟩ := id hdh
    rw [show s.heap.get? d = some o from hob] at ho'; cases ho'
    rw [hd] at hd'; cases hd'
    have hsz : ents.size = kvs.length := by rw [← hpr'.length]; simp
    have hat : s.heap.DictAt (scKind prog w) d kvs ep := ⟨o, ents, hob, hc', hd, hk', hpr', hn'⟩
    rw [hsz] at a
    refine wpAny_pyNext_items_end hh a hat ?_ fun h' hs => h h' (i.butX hs hf fr hap) hs
    rw [List.getElem?_eq_none_iff, List.length_map, ← kv.length] at hx
    rw [List.getElem?_eq_none_iff]; exact hx
end
end Mine

namespace Mine

section
variable {prog : Program} {w : World} {K : Frag} {X : Cx} {m : Loc} {S : MS} {E : V → MS → Prop}

theorem Ext.rec {s₀ s s' : Shared} {r₀ r r' : Ro} {ia : Addr} {src rest} (i : In prog w K X m S r s) (t : It s.heap r ia src rest) (fr : Fresh X ia) (x : Ext X s r s' r') : It s'.heap r' ia src rest := by
  obtain ⟨o, vs, ho, hd, hc⟩ := t.at
  refine t.mono x.1 x.2.1 fun o' ho' => ?_
  rw [ho] at ho'; cases ho'
  obtain ⟨sl, e, z⟩ := x.2.2.1 ia o ho (.inr (.inl (.inl ⟨vs, hd⟩))) (fun _ => ⟨fr.2.1, fr.2.2.1⟩) (.inr hc)
  rw [z ⟨vs, hd⟩] at e; exact e

/-! targets -/
noncomputable def tg (prog : Program) (w : World) (K : Frag) (X : Cx) (target : Expr) (x : V) (m : Loc) (S : MS) (P : Loc → Prop) : Prop :=
  ∀ s r v, In prog w K X m S r s → RV s.heap r v x → ∀ {E' : Value → Shared → Prop}, wpAny (model prog w) X.A (assign target X.env v) (fun _ s' => ∃ m', In prog w K X m' S r s' ∧ Ext X s r s' r ∧ P m') E' s
theorem tg_name {x : Str} {px : Pos} {v : V} {P : Loc → Prop} (hO : X.own = true) (hx : X.cs.names.lookup x = some .local) (hc : X.cl.lookup x = none) (h : P (upd m x v)) : tg prog w K X (.Name x px) v m S P := fun s r va i q E' =>
  wpAny_assign_Name (wp_store hO i q hx hc fun h' i2 e2 => ⟨_, i2, e2, h⟩)
/-- targets one behind the other -/
noncomputable def tgs (prog : Program) (w : World) (K : Frag) (X : Cx) : List Expr → List V → Loc → MS → (Loc → Prop) → Prop
  | [], [], m, _, P => P m
  | t :: ts, x :: xs, m, S, P => tg prog w K X t x m S (fun m' => tgs prog w K X ts xs m' S P)
  | _, _, _, _, _ => False
theorem tgs_run {E' : Value → Shared → Prop} {P : Loc → Prop} : ∀ {ts : List Expr} {xs : List V} {vs : List Value} {m : Loc} {s : Shared} {r : Ro}, In prog w K X m S r s → RVs s.heap r vs xs → tgs prog w K X ts xs m S P →
    wpAny (model prog w) X.A (assignInOrder (ts.map fun t => assign t X.env) vs) (fun _ s' => ∃ m', In prog w K X m' S r s' ∧ Ext X s r s' r ∧ P m') E' s := by
  intro ts
  induction ts with
  | nil =>
    intro xs vs m s r i q h
    cases xs with
    | nil => cases q; exact wpAny_pure ⟨m, i, .refl, h⟩
    | cons => exact h.elim
  | cons t ts ih =>
    intro xs vs m s r i q h
    cases xs with
    | nil => exact h.elim
    | cons x xs =>
      cases q with
      | cons a b =>
        refine assignInOrder_cons (wpAny_mono (h s r _ i a) (fun _ s' ⟨m', i', e', h'⟩ => ?_) fun _ _ z => z)
        exact wpAny_mono (ih i' (b.mono e'.1 e'.2.1) h') (fun _ _ ⟨m2, i2, e2, h2⟩ => ⟨m2, i2, e'.trans e2, h2⟩) fun _ _ z => z
theorem tg_tuple {elts : List Expr} {k : Nat} {pos : Pos} {xs : List V} {P : Loc → Prop} (hz : elts.length = xs.length) (he : assignEach elts X.env = elts.map fun t => (false, assign t X.env))
    (h : tgs prog w K X elts xs m S P) : tg prog w K X (.Tuple elts k pos) (.tup xs) m S P := fun s r va i q E' => by
  cases q with
  | @tup a o items n _ e c d rv =>
    have hlen := rv.length
    rw [Array.length_toList] at hlen
    refine wpAny_assign_Tuple i.ok.hA ⟨o, e, c, n, d⟩ (by rw [he, List.length_map, hz, hlen]) ?_ fun h' eb => ?_
    · rw [he, List.findIdx?_eq_none_iff]
      intro x hx
      obtain ⟨t, _, rfl⟩ := List.mem_map.mp hx
      rfl
    · have kk : ∀ b o, s.heap.get? b = some o → h'.get? b = some o := fun b o e => eb b o (fun q => by rw [q, hnew] at e; cases e) e
      rw [he, List.map_map]
      exact wpAny_mono (tgs_run (i.keeps (t := s.toks) kk) (rv.mono (.of_keeps kk) (.refl _)) h) (fun _ _ ⟨m2, i2, e2, h2⟩ => ⟨m2, i2, (Ext.grow (t := s.toks) kk).trans e2, h2⟩) fun _ _ z => z
theorem sx_unpack {P : Fl → Loc → MS → Prop} {elts : List Expr} {k : Nat} {tpos pos : Pos} {e : Expr} (hs : swapsWithSole [.Tuple elts k tpos] e pos.line X.env = pure false) (hw : swappedStores [.Tuple elts k tpos] e X.env = pure none)
    (h : ex prog w K X e m S (fun v S' => tg prog w K X (.Tuple elts k tpos) v m S' (fun m' => P .next m' S')) E) : sx prog w K X (.Assign [.Tuple elts k tpos] e pos) m S P E := fun s ro i => by
  refine Assign_Tuple (step .refl (h s ro i) fun va a m1 S1 r1 s1 i1 e1 _ q1 p1 => ?_) hs hw
  obtain ⟨rfl, p1⟩ := p1
  exact wpAny_mono (p1 s1 r1 va i1 q1) (fun _ s2 ⟨m', i2, e2, h2⟩ => done (b := Fl.next) i2 (e1.trans e2) trivial h2) fun _ _ z => z

/-! for -/
noncomputable def turnOf (I : List V → Loc → MS → Prop) (P : Fl → Loc → MS → Prop) (rest : List V) : Fl → Loc → MS → Prop := fun f m S => match f with
  | .next => I rest m S
  | .cont => I rest m S
  | .brk => P .next m S
  | .ret v => P (.ret v) m S
theorem forLoopR {P : Fl → Loc → MS → Prop} {target : Expr} {body : List Stmt} {ia : Addr} {src : Option (Nat × MO)} {xs : List V} {s : Shared} {r : Ro} (I : List V → Loc → MS → Prop) (i : In prog w K X m S r s) (t : It s.heap r ia src xs) (fr : Fresh X ia)
    {s₀ : Shared} {r₀ : Ro} (e₀ : Ext X s₀ r₀ s r) (hn : s₀.heap.get? ia = none) (htg : owned src = true → isTuple target = true) (h0 : I xs m S)
    (hsrc : ∀ rest m S, I rest m S → ∀ l mo, src = some (l, mo) → S[l]? = some mo)
    (turn : ∀ x rest m S, I (x :: rest) m S → tg prog w K X target x m S (fun m' => ss prog w K X body m' S (turnOf I P rest) E))
    (fin : ∀ m S, I [] m S → P .next m S) :
    codeAny (model prog w) X.A (.forLoop target (.ref ia) body [] X.env) (fun res s' => match res with | .ok f => Post prog w K RF X s₀ r₀ P f s' | .error e => cameBackBy (model prog w) X.A X.env (PostE prog w X s₀ r₀ E) e s') s := by
  refine codeAny_forLoop_any (fun n s' => ∃ rest m' S' r', n = rest.length ∧ In prog w K X m' S' r' s' ∧ Ext X s₀ r₀ s' r' ∧ It s'.heap r' ia src rest ∧ I rest m' S') ?_ xs.length ⟨xs, m, S, r, rfl, i, e₀, t, h0⟩
  rintro n s' ⟨rest, m', S', r', rfl, i', e', t', h'⟩
  cases rest with
  | nil =>
    refine It.stop i' (hsrc _ _ _ h') t' fr fun h2 i2 eb => ?_
    exact wpAny_execs_nil (done (b := Fl.next) i2 (e'.over eb hn) trivial (fin _ _ h'))
  | cons x rest =>
    refine It.next i' (hsrc _ _ _ h') t' fr htg fun v s1 own => own fun h2 t2 i2 eb rx it2 => ?_
    refine wpAny_mono (turn x rest m' S' h' _ _ v i2 rx) (fun _ s3 ⟨m3, i3, e3, h3⟩ => ?_) fun _ _ z => z
    have e2 := (e'.over (t := t2) eb hn)
    have e23 := e2.trans e3
    have it3 := Ext.rec (s₀ := s') (r₀ := r') i2 it2 fr e3
    refine wpAny_mono (h3 s3 r' i3) (fun f s4 ⟨b, m4, S4, r4, i4, e4, q4, p4⟩ => ?_) fun e s4 z => passLoop i.ok.frames (z.after e23)
    have it4 := Ext.rec (s₀ := s') (r₀ := r') i3 it3 fr e4
    cases f <;> cases b <;> first | exact q4.elim | skip
    · exact ⟨rest.length, Nat.lt_succ_self _, rest, m4, S4, r4, rfl, i4, e23.trans e4, it4, p4⟩
    · exact done (b := Fl.next) i4 (e23.trans e4) trivial p4
    · exact ⟨rest.length, Nat.lt_succ_self _, rest, m4, S4, r4, rfl, i4, e23.trans e4, it4, p4⟩
    · exact done (b := Fl.ret _) i4 (e23.trans e4) q4 p4

/-- what a walk goes over -/
noncomputable def itr (prog : Program) (w : World) (K : Frag) (X : Cx) (e : Expr) (m : Loc) (S : MS) (P : Option (Nat × MO) → List V → MS → Prop) (E : V → MS → Prop) : Prop :=
  ∀ s r, In prog w K X m S r s → ∀ {Q : Value → Shared → Prop}, (∀ s₁ r₁ s₂ r₂ S' ia src xs, Ext X s r s₁ r₁ → Ext X s₁ r₁ s₂ r₂ → (∀ b o, s₁.heap.get? b = some o → s₂.heap.get? b = some o) → s₁.heap.get? ia = none → In prog w K X m S' r₂ s₂ → Fresh X ia → It s₂.heap r₂ ia src xs → (∀ l mo, src = some (l, mo) → S'[l]? = some mo) → P src xs S' → Q (.ref ia) s₂) →
    wpAny (model prog w) X.A (eval e X.env) (fun v s' => wpAny (model prog w) X.A (pyIter v) Q (PostE prog w X s r E) s') (PostE prog w X s r E) s

theorem sx_for {P : Fl → Loc → MS → Prop} {target iter : Expr} {body : List Stmt} {pos : Pos} (hfs : ∀ x, foldedSetIterable iter X.env x = pure x)
    (h : itr prog w K X iter m S (fun src xs S' => (owned src = true → isTuple target = true) ∧ ∃ I : List V → Loc → MS → Prop, I xs m S' ∧ (∀ rest m S, I rest m S → ∀ l mo, src = some (l, mo) → S[l]? = some mo) ∧
      (∀ x rest m S, I (x :: rest) m S → tg prog w K X target x m S (fun m' => ss prog w K X body m' S (turnOf I P rest) E)) ∧ (∀ m S, I [] m S → P .next m S)) E) :
    sx prog w K X (.For target iter body [] pos) m S P E := fun s ro i => by
  refine wpAny_For (h s ro i fun s₁ r₁ s₂ r₂ S' ia src xs e1 e2 _ hn i2 fr t hs hp => ?_) hfs
  obtain ⟨htg, I, h0, hsrc, turn, fin⟩ := hp
  refine codeAny_mono (forLoopR I i2 t fr e2 hn htg h0 hsrc turn fin) fun res s' z => ?_
  rcases res with e | f
  · exact wpAny_mono z (fun _ _ z => z.after e1) fun _ _ z => z.after e1
  · exact Post.after e1 z

theorem In.lockT {s : Shared} {r : Ro} {l : Nat} {es : List (List Sc × V)} (i : In prog w K X m S r s) (hl : S[l]? = some (.tdict es)) : ∃ o d ents ep, In prog w K X m (S.set l (.lockT es o)) r s ∧ r[l]? = some (d, d) ∧ s.heap.get? d = some o ∧ o.cls = .type "dict" ∧ o.data = .dict ents ep ∧ (d == sysModules) = false ∧ ents.size = es.length := by
  obtain ⟨⟨p1, p2⟩, hp, e, xs, hd, kv⟩ := i.rep.2.2 l _ hl
  obtain rfl : p1 = p2 := e
  obtain ⟨o, ents, ep, ho, hc, hdat, he, hi, hnd⟩ := id hd
  refine ⟨o, p1, ents, ep, ⟨i.ok, i.fr, i.cells, i.rep.set (p := (p1, p1)) ⟨rfl, fun _ _ => rfl⟩ hp ⟨rfl, ho, xs, hd, kv⟩, i.new, i.kept⟩, hp, ho, hc.1, hdat, beq_false_of_ne (i.new _ (List.mem_of_getElem? hp)).2.2.1, ?_⟩
  have := kv.length
  rw [List.length_map] at this
  rw [← Array.length_toList, he, List.length_map, this]
theorem In.unlockT {s : Shared} {r : Ro} {l : Nat} {es : List (List Sc × V)} {o : Obj} (i : In prog w K X m S r s) (hl : S[l]? = some (.lockT es o)) : In prog w K X m (S.set l (.tdict es)) r s := by
  obtain ⟨p, hp, e, ho, xs, hd, kv⟩ := i.rep.2.2 l _ hl
  exact ⟨i.ok, i.fr, i.cells, i.rep.set ⟨rfl, fun _ _ => rfl⟩ hp ⟨e, xs, hd, kv⟩, i.new, i.kept⟩
theorem In.lockS {s : Shared} {r : Ro} {l : Nat} {es : List (Sc × V)} (i : In prog w K X m S r s) (hl : S[l]? = some (.sdict es)) : ∃ o d kvs ep ents, In prog w K X m (S.set l (.lockS es o)) r s ∧ r[l]? = some (d, d) ∧ s.heap.get? d = some o ∧ o.data = .dict ents ep ∧ (d == sysModules) = false ∧ s.heap.DictAt (scKind prog w) d kvs ep ∧ ents.size = kvs.length := by
  obtain ⟨⟨p1, p2⟩, hp, e, kvs, hd, kv⟩ := i.rep.2.2 l _ hl
  obtain rfl : p1 = p2 := e
  obtain ⟨o, ents, ep, ho, hc, hdat, hk, hpr, hnd⟩ := id hd
  refine ⟨o, p1, kvs, ep, ents, ⟨i.ok, i.fr, i.cells, i.rep.set (p := (p1, p1)) ⟨rfl, fun _ _ => rfl⟩ hp ⟨rfl, ho, kvs, hd, kv⟩, i.new, i.kept⟩, hp, ho, hdat, beq_false_of_ne (i.new _ (List.mem_of_getElem? hp)).2.2.1, ⟨o, ents, ho, hc, hdat, hk, hpr, hnd⟩, ?_⟩
  rw [← hpr.length]; simp
theorem In.unlockS {s : Shared} {r : Ro} {l : Nat} {es : List (Sc × V)} {o : Obj} (i : In prog w K X m S r s) (hl : S[l]? = some (.lockS es o)) : In prog w K X m (S.set l (.sdict es)) r s := by
  obtain ⟨p, hp, e, ho, xs, hd, kv⟩ := i.rep.2.2 l _ hl
  exact ⟨i.ok, i.fr, i.cells, i.rep.set ⟨rfl, fun _ _ => rfl⟩ hp ⟨e, xs, hd, kv⟩, i.new, i.kept⟩
/-- a lock taken off -/
theorem aw.unlockT {α β : Type} {rel : Heap → Ro → α → β → Prop} {t : Sem α} {P : β → Loc → MS → Prop} {l : Nat} {es : List (List Sc × V)} {o : Obj} (hl : S[l]? = some (.lockT es o)) (h : aw prog w K rel X t m (S.set l (.tdict es)) P E) : aw prog w K rel X t m S P E := fun s r i => h s r (i.unlockT hl)
theorem aw.unlockS {α β : Type} {rel : Heap → Ro → α → β → Prop} {t : Sem α} {P : β → Loc → MS → Prop} {l : Nat} {es : List (Sc × V)} {o : Obj} (hl : S[l]? = some (.lockS es o)) (h : aw prog w K rel X t m (S.set l (.sdict es)) P E) : aw prog w K rel X t m S P E := fun s r i => h s r (i.unlockS hl)

theorem pushKeep (h : Heap) (o : Obj) : ∀ b o', h.get? b = some o' → (h.push o).get? b = some o' := fun b o' e => Heap.get?_push_of_some _ e

theorem itr_list {e : Expr} {P : Option (Nat × MO) → List V → MS → Prop} (h : ex prog w K X e m S (fun v S' => ∃ l xs, v = .loc l ∧ S'[l]? = some (.list xs) ∧ P (some (l, .list xs)) xs S') E) : itr prog w K X e m S P E := fun s r i Q hQ => by
  refine step .refl (h s r i) fun va a m1 S1 r1 s1 i1 e1 _ q1 p1 => ?_
  obtain ⟨rfl, l, xs, rfl, hl, p1⟩ := p1
  obtain ⟨d, items, rfl, hr, hp, rv⟩ := i1.list hl q1
  refine wpAny_pyIter_list (plainIs hp) ?_
  exact hQ s1 r1 _ r1 S1 _ _ _ e1 (.grow (t := s1.toks) (pushKeep _ _)) (pushKeep _ _) (hnew _) (i1.keeps (pushKeep _ _)) (i1.fresh (hnew _)) (.list (i := 0) ⟨_, Heap.get?_push_size _ rfl, rfl, rfl⟩ hr rfl) (fun _ _ z => by cases z; exact hl) p1
theorem itr_tup {e : Expr} {P : Option (Nat × MO) → List V → MS → Prop} (h : ex prog w K X e m S (fun v S' => ∃ xs, v = .tup xs ∧ P none xs S') E) : itr prog w K X e m S P E := fun s r i Q hQ => by
  refine step .refl (h s r i) fun va a m1 S1 r1 s1 i1 e1 _ q1 p1 => ?_
  obtain ⟨rfl, xs, rfl, p1⟩ := p1
  cases q1 with
  | @tup t o items n _ e c d rv =>
    refine wpAny_pyIter_tuple (items := items) ⟨o, e, c, n, d⟩ ?_
    exact hQ s1 r1 _ r1 S1 _ _ _ e1 (.grow (t := s1.toks) (pushKeep _ _)) (pushKeep _ _) (hnew _) (i1.keeps (pushKeep _ _)) (i1.fresh (hnew _)) (.tup (i := 0) ⟨_, Heap.get?_push_size _ rfl, rfl, rfl⟩ ⟨o, pushKeep _ _ _ _ e, c, n, d⟩ (rv.mono (.of_keeps (pushKeep _ _)) (.refl _)) rfl) (fun _ _ z => by cases z) p1
theorem itr_keys {e : Expr} {P : Option (Nat × MO) → List V → MS → Prop} (h : ex prog w K X e m S (fun v S' => ∃ l es, v = .loc l ∧ S'[l]? = some (.tdict es) ∧ ∀ o, P (some (l, .lockT es o)) (es.map fun e => tk e.1) (S'.set l (.lockT es o))) E) : itr prog w K X e m S P E := fun s r i Q hQ => by
  refine step .refl (h s r i) fun va a m1 S1 r1 s1 i1 e1 _ q1 p1 => ?_
  obtain ⟨rfl, l, es, rfl, hl, p1⟩ := p1
  obtain ⟨o, d, ents, ep, i2, hr, ho, hc, hdat, hz, hsz⟩ := i1.lockT hl
  obtain ⟨p, rfl, hp, _⟩ := i1.at hl q1
  rw [hr] at hp; cases hp
  refine pyIter_keys hz ho hc hdat ?_
  refine hQ s1 r1 _ r1 (S1.set l (.lockT es o)) _ _ _ e1 (.grow (t := s1.toks) (pushKeep _ _)) (pushKeep _ _) (hnew _) (i2.keeps (pushKeep _ _)) (i1.fresh (hnew _)) (.keys (i := 0) ⟨_, Heap.get?_push_size _ rfl, rfl, rfl⟩ hr hdat rfl) (fun _ _ z => by cases z; exact List.getElem?_set_self (List.getElem?_eq_some_iff.mp hl).1) (p1 o)

/-- a machine's call whose value is its own matter -/
theorem callQ {f : Value} (hf : (∃ id, f = .builtin id) ∨ ∃ T, f = .type T) {l : List Expr} {pos cpos : Pos} {s : Shared} {r : Ro} (i : In prog w K X m S r s) (hp : Plain X pos l)
    {C : List V → MS → Prop} (h : es prog w K X l m S C E) {Q : Value → Shared → Prop} (hC : ∀ as S' r' s' vs, C as S' → In prog w K X m S' r' s' → Ext X s r s' r' → RVs s'.heap r' vs as → wpAny (model prog w) X.A (call f vs) Q (PostE prog w X s r E) s') :
    wpAny (model prog w) X.A (callWith cpos f [] (backTo pos (starEach l X.env)) []) Q (PostE prog w X s r E) s := by
  have gen : ∀ {args : List (Bool × Sem Value)} {Q E'}, args.any (·.1) = false → wpAny (model prog w) X.A (evalArgs f true args []) (fun a s₁ => wpAny (model prog w) X.A (call f ([] ++ a.pos) a.kw) Q E' s₁) E' s → wpAny (model prog w) X.A (callWith cpos f [] args []) Q E' s := by
    rcases hf with ⟨id, rfl⟩ | ⟨T, rfl⟩
    · exact fun a b => PySem.Calls.callWith_builtin a b
    · exact fun a b => PyProof.Rows.callWith_type a b
  obtain ⟨hb, hs⟩ := hp
  rcases hs with rfl | ⟨e, rest, rfl, he, hpl⟩
  · have h' := h s r i
    refine gen rfl (evalArgs_nil3 ?_)
    have h2 : wpAny (model prog w) X.A (pure []) (Post prog w K RVs X s r fun as m' S' => m' = m ∧ C as S') (PostE prog w X s r E) s := h'
    have h3 := step (R := fun vs s' => wpAny (model prog w) X.A (call f vs) Q (PostE prog w X s r E) s') .refl h2 fun vs as m1 S1 r1 s1 i1 e1 e1' q1 p1 => by
      obtain ⟨rfl, p1⟩ := p1
      exact hC _ _ _ _ _ p1 i1 e1 q1
    intro Γ p hΓ
    exact h3 Γ p hΓ Γ p hΓ
  · have hb2 : backTo pos (starEach rest X.env) = starEach rest X.env := by
      have hb' := hb
      rw [he] at hb'
      exact (List.cons.inj hb').2
    refine gen (by rw [hb, he]; show (false || (starEach rest X.env).any (·.1)) = false; rw [hb2] at hpl; rw [hpl]; rfl) ?_
    rw [hb, he]
    refine PySem.Calls.evalArgs_plain ?_
    rw [← he]
    refine step .refl (h s r i) fun vs as m1 S1 r1 s1 i1 e1 e1' q1 p1 => ?_
    obtain ⟨rfl, p1⟩ := p1
    exact hC _ _ _ _ _ p1 i1 e1 q1

theorem rangeSize0 (n : Int) : Builtin.Range.rangeSize 0 n 1 = (n.toNat : Int) := by
  rw [rangeSize_nat]; congr 2; omega
theorem itr_range {x : Str} {np pos : Pos} {l : List Expr} {P : Option (Nat × MO) → List V → MS → Prop} (hx : X.cs.names.lookup x = some .globalImplicit) (he : nsIn K mainGlobals x = some none) (hv : bootBuiltins x = some (.type "range")) (hn : x ≠ "__name__") (hd : (x == ("__debug__" : Str)) = false) (hp : Plain X pos l)
    (h : es prog w K X l m S (fun as S' => ∃ n : Int, as = [.int n] ∧ n ≤ 1000000 ∧ -1000000 ≤ n ∧ P none ((List.range n.toNat).map fun j => .int (j : Nat)) S') E) : itr prog w K X (.Call (.Name x np) l [] pos) m S P E := fun s r i Q hQ => by
  refine wpAny_Call_ofName (wp_bi i hx he hv hn hd ?_)
  refine callQ (.inr ⟨_, rfl⟩) i hp h fun as S' r' s' vs hC i' e' rv => ?_
  obtain ⟨n, rfl, hn1, hn2, p1⟩ := hC
  cases rv with
  | cons a b =>
    cases b; cases a with
    | int _ t =>
      refine call_range_1 ?_
      have k1 : ∀ b o, s'.heap.get? b = some o → (s'.heap.push { cls := .type "range", data := .fields #[.int 0 s'.toks, .int n t, .int 1 (s'.toks + 1)] }).get? b = some o := pushKeep _ _
      have e2 : Ext X s r { s' with heap := s'.heap.push { cls := .type "range", data := .fields #[.int 0 s'.toks, .int n t, .int 1 (s'.toks + 1)] }, toks := s'.toks + 1 + 1 } r' := e'.trans (.grow (t := s'.toks + 1 + 1) k1)
      have i2 := i'.keeps (g := s'.gens) (d := s'.drawn) (t := s'.toks + 1 + 1) (os := s'.os) k1
      refine wpAny_pyIter_range (Heap.get?_push_size _ rfl) (by
        rw [Builtin.Range.small, rangeSize0]
        simp [Builtin.Range.rangeFitsLong]
        omega) ?_
      rw [rangeSize0]
      refine hQ _ r' _ r' S' _ _ _ e2 (.grow (t := s'.toks + 1 + 1) (pushKeep _ _)) (pushKeep _ _) (hnew _) (i2.keeps (pushKeep _ _)) (i2.fresh (hnew _)) (.range (a := 0) (n := n.toNat) (Heap.get?_push_size _ rfl) ?_) (fun _ _ z => by cases z) p1
      apply List.map_congr_left
      intro j _
      show V.int (j : Int) = V.int (0 + (j : Int))
      rw [Int.zero_add]
theorem itr_rev {x : Str} {np pos : Pos} {l : List Expr} {P : Option (Nat × MO) → List V → MS → Prop} (hx : X.cs.names.lookup x = some .globalImplicit) (he : nsIn K mainGlobals x = some none) (hv : bootBuiltins x = some (.type "reversed")) (hn : x ≠ "__name__") (hd : (x == ("__debug__" : Str)) = false) (hp : Plain X pos l)
    (h : es prog w K X l m S (fun as S' => ∃ l xs, as = [.loc l] ∧ S'[l]? = some (.list xs) ∧ P (some (l, .list xs)) xs.reverse S') E) : itr prog w K X (.Call (.Name x np) l [] pos) m S P E := fun s r i Q hQ => by
  refine wpAny_Call_ofName (wp_bi i hx he hv hn hd ?_)
  refine callQ (.inr ⟨_, rfl⟩) i hp h fun as S' r' s' vs hC i' e' rv => ?_
  obtain ⟨ll, xs, rfl, hl, p1⟩ := hC
  cases rv with
  | cons a b =>
    cases b
    obtain ⟨d, items, rfl, hr, hp, rv⟩ := i'.list hl a
    refine call_reversed_list (plainIs hp) ?_
    have hlen := rv.length
    rw [Array.length_toList] at hlen
    refine wpAny_pyIter_revIter ⟨_, Heap.get?_push_size _ rfl, rfl, rfl⟩ ?_
    refine hQ s' r' _ r' S' _ _ _ e' (.grow (t := s'.toks) (pushKeep _ _)) (pushKeep _ _) (hnew _) (i'.keeps (pushKeep _ _)) (i'.fresh (hnew _)) (.rev (n := xs.length) ⟨_, Heap.get?_push_size _ rfl, rfl, ?_⟩ hr (Nat.le_refl _) (by rw [List.take_length])) (fun _ _ z => by cases z; exact hl) p1
    rw [← hlen]; rfl
theorem itr_items {o : Expr} {apos pos : Pos} {P : Option (Nat × MO) → List V → MS → Prop} (hbase : ∀ env, attributeBase o "items" env (eval o env) = eval o env) (hline : (apos.endLine == pos.line) = true)
    (h : ex prog w K X o m S (fun v S' => ∃ l es, v = .loc l ∧ S'[l]? = some (.sdict es) ∧ ∀ ob, P (some (l, .lockS es ob)) (es.map fun e => V.tup [e.1.v, e.2]) (S'.set l (.lockS es ob))) E) : itr prog w K X (.Call (.Attribute o "items" apos) [] [] pos) m S P E := fun s r i Q hQ => by
  refine wpAny_Call_method0_late (hbase _) hline (step .refl (h s r i) fun va a m1 S1 r1 s1 i1 e1 _ q1 p1 => ?_)
  obtain ⟨rfl, l, es, rfl, hl, p1⟩ := p1
  obtain ⟨ob, d, kvs, ep, ents, i2, hr, ho, hdat, hz, hat, hsz⟩ := i1.lockS hl
  obtain ⟨p, rfl, hp, _⟩ := i1.at hl q1
  rw [hr] at hp; cases hp
  refine ⟨"dict", "dict.items", F.plainAttrs_dict, F.slot_dict_items, F.type_dict_items, hat.dictOf.typeIs, hat.dictOf.mapOf.noDict, ?_⟩
  refine method_meetsIn F.slot_dict_items F.entry_dict_items rfl (PySem.evalArgs_none ⟨rfl, hat.dictOf.typeIs, F.args_dict_items_1 _, _, meets_dict_items (scKind prog w) d hz, ⟨kvs, hat.dictOf⟩, ?_⟩)
  refine wpAny_pyIter_items (knd := scKind prog w) (d := d) (kvs := kvs) (ep := ep) ⟨_, Heap.get?_push_size _ rfl, rfl, rfl⟩ (hat.push _) ?_
  refine hQ _ r1 _ r1 (S1.set l (.lockS es ob)) _ _ _ (e1.trans (.grow (t := s1.toks) (pushKeep _ _))) (.grow (t := s1.toks) (pushKeep _ _)) (pushKeep _ _) (hnew _) ((i2.keeps (t := s1.toks) (pushKeep _ _)).keeps (pushKeep _ _)) ((i1.keeps (t := s1.toks) (g := s1.gens) (d := s1.drawn) (os := s1.os) (pushKeep _ _)).fresh (hnew _)) (.items (i := 0) (ep := ep) (ents := ents) (ok := .none) (ov := .none) ?_ hr hdat rfl) (fun _ _ z => by cases z; exact List.getElem?_set_self (List.getElem?_eq_some_iff.mp hl).1) (p1 ob)
  rw [hsz]
  exact Heap.get?_push_size _ rfl

/-! while -/
theorem sx_while {P : Fl → Loc → MS → Prop} {test : Expr} {body : List Stmt} {pos : Pos} (I : Nat → Loc → MS → Prop) (n : Nat) (h0 : I n m S)
    (turn : ∀ n m S, I n m S → te prog w K X test m S (fun c S' => if c = true then ss prog w K X body m S' (fun f m' S2 => match f with
      | .next => ∃ k, k < n ∧ I k m' S2
      | .cont => ∃ k, k < n ∧ I k m' S2
      | .brk => P .next m' S2
      | .ret v => P (.ret v) m' S2) E else P .next m S') E) : sx prog w K X (.While test body [] pos) m S P E := fun s ro i => by
  refine wpAny_While (codeAny_whileLoop (fun n s' => ∃ m' S' r', In prog w K X m' S' r' s' ∧ Ext X s ro s' r' ∧ I n m' S') ?_ n ⟨m, S, ro, i, .refl, h0⟩)
  rintro n s' ⟨m', S', r', i', e', h'⟩
  refine wpAny_mono (turn n m' S' h' s' r' i') (fun c s1 ⟨b, m1, S1, r1, i1, e1, q1, p1⟩ => ?_) fun e s1 z => passLoop i.ok.frames (z.after e')
  obtain ⟨rfl, p1⟩ := p1
  cases q1
  cases c
  · exact wpAny_execs_nil (done (b := Fl.next) i1 (e'.trans e1) trivial p1)
  · have p1 : ss prog w K X body m1 S1 _ E := p1
    have ee := e'.trans e1
    refine wpAny_mono (p1 s1 r1 i1) (fun f s4 ⟨b, m4, S4, r4, i4, e4, q4, p4⟩ => ?_) fun e s4 z => passLoop i.ok.frames (z.after ee)
    cases f <;> cases b <;> first | exact q4.elim | skip
    · obtain ⟨k, hk, p4⟩ := p4; exact ⟨k, hk, m4, S4, r4, i4, ee.trans e4, p4⟩
    · exact done (b := Fl.next) i4 (ee.trans e4) trivial p4
    · obtain ⟨k, hk, p4⟩ := p4; exact ⟨k, hk, m4, S4, r4, i4, ee.trans e4, p4⟩
    · exact done (b := Fl.ret _) i4 (ee.trans e4) q4 p4
end
end Mine

namespace Mine

/-! fields -/
theorem putL_keys {name : Str} {hsh : Int} {t : Tok} {v : Value} : ∀ {es : List DictEntry}, (∀ e ∈ es, ∃ x t, e.key = .str x t) → ∀ e ∈ putL name hsh (.str name t) v es, ∃ x t, e.key = .str x t
  | [], _, e, he => by
    simp only [putL, List.mem_singleton] at he; subst he; exact ⟨name, t, rfl⟩
  | e0 :: r, h, e, he => by
    unfold putL at he
    split at he
    · rcases List.mem_cons.mp he with rfl | he
      · exact h e0 (.head _)
      · exact h e (.tail _ he)
    · rcases List.mem_cons.mp he with rfl | he
      · exact h _ (.head _)
      · exact putL_keys (fun e he => h e (.tail _ he)) e he
theorem putL_length {name : Str} {hsh : Int} {k : Value} {v : Value} : ∀ {es : List DictEntry}, (putL name hsh k v es).length ≤ es.length + 1
  | [] => Nat.le_refl _
  | e0 :: r => by
    unfold putL
    split
    · simp
    · simp only [List.length_cons]; have := putL_length (name := name) (hsh := hsh) (k := k) (v := v) (es := r); omega
theorem noRef {es : List DictEntry} (h : ∀ e ∈ es, ∃ x t, e.key = .str x t) : es.any (·.refKey) = false := by
  rw [List.any_eq_false]
  intro e he
  obtain ⟨x, t, hk⟩ := h e he
  unfold DictEntry.refKey
  rw [hk]; exact Bool.false_ne_true
theorem find_putL {name y : Str} {hsh : Int} {t : Tok} {v : Value} : ∀ {es : List DictEntry}, ((putL name hsh (.str name t) v es).find? (·.key.isStr y)).map (·.val) = if y = name then some v else (es.find? (·.key.isStr y)).map (·.val)
  | [] => by
    by_cases q : y = name
    · simp [putL, Value.isStr, q]
    · simp [putL, Value.isStr, q, Ne.symm q]
  | e0 :: r => by
    unfold putL
    by_cases hn : e0.key.isStr name = true
    · rw [if_pos hn, List.find?_cons, List.find?_cons]
      by_cases q : y = name
      · subst q; simp [hn]
      · have : e0.key.isStr y = false := by
          cases hk : e0.key <;> rw [hk] at hn <;> first | cases hn | skip
          simp only [Value.isStr, beq_iff_eq] at hn
          simp [Value.isStr, hn, Ne.symm q]
        simp [this, q]
    · rw [if_neg hn, List.find?_cons, List.find?_cons]
      by_cases hy : e0.key.isStr y = true
      · have : y ≠ name := fun q => hn (q ▸ hy)
        simp [hy, this]
      · rw [Bool.not_eq_true] at hy
        simp only [hy]
        exact find_putL
theorem FieldsAre.put {h : Heap} {r : Ro} {es : List DictEntry} {fs : List (Str × V)} {name : Str} {hsh : Int} {t : Tok} {v : Value} {x : V} (F : FieldsAre h r es fs) (rv : RV h r v x) : FieldsAre h r (putL name hsh (.str name t) v es) ((name, x) :: fs) := by
  have k := putL_keys (name := name) (hsh := hsh) (t := t) (v := v) F.1
  refine ⟨k, fun y => ?_⟩
  have e := find_putL (name := name) (y := y) (hsh := hsh) (t := t) (v := v) (es := es)
  have z := F.2 y
  have g : ∀ {l : List DictEntry}, (∀ e ∈ l, ∃ x t, e.key = .str x t) → getL y l = some ((l.find? (·.key.isStr y)).map (·.val)) := fun {l} hl => by
    unfold getL
    cases q : l.find? (·.key.isStr y) with
    | some e => rfl
    | none => simp only [noRef hl]; rfl
  rw [g k, e]
  rw [g F.1] at z
  rw [List.lookup_cons]
  by_cases q : y = name
  · subst q
    rw [beq_self_eq_true, if_pos rfl]
    exact ⟨v, rfl, rv⟩
  · rw [show (y == name) = false from by simpa using q, if_neg q]
    exact z

section
variable {prog : Program} {w : World} {K : Frag} {X : Cx} {m : Loc} {S : MS} {P : V → MS → Prop} {E : V → MS → Prop}

theorem set_attr {A : Around} {s : Shared} {x C dx : Addr} {sl : Array (Option Value)} {es : List DictEntry} {n : Nat} {name : Str} {v : Value} {Q : Unit → Shared → Prop} {E' : Value → Shared → Prop} (X : K.In s.heap)
    (I : InstAt s.heap x ⟨.ref C, some dx, .plain, sl⟩ C (some (dictOf es n)))
    (hs : findIn K (.ref C) "__setattr__" = some (some (.builtin "object.__setattr__"))) (hp : plainOver K C = true) (ht : takerIn K C name = some none) (hh : hasDictIn K C = true) (hk : ∀ e ∈ es, ∃ x t, e.key = .str x t) (hz : es.length ≤ 100)
    (h : ∀ h', Heap.SameBut dx s.heap h' → h'.get? dx = some (dictOf (putL name (PyData.keyHash w.params name) (.str name (s.toks + 1)) v es) (putN name es n)) → Q () { s with heap := h', toks := s.toks + 2 }) :
    wpAny (model prog w) A (setAttr (.ref x) name v) Q E' s := by
  obtain ⟨hh0, g, d, tk, os⟩ := s
  dsimp only at X I h
  refine set_plain X I hs (osa_open (s := ⟨hh0, g, d, tk + 1, os⟩) X I hp ht fun b => ?_)
  obtain ⟨cd, hc, hd'⟩ := any_some hh
  obtain ⟨hx, -, -, D⟩ := I
  have D' : (hh0.update dx (Obj.putName name (PyData.keyHash w.params name) (.str name (tk + 1)) v)).get? dx = some (dictOf (putL name (PyData.keyHash w.params name) (.str name (tk + 1)) v es) (putN name es n)) := by
    rw [Heap.get?_update_self _ D (by rw [putName_dict]; rfl), putName_dict]
  refine wpAny_bind (wpAny_pure (wpAny_bind (wpAny_bind (wpAny_loadPart hx (wpAny_bind ((looks_clsIn X hc).here ?_))))))
  rw [hd']
  refine wpAny_pure (a := some dx) (wpAny_bind (wpAny_pure (wpAny_bind ?_)))
  unfold nsSet
  refine wpAny_bind (wpAny_bind (wpAny_askSetting (wpAny_pure (wpAny_bind (wpAny_mkText (wpAny_bind (wpAny_loadPart D ?_)))))))
  dsimp only
  have c : (!es.toArray.any (·.key.isStr name) && es.toArray.any (·.refKey)) = false := by
    rw [List.any_toArray, List.any_toArray, noRef hk, Bool.and_false]
  rw [aRefKeyMayBeTheName_at, c]
  refine wpAny_updatePart D ?_
  refine wpAny_bind (wpAny_lookBehind D' (pastItsLine_dict (by rw [List.size_toArray, sizeLine_eq]; have := putL_length (name := name) (hsh := PyData.keyHash w.params name) (k := .str name (tk + 1)) (v := v) (es := es); omega)) ?_)
  exact wpAny_pure (h _ (Heap.SameBut.update ..) D')
end
end Mine

namespace Mine

section
variable {prog : Program} {w : World} {K : Frag} {X : Cx} {m : Loc} {S : MS} {P : V → MS → Prop} {E : V → MS → Prop}

theorem sx_setattr {P : Fl → Loc → MS → Prop} {o : Expr} {attr : Str} {ap pos : Pos} {e : Expr} {C : Addr} (hsw : swapsWith e (some (.Attribute o attr ap)) pos.line X.env = pure false)
    (hs : findIn K (.ref C) "__setattr__" = some (some (.builtin "object.__setattr__"))) (hp : plainOver K C = true) (ht : takerIn K C attr = some none) (hh : hasDictIn K C = true)
    (h : ex prog w K X e m S (fun v S1 => ex prog w K X o m S1 (fun ov S2 => ∃ l fs, ov = .loc l ∧ S2[l]? = some (.inst C fs) ∧ fs.length ≤ 20 ∧ P .next m (S2.set l (.inst C ((attr, v) :: fs)))) E) E) : sx prog w K X (.Assign [.Attribute o attr ap] e pos) m S P E := fun s ro i => by
  refine plainObj_wpAny_Assign_Attribute (step .refl (h s ro i) fun va a m1 S1 r1 s1 i1 e1 _ q1 p1 => ?_) hsw
  obtain ⟨rfl, p1⟩ := p1
  refine step e1 (p1 s1 r1 i1) fun vo b m2 S2 r2 s2 i2 e2 e2' q2 p2 => ?_
  obtain ⟨rfl, l, fs, rfl, hl, hfs, p2⟩ := p2
  obtain ⟨x, dx, sl, es, n, rfl, hr, I, hz, hf, hd⟩ := i2.inst hl q2
  refine set_attr i2.kin I hs hp ht hh hf.1 (by omega) fun h' sb hg => ?_
  have kp := i2.kpSet (p := (x, dx)) hr sb
  have hx := I.at_
  have hne : x ≠ dx := fun q => by
    rw [q, hd] at hx; cases hx
  refine done (b := Fl.next) (i2.set (p := (x, dx)) (mo' := .inst C ((attr, a) :: fs)) hr sb ⟨⟨sl, ?_⟩, _, _, hg, ?_, ?_⟩) (e2.trans (i2.extSet (p := (x, dx)) (t := s2.toks + 2) hr sb)) trivial p2
  · exact (sb.2 x hne).trans hx
  · exact Nat.le_trans putL_length (Nat.succ_le_succ hz)
  · exact (hf.mono kp (.refl _)).put (((q1.mono e2'.1 e2'.2.1)).mono kp (.refl _))

theorem opL_getT {l : Nat} {es : List (List Sc × V)} {k : List Sc} {d : V} (hl : S[l]? = some (.tdict es)) (h : P ((aGet es k).getD d) S) : opL prog w K X (fun vs => call (.builtin "dict.get") vs) [.loc l, tk k, d] m S P E := fun s r vs i rvs => by
  cases rvs with
  | cons ra rest =>
    cases rest with
    | cons rk rest =>
      cases rest with
      | cons rd z =>
        cases z
        obtain ⟨a, xs, rfl, hp, hd, z, hm⟩ := i.tdict hl ra
        obtain ⟨ka, rfl, hk⟩ := rk.key (prog := prog) (w := w)
        have hu := i.ok.uA
        have hg := z.get k
        refine call_meetsIn F.slot_dict_get hd.typeIs F.entry_dict_get (F.args_dict_get_3 _ _ _) (meetsH_dict_get_default (tupleKind (scKind prog w)) a ka hm _) ⟨by show X.A.units + 1 < cLine; omega, k, xs, hk, hd, ?_⟩
        rw [at_map]
        cases q : aGet es k with
        | none => rw [q] at hg h; rw [hg]; exact done (i.keeps (t := s.toks + _) fun _ _ e => e) (.grow (t := s.toks + _) fun _ _ e => e) rd ⟨rfl, h⟩
        | some x => rw [q] at hg h; obtain ⟨v, hv, rx⟩ := hg; rw [hv]; exact done (i.keeps (t := s.toks + _) fun _ _ e => e) (.grow (t := s.toks + _) fun _ _ e => e) rx ⟨rfl, h⟩

/-! among -/
theorem get_isSome {h : Heap} {r : Ro} {kvs : List (Sc × Value)} {es : List (Sc × V)} (z : KV h r kvs es) (k : Sc) : (valueAt kvs k).isSome = (aGet es k).isSome := by
  have hg := z.get k
  cases q : aGet es k with
  | none => rw [q] at hg; rw [hg]; rfl
  | some x => rw [q] at hg; obtain ⟨v, hv, _⟩ := hg; rw [hv]; rfl
theorem in_sdict {l : Nat} {es : List (Sc × V)} {k : Sc} (hl : S[l]? = some (.sdict es)) (h : P (.bool (aGet es k).isSome) S) : op2 prog w K X (compareOp .In) k.v (.loc l) m S P E := fun s r va vb i ra rb => by
  obtain ⟨d, kvs, rfl, hp, hd, z, hm⟩ := i.sdict hl rb
  refine wpAny_in_of (knd := scKind prog w) ra.sc hm hd.mapOf (done (i.keeps (t := s.toks + 1) fun _ _ e => e) (.grow (t := s.toks + 1) fun _ _ e => e) (.bool _) ⟨rfl, ?_⟩)
  rw [get_isSome z]; exact h
theorem atH {h : Heap} {r : Ro} {xs : List (List Sc × Addr × Value)} {es : List (List Sc × V)} (z : KV h r (xs.map fun x => (x.1, x.2.2)) es) (k : List Sc) : (atKey xs k).isSome = (aGet es k).isSome := by
  have hg := z.get k
  rw [show (atKey xs k).isSome = ((atKey xs k).map (·.2)).isSome by rw [Option.isSome_map], at_map]
  cases q : aGet es k with
  | none => rw [q] at hg; rw [hg]; rfl
  | some x => rw [q] at hg; obtain ⟨v, hv, _⟩ := hg; rw [hv]; rfl
theorem in_tdict {l : Nat} {es : List (List Sc × V)} {k : List Sc} (hl : S[l]? = some (.tdict es) ∨ ∃ o, S[l]? = some (.lockT es o)) (h : P (.bool (aGet es k).isSome) S) : op2 prog w K X (compareOp .In) (tk k) (.loc l) m S P E := fun s r va vb i ra rb => by
  have hu := i.ok.uA
  have : ∃ d xs, vb = .ref d ∧ s.heap.DictOfH (tupleKind (scKind prog w)) d xs ∧ KV s.heap r (xs.map fun x => (x.1, x.2.2)) es ∧ (d == sysModules) = false := by
    rcases hl with hl | ⟨o, hl⟩
    · obtain ⟨d, xs, rfl, hp, hd, z, hm⟩ := i.tdict hl rb; exact ⟨d, xs, rfl, hd, z, hm⟩
    · obtain ⟨⟨p1, p2⟩, rfl, hp, ⟨e, _, kvs, hd, kv⟩, hz⟩ := i.at hl rb
      obtain rfl : p1 = p2 := e
      exact ⟨p1, kvs, rfl, hd, kv, hz⟩
  obtain ⟨d, xs, rfl, hd, z, hm⟩ := this
  obtain ⟨ka, rfl, hk⟩ := ra.key (prog := prog) (w := w)
  refine wpAny_in_heap (knd := tupleKind (scKind prog w)) (by show X.A.units + 1 < cLine; omega) hk hm hd (done (i.keeps (t := s.toks + _) fun _ _ e => e) (.grow (t := s.toks + _) fun _ _ e => e) (.bool _) ⟨rfl, ?_⟩)
  rw [atH z]; exact h
theorem sub_lockT {value slice : Expr} {l : Nat} {es : List (List Sc × V)} {o : Obj} {k : List Sc} {x : V} (hl : S[l]? = some (.lockT es o)) (hx : aGet es k = some x)
    (hs : ∀ d u, subscripted slice false (.ref d) (.ref u) = operate [.ref d, .ref u] (getItem (.ref d) (.ref u))) (h : P x S) : op2 prog w K X (subscriptTail value slice) (.loc l) (tk k) m S P E := fun s r va vb i ra rb => by
  obtain ⟨⟨p1, p2⟩, rfl, hp, ⟨e, _, xs, hd, z⟩, hz⟩ := i.at hl ra
  obtain rfl : p1 = p2 := e
  obtain ⟨ka, rfl, hk⟩ := rb.key (prog := prog) (w := w)
  have hu := i.ok.uA
  have hg := z.get k
  rw [hx] at hg
  obtain ⟨v, hv, rx⟩ := hg
  rw [← at_map] at hv
  cases q : atKey xs k with
  | none => rw [q] at hv; cases hv
  | some p =>
    rw [q] at hv; cases hv
    exact tail_any hd.typeIs F.slot_dict_getitem.lookup (wpAny_getItem_heap (knd := tupleKind (scKind prog w)) (by show X.A.units + 1 < cLine; omega) hk hd q (done (i.keeps (t := s.toks + _) fun _ _ e => e) (.grow (t := s.toks + _) fun _ _ e => e) rx ⟨rfl, h⟩)) (hs _ _)
theorem any_sc {h : Heap} {r : Ro} {k : Sc} : ∀ {vs : List Value} {ks : List Sc}, RVs h r vs (ks.map Sc.v) → vs.any (Sc.is k) = decide (k ∈ ks)
  | [], [], _ => by simp
  | v :: vs, k' :: ks, .cons a b => by
    rw [List.any_cons, any_sc b]
    have := RV.sc a
    by_cases q : k = k'
    · subst q; simp [this]
    · have : Sc.is k v = false := by
        cases z : Sc.is k v with
        | false => rfl
        | true => exact absurd (Sc.inj v _ _ z this) q
      simp [this, q]
theorem eqAtSc {h : Heap} {r : Ro} {k : Sc} {x : Value} {A : Around} {s : Shared} (hx : Sc.is k x = true) : ∀ {vs : List Value} {ks : List Sc}, RVs h r vs (ks.map Sc.v) → ∀ y ∈ vs, PySem.SeqAt.EqAt A s y x (Sc.is k y)
  | [], [], _, y, hy => by cases hy
  | v :: vs, k' :: ks, .cons a b, y, hy => by
    rcases List.mem_cons.mp hy with rfl | hy
    · intro prog w E Q q
      have hv := RV.sc a
      refine (scKind prog w).eqBool (a := k') (b := k) hv hx ?_
      have : Sc.is k y = decide (k' = k) := by
        by_cases z : k' = k
        · subst z; simp [hv]
        · simp only [z, decide_false]
          cases zz : Sc.is k y with
          | false => rfl
          | true => exact absurd (Sc.inj y _ _ hv zz) z
      rw [this] at q; exact q
    · exact eqAtSc hx b y hy
theorem notIn_list {l : Nat} {ks : List Sc} {k : Sc} (hl : S[l]? = some (.list (ks.map Sc.v))) (h : P (.bool (!decide (k ∈ ks))) S) : op2 prog w K X (compareOp .NotIn) k.v (.loc l) m S P E := fun s r va vb i ra rb => by
  obtain ⟨d, items, rfl, hp, hd, rv⟩ := i.list hl rb
  refine PySem.SeqAt.notIn_listAt (Sc.is k) (plainIs hd) (fun y hy => eqAtSc ra.sc rv y (by simpa using hy)) (done i .refl (.bool _) ⟨rfl, ?_⟩)
  rw [← Array.any_toList, any_sc rv]; exact h
theorem in_tup {ks : List Sc} {k : Sc} (h : P (.bool (decide (k ∈ ks))) S) : op2 prog w K X (compareOp .In) k.v (tk ks) m S P E := fun s r va vb i ra rb => by
  cases rb with
  | @tup a o items n _ e c d q =>
    refine PySem.SeqAt.in_tupleAt (Sc.is k) ⟨o, e, c, n, d⟩ (fun y hy => eqAtSc ra.sc q y (by simpa using hy)) (done i .refl (.bool _) ⟨rfl, ?_⟩)
    rw [← Array.any_toList, any_sc q]; exact h

theorem opL_reverse {l : Nat} {xs : List V} (hl : S[l]? = some (.list xs)) (hz : xs.length ≤ 100000) (h : P .none (S.set l (.list xs.reverse))) : opL prog w K X (fun vs => call (.builtin "list.reverse") vs) [.loc l] m S P E := fun s r vs i rvs => by
  cases rvs with
  | cons ra rest =>
    cases rest
    obtain ⟨d, items, rfl, hp, ⟨n, hd⟩, rv⟩ := i.list hl ra
    have hlen := rv.length
    rw [Array.length_toList] at hlen
    have hpk := i.kpSet (h' := s.heap.update d (Obj.mapSeq fun x => x.reverse)) (p := (d, d)) hp (Heap.SameBut.update ..)
    refine call_meets F.slot_list_reverse ⟨_, hd, rfl⟩ F.entry_list_reverse (F.args_list_reverse_1 _) (PySem.AutoSeq1.list_reverse_list_0 d items n (by rw [sizeLine_eq]; omega))
      ⟨hd, done (i.set (p := (d, d)) (mo' := .list xs.reverse) hp (Heap.SameBut.update ..) ⟨rfl, items.reverse, ⟨n, ?_⟩, ?_⟩) (i.extSet (p := (d, d)) (t := s.toks) hp (Heap.SameBut.update ..)) .none ⟨rfl, h⟩⟩
    · rw [Heap.get?_update_self _ hd (by simp [Obj.mapSeq]; rfl)]
      simp [Obj.mapSeq]
    · rw [Array.toList_reverse]; exact (rv.mono hpk (.refl _)).rev

theorem ex_slice0 {value : Expr} {z : Int} {k : Nat} {cp p pos : Pos} (hz : 0 ≤ z) (ht : ∀ o r, letTemporaryGo value o r = pure ())
    (h : ex prog w K X value m S (fun v S' => ∃ l xs, v = .loc l ∧ (S'[l]? = some (.list xs) ∨ ∃ o, S'[l]? = some (.listO xs o)) ∧ xs.length ≤ 100000 ∧ P (.loc S'.length) (S' ++ [.list (xs.take z.toNat)])) E) :
    ex prog w K X (.Subscript value (.Slice none (some (.Constant (.int z) k cp)) none p) pos) m S P E := fun s r i => by
  refine wpAny_Subscript_list_slice (step .refl (h s r i) fun va a m1 S1 r1 s1 i1 e1 _ q1 p1 => ?_) ht
  obtain ⟨rfl, l, xs, rfl, hl, hxs, p1⟩ := p1
  obtain ⟨d, items, rfl, hp, hd, rv⟩ : ∃ d items, va = .ref d ∧ r1[l]? = some (d, d) ∧ s1.heap.PlainList d items ∧ RVs s1.heap r1 items.toList xs := by
    rcases hl with hl | ⟨o, hl⟩
    · exact i1.list hl q1
    · obtain ⟨⟨p1, p2⟩, rfl, hp, ⟨e, _, items, hd, kv⟩, hz⟩ := i1.at hl q1
      obtain rfl : p1 = p2 := e
      exact ⟨p1, items, rfl, hp, hd, kv⟩
  have hlen := rv.length
  rw [Array.length_toList] at hlen
  show wpAny _ _ (pure Value.none) _ _ _
  refine wpAny_pure ?_
  show wpAny _ _ (eval (.Constant (.int z) k cp) X.env) _ _ _
  refine wpAny_Constant_int (⟨d, items, none, some z, rfl, plainIs hd, by rw [sizeLine_eq]; omega, .none, .int _ _, ?_⟩)
  have kk : ∀ b o, s1.heap.get? b = some o → ((s1.heap.push { cls := .type "slice", data := .fields #[.none, .int z s1.toks, .none] }).push { cls := .type "list", data := .seq (slicePick items none (some z) none) }).get? b = some o := fun b o e => Heap.get?_push_of_some _ (Heap.get?_push_of_some _ e)
  have hsz : (s1.heap.push { cls := .type "slice", data := .fields #[.none, .int z s1.toks, .none] }).objs.size = s1.heap.objs.size + 1 := Heap.size_push ..
  have hget : ((s1.heap.push { cls := .type "slice", data := .fields #[.none, .int z s1.toks, .none] }).push { cls := .type "list", data := .seq (slicePick items none (some z) none) }).get? (s1.heap.objs.size + 1) = some { cls := .type "list", data := .seq (slicePick items none (some z) none) } := by
    rw [← hsz]; exact Heap.get?_push_size _ rfl
  have hpick : (slicePick items none (some z) none).toList = items.toList.take z.toNat := by
    rw [kmk_pick_nat items (a := 0) (b := min z.toNat items.size) ?_]
    · simp only [List.drop_zero, Nat.sub_zero]
      rcases Nat.le_total z.toNat items.size with q | q
      · rw [Nat.min_eq_left q]
      · rw [Nat.min_eq_right q, List.take_of_length_le (by rw [Array.length_toList]; exact Nat.le_refl _), List.take_of_length_le (by rw [Array.length_toList]; exact q)]
    · unfold sliceBounds
      simp only [Option.getD_none]
      simp only [show ((1 : Int) > 0) from by decide, if_true, show ¬ (z < 0) from by omega, if_false]
      congr 2
      omega
  have i2 := i1.add (g := s1.gens) (d := s1.drawn) (t := s1.toks + 1) (os := s1.os) (p := (s1.heap.objs.size + 1, s1.heap.objs.size + 1)) (mo := .list (xs.take z.toNat)) kk (Nat.le_succ _) ⟨rfl, _, ⟨0, hget⟩, by rw [hpick]; exact (rv.mono (.of_keeps kk) (.app _ _)).take _⟩
  exact done (r' := r1 ++ [(s1.heap.objs.size + 1, s1.heap.objs.size + 1)]) i2 (e1.trans (.growAdd (t := s1.toks + 1) kk)) (.loc (d := s1.heap.objs.size + 1) (i1.newLoc _)) ⟨rfl, p1⟩
end
end Mine

namespace Mine
open Builtin Builtin.ObjectAttr

section
variable {prog : Program} {w : World} {A : Around} {K : Frag}

/-- the first field of an exception of an own class -/
theorem set_exc {s : Shared} {e C C2 : Addr} {ox : Obj} {vs : Array Value} {cd : ClassData} {name : Str} {v : Value} {Q : Unit → Shared → Prop} {E' : Value → Shared → Prop} (X : K.In s.heap) (he : s.heap.get? e = some ox) (hcl : ox.cls = .ref C) (hdn : ox.dict = none) (hda : ox.data = .fields vs)
    (hs : findIn K (.ref C) "__setattr__" = some (some (.builtin "object.__setattr__"))) (hc : clsIn K C = some cd) (hm : cd.mro = [.ref C, .ref C2, .type "Exception", .type "BaseException", .type "object"]) (hhd : cd.hasDict = true) (hsub : mroIn K C (.type "object") = some true) (ht : takerIn K C name = some none)
    (h : ∀ h', h'.get? e = some { ox with dict := some s.heap.objs.size } → h'.get? s.heap.objs.size = some (dictOf (putL name (PyData.keyHash w.params name) (.str name (s.toks + 1)) v []) (putN name [] 0)) →
      (∀ b o, b ≠ e → s.heap.get? b = some o → h'.get? b = some o) → Q () { s with heap := h', toks := s.toks + 2 }) :
    wpAny (model prog w) A (setAttr (.ref e) name v) Q E' s := by
  obtain ⟨hh, g, d, tk, os⟩ := s
  dsimp only at X he h
  have I : InstAt hh e ox C none := ⟨he, hcl, by unfold notCls; rw [hda], by rw [hdn]; trivial⟩
  refine set_plain X I hs ?_
  have SF := PySem.F.store_object
  have sub : Looks (model prog w) hh (isInstance (.ref e) (.type "object")) true := I.type.andThen (looks_mroIn X hsub)
  refine codeAny_call_builtin SF.slot.plain SF.entry (@check_slot (model prog w) _ _ ⟨hh, g, d, tk + 1, os⟩ "object.__setattr__" "object" "__setattr__" (.ref e) [.str name tk, v] [] _ SF.kind SF.split sub (SF.args (.ref e) (.str name tk) v) ?_)
  obtain ⟨attr, ha, hr⟩ := Option.bind_eq_some_iff.mp ht
  have hmo : Looks (model prog w) hh (mroOf (.ref C)) cd.mro := (looks_clsIn X hc).andThen .now
  have L3 : Looks (model prog w) hh (storeTaker? attr) none := by
    cases attr with
    | none => cases hr; exact .now
    | some a =>
      obtain ⟨b, hb, hq⟩ := Option.map_eq_some_iff.mp hr
      refine (looks_takesIn X hb).andThen ?_
      cases b
      · exact .now
      · cases hq
  rw [osa_eq, refuse_eq]
  refine wpAny_bind (wpAny_bind (I.type.here (wpAny_bind (hmo.here ?_))))
  rw [hm, refuseLoop_ref, refuseLoop_ref, PySem.F.store_Exception.passes]
  refine wpAny_pure (wpAny_bind (I.type.here (wpAny_bind ((looks_findIn X ha).here (wpAny_bind (L3.here ?_))))))
  obtain ⟨oc, od, oda, osl⟩ := ox
  dsimp only at hcl hdn hda
  subst hcl hdn hda
  have hes : e ≠ hh.objs.size := Nat.ne_of_lt (Heap.lt_size he)
  refine wpAny_bind (wpAny_pure (wpAny_bind (wpAny_bind (wpAny_loadPart he (wpAny_bind ((looks_clsIn X hc).here ?_))))))
  rw [hhd]
  have hx₁ : (hh.push { cls := .type "dict", data := .dict #[] }).get? e = some ⟨.ref C, none, .fields vs, osl⟩ := Heap.get?_push_of_some _ he
  refine wpAny_bind (wpAny_alloc' ?_)
  refine wpAny_bind (wpAny_update' hx₁ ?_)
  have D : ((hh.push { cls := .type "dict", data := .dict #[] }).update e fun o => { o with dict := some hh.objs.size }).get? hh.objs.size = some (dictOf [] 0) :=
    (Heap.get?_update_ne _ _ _ _ hes.symm).trans (Heap.get?_push_at rfl rfl)
  have E1 : ((hh.push { cls := .type "dict", data := .dict #[] }).update e fun o => { o with dict := some hh.objs.size }).get? e = some ⟨.ref C, some hh.objs.size, .fields vs, osl⟩ := Heap.get?_update_self _ hx₁ rfl
  generalize hH : ((hh.push { cls := .type "dict", data := .dict #[] }).update e fun o => { o with dict := some hh.objs.size }) = H at D E1
  have D' : (H.update hh.objs.size (Obj.putName name (PyData.keyHash w.params name) (.str name (tk + 1)) v)).get? hh.objs.size = some (dictOf (putL name (PyData.keyHash w.params name) (.str name (tk + 1)) v []) (putN name [] 0)) := by
    rw [Heap.get?_update_self _ D (by rw [putName_dict]; rfl), putName_dict]
  refine wpAny_pure (a := some hh.objs.size) ?_
  show wpAny _ _ (storeInDict hh.objs.size (.str name tk) name v) _ _ _
  unfold storeInDict newKeyGuard
  refine wpAny_bind (wpAny_pure (wpAny_bind ?_))
  unfold nsSet
  refine wpAny_bind (wpAny_bind (wpAny_askSetting (wpAny_pure (wpAny_bind (wpAny_mkText (wpAny_bind (wpAny_loadPart D ?_)))))))
  dsimp only
  have c : (!([] : List DictEntry).toArray.any (·.key.isStr name) && ([] : List DictEntry).toArray.any (·.refKey)) = false := by rw [List.any_toArray, List.any_toArray]; rfl
  rw [aRefKeyMayBeTheName_at, c]
  refine wpAny_updatePart D ?_
  refine wpAny_bind (wpAny_lookBehind D' (pastItsLine_dict (by rw [List.size_toArray, sizeLine_eq]; have := putL_length (name := name) (hsh := PyData.keyHash w.params name) (k := .str name (tk + 1)) (v := v) (es := []); simp at this ⊢; omega)) ?_)
  refine wpAny_pure (h _ ?_ D' fun b o hb hbo => ?_)
  · exact (Heap.get?_update_other _ _ hes.symm).trans E1
  · have hbs : b ≠ hh.objs.size := Nat.ne_of_lt (Heap.lt_size hbo)
    rw [Heap.get?_update_other _ _ hbs.symm, ← hH, Heap.get?_update_other _ _ hb.symm]
    exact Heap.get?_push_of_some _ hbo
/-- an own exception class, one own class between it and Exception, whose __init__ is its own -/
theorem type_call_excI {h : Heap} {g : Array GenState} {d : Drawn} {t : Nat} {os : OsState} {nm q : Str} {C N fI : Addr} {bs bm bmB : List Value} {sn : List Str} {sub : List Value} {ab : Bool} {col : Option Bool} {dd : Option Addr} {k0 k1 k2 k3 k5 : Option Value} {B newId initId : String}
    {E : Value → Shared → Prop} (F : ExcBaseFacts B newId initId bmB) (T : OwnTail h bmB bm) {rest : List Value} {Q : Fin → Shared → Prop}
    (hC : h.get? C = some (excClassObj nm q C N bs bm true sn sub ab col dd k0 k1 k2 k3 k5 newId)) (X : K.In h) (hi : findIn K (.ref C) "__init__" = some (some (.ref fI))) (hf : typeIn K (.ref fI) = some (.type "function"))
    (hq : ∀ h' e, Heap.MadeExcOf h h' e (.ref C) rest →
      wpAny (model prog w) A (call (.ref fI) (.ref e :: rest)) (fun r s' => r = .none ∧ Q (.done (.ret (.ref e))) s') E ⟨h', g, d, t, os⟩) (hrest : rest.length ≤ sizeLine) :
    wpAny (model prog w) A (Builtin.«type.__call__» ⟨.ref C :: rest, []⟩) Q E ⟨h, g, d, t, os⟩ := by
  repeat (first | with_reducible refine wpAny_loadPart_at hC ?_ | with_reducible refine wpAny_madeBy_exc hC ?_ | wp_step)
  refine codeAny_call_builtin_code (Code.quiet_builtin _ F.quiet) (wpAny_check_new_subT F T hC ?_)
  refine codeAny_exc_new_subT F T hC ?_ hrest
  show wpAny _ _ _ _ _ _
  have kk : ∀ b o, h.get? b = some o → ((h.push { cls := .type "tuple", data := .seq rest.toArray }).push { cls := .ref C, data := .fields #[.ref h.objs.size, .none, .none, .none, .bool false, .none] }).get? b = some o := fun b o e => Heap.get?_push_of_some _ (Heap.get?_push_of_some _ e)
  have hC₁ := kk _ _ hC
  have X₁ : K.In ((h.push { cls := .type "tuple", data := .seq rest.toArray }).push { cls := .ref C, data := .fields #[.ref h.objs.size, .none, .none, .none, .bool false, .none] }) := X.keeps kk
  have hget : ((h.push { cls := .type "tuple", data := .seq rest.toArray }).push
      { cls := .ref C, data := .fields #[.ref h.objs.size, .none, .none, .none, .bool false, .none] }).get? (h.objs.size + 1) = some
      { cls := .ref C, data := .fields #[.ref h.objs.size, .none, .none, .none, .bool false, .none] } := by heap_get
  have hcC : (Value.ref C :: bm).contains (.ref C) = true := by simp
  unfold isInstance
  repeat (first | with_reducible refine wpAny_loadPart_at hget ?_ | (with_reducible refine wpAny_isSubtype_exc hC₁ ?_; rw [hcC]) | wp_step)
  show wpAny _ _ (typeLookup (.ref C) _) _ _ _
  refine (looks_findIn X₁ hi).here ?_
  refine wpAny_holding (wpAny_bind ?_)
  refine (bind_fn X₁ _ hf).here ?_
  refine wpAny_bind (wpAny_mono (hq _ (h.objs.size + 1) ⟨kk, Heap.get?_none_of_le (Nat.le_succ _), h.objs.size, hget, Heap.get?_none_of_le (Nat.le_refl _), ?_⟩) (fun r s' hr => ?_) fun _ _ x => x)
  · exact Heap.get?_push_of_some _ (Heap.get?_push_at rfl rfl)
  · obtain ⟨rfl, hQ⟩ := hr
    wp_walk
    exact hQ
theorem call_excI {h : Heap} {g : Array GenState} {d : Drawn} {t : Nat} {os : OsState} {nm q : Str} {C N fI : Addr} {bs bm bmB : List Value} {sn : List Str} {sub : List Value} {ab : Bool} {col : Option Bool} {dd : Option Addr} {k0 k1 k2 k3 k5 : Option Value} {B newId initId : String}
    {E : Value → Shared → Prop} (F : ExcBaseFacts B newId initId bmB) (T : OwnTail h bmB bm) {rest : List Value} {Q : Value → Shared → Prop}
    (hC : h.get? C = some (excClassObj nm q C N bs bm true sn sub ab col dd k0 k1 k2 k3 k5 newId)) (X : K.In h) (hi : findIn K (.ref C) "__init__" = some (some (.ref fI))) (hf : typeIn K (.ref fI) = some (.type "function"))
    (hq : ∀ h' e, Heap.MadeExcOf h h' e (.ref C) rest →
      wpAny (model prog w) (A.under (.builtin "type.__call__" ⟨.ref C :: rest, []⟩)) (call (.ref fI) (.ref e :: rest)) (fun r s' => r = .none ∧ Q (.ref e) s') E ⟨h', g, d, t, os⟩) (hrest : rest.length ≤ sizeLine) :
    wpAny (model prog w) A (call (.ref C) rest) Q E ⟨h, g, d, t, os⟩ := by
  have f1 := tc_lookup
  have f2 := tc_bind (.ref C)
  have hT : (⟨h, g, d, t, os⟩ : Shared).TypeIs (.ref C) "type" := ⟨_, hC, rfl⟩
  refine wpAny_call (codeAny_of_tree ?_)
  show wpAny _ _ (callAny (.ref C) _) _ _ _
  repeat (any_goals (first | assumption | with_reducible refine wpAny_loadPart_at hC ?_ | wp_step))
  refine ⟨rfl, ?_⟩
  exact codeAny_call_builtin_at (Code.quiet_builtin _ (by decide +kernel)) entry_typeCall (wpAny_check_type_call_sub hC (type_call_excI (hrest := hrest) F T hC X hi hf fun h' e hm => hq h' e hm))
end
end Mine

namespace Mine

/-- the program and what its run lays down -/
noncomputable abbrev PG : Program := PySem.Challenge.rw_rh0075_01.row.prog
noncomputable abbrev KK (w : World) : Frag := Mine.hd.heap_1 w.params

section
variable {w : World} {A : Around}

theorem raise_made {prog : Program} {nm q : Str} {C N : Addr} {bs bm : List Value} {hdct : Bool} {sn : List Str} {sub : List Value} {ab : Bool} {col : Option Bool} {dd : Option Addr} {k0 k1 k2 k3 k5 : Option Value} {newId : String}
    {E : Value → Shared → Prop} {env : Env} {s : Shared} {x : Sem Value} {Q : Flow → Shared → Prop} (hbase : bm.contains (.type "BaseException") = true) (hh : A.handled = none)
    (h : wpAny (model prog w) A x (fun v s₁ => ∃ e de t, v = .ref e ∧ s₁.heap.get? C = some (excClassObj nm q C N bs bm hdct sn sub ab col dd k0 k1 k2 k3 k5 newId) ∧
      s₁.heap.get? e = some { cls := .ref C, dict := some de, data := .fields #[.ref t, .none, .none, .none, .bool false, .none] } ∧ E (.ref e) s₁) E s) :
    wpAny (model prog w) A (raiseStmt env (some x) none) Q E s := by
  have hcB : (Value.ref C :: bm).contains (.type "BaseException") = true := by rw [List.contains_cons, hbase, Bool.or_true]
  unfold raiseStmt
  refine wpAny_bind (wpAny_mono h (fun v s₁ h₁ => ?_) fun _ _ x => x)
  obtain ⟨e, de, t, rfl, hC, he, hE⟩ := h₁
  obtain ⟨hp, g, d, tk, os⟩ := s₁
  repeat (first | with_reducible refine wpAny_loadPart_at he ?_ | with_reducible refine wpAny_loadPart_at hC ?_ | (with_reducible refine wpAny_isSubtype_exc hC ?_; rw [hcB]) | wp_step)
  exact wpAny_raiseNew_none hh hE

noncomputable abbrev cls51 : Obj := excClassObj "PrologError" "PrologError" 51 50 [.ref 31] [.ref 31, .type "Exception", .type "BaseException", .type "object"] true [] [] false none none (some (.ref 35)) none (some (.str "PrologError" 216)) (some (.str "PrologError" 224)) (some (.bool true)) "Exception.__new__"
theorem k51 : (KK w).lookup 51 = some cls51 := rfl
theorem tail51 {h : Heap} (X : (KK w).In h) : OwnTail h [.type "Exception", .type "BaseException", .type "object"] [.ref 31, .type "Exception", .type "BaseException", .type "object"] := by
  obtain ⟨cd, sl, h31, hns⟩ : ∃ cd sl, (KK w).lookup 31 = some ⟨.type "type", none, .cls cd, sl⟩ ∧ cd.ns = 30 := ⟨_, _, rfl, rfl⟩
  obtain ⟨es, n, h30, hk, hi⟩ : ∃ es n, (KK w).lookup 30 = some ⟨.type "dict", none, .dict es n, #[]⟩ ∧ StrKeys es ∧ nsFind es "__init__" = none := by
    refine ⟨_, _, rfl, ?_, rfl⟩
    intro e he
    simp only [List.mem_toArray, List.mem_cons, List.not_mem_nil, or_false] at he
    rcases he with rfl | rfl | rfl | rfl | rfl <;> exact ⟨_, _, rfl⟩
  refine .own (X _ _ h31) (mA := fun x => nsFind es x) ?_ hi .base
  rw [hns]
  exact ⟨_, es, n, X _ _ h30, rfl, hk, fun _ => rfl⟩
end
end Mine

namespace Mine

section
variable {w : World} {X : Cx} {m : Loc} {S : MS} {E : V → MS → Prop}

theorem raise_51 {A : Around} {prog : Program} {E : Value → Shared → Prop} {env : Env} {s : Shared} {x : Sem Value} {Q : Flow → Shared → Prop} (hh : A.handled = none)
    (h : wpAny (model prog w) A x (fun v s₁ => ∃ e de t, v = .ref e ∧ s₁.heap.get? 51 = some cls51 ∧
      s₁.heap.get? e = some { cls := .ref 51, dict := some de, data := .fields #[.ref t, .none, .none, .none, .bool false, .none] } ∧ E (.ref e) s₁) E s) :
    wpAny (model prog w) A (raiseStmt env (some x) none) Q E s := raise_made (C := 51) (by decide) hh h

noncomputable def exc51 (de : Option Addr) (t : Addr) : Obj := ⟨.ref PE, de, .fields #[.ref t, .none, .none, .none, .bool false, .none], #[]⟩

theorem lookup_rev2 {v1 v2 : Value} (x : Str) : (([("self", v1), ("ball", v2)] : List (Str × Value)).reverse.lookup x) = if x = "ball" then some v2 else if x = "self" then some v1 else none := by
  show List.lookup x [("ball", v2), ("self", v1)] = _
  rw [List.lookup_cons]
  by_cases h : x = "ball"
  · rw [beq_iff_eq.mpr h, if_pos h]
  · rw [show (x == ("ball" : Str)) = false from by simpa using h, if_neg h]
    show List.lookup x [("self", v1)] = _
    rw [List.lookup_cons]
    by_cases h2 : x = "self"
    · rw [beq_iff_eq.mpr h2, if_pos h2]
    · rw [show (x == ("self" : Str)) = false from by simpa using h2, if_neg h2]; rfl

/-- PrologError.__init__ -/
theorem init48 {A : Around} {s : Shared} {e t : Addr} {v : Value} {Q : Value → Shared → Prop} {E' : Value → Shared → Prop} (hA : A.depth < recursionLimit) (X : (KK w).In s.heap) (hlim : s.heap.NoLimit) (he : s.heap.get? e = some (exc51 none t))
    (h : ∀ h' t' de, h'.get? e = some (exc51 (some de) t) → s.heap.objs.size ≤ de → (∃ es n, h'.get? de = some (dictOf es n) ∧ getL "ball" es = some (some v)) → (∀ b o, b ≠ e → s.heap.get? b = some o → h'.get? b = some o) →
      Q .none { s with heap := h', toks := t' }) : wpAny (model PG w) A (call (.ref 48) [.ref e, v]) Q E' s := by
  obtain ⟨params, body, scope, doc, pm, an, ct, oc, od, osl, ho, hcd, hbody, hsc⟩ : ∃ params body scope doc pm an ct oc od osl, (KK w).lookup 48 = some ⟨oc, od, .func (fnX "__init__" "PrologError.__init__" params body scope [] .none .none doc pm an (.ref 47) ct), osl⟩ ∧ codeIn (KK w) (.ref 47) "PrologError.__init__" = true ∧
    (∃ p1 p2 p3 p4, body = [.Assign [.Attribute (.Name "self" p1) "ball" p2] (.Name "ball" p3) p4]) ∧ (scope = { kind := .function, names := [("self", .local), ("ball", .local)], isGenerator := false, isCoroutine := false } ∧ bindArgs (fnX "__init__" "PrologError.__init__" params body scope [] .none .none doc pm an (.ref 47) ct) ⟨[.ref e, v], []⟩ = (pure [("self", .ref e), ("ball", v)] : Sem (List (Str × Value)))) :=
    ⟨_, _, _, _, _, _, _, _, _, _, rfl, rfl, ⟨_, _, _, _, rfl⟩, rfl, rfl⟩
  obtain ⟨p1, p2, p3, p4, rfl⟩ := hbody
  obtain ⟨rfl, hbind⟩ := hsc
  refine wpAny_call (codeAny_call_def (fd := fnX "__init__" "PrologError.__init__" params _ _ [] .none .none doc pm an (.ref 47) ct) (binds := [("self", .ref e), ("ball", v)]) hA (X _ _ ho) rfl hlim (codeRec_of X hcd) rfl (BindsTo.of_eq hbind) (show ∀ x ∈ ([("self", NameKind.local), ("ball", NameKind.local)] : List (Str × NameKind)), x.2 ≠ .cell by decide) (fun x hx => by
    simp only [List.mem_cons, List.not_mem_nil, or_false] at hx
    rcases hx with rfl | rfl <;> rfl) (fun h₀ hns hks => ?_))
  refine wpAny_execs_cons (plainObj_wpAny_Assign_Attribute ?_)
  refine wpAny_Name (wpAny_loadName_local rfl rfl hns (lookup_rev2 _) ?_) rfl
  refine wpAny_Name (wpAny_loadName_local rfl rfl hns (lookup_rev2 _) ?_) rfl
  have X0 : (KK w).In h₀ := X.keeps hks
  refine set_exc (K := KK w) (C := 51) (C2 := 31) X0 (hks _ _ he) rfl rfl rfl rfl rfl rfl rfl rfl rfl fun h' g1 g2 g3 => ?_
  refine wpAny_execs_nil ?_
  have hsz : s.heap.objs.size ≤ h₀.objs.size := by
    obtain ⟨o, es, ep, ho, _⟩ := hns
    exact Nat.le_of_lt (Heap.lt_size ho)
  exact h _ _ h₀.objs.size g1 hsz ⟨_, _, g2, rfl⟩ fun b o hb hbo => g3 b o hb (hks b o hbo)

/-- an exception that is made and not yet raised -/
noncomputable def RX (X : Cx) (h : Heap) (r : Ro) (v : Value) (ball : V) : Prop := ∃ e de t, v = .ref e ∧ X.base.get? e = none ∧ h.get? e = some (exc51 (some de) t) ∧ de ∉ frOf (X.env :: X.outer) ∧ BallAt h r de ball
noncomputable def exX (w : World) (X : Cx) (e : Expr) (m : Loc) (S : MS) (P : V → MS → Prop) (E : V → MS → Prop) : Prop := aw PG w (KK w) (RX X) X (eval e X.env) m S (fun b m' S' => m' = m ∧ P b S') E

theorem callQF {prog : Program} {K : Frag} {f : Addr} {l : List Expr} {pos cpos : Pos} {s : Shared} {r : Ro} (i : In prog w K X m S r s) (hk : keepIn K (.ref f) = true) (hp : Plain X pos l)
    {C : List V → MS → Prop} (h : es prog w K X l m S C E) {Q : Value → Shared → Prop} (hC : ∀ as S' r' s' vs, C as S' → In prog w K X m S' r' s' → Ext X s r s' r' → RVs s'.heap r' vs as → wpAny (model prog w) X.A (call (.ref f) vs) Q (PostE prog w X s r E) s') :
    wpAny (model prog w) X.A (callWith cpos (.ref f) [] (backTo pos (starEach l X.env)) []) Q (PostE prog w X s r E) s := by
  obtain ⟨hb, hs⟩ := hp
  rcases hs with rfl | ⟨e, rest, rfl, he, hpl⟩
  · have h' := h s r i
    refine callWith_of (P := K.In) rfl (keeps_K hk) (evalArgs_nil3 ?_)
    refine ⟨i.kin, ?_⟩
    have h2 : wpAny (model prog w) X.A (pure []) (Post prog w K RVs X s r fun as m' S' => m' = m ∧ C as S') (PostE prog w X s r E) s := h'
    have h3 := step (R := fun vs s' => wpAny (model prog w) X.A (call (.ref f) ([] ++ vs)) Q (PostE prog w X s r E) s') .refl h2 fun vs as m1 S1 r1 s1 i1 e1 e1' q1 p1 => by
      obtain ⟨rfl, p1⟩ := p1
      exact hC _ _ _ _ _ p1 i1 e1 q1
    intro Γ p hΓ
    exact h3 Γ p hΓ Γ p hΓ
  · have hplain : ((backTo pos (starEach (e :: rest) X.env)).any (·.1) || ([] : List (Option Str × Sem Value)).any (·.1.isNone)) = false := by
      rw [he]; show ((false || (backTo pos (starEach rest X.env)).any (·.1)) || false) = false; rw [hpl]; rfl
    refine callWith_of (P := K.In) hplain (keeps_K hk) ?_
    rw [hb, he]
    refine PySem.Calls.evalArgs_plain ?_
    rw [← he]
    refine step .refl (h s r i) fun vs as m1 S1 r1 s1 i1 e1 e1' q1 p1 => ?_
    obtain ⟨rfl, p1⟩ := p1
    exact ⟨i1.kin, hC _ _ _ _ _ p1 i1 e1 q1⟩

theorem In.framesIn {prog : Program} {K : Frag} {r : Ro} {s : Shared} (i : In prog w K X m S r s) : ∀ a ∈ frOf (X.env :: X.outer), ∃ o, s.heap.get? a = some o := fun a ha => by
  obtain ⟨mm, F, hm, F', B', st⟩ := i.ground
  obtain ⟨_, o, ho, _⟩ := B'.frames.mem ha
  exact ⟨o, of_hideAll _ ho⟩

theorem exX_new {x : Str} {np pos : Pos} {l : List Expr} {P : V → MS → Prop} (hx : X.cs.names.lookup x = some .globalImplicit) (he : nsIn (KK w) mainGlobals x = some (some (.ref 51))) (hd : (x == ("__debug__" : Str)) = false) (hp : Plain X pos l)
    (h : es PG w (KK w) X l m S (fun as S' => ∃ b, as = [b] ∧ P b S') E) : exX w X (.Call (.Name x np) l [] pos) m S P E := fun s r i => by
  refine wpAny_Call_ofName (wp_glob i hx he hd ?_)
  refine callQF i rfl hp h fun as S' r' s' vs hC i' e' rv => ?_
  obtain ⟨b, rfl, p1⟩ := hC
  cases rv with
  | @cons v _ _ _ rb q =>
    cases q
    obtain ⟨hp', g, d, tk, os⟩ := s'
    have X1 := i'.kin
    obtain ⟨p, loose, mg, mb, T⟩ := i'.ok.top
    obtain ⟨mm, F, _⟩ := i'.fr
    refine call_excI (K := KK w) (C := 51) (fI := 48) PySem.F.excBase_Exception (tail51 X1) (X1 _ _ k51) X1 rfl rfl (fun h1 e hm => ?_) (by rw [sizeLine_eq]; exact Nat.le_of_ble_eq_true rfl)
    obtain ⟨t, ht, _, _⟩ := hm.there
    have hk1 := hm.keeps
    refine init48 (t := t) ?_ (X1.keeps hk1) ((T.nolimit.keeps F.keep).keeps hk1) ht fun h' t' de g1 g2 g3 g4 => ⟨rfl, ?_⟩
    · have := i'.ok.dA
      show X.A.depth + 1 < _; omega
    · have kk : ∀ b o, hp'.get? b = some o → h'.get? b = some o := fun b o hb => g4 b o (fun q => by rw [q, hm.new] at hb; cases hb) (hk1 b o hb)
      have hde : hp'.get? de = none := by
        cases q : hp'.get? de with
        | none => rfl
        | some o => exact absurd (Nat.lt_of_lt_of_le (Heap.lt_size (hk1 _ _ q)) g2) (Nat.lt_irrefl _)
      have hg := i'.gnone hm.new
      refine done (i'.keeps (t := t') kk) (e'.trans (.grow (t := t') kk)) ⟨e, de, t, rfl, ?_, g1, fun hmem => ?_, ?_⟩ ⟨rfl, p1⟩
      · exact fresh_of_stays i'.ok.below.stays hg
      · obtain ⟨o, ho⟩ := i'.framesIn _ hmem
        rw [hde] at ho; cases ho
      · obtain ⟨es, n, a1, a2⟩ := g3
        exact ⟨es, n, v, a1, a2, rb.mono (.of_keeps kk) (.refl _)⟩

/-- a def that gives an exception back -/
noncomputable def FnX (w : World) (f : Addr) (as : List V) (S : MS) (P : V → MS → Prop) (E : V → MS → Prop) (n : Nat) : Prop :=
  ∀ (X : Cx) (m : Loc), n ≤ X.n → ∀ s r vs, In PG w (KK w) X m S r s → RVs s.heap r vs as → codeAny (model PG w) X.A (.call (.ref f) ⟨vs, []⟩) (fun res s' => match res with
    | .ok (.ret v) => Post PG w (KK w) (RX X) X s r (fun v m' S' => m' = m ∧ P v S') v s' | .ok _ => False | .error e => PostE PG w X s r E e s') s
theorem exX_call {x : Str} {np pos : Pos} {l : List Expr} {f : Addr} {P : V → MS → Prop} (hx : X.cs.names.lookup x = some .globalImplicit) (he : nsIn (KK w) mainGlobals x = some (some (.ref f))) (hd : (x == ("__debug__" : Str)) = false) (hk : keepIn (KK w) (.ref f) = true) (hp : Plain X pos l)
    (h : es PG w (KK w) X l m S (fun as S' => FnX w f as S' P E X.n) E) : exX w X (.Call (.Name x np) l [] pos) m S P E := fun s r i => by
  refine wpAny_Call_ofName (wp_glob i hx he hd ?_)
  refine callQF i hk hp h fun as S' r' s' vs hC i' e' rv => ?_
  refine wpAny_call (codeAny_mono (hC X m (Nat.le_refl _) s' r' vs i' rv) fun res s2 z => ?_)
  rcases res with e | (v | _ | _ | _) <;> first | exact z.elim | skip
  · exact z.after e'
  · exact Post.after e' z

theorem sx_raise {e : Expr} {pos : Pos} {P : Fl → Loc → MS → Prop} (h : exX w X e m S (fun b S' => E b S') E) : sx PG w (KK w) X (.Raise (some e) none pos) m S P E := fun s r i => by
  show wpAny _ _ (exec (.Raise (some e) none pos) X.env) _ _ _
  rw [arm_exec_Raise]
  refine wpAny_bind (wpAny_standAt ?_)
  refine raise_51 i.ok.hA (wpAny_bind (step .refl (h s r i) fun v b m1 S1 r1 s1 i1 e1 _ q1 p1 => ?_))
  obtain ⟨rfl, p1⟩ := p1
  obtain ⟨ea, de, t, rfl, hb, he, hde, hB⟩ := q1
  refine wpAny_bind (wpAny_standAt (wpAny_pure ⟨ea, de, t, rfl, i1.kin _ _ k51, he, ?_⟩))
  obtain ⟨mm, F, hm, F', B', st⟩ := i1.ground
  have hst : X.base.StaysIn s1.heap := fun b o hbo => F.keep b o (i1.ok.below.stays b o hbo)
  have hfr : s1.heap.FunFrames X.base (X.env :: X.outer) := by
    refine B'.frames.of_keeps fun b o hbo _ => ⟨o, of_hideAll _ hbo, rfl⟩
  refine ⟨b, S1, r1, ⟨ea, de, rfl, hst, hb, hfr, .inl ⟨_, _, he, rfl⟩, hde, hB, i1.rep, fun p hp => ⟨?_, fun hmem => ?_, (i1.new p hp).2.2.1⟩⟩, e1, p1⟩
  · exact fresh_of_stays i1.ok.below.stays (i1.new p hp).1
  · obtain ⟨_, o, ho, hnf⟩ := B'.frames.mem hmem
    rw [hideAll_none _ (List.mem_map_of_mem hp)] at ho; cases ho
end
end Mine

namespace Mine

theorem fnX_intro {w : World} {S : MS} {P : V → MS → Prop} {E : V → MS → Prop} {f : Addr} {as : List V} {n : Nat} {name qual : Str} {params : Arguments} {e : Expr} {pos : Pos} {scope : Scope} {dV kV doc pm cdv ct oc : Value} {an od : Option Addr} {osl : Array (Option Value)} (ns : List Str)
    (ho : (KK w).lookup f = some ⟨oc, od, .func (fnX name qual params [.Return (some e) pos] scope [] dV kV doc pm an cdv ct), osl⟩) (hcd : codeIn (KK w) cdv qual = true)
    (hb : ∀ vs : List Value, vs.length = as.length → bindArgs (fnX name qual params [.Return (some e) pos] scope [] dV kV doc pm an cdv ct) ⟨vs, []⟩ = pure (ns.zip vs))
    (hl : ∀ x ∈ ns, scope.names.lookup x = some .local) (hcell : ∀ x ∈ scope.names, x.2 ≠ .cell) (hco : scope.isCoroutine = false) (hgen : scope.isGenerator = false) (hk : scope.kind = .function)
    (h : ∀ A₀ base outer g L k, n ≤ k → exX w ⟨A₀, base, outer, g, qual, scope, L, f, cdv, [], k, true, []⟩ e (locOf ns as) S P E) :
    FnX w f as S P E (n + 1) := fun X m hn s r vs I rvs =>
  fn_introG RX (fun {X X' h r v b} hb ho z => by
      obtain ⟨e, de, t, rfl, h1, h2, h3, h4⟩ := z
      refine ⟨e, de, t, rfl, hb ▸ h1, h2, fun q => h3 ?_, h4⟩
      rw [ho]; exact List.mem_cons_of_mem _ q) ns ho hcd (fun vs hv _ _ => .of_eq (hb vs hv)) hl hcell hco hgen hk (fun A₀ base outer g L k hk s r i => by
    refine wpAny_execs_cons (wpAny_Return_some (step .refl (h A₀ base outer g L k hk s r i) fun va a m1 S1 r1 s1 i1 e1 _ q1 p1 => ?_))
    obtain ⟨rfl, p1⟩ := p1
    exact done i1 e1 q1 p1) X m hn s r vs I rvs

section
variable {w : World} {X : Cx} {m : Loc} {S : MS} {E : V → MS → Prop}

/-- an own exception's field read -/
theorem get_exc {A : Around} {s : Shared} {K : Frag} {e C : Addr} {ox : Obj} {od : Option Obj} {name : Str} {v : Value} {expr : Bool} {Q : Value → Shared → Prop} {E' : Value → Shared → Prop} {prog : Program} (X : K.In s.heap) (I : InstAt s.heap e ox C od)
    (hga : findIn K (.ref C) "__getattribute__" = some (some (.builtin "BaseException.__getattribute__"))) (hgn : findIn K (.ref C) "__getattr__" = some none) (hsub : mroIn K C (.type "BaseException") = some true)
    (hf : findObj K C od name = some (.value v)) (hh : handedIn v = true) (h : Q v { s with toks := s.toks + 1 }) : wpAny (model prog w) A (getAttr (.ref e) name expr) Q E' s := by
  obtain ⟨hp, g, d, t, os⟩ := s
  dsimp only at X I h
  have L0 := I.type (M := model prog w)
  have L1 := looks_findIn (M := model prog w) X hga
  have L2 := looks_findIn (M := model prog w) X hgn
  have L3 := looks_find (M := model prog w) X I hf
  have FB := PySem.F.attrBase_Exception
  have sub : Looks (model prog w) hp (isInstance (.ref e) (.type "BaseException")) true := I.type.andThen (looks_mroIn X hsub)
  unfold getAttr getAttrBy
  refine wpAny_bind (wpAny_mkText (wpAny_holding (wpAny_bind (L0.at (wpAny_bind (L1.at ?_))))))
  have hx2 : (Value.builtin "BaseException.__getattribute__" == Value.builtin "object.__getattribute__") = false := by decide +kernel
  show wpAny _ _ (if (onTheHeap (.ref C) && Value.builtin "BaseException.__getattribute__" == Value.builtin "object.__getattribute__") = true then _ else _) _ _ _
  rw [hx2, Bool.and_false, if_neg Bool.false_ne_true]
  unfold getAttrByItsOwn
  refine wpAny_bind (L2.at ?_)
  refine wpAny_bind (wpAny_attempt (wpAny_holding ?_))
  have hx0 : (expr && onTheHeap (Value.builtin "BaseException.__getattribute__")) = false := by cases expr <;> rfl
  unfold callGetattribute
  rw [hx0, if_neg Bool.false_ne_true]
  unfold boundAndCalled
  rw [FB.ga.bind (.ref e)]
  refine wpAny_bind (wpAny_pure ?_)
  refine wpAny_call (codeAny_call_builtin FB.ga.plain F.entry_bexc_ga (@check_slot (model prog w) _ _ ⟨hp, g, d, t + 1, os⟩ "BaseException.__getattribute__" "BaseException" "__getattribute__" (.ref e) [.str name t] [] _ (by decide +kernel) (by decide +kernel) sub (F.args_bexc_ga (.ref e) (.str name t)) ?_))
  unfold Builtin.«object.__getattribute__»
  refine wpAny_bind (wpAny_pure (wpAny_bind (wpAny_pure (wpAny_bind (L0.at (wpAny_bind (L3.at ?_)))))))
  refine wpAny_pure ?_
  show wpAny _ _ (handedOut v) _ _ _
  rw [handedOut_of hh]; exact wpAny_pure h
end
end Mine

namespace Mine

section
variable {w : World} {X : Cx} {m : Loc} {S : MS} {E : V → MS → Prop}

/-- what an exception's handler finds, in the lowest frame -/
theorem caught {prog : Program} {K : Frag} {s s' : Shared} {r r' : Ro} {S' : MS} {e : Value} {ball : V} (hbg : X.base = X.g) (hkp : X.keep = []) (i : In prog w K X m S r s) (x : Ext { X with own := false } s r s' r') (R : Raised prog w X e s' r' S' ball) : In prog w K X m S' r' s' := by
  obtain ⟨ea, de, rfl, hb, hn, hF, ht, hde, hB, hR, hp⟩ := R
  obtain ⟨mm, ⟨⟨oL, es, ep, hoL, hdL, hk, hf⟩, keep, above⟩, hm⟩ := i.fr
  have cell : ∀ x c, X.cl.lookup x = some c → ∀ v, s.heap.IsCell c v → s'.heap.IsCell c v := fun y c hy v ⟨o, ho, hd⟩ => by
    obtain ⟨sl, e', _⟩ := x.2.2.1 c o ho (.inr (.inl (.inr ⟨v, hd⟩))) (fun q => by cases q) (.inl (by rw [hd]; exact nofun))
    exact ⟨_, e', hd⟩
  obtain ⟨sl, eL, _⟩ := x.2.2.1 X.L oL hoL (.inl rfl) (fun q => by cases q) (.inl (by rw [hdL]; exact nofun))
  refine ⟨i.ok, ⟨mm, ⟨⟨_, es, ep, eL, hdL, hk, hf⟩, fun b o hbo => hb b o (hbg ▸ hbo), above⟩, fun y v hy => ?_⟩, fun y c hy => let ⟨v, hv⟩ := i.cells y c hy; ⟨v, cell y c hy v hv⟩, hR, fun p hp' => ⟨hbg ▸ (hp p hp').1, fun q => (hp p hp').2.1 ?_, (hp p hp').2.2, by rw [hkp]; exact nofun⟩, by rw [hkp]; exact nofun⟩
  · obtain ⟨v', a, b⟩ := hm y v hy
    refine ⟨v', a.mono x.1 x.2.1, ?_⟩
    split <;> rename_i q <;> rw [q] at b
    · exact cell _ _ q _ b
    · exact b
  · rw [q]; exact List.mem_cons_self

/-- a rewrite of the frame's names as a whole -/
theorem In.names {prog : Program} {K : Frag} {s : Shared} {r : Ro} {h' : Heap} {t : Nat} {m' : Loc} {mm' : Str → Option Value} (I : In prog w K X m S r s) (hs : Heap.SameBut X.L s.heap h') (hn' : h'.Ns X.L mm')
    (hm' : ∀ mm, s.heap.Ns X.L mm → ∀ x v, m' x = some v → ∃ v', RV s.heap r v' v ∧ (match X.cl.lookup x with | some c => s.heap.IsCell c (some v') | none => mm' x = some v')) : In prog w K X m' S r { s with heap := h', toks := t } := by
  obtain ⟨mm, F, hm⟩ := I.fr
  obtain ⟨oL, hoL, ⟨es, n, hdL⟩, hfL⟩ := I.Lat
  have hf : ∀ o, s.heap.get? X.L = some o → frozen o = false := fun o ho => by rw [hoL] at ho; cases ho; exact hfL
  have hc : ∀ x c, X.cl.lookup x = some c → c ≠ X.L := fun x c e => (I.ok.cfree x c e).2
  refine ⟨I.ok, ⟨mm', F.set hn' hs, fun y u e => ?_⟩, fun x c e => let ⟨v, hv⟩ := I.cells x c e; ⟨v, hv.sameBut hs (hc x c e)⟩, I.rep.sameBut hs hf fun p hp => (I.new p hp).2.1, I.new, fun b hb => let ⟨a1, a2, o, ho, hd⟩ := I.kept b hb; ⟨a1, a2, o, (hs.2 b a1).trans ho, hd⟩⟩
  obtain ⟨u', a, b⟩ := hm' mm F.ns y u e
  refine ⟨u', a.mono (.of_sameBut hs hf) (.refl _), ?_⟩
  split <;> rename_i q <;> rw [q] at b
  · exact b.sameBut hs (hc y _ q)
  · exact b

theorem sameTrans {a : Addr} {h h' h'' : Heap} (x : Heap.SameBut a h h') (y : Heap.SameBut a h' h'') : Heap.SameBut a h h'' := ⟨y.1.trans x.1, fun b hb => (y.2 b hb).trans (x.2 b hb)⟩

theorem sx_try {call : Expr} {pe pn p1 p2 p3 p4 p5 pos : Pos} {P : Fl → Loc → MS → Prop} (hbg : X.base = X.g) (hkp : X.keep = []) (hO : X.own = true)
    (hg : X.cs.names.lookup ("PrologError" : Str) = some .globalImplicit) (hwl : X.cs.names.lookup ("wrong" : Str) = some .local) (htl : X.cs.names.lookup ("told" : Str) = some .local)
    (hct : X.cl.lookup ("told" : Str) = none) (hmw : m "wrong" = none) (hi : interactive X.env = false) (hsw : swapsWith call none pe.line X.env = pure false) (hsw2 : swapsWith (.Attribute (.Name "wrong" p2) "ball" p3) (some (.Name "told" p1)) p4.line X.env = pure false)
    (h : ex PG w (KK w) { X with own := false } call m S (fun _ S' => P .next m S') (fun ball S' => P .next (upd m "told" ball) S')) :
    sx PG w (KK w) X (.Try [.Expr call pe] [.ExceptHandler (some (.Name "PrologError" pn)) (some "wrong") [.Assign [.Name "told" p1] (.Attribute (.Name "wrong" p2) "ball" p3) p4] p5] [] [] pos) m S P E := fun s r i => by
  have i' : In PG w (KK w) { X with own := false } m S r s := ⟨⟨i.ok.below, i.ok.K, i.ok.top, i.ok.kind, i.ok.depth, i.ok.units, i.ok.hand, i.ok.cnod, i.ok.cfree⟩, i.fr, i.cells, i.rep, i.new, i.kept⟩
  have wk : ∀ {s r s' r'}, Ext { X with own := false } s r s' r' → Ext X s r s' r' := fun x => ⟨x.1, x.2.1, fun b o e a1 _ a3 => x.2.2.1 b o e a1 (fun q => by cases q) a3, x.2.2.2⟩
  refine wpAny_Try_except (wpAny_execs_cons (wpAny_Expr_any (wpAny_mono (h s r i') (fun va s1 z => ?_) fun e s1 z => ?_) hi hsw))
  · obtain ⟨b, m', S', r', J, x, q, rfl, pp⟩ := z
    have J' : In PG w (KK w) X m' S' r' s1 := ⟨i.ok, J.fr, J.cells, J.rep, J.new, J.kept⟩
    exact wpAny_execs_nil (wpAny_execs_nil (done (b := Fl.next) J' (wk x) trivial pp))
  obtain ⟨ball, S', r', R, x, pp⟩ := z
  have R' : Raised PG w X e s1 r' S' ball := R
  obtain ⟨ea, de, rfl, hb, hn, hF, ht, hde, hB, hR, hp⟩ := id R'
  refine noteB i.ok.frames hF rfl hb hn ht fun h1 b1 k1 t1 => ?_
  refine flightB (base := X.base) (de := de) (l := frOf (X.env :: X.outer)) b1 t1 fun h2 b2 k2 t2 => ?_
  have e2 : ∀ {h}, KS (frOf (X.env :: X.outer)) s1.heap h → Ext { X with own := false } s r { s1 with heap := h } r' := fun k => x.trans (.ks (s := s1) k)
  have R2 : ∀ {h}, KS (frOf (X.env :: X.outer)) s1.heap h → X.base.StaysIn h → TracedB h X.base ea de .none → Raised PG w X (.ref ea) { s1 with heap := h } r' S' ball := fun k b t =>
    ⟨ea, de, rfl, b, hn, k.frames hF, .inr (.inl t), hde, hB.ks k hde, hR.ks k fun p hp' => (hp p hp').2.1, hp⟩
  have i2 := caught hbg hkp i (e2 (k1.trans k2)) (R2 (k1.trans k2) b2 t2)
  obtain ⟨vs2, T2, oT2, ts2, sl2, he2, _⟩ := id t2
  refine wpAny_handleBy_cons (codeAny_handlers_test ?_) (by intro q; cases q)
  refine wp_glob i2 hg (v := .ref 51) rfl rfl ?_
  obtain ⟨hp0, g0, d0, tk0, os0⟩ := s1
  refine wpAny_excMatches_sub_self (C := 51) (i2.kin _ _ k51) he2 rfl (by decide) ?_
  refine codeAny_handlers_suite_as ?_
  refine flightB (base := X.base) (de := de) (l := frOf (X.env :: X.outer)) b2 t2 fun h3 b3 k3 t3 => ?_
  have kk := (k1.trans k2).trans k3
  have x3 := e2 kk
  have i3 := caught hbg hkp i x3 (R2 kk b3 t3)
  obtain ⟨vs3, T3, oT3, ts3, sl3, he3, _⟩ := id t3
  obtain ⟨es3, n3, v3, hd3, hg3, rv3⟩ := hB.ks kk hde
  obtain ⟨mm, F3, hm3⟩ := i3.fr
  obtain ⟨oL, hoL, _, hfL⟩ := i3.Lat
  have hcls : (X.cs.kind == .class || (X.cs.kind == .module && X.L != mainGlobals)) = false := by rw [i.ok.kind]; rfl
  have neE : ea ≠ X.L := fun q => by
    obtain ⟨⟨o, es, ep, ho, hd, _⟩, _, _⟩ := F3
    rw [← q, he3] at ho; cases ho; cases hd
  have neD : de ≠ X.L := fun q => hde (by rw [q]; exact List.mem_cons_self)
  -- wrong := e
  refine wpAny_storeName_local hwl F3.ns (fun h4 hn4 hs4 => ?_) hcls
  -- told := wrong.ball
  refine wpAny_execs_cons (wpAny_Assign_Name ?_ hsw2)
  refine Attribute_any_ (wpAny_Name (wpAny_loadName_local i.ok.kind hwl hn4 (if_pos rfl) ?_) rfl) rfl
  have X4 : (KK w).In h4 := i3.ok.K.keeps fun b o hbo => (hs4.2 b (fun q => by
    have := F3.keep b o hbo
    obtain ⟨⟨o', es, ep, ho, hd, _⟩, _, hab⟩ := F3
    rw [q] at hbo
    exact absurd (Heap.lt_size hbo) (Nat.not_lt.mpr hab))).trans (F3.keep b o hbo)
  refine get_exc (K := KK w) (C := 51) (od := some (dictOf es3 n3)) (v := v3) X4 ⟨(hs4.2 ea neE).trans he3, rfl, rfl, (hs4.2 de neD).trans hd3⟩ rfl rfl rfl (findObj_own rfl (attr := none) rfl rfl hg3) rv3.handed ?_
  refine wpAny_storeName_local htl hn4 (fun h5 hn5 hs5 => ?_) hcls
  refine wpAny_execs_nil ?_
  refine wpAny_bind (wpAny_bindName (wpAny_storeName_local hwl hn5 (fun h6 hn6 hs6 => ?_) hcls))
  unfold unbindBehindTheSuite
  refine wpAny_onRaise (wpAny_unbindName_local hwl hn6 (if_pos rfl) hcls fun h7 u hn7 hs7 => ?_)
  have hs : Heap.SameBut X.L h3 h7 := sameTrans (sameTrans (sameTrans hs4 hs5) hs6) hs7
  refine done (b := Fl.next) (i3.names (m' := upd m "told" ball) (mm' := _) hs hn7 ?_) ((wk x3).trans (.but hs (fun o ho => by rw [hoL] at ho; cases ho; exact hfL) fun o ho _ z => (z hO).1 rfl)) trivial pp
  intro mm' hmm y v hy
  have emm : mm' = mm := by
    obtain ⟨⟨o, es, n, ho, hd, _, h1⟩, _, _⟩ := F3
    obtain ⟨o', es', n', ho', hd', _, h2⟩ := hmm
    rw [ho] at ho'; cases ho'; rw [hd] at hd'; cases hd'
    funext y; rw [← h1, ← h2]
  subst emm
  unfold upd at hy
  by_cases ht' : y = "told"
  · subst ht'
    rw [if_pos rfl] at hy; cases hy
    refine ⟨v3, rv3, ?_⟩
    rw [hct]
    have hnn : ¬ (Str.ofString "told" = Str.ofString "wrong") := by decide
    simp [hnn]
  · rw [if_neg ht'] at hy
    obtain ⟨v', a, b⟩ := hm3 y v hy
    refine ⟨v', a, ?_⟩
    have hw' : y ≠ "wrong" := fun q => by rw [q, hmw] at hy; cases hy
    split <;> rename_i q <;> rw [q] at b
    · exact b
    · simp [ht', hw', b]
end
end Mine

namespace Mine

section
variable {prog : Program} {w : World} {K : Frag} {X : Cx} {m : Loc} {S : MS} {E : V → MS → Prop}

theorem In.hold {s : Shared} {r : Ro} {C : Addr} (i : In prog w K X m S r s) (hk : X.keep = []) (f1 : ∀ p ∈ r, p.2 ≠ C) (f2 : C ≠ X.L) (f3 : X.g.get? C = none) (f4 : ∃ o, s.heap.get? C = some o ∧ ∃ es n, o.data = .dict es n) : In prog w K { X with keep := [C] } m S r s :=
  ⟨⟨i.ok.below, i.ok.K, i.ok.top, i.ok.kind, i.ok.depth, i.ok.units, i.ok.hand, i.ok.cnod, i.ok.cfree⟩, i.fr, i.cells, i.rep, fun p hp => ⟨(i.new p hp).1, (i.new p hp).2.1, (i.new p hp).2.2.1, by
    simp only [List.mem_singleton]; exact f1 p hp⟩, fun b hb => by
    rw [List.mem_singleton.mp hb]; exact ⟨f2, f3, f4⟩⟩
theorem In.unhold {s : Shared} {r : Ro} {C : Addr} (i : In prog w K { X with keep := [C] } m S r s) (hk : X.keep = []) : In prog w K X m S r s ∧ ∀ p ∈ r, p.2 ≠ C :=
  ⟨⟨⟨i.ok.below, i.ok.K, i.ok.top, i.ok.kind, i.ok.depth, i.ok.units, i.ok.hand, i.ok.cnod, i.ok.cfree⟩, i.fr, i.cells, i.rep, fun p hp => ⟨(i.new p hp).1, (i.new p hp).2.1, (i.new p hp).2.2.1, by rw [hk]; exact nofun⟩, by rw [hk]; exact nofun⟩,
    fun p hp => by have := (i.new p hp).2.2.2; simpa using this⟩
theorem Ext.unhold {s s' : Shared} {r r' : Ro} {C : Addr} (hk : X.keep = []) (x : Ext { X with keep := [C] } s r s' r') : Ext X s r s' r' :=
  ⟨x.1, x.2.1, fun b o e a1 a2 a3 => x.2.2.1 b o e (by rw [hk] at a1; rcases a1 with a | a | a | a; exact .inl a; exact .inr (.inl a); exact .inr (.inr (.inl a)); cases a) a2 a3, x.2.2.2⟩

theorem It.self {A : Around} {s : Shared} {r : Ro} {ia : Addr} {src : Option (Nat × MO)} {rest : List V} {Q : Value → Shared → Prop} {E' : Value → Shared → Prop} (t : It s.heap r ia src rest) (how : owned src = false) (h : Q (.ref ia) s) : wpAny (model prog w) A (pyIter (.ref ia)) Q E' s := by
  cases t with
  | list a _ _ => exact wpAny_pyIter_listiter a h
  | rev a _ _ _ => exact wpAny_pyIter_revIter a h
  | tup a _ _ _ => exact wpAny_pyIter_tupleiter a h
  | range a _ => exact wpAny_pyIter_rangeiter a h
  | keys a _ _ _ => exact wpAny_pyIter_keyiter a h
  | items a _ _ _ => cases how
end
end Mine

namespace Mine

/-! the order that a sort finds is one of the items' -/
noncomputable def Good {α : Type} (n : Nat) (P : α → Prop) : KasT α → Prop
  | .ret a => P a
  | .ask i j k => i < n ∧ j < n ∧ ∀ c, Good n P (k c)
theorem Good.mono {α : Type} {n : Nat} {P Q : α → Prop} (h : ∀ a, P a → Q a) : ∀ {t : KasT α}, Good n P t → Good n Q t
  | .ret _, g => h _ g
  | .ask _ _ _, g => ⟨g.1, g.2.1, fun c => Good.mono h (g.2.2 c)⟩
theorem Good.bind {α β : Type} {n : Nat} {P : α → Prop} {Q : β → Prop} {f : α → KasT β} (h : ∀ a, P a → Good n Q (f a)) : ∀ {t : KasT α}, Good n P t → Good n Q (t.bind f)
  | .ret _, g => h _ g
  | .ask _ _ _, g => ⟨g.1, g.2.1, fun c => Good.bind h (g.2.2 c)⟩
theorem Good.run {α : Type} {n : Nat} {P : α → Prop} {ask : Nat → Nat → (Bool → Shared → Prop) → Shared → Prop} {s : Shared} {G : α → Shared → Prop} (hask : ∀ i j C, i < n → j < n → (∀ c, C c s) → ask i j C s) (hG : ∀ a, P a → G a s) :
    ∀ {t : KasT α}, Good n P t → t.kasWp ask G s
  | .ret _, g => hG _ g
  | .ask i j k, g => hask i j _ g.1 g.2.1 fun c => Good.run hask hG (g.2.2 c)

section
variable {n : Nat}
noncomputable def IsP (n : Nat) (p : Array Nat) : Prop := p.toList.Perm (List.range n)
theorem IsP.of {p q : Array Nat} (h : IsP n q) (e : p.Perm q) : IsP n p := (Array.perm_iff_toList_perm.mp e).trans h
theorem IsP.rev {p : Array Nat} (h : IsP n p) (i j : Nat) : IsP n (kas_rev p i j) := h.of (mirror_perm _ _ _ _)
theorem IsP.lt {p : Array Nat} (h : IsP n p) (h0 : 0 < n) (i : Nat) : p.getD i 0 < n := by
  by_cases q : i < p.size
  · have e : p.getD i 0 = p[i] := by simp [Array.getD, q]
    rw [e]
    have : p[i] ∈ p.toList := by simp
    have := h.mem_iff.mp this
    simpa using this
  · have e : p.getD i 0 = 0 := by simp [Array.getD, q]
    rw [e]; exact h0
theorem good_asc {p : Array Nat} (h : IsP n p) (h0 : 0 < n) : ∀ (f k : Nat), Good n (fun _ => True) (kas_asc p f k)
  | 0, k => trivial
  | f + 1, k => ⟨h.lt h0 _, h.lt h0 _, fun c => by
    dsimp only
    split
    · trivial
    · exact good_asc h h0 f (k + 1)⟩
theorem good_desc (h0 : 0 < n) : ∀ (f : Nat) (p : Array Nat) (k q : Nat), IsP n p → Good n (fun r => IsP n r.1) (kas_desc f p k q)
  | 0, p, k, q, h => h
  | f + 1, p, k, q, h => ⟨h.lt h0 _, h.lt h0 _, fun c => by
    dsimp only
    split
    · split
      · exact good_desc h0 f _ _ _ (h.rev _ _)
      · exact good_desc h0 f _ _ _ h
    · refine ⟨h.lt h0 _, h.lt h0 _, fun d => ?_⟩
      dsimp only
      split
      · exact h
      · exact good_desc h0 f _ _ _ h⟩
theorem good_tail3 {p : Array Nat} (h : IsP n p) (h0 : 0 < n) (k r : Nat) : Good n (fun r => IsP n r.2) (kas_tail3 k r p) := by
  refine Good.bind (P := fun _ => True) (fun k' _ => ?_) (good_asc (h.rev _ _) h0 _ _)
  exact h.rev _ _
theorem good_descPart {p : Array Nat} (h : IsP n p) (h0 : 0 < n) (k r : Nat) : Good n (fun r => IsP n r.2) (kas_descPart k r p) := by
  refine Good.bind (fun r hr => ?_) (good_desc h0 _ _ _ _ h)
  split
  · exact good_tail3 (hr.rev _ _) h0 _ _
  · exact good_tail3 hr h0 _ _
theorem good_count {p : Array Nat} (h : IsP n p) (h0 : 0 < n) (r : Nat) : Good n (fun r => IsP n r.2) (kas_count r p) := by
  refine Good.bind (fun k _ => ?_) (good_asc h h0 _ _)
  split
  · exact h
  · split
    · refine ⟨h.lt h0 _, h.lt h0 _, fun c => ?_⟩
      dsimp only
      split
      · exact h
      · exact good_descPart (h.rev _ _) h0 _ _
    · exact good_descPart h h0 _ _
theorem good_place {p : Array Nat} (h : IsP n p) (h0 : 0 < n) (k : Nat) : ∀ (f l r : Nat), Good n (fun _ => True) (kas_place p k f l r)
  | 0, l, r => trivial
  | f + 1, l, r => by
    unfold kas_place
    split
    · trivial
    · refine ⟨h.lt h0 _, h.lt h0 _, fun c => ?_⟩
      dsimp only
      split
      · exact good_place h h0 k f _ _
      · exact good_place h h0 k f _ _
theorem good_bin (h0 : 0 < n) : ∀ (f : Nat) (p : Array Nat) (k : Nat), IsP n p → Good n (IsP n) (kas_bin f p k)
  | 0, p, k, h => h
  | f + 1, p, k, h => Good.bind (fun l _ => good_bin h0 f _ _ (h.of (bubble_perm _ _ _))) (good_place h h0 _ _ _ _)
theorem good_sort (h0 : 0 < n) : Good n (IsP n) (kas_sort n) := by
  refine Good.bind (fun r hr => ?_) (good_count (n := n) (by unfold IsP; simp) h0 n)
  split
  · exact good_bin h0 _ _ _ hr
  · exact hr
end

section
variable {prog : Program} {w : World} {K : Frag} {X : Cx} {m : Loc} {S : MS} {E : V → MS → Prop}

/-- a row of the table as a value -/
structure Row where
  a : Int
  b : Str
  c : Int
noncomputable def Row.v (x : Row) : V := .tup [.int x.a, .str x.b, .int x.c]
noncomputable def IsRow (h : Heap) (v : Value) : Prop := ∃ ad o n i1 t1 x2 t2 i3 t3, v = .ref ad ∧ h.get? ad = some o ∧ o.cls = .type "tuple" ∧ o.data = .seq #[.int i1 t1, .str x2 t2, .int i3 t3] n
theorem row_of {h : Heap} {r : Ro} {v : Value} {x : Row} (q : RV h r v x.v) : IsRow h v := by
  cases q with
  | @tup ad o items n _ e c d s =>
    obtain ⟨l⟩ := items
    dsimp only at s
    cases s with
    | cons a s => cases s with
      | cons b s => cases s with
        | cons c' s =>
          cases s; cases a; cases b; cases c'
          exact ⟨_, _, _, _, _, _, _, _, _, rfl, e, c, d⟩
theorem row_lt {A : Around} {s : Shared} {x y : Value} {Q : Bool → Shared → Prop} {E' : Value → Shared → Prop} (hx : IsRow s.heap x) (hy : IsRow s.heap y) (h : ∀ c, Q c s) : wpAny (model prog w) A (keyLt' (tuples' true) x y) Q E' s := by
  obtain ⟨ad, o, n, i1, t1, x2, t2, i3, t3, rfl, g1, g2, g3⟩ := hx
  obtain ⟨ad', o', n', j1, u1, y2, u2, j3, u3, rfl, k1, k2, k3⟩ := hy
  refine kat_lt g1 g3 k1 k3 ?_
  refine kat_cons (wpAny_eqBool_int (kat_go (fun _ => kat_yes ?_) (fun _ => kat_no (oneLt_int (h _)))))
  refine kat_cons (wpAny_eqBool_str (kat_go (fun _ => kat_yes ?_) (fun _ => kat_no (kat_one _ _ (PySem.P.lt_str (h _))))))
  refine kat_cons (wpAny_eqBool_int (kat_go (fun _ => kat_yes ?_) (fun _ => kat_no (kat_one _ _ (lt_int (h _))))))
  exact kat_nil (h _)

theorem rows_of {h : Heap} {r : Ro} {xs : List Row} : ∀ {vs : List Value}, RVs h r vs (xs.map Row.v) → ∀ v ∈ vs, IsRow h v := by
  induction xs with
  | nil => intro vs R; cases R; exact nofun
  | cons x xs ih =>
    intro vs R v hv
    cases R with
    | cons q s =>
      rcases List.mem_cons.mp hv with rfl | hv
      · exact row_of q
      · exact ih s v hv
theorem IsRow.kp {h h' : Heap} {v : Value} (k : Kp h h') (x : IsRow h v) : IsRow h' v := by
  obtain ⟨ad, o, n, i1, t1, x2, t2, i3, t3, rfl, g1, g2, g3⟩ := x
  obtain ⟨o', e', c', _, d'⟩ := k _ _ g1 (by unfold frozen; rw [g3, g2]; rfl)
  exact ⟨ad, o', n, i1, t1, x2, t2, i3, t3, rfl, e', c'.trans g2, d'.trans g3⟩
theorem rows_first {h : Heap} : ∀ (vs : List Value), (∀ v ∈ vs, IsRow h v) → ∃ fs, KatTups h vs fs ∧ fs.length = vs.length ∧ ∀ f ∈ fs, ∃ i t, f = Value.int i t
  | [], _ => ⟨[], .nil, rfl, nofun⟩
  | v :: vs, hv => by
    obtain ⟨fs, h1, h2, h3⟩ := rows_first vs fun x hx => hv x (.tail _ hx)
    obtain ⟨ad, o, n, i1, t1, x2, t2, i3, t3, rfl, g1, g2, g3⟩ := hv v (.head _)
    refine ⟨.int i1 t1 :: fs, .cons g1 g2 g3 rfl h1, by rw [List.length_cons, List.length_cons, h2], fun f hf => ?_⟩
    rcases List.mem_cons.mp hf with rfl | hf
    · exact ⟨_, _, rfl⟩
    · exact h3 f hf

/-- a list of rows sorted: some order of them -/
theorem sorted_rows {A : Around} {s : Shared} {l : Addr} {vs : List Value} {Q : Value → Shared → Prop} {E' : Value → Shared → Prop} (hl : s.heap.IsList l vs.toArray) (h64 : vs.length < 64) (hrow : ∀ v ∈ vs, IsRow s.heap v)
    (h : ∀ h' (out : List Value), out.Perm vs → h'.PlainList (s.heap.objs.size + 1) (List.toArray out) → (∀ b o, s.heap.get? b = some o → h'.get? b = some o) → Q (.ref (s.heap.objs.size + 1)) { s with heap := h' }) :
    wpAny (model prog w) A (call (.builtin "sorted") [.ref l]) Q E' s := by
  refine Calls.call_function_entry kind_sorted plain_sorted entry_sorted (args_sorted1 _) ?_
  unfold Builtin.«sorted»
  refine wpAny_bind (m := checkCount "sorted" 1 1 _) (wpAny_pure ?_)
  refine wpAny_bind (collect_list hl ?_ (by rw [sizeLine_eq]; omega))
  refine wpAny_bind (wpAny_newList ?_ (by rw [sizeLine_eq]; omega))
  have hsz : ((s.heap.push (seqObj "list" #[] 0)).update s.heap.objs.size (Obj.mapSeq (· ++ vs.toArray))).objs.size = s.heap.objs.size + 1 := by
    rw [Heap.size_update, size_push']
  have hoL : (((s.heap.push (seqObj "list" #[] 0)).update s.heap.objs.size (Obj.mapSeq (· ++ vs.toArray))).push (seqObj "list" vs.toArray 0)).get? (s.heap.objs.size + 1) = some (seqObj "list" vs.toArray 0) := by
    rw [← hsz]; exact Heap.get?_push_size _ rfl
  have keep : ∀ b o, s.heap.get? b = some o → (((s.heap.push (seqObj "list" #[] 0)).update s.heap.objs.size (Obj.mapSeq (· ++ vs.toArray))).push (seqObj "list" vs.toArray 0)).get? b = some o := fun b o q => by
    have hlt : b < s.heap.objs.size := Heap.lt_size q
    rw [Heap.get?_push_ne _ _ _ (by rw [hsz]; exact Nat.ne_of_lt (Nat.lt_succ_of_lt hlt)), Heap.get?_update_ne _ _ _ _ (Nat.ne_of_lt hlt), Heap.get?_push_ne _ _ _ (Nat.ne_of_lt hlt)]
    exact q
  show wpAny _ _ _ _ _ { s with heap := ((s.heap.push (seqObj "list" #[] 0)).update s.heap.objs.size (Obj.mapSeq (· ++ vs.toArray))).push (seqObj "list" vs.toArray 0) }
  rw [hsz]
  generalize hH : ((s.heap.push (seqObj "list" #[] 0)).update s.heap.objs.size (Obj.mapSeq (· ++ vs.toArray))).push (seqObj "list" vs.toArray 0) = H at hoL keep
  generalize hD : s.heap.objs.size + 1 = D at hoL h
  have hDn : ∀ b o, s.heap.get? b = some o → b ≠ D := fun b o e => by rw [← hD]; exact Nat.ne_of_lt (Nat.lt_succ_of_lt (Heap.lt_size e))
  refine wpAny_bind (wpAny_holding (wpAny_call_entry slot_list_sort ⟨_, hoL, rfl⟩ entry_list_sort ?_ (args_list_sort _)))
  have ha : D < H.objs.size := Heap.lt_size hoL
  obtain ⟨e1, ho1⟩ : ∃ e1, (H.update D (Obj.mapSeq fun _ => (#[] : Array Value))).get? D = some (seqObj "list" #[] e1) := ⟨_, get?_update_seq hoL fun _ => #[]⟩
  rw [list_sort_plain]
  refine wpAny_bind (listItems_at hoL rfl ?_)
  refine wpAny_bind (listUpdate_at hoL rfl ?_ (by rw [List.size_toArray, sizeLine_eq]; omega) (Nat.zero_le _))
  refine wpAny_bind (seqEpoch_at ho1 rfl ?_)
  refine wpAny_bind (wpAny_newTuple ?_ (by show vs.length ≤ _; rw [sizeLine_eq]; omega))
  refine wpAny_bind (wpAny_newList ?_ (Nat.zero_le _))
  refine wpAny_holding ?_
  show wpAny _ _ _ _ _ { s with heap := ((H.update D (Obj.mapSeq fun _ => (#[] : Array Value))).push (seqObj "tuple" vs.toArray 0)).push (seqObj "list" #[] 0) }
  have ho6 : (((H.update D (Obj.mapSeq fun _ => (#[] : Array Value))).push (seqObj "tuple" vs.toArray 0)).push (seqObj "list" #[] 0)).get? D = some (seqObj "list" #[] e1) :=
    Heap.get?_push_of_some _ (Heap.get?_push_of_some _ ho1)
  have keep6 : ∀ b o, s.heap.get? b = some o → (((H.update D (Obj.mapSeq fun _ => (#[] : Array Value))).push (seqObj "tuple" vs.toArray 0)).push (seqObj "list" #[] 0)).get? b = some o := fun b o e =>
    Heap.get?_push_of_some _ (Heap.get?_push_of_some _ ((Heap.get?_update_ne _ _ _ _ (hDn b o e)).trans (keep b o e)))
  generalize ((H.update D (Obj.mapSeq fun _ => (#[] : Array Value))).push (seqObj "tuple" vs.toArray 0)).push (seqObj "list" #[] 0) = H6 at ho6 keep6 ⊢
  have row6 : ∀ v ∈ vs, IsRow H6 v := fun v hv => (hrow v hv).kp (.of_keeps keep6)
  have last : ∀ out : Array Value, out.toList.Perm vs → ∃ c2, (H6.update D (Obj.mapSeq fun _ => out)).get? D = some (seqObj "list" out c2) ∧ out.size ≤ sizeLine ∧ Q (.ref D) { s with heap := H6.update D (Obj.mapSeq fun _ => out) } := fun out hp => by
    have s2 := Heap.SameBut.update H6 D (Obj.mapSeq fun _ => out)
    obtain ⟨c2, hc2⟩ : ∃ c2, (H6.update D (Obj.mapSeq fun _ => out)).get? D = some (seqObj "list" out c2) := ⟨_, get?_update_seq ho6 fun _ => out⟩
    exact ⟨c2, hc2, by rw [← Array.length_toList, hp.length_eq, sizeLine_eq]; omega, h _ out.toList hp ⟨c2, hc2⟩ fun b o e => (s2.2 b (hDn b o e)).trans (keep6 b o e)⟩
  dsimp only
  by_cases hn2 : vs.toArray.size < 2
  · rw [if_pos hn2, if_pos hn2]
    refine wpAny_bind (wpAny_pure ?_)
    rw [StateT.run_pure]
    refine wpAny_bind (wpAny_pure ?_)
    dsimp only
    have hout : (arrOf (SortSt.mk' general' (vs.toArray.zip vs.toArray) #[] 7 none)).map (·.2) = vs.toArray := by
      show (vs.toArray.zip vs.toArray).map (·.2) = vs.toArray
      apply Array.ext (by simp)
      intro i h1 h2
      simp
    rw [hout]
    obtain ⟨c2, hc2, hz2, hQ⟩ := last vs.toArray (List.Perm.refl _)
    refine wpAny_bind (seqEpoch_at ho6 rfl ?_)
    refine wpAny_bind (listUpdate_at ho6 rfl ?_ (Nat.zero_le _) (Nat.le_succ_of_le hz2))
    simp only [bne_self_eq_false, Bool.false_eq_true, if_false]
    exact wpAny_pure ⟨_, rfl, wpAny_pure ⟨_, rfl, hQ⟩⟩
  · rw [if_neg hn2, if_neg hn2]
    have h2 : 2 ≤ vs.length := by rw [List.size_toArray] at hn2; omega
    obtain ⟨fs, ht, hfl, hfi⟩ := rows_first vs row6
    refine wpAny_bind (kat_kind (s := { s with heap := H6 }) (T := .type "int") ht (by omega) (fun v hv => ?_) rfl ?_)
    · obtain ⟨i, t, rfl⟩ := hfi v hv
      exact Looks.of_pure rfl
    have hrun : (kas_sort vs.length).kasWp (kas_ask prog w A.in1.in1 (tuples' true) vs) (fun p s' => s' = { s with heap := H6 } ∧ IsP vs.length p) { s with heap := H6 } := by
      refine Good.run (fun i j C hi hj hC => ?_) (fun a ha => ⟨rfl, ha⟩) (good_sort (by omega))
      have e1 : vs.getD i Value.none = vs[i] := by simp [hi]
      have e2 : vs.getD j Value.none = vs[j] := by simp [hj]
      show wpAny _ _ (keyLt' (tuples' true) (vs.getD i Value.none) (vs.getD j Value.none)) C _ _
      rw [e1, e2]
      exact row_lt (row6 _ (List.getElem_mem hi)) (row6 _ (List.getElem_mem hj)) hC
    refine wpAny_bind (wpAny_mono (kat_run (Q := fun st' s' => ∃ p : Array Nat, s' = { s with heap := H6 } ∧ IsP vs.length p ∧ arrOf st' = p.map (kas_item (vs.toArray.zip vs.toArray)) ∧ failedOf st' = none)
      rfl h2 h64 (fun p' st' s' a1 a2 a3 a4 => ⟨p', a4.1, a4.2, a2, a3⟩) hrun) ?_ fun _ _ e => e)
    rintro ⟨⟨⟩, st'⟩ s' ⟨p, rfl, hp, har, hf⟩
    dsimp only
    have hout := kat_snds (ks := vs) rfl har
    rw [hout]
    obtain ⟨c2, hc2, hz2, hQ⟩ := last (List.toArray (p.toList.map fun i => vs.getD i Value.none)) (by
      have e : (List.range vs.length).map (fun i => vs.getD i Value.none) = vs := by
        apply List.ext_getElem (by simp)
        intro i h1 h2
        simp at h1
        simp [h1]
      have := hp.map (fun i => vs.getD i Value.none)
      rw [e] at this
      exact this)
    refine wpAny_bind (seqEpoch_at ho6 rfl ?_)
    refine wpAny_bind (listUpdate_at ho6 rfl ?_ (Nat.zero_le _) (Nat.le_succ_of_le hz2))
    rw [hf]
    simp only [bne_self_eq_false, Bool.false_eq_true, if_false]
    exact wpAny_pure ⟨_, rfl, wpAny_pure ⟨_, rfl, hQ⟩⟩

theorem rvs_perm {h : Heap} {r : Ro} {vs ws : List Value} (p : ws.Perm vs) : ∀ {xs : List V}, RVs h r vs xs → ∃ ys, ys.Perm xs ∧ RVs h r ws ys := by
  induction p with
  | nil => intro xs q; cases q; exact ⟨[], .nil, .nil⟩
  | cons v _ ih =>
    intro xs q
    cases q with
    | cons a b => obtain ⟨ys, h1, h2⟩ := ih b; exact ⟨_ :: ys, h1.cons _, .cons a h2⟩
  | swap v w l =>
    intro xs q
    cases q with
    | cons a b => cases b with
      | cons b c => exact ⟨_, List.Perm.swap .., .cons b (.cons a c)⟩
  | trans _ _ ih1 ih2 =>
    intro xs q
    obtain ⟨ys, h1, h2⟩ := ih2 q
    obtain ⟨zs, h3, h4⟩ := ih1 h2
    exact ⟨zs, h3.trans h1, h4⟩
theorem perm_map {α β : Type} (f : α → β) {ys l : List β} (p : ys.Perm l) : ∀ {xs : List α}, l = xs.map f → ∃ zs : List α, zs.Perm xs ∧ ys = zs.map f := by
  induction p with
  | nil => intro xs e; exact ⟨xs, .refl _, e⟩
  | cons v _ ih =>
    intro xs e
    cases xs with
    | nil => cases e
    | cons x xs =>
      have e' := List.cons.inj e
      obtain ⟨zs, h1, h2⟩ := ih e'.2
      exact ⟨x :: zs, h1.cons _, by rw [h2, e'.1]; rfl⟩
  | swap v u l =>
    intro xs e
    cases xs with
    | nil => cases e
    | cons x xs =>
      cases xs with
      | nil => cases (List.cons.inj e).2
      | cons y xs =>
        have e1 := List.cons.inj e
        have e2 := List.cons.inj e1.2
        exact ⟨y :: x :: xs, List.Perm.swap .., by rw [e1.1, e2.1, e2.2]; rfl⟩
  | trans _ _ ih1 ih2 =>
    intro xs e
    obtain ⟨zs, h1, h2⟩ := ih2 e
    obtain ⟨us, h3, h4⟩ := ih1 h2
    exact ⟨us, h3.trans h1, h4⟩
theorem opL_sorted {P : V → MS → Prop} {l : Nat} {xs : List Row} (hl : S[l]? = some (.list (xs.map Row.v))) (hz : xs.length < 64) (h : ∀ ys : List Row, ys.Perm xs → P (.loc S.length) (S ++ [.list (ys.map Row.v)])) : opL prog w K X (fun vs => call (.builtin "sorted") vs) [.loc l] m S P E := fun s r vs i rvs => by
  cases rvs with
  | cons ra rest =>
    cases rest
    obtain ⟨d, items, rfl, hp, hd, rv⟩ := i.list hl ra
    have hlen := rv.length
    rw [Array.length_toList, List.length_map] at hlen
    refine sorted_rows (vs := items.toList) (plainIs hd) (by rw [Array.length_toList]; omega) (rows_of rv) fun h' out hpm hpl kk => ?_
    obtain ⟨ys, hy, hr⟩ := rvs_perm hpm rv
    obtain ⟨zs, hz1, rfl⟩ := perm_map Row.v hy rfl
    have kp := Kp.of_keeps kk
    exact done (r' := r ++ [(s.heap.objs.size + 1, s.heap.objs.size + 1)]) (i.add (t := s.toks) (p := (s.heap.objs.size + 1, s.heap.objs.size + 1)) (mo := .list (zs.map Row.v)) kk (Nat.le_succ _) ⟨rfl, _, hpl, by simpa using hr.mono kp (.app _ _)⟩) (.growAdd (t := s.toks) kk) (.loc (d := s.heap.objs.size + 1) (i.newLoc _)) ⟨rfl, h zs hz1⟩
end
end Mine

namespace Mine

section
variable {prog : Program} {w : World} {K : Frag} {X : Cx} {m : Loc} {S : MS} {P : V → MS → Prop} {E : V → MS → Prop}

/-- two dicts hold the same -/
noncomputable def SameT (xs ys : List (List Sc × V)) : Prop := xs.length = ys.length ∧ ∀ e ∈ xs, aGet ys e.1 = some e.2

theorem kv_at {T : Type} {h : Heap} {r : Ro} {a : List (T × Value)} {b : List (T × V)} (z : KV h r a b) : ∀ {i : Nat} {k : T} {v : Value}, a[i]? = some (k, v) → ∃ x, b[i]? = some (k, x) ∧ RV h r v x := by
  induction z with
  | nil => intro i k v e; simp at e
  | @cons k' v' x' vs xs rv _ ih =>
    intro i k v e
    cases i with
    | zero => simp at e; exact ⟨x', by simp [e.1], e.2 ▸ rv⟩
    | succ i => rw [List.getElem?_cons_succ] at e; rw [List.getElem?_cons_succ]; exact ih e

theorem samePairsH {A : Around} {s : Shared} {r : Ro} {nm : String} {a b : Addr} {xa xb : List (List Sc × Addr × Value)} {ea eb : List (List Sc × V)} {Q : Bool → Shared → Prop} {E' : Value → Shared → Prop} (hu : A.units + 30 < cLine) (ha : (a == sysModules) = false) (hb : (b == sysModules) = false)
    (da : s.heap.DictOfH (tupleKind (scKind prog w)) a xa) (db : s.heap.DictOfH (tupleKind (scKind prog w)) b xb) (za : KV s.heap r (xa.map fun x => (x.1, x.2.2)) ea) (zb : KV s.heap r (xb.map fun x => (x.1, x.2.2)) eb)
    (pa : ∀ e ∈ ea, e.2.pure = true ∧ e.2.py.depth ≤ 20) (pb : ∀ e ∈ eb, e.2.pure = true) (h1 : SameT ea eb → Q true s) (h2 : ¬ SameT ea eb → Q false s) :
    wpAny (model prog w) A (Builtin.Dict.samePairs nm a b) Q E' s := by
  obtain ⟨oa, es, ep, hoa, _, hda, hea, hia, hna⟩ := id da
  obtain ⟨ob, es', ep', hob, _, hdb, heb, hib, hnb⟩ := id db
  have hla : ea.length = es.size := by have := za.length; rw [List.length_map] at this; rw [← this, size_of_entries hea]
  have hlb : eb.length = es'.size := by have := zb.length; rw [List.length_map] at this; rw [← this, size_of_entries heb]
  unfold Builtin.Dict.samePairs Builtin.Dict.showsAll
  rw [if_neg (show ¬ (a == sysModules) = true by rw [ha]; exact Bool.false_ne_true), if_neg (show ¬ (b == sysModules) = true by rw [hb]; exact Bool.false_ne_true)]
  refine wpAny_bind (wpAny_pure (wpAny_bind (wpAny_pure ?_)))
  refine wpAny_bind (wpAny_dictEntries hoa hda ?_)
  dsimp only
  refine wpAny_bind (wpAny_dictEntries hob hdb ?_)
  by_cases hsz : es.size = es'.size
  case neg =>
    rw [if_pos (by simpa using hsz)]
    exact wpAny_bind (wpAny_rule (wpAny_pure (h2 fun z => hsz (by rw [← hla, ← hlb]; exact z.1))))
  case pos =>
    rw [if_neg (by rw [hsz]; simp)]
    refine wpAny_bind (wpAny_dictEpoch hoa hda ?_)
    refine wpAny_bind ?_
    rw [Std.Legacy.Range.forIn_eq_forIn_range']
    simp only [Std.Legacy.Range.size, Nat.sub_zero, Nat.add_sub_cancel, Nat.div_one]
    refine wpAny_forIn_list _
      (fun rest q s' => s' = s ∧ q = (none, ()) ∧ ∃ i, rest = List.range' i (es.size - i) ∧ i ≤ es.size ∧ ∀ j e, j < i → ea[j]? = some e → aGet eb e.1 = some e.2)
      _ ?_ ?_ _ _ ⟨rfl, rfl, 0, by simp, Nat.zero_le _, fun _ _ q => absurd q (Nat.not_lt_zero _)⟩
    · rintro x rest q s' ⟨rfl, rfl, i, hr, hi, hpre⟩
      have hlt : i < es.size := by
        rcases Nat.lt_or_ge i es.size with h | h
        · exact h
        · rw [Nat.sub_eq_zero_of_le h] at hr; simp at hr
      obtain ⟨rfl, hrest⟩ : x = i ∧ rest = List.range' (i + 1) (es.size - (i + 1)) := by
        have e : es.size - i = (es.size - (i + 1)) + 1 := by omega
        rw [e, List.range'_succ] at hr
        exact List.cons.inj hr
      refine wpAny_bind (wpAny_dictEntries hoa hda ?_)
      rw [Array.getElem?_eq_getElem hlt]
      obtain ⟨⟨ks, ka, va⟩, hkv⟩ : ∃ y, xa[x]? = some y := ⟨xa[x]'(by rw [← size_of_entries hea]; exact hlt), List.getElem?_eq_getElem _⟩
      have hent : es[x] = entryOfKey (tupleKind (scKind prog w)) (ks, ka, va) := by
        have := entry_at hea x
        rw [hkv, Array.getElem?_eq_getElem hlt] at this
        exact Option.some.inj this
      have hka := hia _ (List.mem_of_getElem? hkv)
      obtain ⟨vx, hvx, rva⟩ := kv_at za (i := x) (k := ks) (v := va) (by rw [List.getElem?_map, hkv]; rfl)
      rw [hent]
      show wpAny _ _ (holding [.ref ka, va] _ >>= _) _ _ _
      refine wpAny_bind (wpAny_holding (wpAny_bind (wpAny_dictFind_heap (knd := tupleKind (scKind prog w)) (by show A.units < cLine; omega) hka hob hdb heb hib hnb (fun hno => ?_) fun j p hj => ?_)))
      · have hn : aGet eb ks = none := by
          have hg := zb.get ks
          have : valueAt (xb.map fun x => (x.1, x.2.2)) ks = none := by rw [← at_map, atKey_none_of_get hno]; rfl
          cases q : aGet eb ks with
          | none => rfl
          | some y => rw [q] at hg; obtain ⟨v, hv, _⟩ := hg; rw [this] at hv; cases hv
        refine wpAny_pure ?_
        show wpAny _ _ (if (!false) = true then _ else _) _ _ _
        rw [if_pos (by decide)]
        exact wpAny_pure (wpAny_pure (h2 fun z => by
          have := z.2 _ (List.mem_of_getElem? hvx)
          rw [hn] at this; cases this))
      · have hjlt : j < es'.size := by rw [size_of_entries heb]; exact (List.getElem?_eq_some_iff.mp hj).1
        have hentb : es'[j] = entryOfKey (tupleKind (scKind prog w)) (ks, p) := by
          have := entry_at heb j
          rw [hj, Array.getElem?_eq_getElem hjlt] at this
          exact Option.some.inj this
        have hat : atKey xb ks = some p := atKey_of_get hnb hj
        have hg := zb.get ks
        have hval : valueAt (xb.map fun x => (x.1, x.2.2)) ks = some p.2 := by rw [← at_map, hat]; rfl
        obtain ⟨y, hy, rvb⟩ : ∃ y, aGet eb ks = some y ∧ RV s'.heap r p.2 y := by
          cases q : aGet eb ks with
          | none => rw [q] at hg; rw [hval] at hg; cases hg
          | some y => rw [q] at hg; obtain ⟨v, hv, rv⟩ := hg; rw [hval] at hv; cases hv; exact ⟨y, rfl, rv⟩
        have hpx := pa _ (List.mem_of_getElem? hvx)
        have hpy : y.pure = true := by
          unfold aGet at hy
          cases q : eb.find? fun e => decide (e.1 = ks) with
          | none => rw [q] at hy; cases hy
          | some e => rw [q] at hy; cases hy; exact pb _ (List.mem_of_find?_eq_some q)
        refine wpAny_bind (wpAny_dictEntries hob hdb ?_)
        rw [Array.getElem?_eq_getElem hjlt, hentb]
        obtain ⟨as, ra⟩ := rva.reads hpx.1
        obtain ⟨bs, rb⟩ := rvb.reads hpy
        have heq := PySem.SeqAt.eqAt_reads _ _ A s' _ _ _ _ ra rb (V.lay _ hpx.1) (V.lay _ hpy) (by have := hpx.2; dsimp only at this; omega)
        refine wpAny_holding (heq prog w _ _ ?_)
        have ev := V.eqv vx y hpx.1 hpy
        cases q : PyData.eqv vx.py y.py with
        | false =>
          show wpAny _ _ (if (!false) = true then _ else _) _ _ _
          rw [if_pos (by decide)]
          exact wpAny_pure (wpAny_pure (h2 fun z => by
            have := z.2 _ (List.mem_of_getElem? hvx)
            rw [hy] at this
            have e : y = vx := Option.some.inj this
            rw [ev.mpr e.symm] at q; cases q))
        | true =>
          show wpAny _ _ (if (!true) = true then _ else _) _ _ _
          rw [if_neg (by decide)]
          refine wpAny_bind (wpAny_dictEpoch hoa hda ?_)
          rw [if_neg (by simp)]
          refine wpAny_pure ⟨rfl, rfl, x + 1, hrest, hlt, fun j' e hj' he => ?_⟩
          rcases Nat.lt_succ_iff_lt_or_eq.mp hj' with h | h
          · exact hpre j' e h he
          · subst h
            rw [hvx] at he; cases he
            rw [hy, ev.mp q]
    · rintro q s' ⟨rfl, rfl, i, hr, hi, hpre⟩
      have hin : i = es.size := by
        rcases Nat.lt_or_ge i es.size with h | h
        · have e : es.size - i = (es.size - (i + 1)) + 1 := by omega
          rw [e, List.range'_succ] at hr; cases hr
        · exact Nat.le_antisymm hi h
      refine wpAny_pure (h1 ⟨by rw [hla, hlb]; exact hsz, fun e he => ?_⟩)
      obtain ⟨j, hj⟩ := List.mem_iff_getElem?.mp he
      exact hpre j e (by rw [hin, ← hla]; exact (List.getElem?_eq_some_iff.mp hj).1) hj

theorem op_neT {l1 l2 : Nat} {ea eb : List (List Sc × V)} (hl1 : S[l1]? = some (.tdict ea)) (hl2 : S[l2]? = some (.tdict eb)) (pa : ∀ e ∈ ea, e.2.pure = true ∧ e.2.py.depth ≤ 20) (pb : ∀ e ∈ eb, e.2.pure = true)
    (h1 : SameT ea eb → P (.bool false) S) (h2 : ¬ SameT ea eb → P (.bool true) S) : op2 prog w K X (compareOp .NotEq) (.loc l1) (.loc l2) m S P E := fun s r va vb i ra rb => by
  obtain ⟨a, xa, rfl, hpa, da, za, hma⟩ := i.tdict hl1 ra
  obtain ⟨b, xb, rfl, hpb, db, zb, hmb⟩ := i.tdict hl2 rb
  have hu := i.ok.uA
  refine wpAny_richCompare_same_room (op := .NotEq) da.typeIs db.typeIs PySem.F.slot_dict_ne (wpAny_call_entry PySem.F.slot_dict_ne da.typeIs PySem.F.entry_dict_ne ?_ (PySem.F.args_dict_ne_2 _ _)) (by omega)
  show wpAny _ _ (Builtin.Dict.dictSlotArgs "__ne__" ⟨[.ref a, .ref b], []⟩ >>= _) _ _ s
  refine wpAny_bind ?_
  unfold Builtin.Dict.dictSlotArgs
  refine wpAny_bind (wpAny_notOrdered_dict da.typeIs ?_)
  show wpAny _ _ (pure (Value.ref a, Value.ref b)) _ _ s
  refine wpAny_pure ?_
  refine wpAny_bind (wpAny_isInstance (T := "dict") db.typeIs PySem.F.sub_dict_dict ?_)
  simp only [Bool.not_true, Bool.false_eq_true, if_false]
  refine wpAny_bind (wpAny_pure (wpAny_bind (wpAny_pure ?_)))
  refine wpAny_bind (samePairsH (r := r) (by show X.A.units + 1 + 30 < cLine; omega) hma hmb da db za zb pa pb (fun z => ?_) fun z => ?_)
  · refine wpAny_pure ⟨_, rfl, (fun x => nomatch x), ?_⟩
    exact done i .refl (.bool false) ⟨rfl, h1 z⟩
  · refine wpAny_pure ⟨_, rfl, (fun x => nomatch x), ?_⟩
    exact done i .refl (.bool true) ⟨rfl, h2 z⟩
end
end Mine

namespace Mine
theorem iteP {c : Prop} [Decidable c] {a b : Prop} (h : c) (x : a) : ite c a b := (if_pos h).symm ▸ x
theorem iteN {c : Prop} [Decidable c] {a b : Prop} (h : ¬ c) (x : b) : ite c a b := (if_neg h).symm ▸ x
theorem dcP {p : Prop} [Decidable p] (h : p) : decide p = true := decide_eq_true h
theorem dcN {p : Prop} [Decidable p] (h : ¬ p) : ¬ decide p = true := fun q => h (of_decide_eq_true q)
theorem ncP {p : Prop} [Decidable p] (h : ¬ p) : (!decide p) = true := by rw [decide_eq_false h]; rfl
theorem ncN {p : Prop} [Decidable p] (h : p) : ¬ (!decide p) = true := by rw [decide_eq_true h]; decide

section
variable {w : World} {X : Cx} {m : Loc} {S : MS} {P : V → MS → Prop} {E : V → MS → Prop}

theorem nm {x : Str} {pos : Pos} {v : V} (h : P v S) (hx : X.cs.names.lookup x = some .local := by rfl) (hm : m x = some v := by rfl) (hd : (x == ("__debug__" : Str)) = false := by rfl) (hc : X.cl.lookup x = none := by rfl) : ex PG w (KK w) X (.Name x pos) m S P E :=
  ex_local hx hm hd hc h
theorem gint {x : Str} {pos : Pos} {z : Int} {t : Tok} (h : P (.int z) S) (hx : X.cs.names.lookup x = some .globalImplicit := by rfl) (he : nsIn (KK w) mainGlobals x = some (some (.int z t)) := by rfl) (hd : (x == ("__debug__" : Str)) = false := by rfl) : ex PG w (KK w) X (.Name x pos) m S P E :=
  ex_glob hx he hd (fun _ _ _ => .int _ _) h
theorem cl {x : Str} {np pos : Pos} {l : List Expr} {f : Addr} (h : es PG w (KK w) X l m S (fun as S' => Fn PG w (KK w) f as S' P E X.n) E) (hp : Plain X pos l := by repeat' (first | exact Plain.nil | refine Plain.cons rfl ?_)) (hx : X.cs.names.lookup x = some .globalImplicit := by rfl) (he : nsIn (KK w) mainGlobals x = some (some (.ref f)) := by rfl) (hd : (x == ("__debug__" : Str)) = false := by rfl) (hk : keepIn (KK w) (.ref f) = true := by rfl) :
    ex PG w (KK w) X (.Call (.Name x np) l [] pos) m S P E := ex_call hx he hd hk hp h
theorem bi {x : Str} {np pos : Pos} {l : List Expr} {f : Value} (h : es PG w (KK w) X l m S (fun as S' => opL PG w (KK w) X (fun vs => call f vs) as m S' P E) E) (hv : bootBuiltins x = some f := by rfl) (hf : (∃ id, f = .builtin id) ∨ ∃ T, f = .type T := by first | exact .inl ⟨_, rfl⟩ | exact .inr ⟨_, rfl⟩) (hp : Plain X pos l := by repeat' (first | exact Plain.nil | refine Plain.cons rfl ?_))
    (hx : X.cs.names.lookup x = some .globalImplicit := by rfl) (he : nsIn (KK w) mainGlobals x = some none := by rfl) (hn : x ≠ "__name__" := by decide) (hd : (x == ("__debug__" : Str)) = false := by rfl) :
    ex PG w (KK w) X (.Call (.Name x np) l [] pos) m S P E := ex_bi hx he hv hn hd hf hp h
theorem typ {x : Str} {pos : Pos} {T : String} (h : P (.typ T) S) (hx : X.cs.names.lookup x = some .globalImplicit := by rfl) (he : nsIn (KK w) mainGlobals x = some none := by rfl) (hv : bootBuiltins x = some (.type T) := by rfl) (hn : x ≠ "__name__" := by decide) (hd : (x == ("__debug__" : Str)) = false := by rfl) :
    ex PG w (KK w) X (.Name x pos) m S P E := ex_typ hx he hv hn hd h
theorem me {o : Expr} {name : Str} {apos pos : Pos} {l : List Expr} {f C : Addr} (h : ex PG w (KK w) X o m S (fun ov S1 => ∃ n fs, ov = .loc n ∧ S1[n]? = some (.inst C fs) ∧ fs.lookup name = none ∧ es PG w (KK w) X l m S1 (fun as S' => Fn PG w (KK w) f (.loc n :: as) S' P E X.n) E) E)
    (hf : findIn (KK w) (.ref C) name = some (some (.ref f)) := by rfl) (hbase : ∀ env, attributeBase o name env (eval o env) = eval o env := by intro _; rfl) (hline : (apos.endLine == pos.line) = true := by rfl) (hform : methodCallForm l.length (starEach l X.env) [] = true := by rfl)
    (hg : plainGet (KK w) C name = true := by rfl) (ht : isFn (KK w) (.ref f) = true := by rfl) (hk : keepIn (KK w) (.ref f) = true := by rfl) (hp : Plain X pos l := by repeat' (first | exact Plain.nil | refine Plain.cons rfl ?_)) :
    ex PG w (KK w) X (.Call (.Attribute o name apos) l [] pos) m S P E := ex_meth hbase hline hform hg hf ht hk hp h
theorem bm {T id : String} {o : Expr} {name : Str} {apos pos : Pos} {l : List Expr} (pa : PlainAttrs T) (slot : Slot T name id) (hty : typeOf (.builtin id) = pure (.type "method_descriptor"))
    (h : ex PG w (KK w) X o m S (fun ov S1 => Of PG w (KK w) X m S1 ov T ∧ es PG w (KK w) X l m S1 (fun as S' => opL PG w (KK w) X (fun vs => call (.builtin id) vs) (ov :: as) m S' P E) E) E)
    (hbase : ∀ env, attributeBase o name env (eval o env) = eval o env := by intro _; rfl) (hline : (apos.endLine == pos.line) = true := by rfl) (hform : methodCallForm l.length (starEach l X.env) [] = true := by rfl)
    (hp : Plain X pos l := by repeat' (first | exact Plain.nil | refine Plain.cons rfl ?_)) : ex PG w (KK w) X (.Call (.Attribute o name apos) l [] pos) m S P E := ex_bm hbase hline hform pa slot hty hp h
theorem at' {o : Expr} {attr : Str} {pos : Pos} {at' : Option Value} {C : Addr} (h : ex PG w (KK w) X o m S (fun ov S' => ∃ l fs v, ov = .loc l ∧ S'[l]? = some (.inst C fs) ∧ fs.lookup attr = some v ∧ P v S') E)
    (ha : findIn (KK w) (.ref C) attr = some at' := by rfl) (he : eval (.Attribute o attr pos) X.env = (do
      let v ← eval o X.env
      standAt pos.atName
      let r ← holding [v] (getAttr v attr true)
      letTemporaryGo o v r
      pure r) := by rfl) (hg : plainGet (KK w) C attr = true := by rfl) (hh : hasDictIn (KK w) C = true := by rfl) (hn : noGet (KK w) at' = true := by rfl) : ex PG w (KK w) X (.Attribute o attr pos) m S P E := ex_attr he hg hh ha hn h
theorem asg {P : Fl → Loc → MS → Prop} {x : Str} {px pos : Pos} {e : Expr} (h : ex PG w (KK w) X e m S (fun v S' => P .next (upd m x v) S') E) (hO : X.own = true := by rfl) (hx : X.cs.names.lookup x = some .local := by rfl) (hc : X.cl.lookup x = none := by rfl) (hs : swapsWith e (some (.Name x px)) pos.line X.env = pure false := by rfl) :
    sx PG w (KK w) X (.Assign [.Name x px] e pos) m S P E := sx_assign hO hx hc hs h
theorem exs {P : Fl → Loc → MS → Prop} {e : Expr} {pos : Pos} (h : ex PG w (KK w) X e m S (fun _ S' => P .next m S') E) (hi : interactive X.env = false := by rfl) (hs : swapsWith e none pos.line X.env = pure false := by rfl) : sx PG w (KK w) X (.Expr e pos) m S P E := sx_expr h hi hs
theorem cmp {l r : Expr} {op : CmpOp} {pos : Pos} {P : Bool → MS → Prop} (h : ex PG w (KK w) X l m S (fun a S1 => ex PG w (KK w) X r m S1 (fun b S2 => op2 PG w (KK w) X (compareOp op) a b m S2 (fun v S3 => ∃ t, v = .bool t ∧ P t S3) E) E) E) (hm : behindInMarks op r = false := by rfl) :
    te PG w (KK w) X (.Compare l [op] [r] pos) m S P E := te_cmp hm h
theorem cmpx {l r : Expr} {op : CmpOp} {pos : Pos} (h : ex PG w (KK w) X l m S (fun a S1 => ex PG w (KK w) X r m S1 (fun b S2 => op2 PG w (KK w) X (compareOp op) a b m S2 P E) E) E) (hm : behindInMarks op r = false := by rfl) : ex PG w (KK w) X (.Compare l [op] [r] pos) m S P E := ex_cmp hm h
theorem tup {l : List Expr} {k : Nat} {pos : Pos} (h : es PG w (KK w) X l m S (fun vs S' => vs.length ≤ 1000 ∧ P (.tup vs) S') E) (hb : backTo pos (starEach l X.env) = starEach l X.env := by rfl) (hz : l.length ≤ 100 := by exact Nat.le_of_ble_eq_true rfl) : ex PG w (KK w) X (.Tuple l k pos) m S P E := ex_tuple hb hz h
theorem lst {l : List Expr} {pos : Pos} (h : es PG w (KK w) X l m S (fun vs S' => vs.length ≤ 1000 ∧ P (.loc S'.length) (S' ++ [.list vs])) E) (hb : backTo pos (starEach l X.env) = starEach l X.env := by rfl) : ex PG w (KK w) X (.List l pos) m S P E := ex_list hb h
theorem ec {P : List V → MS → Prop} {e : Expr} {l : List Expr} (h : ex PG w (KK w) X e m S (fun v S' => es PG w (KK w) X l m S' (fun vs S2 => P (v :: vs) S2) E) E) (hs : starEach (e :: l) X.env = (false, eval e X.env) :: starEach l X.env := by rfl) : es PG w (KK w) X (e :: l) m S P E := es_cons hs h
end

/-- a constant's list of text -/
noncomputable def strV (x : String) : V := .str (Str.ofString x)
end Mine

namespace Mine

theorem argsS {vs : List Value} {n : Nat} (h : vs.length = n + 1) : ∃ v ws, vs = v :: ws ∧ ws.length = n := by
  cases vs with
  | nil => cases h
  | cons v ws => exact ⟨v, ws, rfl, Nat.succ.inj h⟩
theorem args1 {vs : List Value} {a : V} (h : vs.length = [a].length) : ∃ v, vs = [v] := by
  obtain ⟨v, ws, rfl, q⟩ := argsS h
  exact ⟨v, congrArg _ (List.eq_nil_of_length_eq_zero q)⟩
theorem args2 {vs : List Value} {a b : V} (h : vs.length = [a, b].length) : ∃ v u, vs = [v, u] := by
  obtain ⟨v, ws, rfl, q⟩ := argsS h
  obtain ⟨u, rfl⟩ := args1 (a := a) q
  exact ⟨v, u, rfl⟩
theorem args3 {vs : List Value} {a b c : V} (h : vs.length = [a, b, c].length) : ∃ v u t, vs = [v, u, t] := by
  obtain ⟨v, ws, rfl, q⟩ := argsS h
  obtain ⟨u, t, rfl⟩ := args2 (a := a) (b := a) q
  exact ⟨v, u, t, rfl⟩
theorem args4 {vs : List Value} {a b c d : V} (h : vs.length = [a, b, c, d].length) : ∃ v u t x, vs = [v, u, t, x] := by
  obtain ⟨v, ws, rfl, q⟩ := argsS h
  obtain ⟨u, t, x, rfl⟩ := args3 (a := a) (b := a) (c := a) q
  exact ⟨v, u, t, x, rfl⟩
theorem args5 {vs : List Value} {a b c d e : V} (h : vs.length = [a, b, c, d, e].length) : ∃ v u t x y, vs = [v, u, t, x, y] := by
  obtain ⟨v, ws, rfl, q⟩ := argsS h
  obtain ⟨u, t, x, y, rfl⟩ := args4 (a := a) (b := a) (c := a) (d := a) q
  exact ⟨v, u, t, x, y, rfl⟩

section
variable {w : World} {S : MS} {P : V → MS → Prop} {E : V → MS → Prop}

/-- terms.atom -/
theorem f_atomT {a : V} (h : P (.tup [strV "a", a]) S) : Fn PG w (KK w) 165 [a] S P E 1 := by
  refine fn_intro (ns := ["number"]) rfl rfl (fun vs hv => by obtain ⟨v, rfl⟩ := args1 hv; rfl) (by decide) (by decide) rfl rfl rfl (fun A₀ base outer g L k hk => ?_)
  refine ss_cons (sx_return (tup (ec (ex_str (ec (nm (es_nil ⟨Nat.le_of_ble_eq_true rfl, ?_⟩)))))))
  exact h

/-- fixity -/
noncomputable def fixV (x : Str) : V := if x ∈ [Str.ofString "fx", Str.ofString "fy"] then strV "prefix" else if x ∈ [Str.ofString "xfx", Str.ofString "xfy", Str.ofString "yfx"] then strV "infix" else if x ∈ [Str.ofString "xf", Str.ofString "yf"] then strV "postfix" else .none
theorem gtup {X : Cx} {m : Loc} {x : Str} {pos : Pos} {a : Addr} {ks : List Sc} {items : Array Value} {n : Nat} (h : P (tk ks) S) (hx : X.cs.names.lookup x = some .globalImplicit) (he : nsIn (KK w) mainGlobals x = some (some (.ref a))) (hd : (x == ("__debug__" : Str)) = false)
    (hl : (KK w).lookup a = some ⟨.type "tuple", none, .seq items n, #[]⟩) (hi : ∀ h r, RVs h r items.toList (ks.map Sc.v)) : ex PG w (KK w) X (.Name x pos) m S P E :=
  ex_glob hx he hd (fun h r i => .tup (i _ _ hl) rfl rfl (hi h r)) h
theorem f_fixity {x : Str} (h : P (fixV x) S) : Fn PG w (KK w) 231 [.str x] S P E 1 := by
  refine fn_intro (ns := ["type_text"]) rfl rfl (fun vs hv => by obtain ⟨v, rfl⟩ := args1 hv; rfl) (by decide) (by decide) rfl rfl rfl (fun A₀ base outer g L k hk => ?_)
  unfold fixV at h
  refine ss_cons (sx_if (cmp (nm (gtup (ks := [.str "fx", .str "fy"]) (in_tup (k := .str x) ⟨_, rfl, ?_⟩) rfl rfl rfl rfl (fun h r => .cons (.str _ _) (.cons (.str _ _) .nil))))))
  by_cases h1 : x ∈ [Str.ofString "fx", Str.ofString "fy"]
  · (first | refine iteP (by first | exact dcP h1 | exact ncP h1 | simpa using h1) ?_ | rw [if_pos (by first | exact dcP h1 | exact ncP h1 | simpa using h1)])
    rw [if_pos h1] at h
    exact ss_cons (sx_return (ex_str h))
  (first | refine iteN (by first | exact dcN h1 | exact ncN h1 | simpa using h1) ?_ | rw [if_neg (by first | exact dcN h1 | exact ncN h1 | simpa using h1)])
  rw [if_neg h1] at h
  refine ss_nil ?_
  refine ss_cons (sx_if (cmp (nm (gtup (ks := [.str "xfx", .str "xfy", .str "yfx"]) (in_tup (k := .str x) ⟨_, rfl, ?_⟩) rfl rfl rfl rfl (fun h r => .cons (.str _ _) (.cons (.str _ _) (.cons (.str _ _) .nil)))))))
  by_cases h2 : x ∈ [Str.ofString "xfx", Str.ofString "xfy", Str.ofString "yfx"]
  · (first | refine iteP (by first | exact dcP h2 | exact ncP h2 | simpa using h2) ?_ | rw [if_pos (by first | exact dcP h2 | exact ncP h2 | simpa using h2)])
    rw [if_pos h2] at h
    exact ss_cons (sx_return (ex_str h))
  (first | refine iteN (by first | exact dcN h2 | exact ncN h2 | simpa using h2) ?_ | rw [if_neg (by first | exact dcN h2 | exact ncN h2 | simpa using h2)])
  rw [if_neg h2] at h
  refine ss_nil ?_
  refine ss_cons (sx_if (cmp (nm (gtup (ks := [.str "xf", .str "yf"]) (in_tup (k := .str x) ⟨_, rfl, ?_⟩) rfl rfl rfl rfl (fun h r => .cons (.str _ _) (.cons (.str _ _) .nil))))))
  by_cases h3 : x ∈ [Str.ofString "xf", Str.ofString "yf"]
  · (first | refine iteP (by first | exact dcP h3 | exact ncP h3 | simpa using h3) ?_ | rw [if_pos (by first | exact dcP h3 | exact ncP h3 | simpa using h3)])
    rw [if_pos h3] at h
    exact ss_cons (sx_return (ex_str h))
  (first | refine iteN (by first | exact dcN h3 | exact ncN h3 | simpa using h3) ?_ | rw [if_neg (by first | exact dcN h3 | exact ncN h3 | simpa using h3)])
  rw [if_neg h3] at h
  refine ss_nil ?_
  exact ss_cons (sx_return (ex_none h))

/-! symbols -/
structure SL where
  n : Nat
  t : Nat
  a : Nat
  f : Nat
  g : Nat
noncomputable def pos {α : Type} [DecidableEq α] : List α → α → Option Nat
  | [], _ => none
  | y :: ys, x => if y = x then some 0 else (pos ys x).map (· + 1)
theorem pos_app {α : Type} [DecidableEq α] (ts : List α) (x y : α) : pos (ts ++ [x]) y = match pos ts y with | some i => some i | none => if x = y then some ts.length else none := by
  induction ts with
  | nil => simp [pos]
  | cons z zs ih =>
    simp only [List.cons_append, pos, ih]
    by_cases h : z = y
    · simp [h]
    · simp only [h, if_false]
      cases pos zs y with
      | some i => rfl
      | none =>
        by_cases hx : x = y <;> simp [hx]
theorem pos_lt {α : Type} [DecidableEq α] {ts : List α} {x : α} {i : Nat} (h : pos ts x = some i) : i < ts.length ∧ ts[i]? = some x := by
  induction ts generalizing i with
  | nil => cases h
  | cons z zs ih =>
    unfold pos at h
    split at h
    · cases h; rename_i q; exact ⟨Nat.zero_lt_succ _, by simp [q]⟩
    · cases q : pos zs x with
      | none => rw [q] at h; cases h
      | some j => rw [q] at h; cases h; exact ⟨Nat.succ_lt_succ (ih q).1, by simpa using (ih q).2⟩
noncomputable def intern {α : Type} [DecidableEq α] (ts : List α) (x : α) : List α := match pos ts x with | some _ => ts | none => ts ++ [x]
noncomputable def num {α : Type} [DecidableEq α] (ts : List α) (x : α) : Nat := (pos ts x).getD ts.length
theorem pos_intern {α : Type} [DecidableEq α] (ts : List α) (x : α) : pos (intern ts x) x = some (num ts x) := by
  unfold intern num
  cases h : pos ts x with
  | some i => simp [h]
  | none => simp [pos_app, h]
theorem pos_keep {α : Type} [DecidableEq α] {ts : List α} {x y : α} {i : Nat} (h : pos ts y = some i) : pos (intern ts x) y = some i := by
  unfold intern
  split
  · exact h
  · rw [pos_app, h]
theorem intern_len {α : Type} [DecidableEq α] (ts : List α) (x : α) : (intern ts x).length ≤ ts.length + 1 := by
  unfold intern
  split
  · omega
  · simp

noncomputable def Same (D : List Nat) (S S' : MS) : Prop := S.length ≤ S'.length ∧ ∀ l, l < S.length → l ∉ D → S'[l]? = S[l]?
theorem Same.refl (D : List Nat) (S : MS) : Same D S S := ⟨Nat.le_refl _, fun _ _ _ => rfl⟩
theorem Same.trans {D : List Nat} {S S' S'' : MS} (x : Same D S S') (y : Same D S' S'') : Same D S S'' := ⟨Nat.le_trans x.1 y.1, fun l hl hd => (y.2 l (Nat.lt_of_lt_of_le hl x.1) hd).trans (x.2 l hl hd)⟩
theorem Same.mono {D D' : List Nat} {S S' : MS} (x : Same D S S') (h : ∀ l ∈ D, l ∈ D') : Same D' S S' := ⟨x.1, fun l hl hd => x.2 l hl fun q => hd (h l q)⟩
theorem Same.get {D : List Nat} {S S' : MS} {l : Nat} {mo : MO} (x : Same D S S') (h : S[l]? = some mo) (hd : l ∉ D) : S'[l]? = some mo := (x.2 l (List.getElem?_eq_some_iff.mp h).1 hd).trans h
theorem Same.set {D : List Nat} {S : MS} {l : Nat} {mo : MO} (h : l ∈ D) : Same D S (S.set l mo) := ⟨by simp, fun j _ hj => List.getElem?_set_ne (fun (q : l = j) => hj (q ▸ h))⟩
theorem Same.app (D : List Nat) (S G : MS) : Same D S (S ++ G) := ⟨by simp, fun l hl _ => List.getElem?_append_left hl⟩

noncomputable def symF (L : SL) : List (Str × V) := [("functor_numbers", .loc L.g), ("functors", .loc L.f), ("atom_numbers", .loc L.a), ("texts", .loc L.t)]
noncomputable def fkey (p : Int × Int) : V := .tup [.int p.1, .int p.2]
structure Sym (S : MS) (L : SL) (ts : List Str) (fs : List (Int × Int)) : Prop where
  n : S[L.n]? = some (.inst 154 (symF L))
  t : S[L.t]? = some (.list (ts.map V.str))
  a : ∃ nums, S[L.a]? = some (.sdict nums) ∧ nums.length ≤ ts.length ∧ ∀ x, aGet nums (.str x) = (pos ts x).map fun i => V.int (i : Nat)
  f : S[L.f]? = some (.list (fs.map fkey))
  g : ∃ nums, S[L.g]? = some (.tdict nums) ∧ nums.length ≤ fs.length ∧ ∀ p : Int × Int, aGet nums [.int p.1, .int p.2] = (pos fs p).map fun i => V.int (i : Nat)
  tf : L.t ≠ L.f
noncomputable def SL.D (L : SL) : List Nat := [L.t, L.a, L.f, L.g]

theorem aGet_set {κ α : Type} [DecidableEq κ] (es : List (κ × α)) (k k' : κ) (v : α) : aGet (aSet es k v) k' = if k' = k then some v else aGet es k' := by
  unfold aGet aSet
  split
  · rename_i h
    induction es with
    | nil => simp at h
    | cons e es ih =>
      rw [List.map_cons, List.find?_cons, List.find?_cons]
      by_cases q : e.1 = k
      · simp only [q, if_true]
        by_cases q' : k' = k
        · simp [q']
        · simp only [q', if_false]
          have q2 : ¬ k = k' := fun z => q' z.symm
          simp only [q2, decide_false]
          clear h
          clear ih
          induction es with
          | nil => rfl
          | cons e' es ih' =>
            rw [List.map_cons, List.find?_cons, List.find?_cons]
            by_cases r : e'.1 = k
            · simp only [r, if_true, q2, decide_false]; exact ih'
            · simp only [r, if_false]
              by_cases r' : e'.1 = k'
              · simp [r']
              · simp only [r', decide_false]; exact ih'
      · simp only [q, if_false]
        by_cases q' : e.1 = k'
        · have q2 : ¬ k' = k := fun z => q (q'.trans z)
          simp [q', q2]
        · simp only [q', decide_false]
          refine ih ?_
          simpa [q] using h
  · rename_i h
    rw [List.find?_append]
    have hn : es.find? (fun e => decide (e.1 = k)) = none := by
      rw [List.find?_eq_none]
      intro e he hc
      exact h (List.any_eq_true.mpr ⟨e, he, hc⟩)
    by_cases q : k' = k
    · subst q
      simp [hn]
    · have q2 : ¬ k = k' := fun z => q z.symm
      simp [q, q2]
theorem aSet_len {κ α : Type} [DecidableEq κ] (es : List (κ × α)) (k : κ) (v : α) : (aSet es k v).length ≤ es.length + 1 := by
  unfold aSet
  split
  · simp
  · simp

/-- Symbols.atom -/
theorem f_atom {L : SL} {ts : List Str} {fs : List (Int × Int)} {x : Str} (hS : Sym S L ts fs) (hz : ts.length ≤ 10000)
    (h : ∀ S', Sym S' L (intern ts x) fs → Same L.D S S' → P (.int (num ts x : Nat)) S') : Fn PG w (KK w) 88 [.loc L.n, .str x] S P E 1 := by
  refine fn_intro (ns := ["self", "text"]) rfl rfl (fun vs hv => by obtain ⟨v, u, rfl⟩ := args2 hv; rfl) (by decide) (by decide) rfl rfl rfl (fun A₀ base outer g L' k hk => ?_)
  obtain ⟨nums, ha, hal, hag⟩ := hS.a
  refine ss_cons (asg (bm F.plainAttrs_dict F.slot_dict_get F.type_dict_get (at' (C := 154) (nm ⟨L.n, _, _, rfl, hS.n, rfl, Of.sdict ha, ec (nm (ec (ex_neg (es_nil (opL_getS (k := .str x) ha ?_)))))⟩))))
  rw [hag]
  cases hp : pos ts x with
  | some i =>
    have hi : intern ts x = ts := by unfold intern; rw [hp]
    have hn : num ts x = i := by unfold num; rw [hp]; rfl
    rw [hi, hn] at h
    refine ss_cons (sx_if (cmp (nm (ex_int (op_ge ⟨_, rfl, ?_⟩)))))
    rw [if_pos (by simp)]
    exact ss_cons (sx_return (nm (h S hS (.refl _ _))))
  | none =>
    have hi : intern ts x = ts ++ [x] := by unfold intern; rw [hp]
    have hn : num ts x = ts.length := by unfold num; rw [hp]; rfl
    rw [hi, hn] at h
    refine ss_cons (sx_if (cmp (nm (ex_int (op_ge ⟨_, rfl, ?_⟩)))))
    (first | refine iteN (by decide) ?_ | rw [if_neg (by decide)])
    refine ss_nil (ss_cons (asg (bi (ec (at' (C := 154) (nm ⟨L.n, _, _, rfl, hS.n, rfl, es_nil (opL_len hS.t (by rw [List.length_map]; omega) ?_)⟩))))))
    refine ss_cons (exs (bm F.plainAttrs_list F.slot_list_append F.type_list_append (at' (C := 154) (nm ⟨L.n, _, _, rfl, hS.n, rfl, Of.list hS.t, ec (nm (es_nil (opL_append hS.t (by rw [List.length_map]; omega) ?_)))⟩))))
    have at_ : L.a ≠ L.t := fun q => by have h1 := hS.t; rw [← q, ha] at h1; cases h1
    have at_n : L.t ≠ L.n := fun q => by have h1 := hS.t; rw [q, hS.n] at h1; cases h1
    have an : L.a ≠ L.n := fun q => by have h1 := hS.n; rw [← q, ha] at h1; cases h1
    have ft : L.f ≠ L.a := fun q => by have h1 := hS.f; rw [q, ha] at h1; cases h1
    obtain ⟨fns, hg, hgl, hgg⟩ := hS.g
    have gt : L.g ≠ L.t := fun q => by have h1 := hS.t; rw [← q, hg] at h1; cases h1
    have ga : L.g ≠ L.a := fun q => by rw [q, ha] at hg; cases hg
    have n1 : (S.set L.t (.list (ts.map V.str ++ [.str x])))[L.n]? = some (.inst 154 (symF L)) := (List.getElem?_set_ne at_n).trans hS.n
    have a1 : (S.set L.t (.list (ts.map V.str ++ [.str x])))[L.a]? = some (.sdict nums) := (List.getElem?_set_ne at_.symm).trans ha
    refine ss_cons (sx_setS rfl (nm (at' (C := 154) (nm ⟨L.n, _, _, rfl, n1, rfl, nm ⟨L.a, nums, .str x, rfl, rfl, a1, by omega, ?_⟩⟩))))
    rw [List.length_map]
    refine ss_cons (sx_return (nm (h _ ⟨?_, ?_, ⟨aSet nums (.str x) (.int ts.length), ?_, ?_, fun y => ?_⟩, ?_, ⟨fns, ?_, hgl, hgg⟩, hS.tf⟩ ((Same.set (by simp [SL.D])).trans (Same.set (by simp [SL.D]))))))
    · exact (List.getElem?_set_ne an).trans n1
    · refine (List.getElem?_set_ne at_).trans ?_
      rw [List.getElem?_set_self (List.getElem?_eq_some_iff.mp hS.t).1, List.map_append]; rfl
    · exact List.getElem?_set_self (List.getElem?_eq_some_iff.mp a1).1
    · have := aSet_len nums (.str x) (.int ts.length)
      rw [List.length_append, List.length_singleton]; omega
    · rw [aGet_set, pos_app, hag]
      by_cases q : y = x
      · subst q; simp [hp]
      · have q2 : ¬ Sc.str y = Sc.str x := fun z => q (by injection z)
        rw [if_neg q2]
        cases pos ts y with
        | some i => rfl
        | none => simp [Ne.symm q]
    · exact (List.getElem?_set_ne ft.symm).trans ((List.getElem?_set_ne hS.tf).trans hS.f)
    · exact (List.getElem?_set_ne ga.symm).trans ((List.getElem?_set_ne gt.symm).trans hg)
end
end Mine

namespace Mine

section
variable {w : World} {S : MS} {P : V → MS → Prop} {E : V → MS → Prop}

theorem Fn.le {f : Addr} {as : List V} {n n' : Nat} (h : Fn PG w (KK w) f as S P E n) (hn : n ≤ n') : Fn PG w (KK w) f as S P E n' := h.mono hn (fun _ _ z => z) fun _ _ z => z

/-- Symbols.text -/
theorem f_text {L : SL} {ts : List Str} {fs : List (Int × Int)} {i : Nat} {x : Str} (hS : Sym S L ts fs) (hi : ts[i]? = some x) (hz : ts.length ≤ 10000) (h : P (.str x) S) : Fn PG w (KK w) 95 [.loc L.n, .int i] S P E 1 := by
  refine fn_intro (ns := ["self", "number"]) rfl rfl (fun vs hv => by obtain ⟨v, u, rfl⟩ := args2 hv; rfl) (by decide) (by decide) rfl rfl rfl (fun A₀ base outer g L' k hk => ?_)
  have hlt := (List.getElem?_eq_some_iff.mp hi).1
  refine ss_cons (sx_return (ex_sub (at' (C := 154) (nm ⟨L.n, _, _, rfl, hS.n, rfl, nm (sub_list (k := (i : Int)) hS.t (by omega) (by omega) (x := .str x) (by rw [List.getElem?_map, Int.toNat_natCast, hi]; rfl) (fun _ _ => by with_unfolding_all rfl) h)⟩))))

/-- Symbols.functor -/
theorem f_functor {L : SL} {ts : List Str} {fs : List (Int × Int)} {a k : Int} (hS : Sym S L ts fs) (hz : fs.length ≤ 10000)
    (h : ∀ S', Sym S' L ts (intern fs (a, k)) → Same L.D S S' → P (.int (num fs (a, k) : Nat)) S') : Fn PG w (KK w) 102 [.loc L.n, .int a, .int k] S P E 1 := by
  refine fn_intro (ns := ["self", "atom", "arity"]) rfl rfl (fun vs hv => by obtain ⟨v, u, t, rfl⟩ := args3 hv; rfl) (by decide) (by decide) rfl rfl rfl (fun A₀ base outer g L' k' hk => ?_)
  obtain ⟨nums, ha, hal, hag⟩ := hS.g
  refine ss_cons (asg (tup (ec (nm (ec (nm (es_nil ⟨Nat.le_of_ble_eq_true rfl, ?_⟩)))))))
  refine ss_cons (asg (bm F.plainAttrs_dict F.slot_dict_get F.type_dict_get (at' (C := 154) (nm ⟨L.n, _, _, rfl, hS.n, rfl, Of.tdict ha, ec (nm (ec (ex_neg (es_nil (opL_getT (k := [.int a, .int k]) ha ?_)))))⟩))))
  rw [hag (a, k)]
  cases hp : pos fs (a, k) with
  | some i =>
    have hi : intern fs (a, k) = fs := by unfold intern; rw [hp]
    have hn : num fs (a, k) = i := by unfold num; rw [hp]; rfl
    rw [hi, hn] at h
    refine ss_cons (sx_if (cmp (nm (ex_int (op_ge ⟨_, rfl, ?_⟩)))))
    rw [if_pos (by simp)]
    exact ss_cons (sx_return (nm (h S hS (.refl _ _))))
  | none =>
    have hi : intern fs (a, k) = fs ++ [(a, k)] := by unfold intern; rw [hp]
    have hn : num fs (a, k) = fs.length := by unfold num; rw [hp]; rfl
    rw [hi, hn] at h
    refine ss_cons (sx_if (cmp (nm (ex_int (op_ge ⟨_, rfl, ?_⟩)))))
    (first | refine iteN (by decide) ?_ | rw [if_neg (by decide)])
    refine ss_nil (ss_cons (asg (bi (ec (at' (C := 154) (nm ⟨L.n, _, _, rfl, hS.n, rfl, es_nil (opL_len hS.f (by rw [List.length_map]; omega) ?_)⟩))))))
    refine ss_cons (exs (bm F.plainAttrs_list F.slot_list_append F.type_list_append (at' (C := 154) (nm ⟨L.n, _, _, rfl, hS.n, rfl, Of.list hS.f, ec (nm (es_nil (opL_append hS.f (by rw [List.length_map]; omega) ?_)))⟩))))
    have at_ : L.g ≠ L.f := fun q => by have h1 := hS.f; rw [← q, ha] at h1; cases h1
    have at_n : L.f ≠ L.n := fun q => by have h1 := hS.f; rw [q, hS.n] at h1; cases h1
    have an : L.g ≠ L.n := fun q => by have h1 := hS.n; rw [← q, ha] at h1; cases h1
    have ft : L.t ≠ L.g := fun q => by have h1 := hS.t; rw [q, ha] at h1; cases h1
    obtain ⟨fns, hg, hgl, hgg⟩ := hS.a
    have gt : L.a ≠ L.f := fun q => by have h1 := hS.f; rw [← q, hg] at h1; cases h1
    have ga : L.a ≠ L.g := fun q => by rw [q, ha] at hg; cases hg
    have n1 : (S.set L.f (.list (fs.map fkey ++ [fkey (a, k)])))[L.n]? = some (.inst 154 (symF L)) := (List.getElem?_set_ne at_n).trans hS.n
    have a1 : (S.set L.f (.list (fs.map fkey ++ [fkey (a, k)])))[L.g]? = some (.tdict nums) := (List.getElem?_set_ne at_.symm).trans ha
    refine ss_cons (sx_setT rfl (nm (at' (C := 154) (nm ⟨L.n, _, _, rfl, n1, rfl, nm ⟨L.g, nums, [.int a, .int k], rfl, rfl, a1, by omega, ?_⟩⟩))))
    rw [List.length_map]
    refine ss_cons (sx_return (nm (h _ ⟨?_, ?_, ⟨fns, ?_, hgl, hgg⟩, ?_, ⟨aSet nums [.int a, .int k] (.int fs.length), ?_, ?_, fun y => ?_⟩, hS.tf⟩ ((Same.set (by simp [SL.D])).trans (Same.set (by simp [SL.D]))))))
    · exact (List.getElem?_set_ne an).trans n1
    · exact (List.getElem?_set_ne ft.symm).trans ((List.getElem?_set_ne hS.tf.symm).trans hS.t)
    · exact (List.getElem?_set_ne ga.symm).trans ((List.getElem?_set_ne gt.symm).trans hg)
    · refine (List.getElem?_set_ne at_).trans ?_
      rw [List.getElem?_set_self (List.getElem?_eq_some_iff.mp hS.f).1, List.map_append]; rfl
    · exact List.getElem?_set_self (List.getElem?_eq_some_iff.mp a1).1
    · have := aSet_len nums [.int a, .int k] (.int fs.length)
      rw [List.length_append, List.length_singleton]; omega
    · rw [aGet_set, pos_app, hag]
      by_cases q : y = (a, k)
      · subst q; simp [hp]
      · have q2 : ¬ [Sc.int y.1, Sc.int y.2] = [Sc.int a, Sc.int k] := fun z => q (by
          injection z with z1 z2; injection z2 with z3; injection z1 with z1; injection z3 with z3
          exact Prod.ext z1 z3)
        rw [if_neg q2]
        cases pos fs y with
        | some i => rfl
        | none => simp [Ne.symm q]

/-- Symbols.func -/
theorem f_func {L : SL} {ts : List Str} {fs : List (Int × Int)} {x : Str} {k : Int} (hS : Sym S L ts fs) (hz : ts.length ≤ 10000) (hz2 : fs.length ≤ 10000)
    (h : ∀ S', Sym S' L (intern ts x) (intern fs ((num ts x : Nat), k)) → Same L.D S S' → P (.int (num fs ((num ts x : Nat), k) : Nat)) S') : Fn PG w (KK w) 109 [.loc L.n, .str x, .int k] S P E 2 := by
  refine fn_intro (ns := ["self", "text", "arity"]) rfl rfl (fun vs hv => by obtain ⟨v, u, t, rfl⟩ := args3 hv; rfl) (by decide) (by decide) rfl rfl rfl (fun A₀ base outer g L' k' hk => ?_)
  refine ss_cons (sx_return (me (C := 154) (f := 102) (nm ⟨L.n, _, rfl, hS.n, rfl, ec (me (C := 154) (f := 88) (nm ⟨L.n, _, rfl, hS.n, rfl, ec (nm (es_nil (Fn.le (f_atom hS hz fun S1 h1 s1 => ec (nm (es_nil (Fn.le (f_functor h1 hz2 fun S2 h2 s2 => h S2 h2 (s1.trans s2)) hk)))) hk)))⟩))⟩)))
theorem updOf {m : Loc} {x y : Str} {v : V} (h : y ≠ x) : upd m x v y = m y := by unfold upd; rw [if_neg h]
theorem updSelf {m : Loc} {x : Str} {v : V} : upd m x v x = some v := by unfold upd; (first | refine iteP rfl ?_ | rw [if_pos rfl])

/-- terms.formal_of -/
noncomputable def pstep (st : List Str × List V) (p : V) : List Str × List V := match p with
  | .str x => (intern st.1 x, st.2 ++ [.tup [strV "a", .int (num st.1 x : Nat)]])
  | v => (st.1, st.2 ++ [v])
theorem Sym.same {S S' : MS} {L : SL} {ts : List Str} {fs : List (Int × Int)} {D : List Nat} (h : Sym S L ts fs) (s : Same D S S') (hd : ∀ l ∈ [L.n, L.t, L.a, L.f, L.g], l ∉ D) : Sym S' L ts fs := by
  obtain ⟨nums, ha, h1, h2⟩ := h.a
  obtain ⟨fns, hg, h3, h4⟩ := h.g
  exact ⟨s.get h.n (hd _ (by simp)), s.get h.t (hd _ (by simp)), ⟨nums, s.get ha (hd _ (by simp)), h1, h2⟩, s.get h.f (hd _ (by simp)), ⟨fns, s.get hg (hd _ (by simp)), h3, h4⟩, h.tf⟩
theorem Sym.D {S : MS} {L : SL} {ts : List Str} {fs : List (Int × Int)} (h : Sym S L ts fs) : ∀ l ∈ L.D, l < S.length := fun l hl => by
  obtain ⟨nums, ha, h1, h2⟩ := h.a
  obtain ⟨fns, hg, h3, h4⟩ := h.g
  simp only [SL.D, List.mem_cons, List.not_mem_nil, or_false] at hl
  rcases hl with rfl | rfl | rfl | rfl
  · exact (List.getElem?_eq_some_iff.mp h.t).1
  · exact (List.getElem?_eq_some_iff.mp ha).1
  · exact (List.getElem?_eq_some_iff.mp h.f).1
  · exact (List.getElem?_eq_some_iff.mp hg).1
theorem Sym.lt {S : MS} {L : SL} {ts : List Str} {fs : List (Int × Int)} (h : Sym S L ts fs) : ∀ l ∈ [L.n, L.t, L.a, L.f, L.g], l < S.length := fun l hl => by
  rcases List.mem_cons.mp hl with rfl | hl
  · exact (List.getElem?_eq_some_iff.mp h.n).1
  · exact h.D l hl
theorem get_app_self {S : MS} {mo : MO} : (S ++ [mo])[S.length]? = some mo := by rw [List.getElem?_append_right (Nat.le_refl _), Nat.sub_self]; rfl

theorem f_formal {L : SL} {ts : List Str} {fs : List (Int × Int)} {nme : Str} {parts : List V} (hS : Sym S L ts fs) (hz : ts.length + parts.length ≤ 9000) (hz2 : fs.length ≤ 9000) (hp : ∀ p ∈ parts, (∃ x, p = .str x) ∨ ∃ c, p = .tup c)
    (h : ∀ S' ts' out, parts.foldl pstep (ts, []) = (ts', out) → Sym S' L (intern ts' nme) (intern fs ((num ts' nme : Nat), (out.length : Int))) → Same L.D S S' →
      P (.tup [strV "s", .int (num fs ((num ts' nme : Nat), (out.length : Int)) : Nat), .tup out]) S') :
    Fn PG w (KK w) 186 [.loc L.n, .str nme, .tup parts] S P E 3 := by
  refine fn_intro (ns := ["symbols", "name", "parts"]) rfl rfl (fun vs hv => by obtain ⟨v, u, t, rfl⟩ := args3 hv; rfl) (by decide) (by decide) rfl rfl rfl (fun A₀ base outer g L' k' hk => ?_)
  refine ss_cons (asg (lst (es_nil ⟨Nat.le_of_ble_eq_true rfl, ?_⟩)))
  refine ss_cons (sx_for (fun _ => rfl) (itr_tup (nm ⟨parts, rfl, (fun q => by cases q), fun rest m' S' => ∃ ts' out, rest.foldl pstep (ts', out) = parts.foldl pstep (ts, []) ∧ Sym S' L ts' fs ∧ Same L.D S S' ∧ S'[S.length]? = some (.list out) ∧
    (m' "symbols" = some (.loc L.n) ∧ m' "name" = some (.str nme) ∧ m' "args" = some (.loc S.length)) ∧ ts'.length + rest.length ≤ 9000 ∧ out.length + rest.length ≤ 9000 ∧ ∀ p ∈ rest, (∃ x, p = .str x) ∨ ∃ c, p = .tup c, ?_, ?_, ?_, ?_⟩)))
  · exact ⟨ts, [], rfl, hS.same (.app [] _ _) (fun _ _ => List.not_mem_nil), .app _ _ _, get_app_self, ⟨rfl, rfl, rfl⟩, hz, by simp; omega, hp⟩
  · intro rest m S h l mo q; cases q
  · rintro p rest m1 S1 ⟨ts', out, hf, h1, s1, hl, ⟨e1, e2, e3⟩, z1, z2, hpp⟩
    have hla : S.length ∉ L.D := fun q => absurd (hS.D _ q) (Nat.lt_irrefl _)
    simp only [List.length_cons] at z1 z2
    refine tg_name rfl rfl rfl ?_
    refine ss_cons (exs (bm F.plainAttrs_list F.slot_list_append F.type_list_append ?_))
    refine ex_local rfl ((updOf (by decide)).trans e3) rfl rfl ⟨Of.list hl, ?_⟩
    refine ec (ex_if (te_val (fun _ _ => rfl) (bi ?_)))
    refine ec (ex_local rfl updSelf rfl rfl (ec (typ (es_nil ?_))))
    rcases hpp p (.head _) with ⟨x, rfl⟩ | ⟨c, rfl⟩
    · refine opL_isStr ⟨true, rfl, ?_⟩
      (first | refine iteP rfl ?_ | rw [if_pos rfl])
      refine tup (ec (ex_str (ec ?_)))
      refine me (C := 154) (f := 88) ?_
      refine ex_local rfl ((updOf (by decide)).trans e1) rfl rfl ⟨L.n, _, rfl, h1.n, rfl, ?_⟩
      refine ec (ex_local rfl updSelf rfl rfl (es_nil ?_))
      refine Fn.le (f_atom h1 (by omega) fun S2 h2 s2 => ?_) (Nat.le_trans (by decide) hk)
      refine es_nil ⟨Nat.le_of_ble_eq_true rfl, es_nil ?_⟩
      have hl2 := s2.get hl hla
      refine opL_append hl2 (by omega) ?_
      have hS2 : S.length < S2.length := (List.getElem?_eq_some_iff.mp hl2).1
      have s3 := s1.trans s2
      refine ss_nil ⟨intern ts' x, out ++ [V.tup [strV "a", V.int ((num ts' x : Nat) : Int)]], (show List.foldl pstep (pstep (ts', out) (.str x)) rest = _ from hf), h2.same (.set (D := [S.length]) (by simp)) ?_, ⟨by simpa using s3.1, fun l q1 q2 => ?_⟩, List.getElem?_set_self hS2, ⟨(updOf (by decide)).trans e1, (updOf (by decide)).trans e2, (updOf (by decide)).trans e3⟩, ?_, ?_, fun q hq => hpp q (.tail _ hq)⟩
      · exact fun l q1 q2 => absurd (hS.lt l q1) (by rw [List.mem_singleton.mp q2]; exact Nat.lt_irrefl _)
      · rw [List.getElem?_set_ne (Ne.symm (Nat.ne_of_lt q1))]; exact s3.2 l q1 q2
      · have := intern_len ts' x; omega
      · simp; omega
    · refine opL_notStr ⟨false, rfl, ?_⟩
      (first | refine iteN (by decide) ?_ | rw [if_neg (by decide)])
      refine ex_local rfl updSelf rfl rfl (es_nil ?_)
      refine opL_append hl (by omega) ?_
      have hS2 : S.length < S1.length := (List.getElem?_eq_some_iff.mp hl).1
      refine ss_nil ⟨ts', out ++ [V.tup c], (show List.foldl pstep (pstep (ts', out) (.tup c)) rest = _ from hf), h1.same (.set (D := [S.length]) (by simp)) ?_, ⟨by simpa using s1.1, fun l q1 q2 => ?_⟩, List.getElem?_set_self hS2, ⟨(updOf (by decide)).trans e1, (updOf (by decide)).trans e2, (updOf (by decide)).trans e3⟩, ?_, ?_, fun q hq => hpp q (.tail _ hq)⟩
      · exact fun l q1 q2 => absurd (hS.lt l q1) (by rw [List.mem_singleton.mp q2]; exact Nat.lt_irrefl _)
      · rw [List.getElem?_set_ne (Ne.symm (Nat.ne_of_lt q1))]; exact s1.2 l q1 q2
      · omega
      · simp; omega
  · rintro m1 S1 ⟨ts', out, hf, h1, s1, hl, ⟨e1, e2, e3⟩, z1, z2, hpp⟩
    have hla : S.length ∉ L.D := fun q => absurd (hS.D _ q) (Nat.lt_irrefl _)
    simp only [List.length_nil, Nat.add_zero] at z1 z2
    refine ss_cons (sx_return (tup (ec (ex_str (ec ?_)))))
    refine me (C := 154) (f := 109) ?_
    refine ex_local rfl e1 rfl rfl ⟨L.n, _, rfl, h1.n, rfl, ?_⟩
    refine ec (ex_local rfl e2 rfl rfl (ec (bi (ec (ex_local rfl e3 rfl rfl (es_nil (opL_len hl (by omega) (es_nil ?_))))))))
    refine Fn.le (f_func h1 (by omega) (by omega) fun S2 h2 s2 => ?_) (Nat.le_trans (by decide) hk)
    refine ec (bi (ec (ex_local rfl e3 rfl rfl (es_nil (opL_tuple (s2.get hl hla) (by omega) (es_nil ⟨Nat.le_of_ble_eq_true rfl, ?_⟩))))))
    exact h S2 ts' out hf.symm h2 (s1.trans s2)
end
end Mine

namespace Mine

section
variable {w : World} {S : MS} {P : V → MS → Prop} {E : V → MS → Prop}

theorem FnX.le {f : Addr} {as : List V} {n n' : Nat} (h : FnX w f as S P E n) (hn : n ≤ n') : FnX w f as S P E n' := fun X m hx => h X m (Nat.le_trans hn hx)

noncomputable def sysV (a : V) : V := .tup [strV "s", .int 16, .tup [a, .tup [strV "a", .int 25]]]
/-- terms.system_error -/
theorem f_system {a : V} (h : P (sysV a) S) : FnX w 179 [a] S P E 2 := by
  refine fnX_intro (ns := ["formal"]) rfl rfl (fun vs hv => by obtain ⟨v, rfl⟩ := args1 hv; rfl) (by decide) (by decide) rfl rfl rfl (fun A₀ base outer g L k hk => ?_)
  refine exX_new rfl rfl rfl (by repeat' (first | exact Plain.nil | refine Plain.cons rfl ?_)) ?_
  refine ec (tup (ec (ex_str (ec (gint (ec (tup (ec (nm (ec (tup (ec (ex_str (ec (gint (es_nil ?_))))))))))))))))
  exact ⟨Nat.le_of_ble_eq_true rfl, es_nil ⟨Nat.le_of_ble_eq_true rfl, es_nil ⟨Nat.le_of_ble_eq_true rfl, es_nil ⟨_, rfl, h⟩⟩⟩⟩

/-- terms.permission_error -/
theorem f_perm {L : SL} {ts : List Str} {fs : List (Int × Int)} {a b : Str} {c : List V} (hS : Sym S L ts fs) (hz : ts.length ≤ 8000) (hz2 : fs.length ≤ 9000)
    (h : ∀ S' ts' out, [V.str a, .str b, .tup c].foldl pstep (ts, []) = (ts', out) → Sym S' L (intern ts' "permission_error") (intern fs ((num ts' "permission_error" : Nat), (out.length : Int))) → Same L.D S S' →
      P (sysV (.tup [strV "s", .int (num fs ((num ts' "permission_error" : Nat), (out.length : Int)) : Nat), .tup out])) S') : FnX w 214 [.loc L.n, .str a, .str b, .tup c] S P E 4 := by
  refine fnX_intro (ns := ["symbols", "action", "kind", "culprit"]) rfl rfl (fun vs hv => by obtain ⟨v, u, t, x, rfl⟩ := args4 hv; rfl) (by decide) (by decide) rfl rfl rfl (fun A₀ base outer g L' k hk => ?_)
  refine exX_call (f := 179) rfl rfl rfl rfl (by repeat' (first | exact Plain.nil | refine Plain.cons rfl ?_)) ?_
  refine ec (cl (f := 186) ?_)
  refine ec (nm (ec (ex_str (ec (tup (ec (nm (ec (nm (ec (nm (es_nil ⟨Nat.le_of_ble_eq_true rfl, es_nil ?_⟩))))))))))))
  refine Fn.le (f_formal hS (by simp; omega) hz2 (fun p hp => ?_) fun S' ts' out h1 h2 h3 => ?_) (Nat.le_trans (by decide) hk)
  · simp only [List.mem_cons, List.not_mem_nil, or_false] at hp
    rcases hp with rfl | rfl | rfl
    · exact .inl ⟨_, rfl⟩
    · exact .inl ⟨_, rfl⟩
    · exact .inr ⟨_, rfl⟩
  · exact es_nil (FnX.le (f_system (h S' ts' out h1 h2 h3)) (Nat.le_trans (by decide) hk))

/-! what the errors leave in the symbols -/
noncomputable def tsE (ts : List Str) (act : Str) : List Str := intern (intern (intern ts act) "operator") "permission_error"
noncomputable def fsE (ts : List Str) (fs : List (Int × Int)) (act : Str) : List (Int × Int) := intern fs ((num (intern (intern ts act) "operator") "permission_error" : Nat), 3)
noncomputable def ballE (ts : List Str) (fs : List (Int × Int)) (act : Str) (a : Int) : V :=
  sysV (.tup [strV "s", .int (num fs ((num (intern (intern ts act) "operator") "permission_error" : Nat), 3) : Nat), .tup [.tup [strV "a", .int (num ts act : Nat)], .tup [strV "a", .int (num (intern ts act) "operator" : Nat)], .tup [strV "a", .int a]]])
theorem f_permE {L : SL} {ts : List Str} {fs : List (Int × Int)} {act : Str} {a : Int} (hS : Sym S L ts fs) (hz : ts.length ≤ 8000) (hz2 : fs.length ≤ 9000)
    (h : ∀ S', Sym S' L (tsE ts act) (fsE ts fs act) → Same L.D S S' → P (ballE ts fs act a) S') : FnX w 214 [.loc L.n, .str act, .str "operator", .tup [strV "a", .int a]] S P E 4 := by
  refine f_perm hS hz hz2 fun S' ts' out h1 h2 h3 => ?_
  simp only [List.foldl, pstep, List.nil_append, List.cons_append, Prod.mk.injEq] at h1
  obtain ⟨rfl, rfl⟩ := h1
  exact h S' h2 h3

theorem ite_str {X : Cx} {m : Loc} {c : Bool} {x y : Str} {k1 k2 : Nat} {p1 p2 : Pos} (h : P (.str (if c = true then x else y)) S) : if c = true then ex PG w (KK w) X (.Constant (.str x) k1 p1) m S P E else ex PG w (KK w) X (.Constant (.str y) k2 p2) m S P E := by
  cases c
  · exact ex_str h
  · exact ex_str h
noncomputable def actOf (a : Int) : Str := if decide (a = 7) = true then "modify" else "create"
/-- law's own refusal -/
theorem f_refusal {L : SL} {ts : List Str} {fs : List (Int × Int)} {a : Int} (hS : Sym S L ts fs) (hz : ts.length ≤ 8000) (hz2 : fs.length ≤ 9000)
    (h : ∀ S', Sym S' L (tsE ts (actOf a)) (fsE ts fs (actOf a)) → Same L.D S S' → P (ballE ts fs (actOf a) a) S') : Fn PG w (KK w) 405 [.loc L.n, .int a] S P E 3 := by
  refine fn_intro (ns := ["names", "a"]) rfl rfl (fun vs hv => by obtain ⟨v, u, rfl⟩ := args2 hv; rfl) (by decide) (by decide) rfl rfl rfl (fun A₀ base outer g L' k hk => ?_)
  refine ss_cons (asg (ex_if (cmp (nm (gint (op_eqI ⟨_, rfl, ?_⟩))))))
  refine ite_str ?_
  rw [show (if decide (a = 7) = true then Str.ofString "modify" else Str.ofString "create") = actOf a from rfl]
  generalize actOf a = act at h ⊢
  have hz3 := intern_len ts act
  have hz4 := intern_len (intern ts act) "operator"
  refine ss_cons (asg (tup (ec (tup (ec (ex_str (ec ?_)))))))
  refine me (C := 154) (f := 88) (nm ⟨L.n, _, rfl, hS.n, rfl, ec (nm (es_nil ?_))⟩)
  refine Fn.le (f_atom hS (by omega) fun S1 h1 s1 => es_nil ⟨Nat.le_of_ble_eq_true rfl, ?_⟩) (Nat.le_trans (by decide) hk)
  refine ec (tup (ec (ex_str (ec ?_))))
  refine me (C := 154) (f := 88) (nm ⟨L.n, _, rfl, h1.n, rfl, ec (ex_str (es_nil ?_))⟩)
  refine Fn.le (f_atom h1 (by omega) fun S2 h2 s2 => es_nil ⟨Nat.le_of_ble_eq_true rfl, ?_⟩) (Nat.le_trans (by decide) hk)
  refine ec (tup (ec (ex_str (ec (nm (es_nil ⟨Nat.le_of_ble_eq_true rfl, es_nil ⟨Nat.le_of_ble_eq_true rfl, ?_⟩⟩))))))
  refine ss_cons (sx_return (tup (ec (ex_str (ec (gint (ec ?_)))))))
  refine tup (ec (tup (ec (ex_str (ec ?_)))))
  refine me (C := 154) (f := 109) (nm ⟨L.n, _, rfl, h2.n, rfl, ec (ex_str (ec (ex_int (es_nil ?_))))⟩)
  refine Fn.le (f_func h2 (by omega) (by omega) fun S3 h3 s3 => ?_) (Nat.le_trans (by decide) hk)
  refine ec (nm (es_nil ⟨Nat.le_of_ble_eq_true rfl, ?_⟩))
  refine ec (tup (ec (ex_str (ec (gint (es_nil ⟨Nat.le_of_ble_eq_true rfl, es_nil ⟨Nat.le_of_ble_eq_true rfl, es_nil ⟨Nat.le_of_ble_eq_true rfl, ?_⟩⟩⟩))))))
  exact h S3 h3 ((s1.trans s2).trans s3)
end
end Mine

namespace Mine

/-! the table -/
structure OL where
  o : Nat
  p : Nat
  i : Nat
  q : Nat
noncomputable abbrev Ent := Int × Int × Str
structure Tb where
  pre : List Ent
  inf : List Ent
  pos : List Ent
noncomputable def entV (e : Int × Str) : V := .tup [.int e.1, .str e.2]
noncomputable def tab (es : List Ent) : List (Sc × V) := es.map fun e => (.int e.1, entV e.2)
theorem tab_get (es : List Ent) (a : Int) : aGet (tab es) (.int a) = (aGet es a).map entV := by
  unfold aGet tab
  induction es with
  | nil => rfl
  | cons e es ih =>
    rw [List.map_cons, List.find?_cons, List.find?_cons]
    by_cases q : e.1 = a
    · simp [q]
    · have q2 : ¬ Sc.int e.1 = Sc.int a := fun z => q (by injection z)
      simp only [q, q2, decide_false]; exact ih
theorem tab_any (es : List Ent) (a : Int) : ((tab es).any fun e => decide (e.1 = .int a)) = es.any fun e => decide (e.1 = a) := by
  unfold tab
  rw [List.any_map]
  congr 1
  funext e
  simp
theorem tab_set (es : List Ent) (a : Int) (v : Int × Str) : aSet (tab es) (.int a) (entV v) = tab (aSet es a v) := by
  unfold aSet
  rw [tab_any]
  split
  · unfold tab
    rw [List.map_map, List.map_map]
    apply List.map_congr_left
    intro e _
    by_cases q : e.1 = a
    · simp [q]
    · simp [q]
  · unfold tab; rw [List.map_append]; rfl
theorem tab_del (es : List Ent) (a : Int) : aDel (tab es) (.int a) = tab (aDel es a) := by
  unfold aDel tab
  rw [List.filter_map]
  congr 1
  apply List.filter_congr
  intro e _
  simp
noncomputable def OL.at (O : OL) (x : Str) : Nat := if x ∈ [Str.ofString "fx", Str.ofString "fy"] then O.p else if x ∈ [Str.ofString "xfx", Str.ofString "xfy", Str.ofString "yfx"] then O.i else O.q
noncomputable def opF (O : OL) (L : SL) : List (Str × V) := [("postfixes", .loc O.q), ("infixes", .loc O.i), ("prefixes", .loc O.p), ("symbols", .loc L.n)]
structure Ops (S : MS) (O : OL) (L : SL) (T : Tb) : Prop where
  o : S[O.o]? = some (.inst 347 (opF O L))
  p : S[O.p]? = some (.sdict (tab T.pre))
  i : S[O.i]? = some (.sdict (tab T.inf))
  q : S[O.q]? = some (.sdict (tab T.pos))
  pi : O.p ≠ O.i
  pq : O.p ≠ O.q
  iq : O.i ≠ O.q
noncomputable def OL.D (O : OL) : List Nat := [O.p, O.i, O.q]
theorem Ops.same {S S' : MS} {O : OL} {L : SL} {T : Tb} {D : List Nat} (h : Ops S O L T) (s : Same D S S') (hd : ∀ l ∈ [O.o, O.p, O.i, O.q], l ∉ D) : Ops S' O L T :=
  ⟨s.get h.o (hd _ (by simp)), s.get h.p (hd _ (by simp)), s.get h.i (hd _ (by simp)), s.get h.q (hd _ (by simp)), h.pi, h.pq, h.iq⟩

noncomputable def isPre (x : Str) : Bool := decide (x ∈ [Str.ofString "fx", Str.ofString "fy"])
noncomputable def isInf (x : Str) : Bool := decide (x ∈ [Str.ofString "xfx", Str.ofString "xfy", Str.ofString "yfx"])
noncomputable def isPos (x : Str) : Bool := decide (x ∈ [Str.ofString "xf", Str.ofString "yf"])
theorem pureStr {x : Str} (h : PyData.strOk x = true) : (V.str x).pure = true := by simpa [V.pure] using h
theorem fix_pure (x : Str) : (fixV x).pure = true := by
  unfold fixV
  split
  · exact pureStr (by decide +kernel)
  · split
    · exact pureStr (by decide +kernel)
    · split
      · exact pureStr (by decide +kernel)
      · simp [V.pure]
theorem fix_depth (x : Str) (v : V) : min (fixV x).py.depth v.py.depth ≤ 20 := by
  refine Nat.le_trans (Nat.min_le_left _ _) ?_
  unfold fixV
  split
  · exact Nat.le_of_ble_eq_true rfl
  · split
    · exact Nat.le_of_ble_eq_true rfl
    · split <;> exact Nat.le_of_ble_eq_true rfl
theorem strV_inj {x y : String} (h : strV x = strV y) : Str.ofString x = Str.ofString y := by unfold strV at h; injection h

section
variable {w : World} {S : MS} {P : V → MS → Prop} {E : V → MS → Prop}

/-- OperatorTable.table_of -/
theorem f_table {O : OL} {L : SL} {T : Tb} {x : Str} (hO : Ops S O L T) (h : P (.loc (O.at x)) S) : Fn PG w (KK w) 281 [.loc O.o, .str x] S P E 2 := by
  refine fn_intro (ns := ["self", "type_text"]) rfl rfl (fun vs hv => by obtain ⟨v, u, rfl⟩ := args2 hv; rfl) (by decide) (by decide) rfl rfl rfl (fun A₀ base outer g L' k hk => ?_)
  refine ss_cons (asg (cl (f := 231) (ec (nm (es_nil (Fn.le (f_fixity ?_) (Nat.le_trans (by decide) hk)))))))
  unfold OL.at at h
  by_cases h1 : x ∈ [Str.ofString "fx", Str.ofString "fy"]
  · rw [if_pos h1] at h
    have e : fixV x = strV "prefix" := by unfold fixV; rw [if_pos h1]
    refine ss_cons (sx_if (cmp (nm (ex_str (op_eq (fix_pure x) (pureStr (by decide +kernel)) (fix_depth _ _) (fun _ => ⟨true, rfl, ?_⟩) fun z => absurd e z)))))
    (first | refine iteP rfl ?_ | rw [if_pos rfl])
    exact ss_cons (sx_return (at' (C := 347) (nm ⟨O.o, _, _, rfl, hO.o, rfl, h⟩)))
  · rw [if_neg h1] at h
    by_cases h2 : x ∈ [Str.ofString "xfx", Str.ofString "xfy", Str.ofString "yfx"]
    · rw [if_pos h2] at h
      have e : fixV x = strV "infix" := by unfold fixV; rw [if_neg h1, if_pos h2]
      have ne : fixV x ≠ strV "prefix" := by rw [e]; exact fun z => absurd (strV_inj z) (by decide)
      refine ss_cons (sx_if (cmp (nm (ex_str (op_eq (fix_pure x) (pureStr (by decide +kernel)) (fix_depth _ _) (fun z => absurd z ne) fun _ => ⟨false, rfl, ?_⟩)))))
      (first | refine iteN (by decide) ?_ | rw [if_neg (by decide)])
      refine ss_nil (ss_cons (sx_if (cmp (nm (ex_str (op_eq (fix_pure x) (pureStr (by decide +kernel)) (fix_depth _ _) (fun _ => ⟨true, rfl, ?_⟩) fun z => absurd e z))))))
      (first | refine iteP rfl ?_ | rw [if_pos rfl])
      exact ss_cons (sx_return (at' (C := 347) (nm ⟨O.o, _, _, rfl, hO.o, rfl, h⟩)))
    · rw [if_neg h2] at h
      have ne : fixV x ≠ strV "prefix" := by
        unfold fixV; rw [if_neg h1, if_neg h2]; split
        · exact fun z => absurd (strV_inj z) (by decide)
        · exact nofun
      have ne2 : fixV x ≠ strV "infix" := by
        unfold fixV; rw [if_neg h1, if_neg h2]; split
        · exact fun z => absurd (strV_inj z) (by decide)
        · exact nofun
      refine ss_cons (sx_if (cmp (nm (ex_str (op_eq (fix_pure x) (pureStr (by decide +kernel)) (fix_depth _ _) (fun z => absurd z ne) fun _ => ⟨false, rfl, ?_⟩)))))
      (first | refine iteN (by decide) ?_ | rw [if_neg (by decide)])
      refine ss_nil (ss_cons (sx_if (cmp (nm (ex_str (op_eq (fix_pure x) (pureStr (by decide +kernel)) (fix_depth _ _) (fun z => absurd z ne2) fun _ => ⟨false, rfl, ?_⟩))))))
      (first | refine iteN (by decide) ?_ | rw [if_neg (by decide)])
      exact ss_nil (ss_cons (sx_return (at' (C := 347) (nm ⟨O.o, _, _, rfl, hO.o, rfl, h⟩))))

/-- OperatorTable.add -/
noncomputable def upd1 (es : List Ent) (h : Int) (x : Str) (a : Int) : List Ent := if 0 < h then aSet es a (h, x) else aDel es a
noncomputable def Tb.add (T : Tb) (h : Int) (x : Str) (a : Int) : Tb :=
  if x ∈ [Str.ofString "fx", Str.ofString "fy"] then { T with pre := upd1 T.pre h x a } else if x ∈ [Str.ofString "xfx", Str.ofString "xfy", Str.ofString "yfx"] then { T with inf := upd1 T.inf h x a } else { T with pos := upd1 T.pos h x a }
noncomputable def Tb.tb (T : Tb) (x : Str) : List Ent := if x ∈ [Str.ofString "fx", Str.ofString "fy"] then T.pre else if x ∈ [Str.ofString "xfx", Str.ofString "xfy", Str.ofString "yfx"] then T.inf else T.pos
theorem Ops.at {O : OL} {L : SL} {T : Tb} (hO : Ops S O L T) (x : Str) : S[O.at x]? = some (.sdict (tab (T.tb x))) := by
  unfold OL.at Tb.tb
  split
  · exact hO.p
  · split
    · exact hO.i
    · exact hO.q
theorem Ops.add {O : OL} {L : SL} {T : Tb} (hO : Ops S O L T) (h : Int) (x : Str) (a : Int) : Ops (S.set (O.at x) (.sdict (tab (upd1 (T.tb x) h x a)))) O L (T.add h x a) ∧ Same O.D S (S.set (O.at x) (.sdict (tab (upd1 (T.tb x) h x a)))) := by
  have lt : ∀ {l mo}, S[l]? = some mo → l < S.length := fun e => (List.getElem?_eq_some_iff.mp e).1
  have op : O.p ≠ O.o := fun q => by have h1 := hO.p; rw [q, hO.o] at h1; cases h1
  have oi : O.i ≠ O.o := fun q => by have h1 := hO.i; rw [q, hO.o] at h1; cases h1
  have oq : O.q ≠ O.o := fun q => by have h1 := hO.q; rw [q, hO.o] at h1; cases h1
  unfold OL.at Tb.tb Tb.add
  split
  · exact ⟨⟨(List.getElem?_set_ne op).trans hO.o, List.getElem?_set_self (lt hO.p), (List.getElem?_set_ne hO.pi).trans hO.i, (List.getElem?_set_ne hO.pq).trans hO.q, hO.pi, hO.pq, hO.iq⟩, .set (by simp [OL.D])⟩
  · split
    · exact ⟨⟨(List.getElem?_set_ne oi).trans hO.o, (List.getElem?_set_ne hO.pi.symm).trans hO.p, List.getElem?_set_self (lt hO.i), (List.getElem?_set_ne hO.iq).trans hO.q, hO.pi, hO.pq, hO.iq⟩, .set (by simp [OL.D])⟩
    · exact ⟨⟨(List.getElem?_set_ne oq).trans hO.o, (List.getElem?_set_ne hO.pq.symm).trans hO.p, (List.getElem?_set_ne hO.iq.symm).trans hO.i, List.getElem?_set_self (lt hO.q), hO.pi, hO.pq, hO.iq⟩, .set (by simp [OL.D])⟩
theorem set_noop {l : Nat} {mo : MO} (h : S[l]? = some mo) : S.set l mo = S := by
  apply List.ext_getElem?
  intro j
  by_cases q : l = j
  · subst q; rw [List.getElem?_set_self (List.getElem?_eq_some_iff.mp h).1, h]
  · rw [List.getElem?_set_ne q]
theorem del_noop {es : List Ent} {a : Int} (h : (aGet es a).isSome = false) : aDel es a = es := by
  unfold aDel
  rw [List.filter_eq_self]
  intro e he
  rw [decide_eq_true_eq]
  rintro rfl
  unfold aGet at h
  rw [Option.isSome_map] at h
  have := List.find?_eq_none.mp (Option.isSome_eq_false_iff.mp h |> Option.isNone_iff_eq_none.mp) e he
  simp at this
theorem f_add {O : OL} {L : SL} {T : Tb} {h : Int} {x : Str} {a : Int} (hO : Ops S O L T) (hz : (T.tb x).length ≤ 9000) (hk : ∀ S', Ops S' O L (T.add h x a) → Same O.D S S' → P .none S') : Fn PG w (KK w) 288 [.loc O.o, .int h, .str x, .int a] S P E 3 := by
  refine fn_intro (ns := ["self", "priority", "type_text", "a"]) rfl rfl (fun vs hv => by obtain ⟨v, u, t, y, rfl⟩ := args4 hv; rfl) (by decide) (by decide) rfl rfl rfl (fun A₀ base outer g L' k hkk => ?_)
  refine ss_cons (asg (me (C := 347) (f := 281) (nm ⟨O.o, _, rfl, hO.o, rfl, ec (nm (es_nil (Fn.le (f_table hO ?_) (Nat.le_trans (by decide) hkk))))⟩)))
  have hat := hO.at x
  have hl : (tab (T.tb x)).length ≤ 100000 := by unfold tab; rw [List.length_map]; omega
  obtain ⟨h1, s1⟩ := hO.add h x a
  refine ss_cons (sx_if (cmp (nm (ex_int (op_gt ⟨_, rfl, ?_⟩)))))
  by_cases hp : 0 < h
  · (first | refine iteP (by first | exact dcP hp | exact ncP hp | simpa using hp) ?_ | rw [if_pos (by first | exact dcP hp | exact ncP hp | simpa using hp)])
    refine ss_cons (sx_setS rfl (tup (ec (nm (ec (nm (es_nil ⟨Nat.le_of_ble_eq_true rfl, nm (nm ⟨O.at x, tab (T.tb x), .int a, rfl, rfl, hat, hl, ?_⟩)⟩)))))))
    refine ss_nil (ss_nil ?_)
    rw [show V.tup [V.int h, V.str x] = entV (h, x) from rfl, tab_set]
    have e : upd1 (T.tb x) h x a = aSet (T.tb x) a (h, x) := by unfold upd1; rw [if_pos hp]
    rw [e] at h1 s1
    exact hk _ h1 s1
  · (first | refine iteN (by first | exact dcN hp | exact ncN hp | simpa using hp) ?_ | rw [if_neg (by first | exact dcN hp | exact ncN hp | simpa using hp)])
    have e : upd1 (T.tb x) h x a = aDel (T.tb x) a := by unfold upd1; rw [if_neg hp]
    rw [e] at h1 s1
    refine ss_cons (sx_if (cmp (nm (nm (in_sdict (k := .int a) hat ⟨_, rfl, ?_⟩)))))
    rw [tab_get, Option.isSome_map]
    cases hs : (aGet (T.tb x) a).isSome with
    | true =>
      (first | refine iteP rfl ?_ | rw [if_pos rfl])
      refine ss_cons (sx_del (nm (nm ⟨O.at x, tab (T.tb x), .int a, rfl, rfl, hat, hl, by rw [tab_get, Option.isSome_map]; exact hs, ?_⟩)))
      refine ss_nil (ss_nil (ss_nil ?_))
      rw [tab_del]
      exact hk _ h1 s1
    | false =>
      (first | refine iteN (by decide) ?_ | rw [if_neg (by decide)])
      refine ss_nil (ss_nil (ss_nil ?_))
      rw [del_noop hs, set_noop hat] at h1 s1
      exact hk _ h1 s1
end
end Mine

namespace Mine

/-- what check_permission refuses -/
noncomputable def refused (T : Tb) (h : Int) (x : Str) (a : Int) : Bool :=
  if a = 7 then true else if a = 0 ∨ a = 2 then true else
    (decide (a = 8) && (!isInf x || (decide (0 < h) && decide (h ≤ 1000)))) || (decide (0 < h) && (isInf x && (aGet T.pos a).isSome)) || (decide (0 < h) && (isPos x && (aGet T.inf a).isSome))
theorem fix_inf (x : Str) : (fixV x = strV "infix") ↔ isInf x = true := by
  unfold fixV isInf
  rw [decide_eq_true_eq]
  by_cases h1 : x ∈ [Str.ofString "fx", Str.ofString "fy"]
  · rw [if_pos h1]
    refine ⟨fun z => absurd (strV_inj z) (by decide), fun z => ?_⟩
    simp only [List.mem_cons, List.not_mem_nil, or_false] at h1
    rcases h1 with rfl | rfl <;> exact absurd z (by decide)
  · rw [if_neg h1]
    by_cases h2 : x ∈ [Str.ofString "xfx", Str.ofString "xfy", Str.ofString "yfx"]
    · rw [if_pos h2]; exact ⟨fun _ => h2, fun _ => rfl⟩
    · rw [if_neg h2]
      refine ⟨fun z => ?_, fun z => absurd z h2⟩
      split at z
      · exact absurd (strV_inj z) (by decide)
      · cases z
theorem fix_pos (x : Str) : (fixV x = strV "postfix") ↔ isPos x = true := by
  unfold fixV isPos
  rw [decide_eq_true_eq]
  by_cases h1 : x ∈ [Str.ofString "fx", Str.ofString "fy"]
  · rw [if_pos h1]
    refine ⟨fun z => absurd (strV_inj z) (by decide), fun z => ?_⟩
    simp only [List.mem_cons, List.not_mem_nil, or_false] at h1
    rcases h1 with rfl | rfl <;> exact absurd z (by decide)
  · rw [if_neg h1]
    by_cases h2 : x ∈ [Str.ofString "xfx", Str.ofString "xfy", Str.ofString "yfx"]
    · rw [if_pos h2]
      refine ⟨fun z => absurd (strV_inj z) (by decide), fun z => ?_⟩
      simp only [List.mem_cons, List.not_mem_nil, or_false] at h2
      rcases h2 with rfl | rfl | rfl <;> exact absurd z (by decide)
    · rw [if_neg h2]
      by_cases h3 : x ∈ [Str.ofString "xf", Str.ofString "yf"]
      · rw [if_pos h3]; exact ⟨fun _ => h3, fun _ => rfl⟩
      · rw [if_neg h3]
        exact ⟨fun z => (nomatch z), fun z => absurd z h3⟩

section
variable {w : World} {S : MS} {P : V → MS → Prop} {E : V → MS → Prop}

theorem op_eqb {X : Cx} {m : Loc} {a b : V} (ha : a.pure = true) (hb : b.pure = true) (hd : min a.py.depth b.py.depth ≤ 20) (t : Bool) (ht : (a = b) ↔ t = true) (h : P (.bool t) S) : op2 PG w (KK w) X (compareOp .Eq) a b m S P E := by
  refine op_eq ha hb hd (fun z => ?_) fun z => ?_
  · rw [ht.mp z] at h; exact h
  · cases t with
    | true => exact absurd (ht.mpr rfl) z
    | false => exact h
theorem op_neb {X : Cx} {m : Loc} {a b : V} (ha : a.pure = true) (hb : b.pure = true) (hd : min a.py.depth b.py.depth ≤ 20) (t : Bool) (ht : (a = b) ↔ t = true) (h : P (.bool (!t)) S) : op2 PG w (KK w) X (compareOp .NotEq) a b m S P E := by
  refine op_ne ha hb hd (fun z => ?_) fun z => ?_
  · rw [ht.mp z] at h; exact h
  · cases t with
    | true => exact absurd (ht.mpr rfl) z
    | false => exact h

theorem ss_cut {X : Cx} {m : Loc} {P : Fl → Loc → MS → Prop} {st : Stmt} {l : List Stmt} (Q : Loc → MS → Prop) (h : sx PG w (KK w) X st m S (fun f m' S' => f = .next ∧ Q m' S') E) (k : ∀ m' S', Q m' S' → ss PG w (KK w) X l m' S' P E) : ss PG w (KK w) X (st :: l) m S P E :=
  ss_cons (aw.mono h (fun f m' S' z => by obtain ⟨rfl, q⟩ := z; exact k m' S' q) fun _ _ z => z)
theorem sx_perm {X : Cx} {m : Loc} {P : Fl → Loc → MS → Prop} {O : OL} {L : SL} {T : Tb} {ts : List Str} {fs : List (Int × Int)} {act : Str} {a : Int} {k1 k2 : Nat} {p1 p2 p3 p4 p5 p6 p7 p8 p9 p10 : Pos} (hO : Ops S O L T) (hS : Sym S L ts fs) (hz : ts.length ≤ 8000) (hz2 : fs.length ≤ 9000) (hk : 4 ≤ X.n)
    (hpl : Plain X p9 [.Attribute (.Name "self" p2) "symbols" p3, .Constant (.str act) k1 p4, .Constant (.str "operator") k2 p5, .Call (.Name "atom" p6) [.Name "a" p7] [] p8]) (hpl2 : Plain X p8 [.Name "a" p7])
    (hn1 : X.cs.names.lookup ("permission_error" : Str) = some .globalImplicit) (hn2 : X.cs.names.lookup ("atom" : Str) = some .globalImplicit) (hn3 : X.cs.names.lookup ("self" : Str) = some .local) (hn4 : X.cs.names.lookup ("a" : Str) = some .local)
    (hm1 : m "self" = some (.loc O.o)) (hm2 : m "a" = some (.int a)) (hcl : X.cl = [])
    (h2 : ∀ S', Sym S' L (tsE ts act) (fsE ts fs act) → Same L.D S S' → E (ballE ts fs act a) S') :
    sx PG w (KK w) X (.Raise (some (.Call (.Name "permission_error" p1) [.Attribute (.Name "self" p2) "symbols" p3, .Constant (.str act) k1 p4, .Constant (.str "operator") k2 p5, .Call (.Name "atom" p6) [.Name "a" p7] [] p8] [] p9)) none p10) m S P E := by
  refine sx_raise (exX_call (f := 214) hn1 rfl rfl rfl hpl ?_)
  refine ec (at' (C := 347) (ex_local hn3 hm1 rfl (by rw [hcl]; rfl) ⟨O.o, _, _, rfl, hO.o, rfl, ?_⟩))
  refine ec (ex_str (ec (ex_str (ec (ex_call (f := 165) hn2 rfl rfl rfl hpl2 (ec (ex_local hn4 hm2 rfl (by rw [hcl]; rfl) (es_nil (Fn.le (f_atomT ?_) (by omega : 1 ≤ X.n))))))))))
  exact es_nil (FnX.le (f_permE hS hz hz2 h2) hk)

/-- Operators.check_permission -/
theorem f_check {O : OL} {L : SL} {T : Tb} {ts : List Str} {fs : List (Int × Int)} {h : Int} {x : Str} {a : Int} (hO : Ops S O L T) (hS : Sym S L ts fs) (hz : ts.length ≤ 8000) (hz2 : fs.length ≤ 9000)
    (h1 : refused T h x a = false → P .none S) (h2 : refused T h x a = true → ∀ S', Sym S' L (tsE ts (actOf a)) (fsE ts fs (actOf a)) → Same L.D S S' → E (ballE ts fs (actOf a) a) S') : Fn PG w (KK w) 344 [.loc O.o, .int h, .str x, .int a] S P E 6 := by
  refine fn_intro (ns := ["self", "priority", "type_text", "a"]) rfl rfl (fun vs hv => by obtain ⟨v, u, t, y, rfl⟩ := args4 hv; rfl) (by decide) (by decide) rfl rfl rfl (fun A₀ base outer g L' k hk => ?_)
  refine ss_cons (sx_if (cmp (nm (gint (op_eqI ⟨_, rfl, ?_⟩)))))
  by_cases a7 : a = 7
  · (first | refine iteP (by first | exact dcP a7 | exact ncP a7 | simpa using a7) ?_ | rw [if_pos (by first | exact dcP a7 | exact ncP a7 | simpa using a7)])
    have hr : refused T h x a = true := by unfold refused; rw [if_pos a7]
    have ha : actOf a = "modify" := by unfold actOf; (first | refine iteP (by first | exact dcP a7 | exact ncP a7 | simpa using a7) ?_ | rw [if_pos (by first | exact dcP a7 | exact ncP a7 | simpa using a7)])
    rw [ha] at h2
    exact ss_cons (sx_perm hO hS hz hz2 (Nat.le_trans (by decide) hk) (by repeat' (first | exact Plain.nil | refine Plain.cons rfl ?_)) (by repeat' (first | exact Plain.nil | refine Plain.cons rfl ?_)) rfl rfl rfl rfl rfl rfl rfl (h2 hr))
  (first | refine iteN (by first | exact dcN a7 | exact ncN a7 | simpa using a7) ?_ | rw [if_neg (by first | exact dcN a7 | exact ncN a7 | simpa using a7)])
  have ha : actOf a = "create" := by unfold actOf; (first | refine iteN (by first | exact dcN a7 | exact ncN a7 | simpa using a7) ?_ | rw [if_neg (by first | exact dcN a7 | exact ncN a7 | simpa using a7)])
  rw [ha] at h2
  refine ss_nil (ss_cons (sx_if (te_bool (tes_or (cmp (nm (gint (op_eqI ⟨_, rfl, ?_⟩))))))))
  by_cases a0 : a = 0
  · have hr : refused T h x a = true := by unfold refused; rw [if_neg a7, if_pos (.inl a0)]
    (first | refine iteP (by first | exact dcP a0 | exact ncP a0 | simpa using a0) ?_ | rw [if_pos (by first | exact dcP a0 | exact ncP a0 | simpa using a0)]); (first | refine iteP rfl ?_ | rw [if_pos rfl])
    exact ss_cons (sx_perm hO hS hz hz2 (Nat.le_trans (by decide) hk) (by repeat' (first | exact Plain.nil | refine Plain.cons rfl ?_)) (by repeat' (first | exact Plain.nil | refine Plain.cons rfl ?_)) rfl rfl rfl rfl rfl rfl rfl (h2 hr))
  (first | refine iteN (by first | exact dcN a0 | exact ncN a0 | simpa using a0) ?_ | rw [if_neg (by first | exact dcN a0 | exact ncN a0 | simpa using a0)])
  refine tes_or (cmp (nm (gint (op_eqI ⟨_, rfl, ?_⟩))))
  by_cases a2 : a = 2
  · have hr : refused T h x a = true := by unfold refused; rw [if_neg a7, if_pos (.inr a2)]
    (first | refine iteP (by first | exact dcP a2 | exact ncP a2 | simpa using a2) ?_ | rw [if_pos (by first | exact dcP a2 | exact ncP a2 | simpa using a2)]); (first | refine iteP rfl ?_ | rw [if_pos rfl])
    exact ss_cons (sx_perm hO hS hz hz2 (Nat.le_trans (by decide) hk) (by repeat' (first | exact Plain.nil | refine Plain.cons rfl ?_)) (by repeat' (first | exact Plain.nil | refine Plain.cons rfl ?_)) rfl rfl rfl rfl rfl rfl rfl (h2 hr))
  (first | refine iteN (by first | exact dcN a2 | exact ncN a2 | simpa using a2) ?_ | rw [if_neg (by first | exact dcN a2 | exact ncN a2 | simpa using a2)])
  refine tes_nil ?_
  (first | refine iteN (by decide) ?_ | rw [if_neg (by decide)])
  have hr : refused T h x a = ((decide (a = 8) && (!isInf x || (decide (0 < h) && decide (h ≤ 1000)))) || (decide (0 < h) && (isInf x && (aGet T.pos a).isSome)) || (decide (0 < h) && (isPos x && (aGet T.inf a).isSome))) := by
    unfold refused; rw [if_neg a7, if_neg (fun z => z.elim a0 a2)]
  refine ss_nil (ss_cons (asg (cl (f := 231) (ec (nm (es_nil (Fn.le (f_fixity ?_) (Nat.le_trans (by decide) hk))))))))
  refine ss_cons (asg (ex_bool ?_))
  let Fa : Bool → Loc → MS → Prop := fun r m' S' => S' = S ∧ m' "refused" = some (.bool r) ∧ m' "priority" = some (.int h) ∧ m' "kind" = some (fixV x) ∧ m' "a" = some (.int a) ∧ m' "self" = some (.loc O.o)
  refine ss_cut (Fa (decide (a = 8) && (!isInf x || (decide (0 < h) && decide (h ≤ 1000))))) (sx_if (cmp (nm (gint (op_eqI ⟨_, rfl, ?_⟩))))) fun m1 S1 hq => ?_
  · by_cases a8 : a = 8
    · (first | refine iteP (by first | exact dcP a8 | exact ncP a8 | simpa using a8) ?_ | rw [if_pos (by first | exact dcP a8 | exact ncP a8 | simpa using a8)])
      refine ss_cons (asg (ex_or2 (cmpx (nm (ex_str (op_neb (fix_pure x) (pureStr (by decide +kernel)) (fix_depth _ _) (isInf x) (fix_inf x) ⟨!isInf x, rfl, ?_⟩))))))
      cases hi : isInf x with
      | false =>
        rw [Bool.not_false, if_pos rfl]
        exact ss_nil ⟨rfl, rfl, by simp [a8]; rfl, rfl, rfl, rfl, rfl⟩
      | true =>
        rw [Bool.not_true, if_neg (by decide)]
        refine ex_and2 (cmpx (nm (ex_int (op_gt ⟨decide (0 < h), rfl, ?_⟩))))
        by_cases hp : 0 < h
        · (first | refine iteP (by first | exact dcP hp | exact ncP hp | simpa using hp) ?_ | rw [if_pos (by first | exact dcP hp | exact ncP hp | simpa using hp)])
          exact cmpx (nm (gint (op_le (ss_nil ⟨rfl, rfl, by simp [a8, hp]; rfl, rfl, rfl, rfl, rfl⟩))))
        · (first | refine iteN (by first | exact dcN hp | exact ncN hp | simpa using hp) ?_ | rw [if_neg (by first | exact dcN hp | exact ncN hp | simpa using hp)])
          exact ss_nil ⟨rfl, rfl, by simp [a8, hp]; rfl, rfl, rfl, rfl, rfl⟩
    · (first | refine iteN (by first | exact dcN a8 | exact ncN a8 | simpa using a8) ?_ | rw [if_neg (by first | exact dcN a8 | exact ncN a8 | simpa using a8)])
      exact ss_nil ⟨rfl, rfl, by simp [a8]; rfl, rfl, rfl, rfl, rfl⟩
  obtain ⟨rfl, r1, r2, r3, r4, r5⟩ := hq
  generalize hR1 : (decide (a = 8) && (!isInf x || (decide (0 < h) && decide (h ≤ 1000)))) = R1 at r1 hr
  refine ss_cut (Fa (R1 || (decide (0 < h) && (isInf x && (aGet T.pos a).isSome)))) (sx_if (te_bool (tes_and (cmp (ex_local rfl r2 rfl rfl (ex_int (op_gt ⟨decide (0 < h), rfl, ?_⟩))))))) fun m2 S2 hq => ?_
  · by_cases hp : 0 < h
    · (first | refine iteP (by first | exact dcP hp | exact ncP hp | simpa using hp) ?_ | rw [if_pos (by first | exact dcP hp | exact ncP hp | simpa using hp)])
      refine tes_and (cmp (ex_local rfl r3 rfl rfl (ex_str (op_eqb (fix_pure x) (pureStr (by decide +kernel)) (fix_depth _ _) (isInf x) (fix_inf x) ⟨isInf x, rfl, ?_⟩))))
      cases hi : isInf x with
      | false =>
        (first | refine iteN (by decide) ?_ | rw [if_neg (by decide)]); (first | refine iteN (by decide) ?_ | rw [if_neg (by decide)])
        exact ss_nil ⟨rfl, rfl, by simpa using r1, r2, r3, r4, r5⟩
      | true =>
        (first | refine iteP rfl ?_ | rw [if_pos rfl])
        refine tes_and (cmp (ex_local rfl r4 rfl rfl (at' (C := 347) (ex_local rfl r5 rfl rfl ⟨O.o, _, _, rfl, hO.o, rfl, in_sdict (k := .int a) hO.q ⟨_, rfl, ?_⟩⟩))))
        rw [tab_get, Option.isSome_map]
        cases hs : (aGet T.pos a).isSome with
        | false =>
          (first | refine iteN (by decide) ?_ | rw [if_neg (by decide)]); (first | refine iteN (by decide) ?_ | rw [if_neg (by decide)])
          exact ss_nil ⟨rfl, rfl, by simpa using r1, r2, r3, r4, r5⟩
        | true =>
          (first | refine iteP rfl ?_ | rw [if_pos rfl])
          refine tes_nil ?_
          (first | refine iteP (by decide) ?_ | rw [if_pos (by decide)])
          refine ss_cons (asg (ex_bool (ss_nil ⟨rfl, rfl, ?_, (updOf (by decide)).trans r2, (updOf (by decide)).trans r3, (updOf (by decide)).trans r4, (updOf (by decide)).trans r5⟩)))
          rw [updSelf]; simp [hp]
    · (first | refine iteN (by first | exact dcN hp | exact ncN hp | simpa using hp) ?_ | rw [if_neg (by first | exact dcN hp | exact ncN hp | simpa using hp)]); (first | refine iteN (by decide) ?_ | rw [if_neg (by decide)])
      exact ss_nil ⟨rfl, rfl, by simpa [hp] using r1, r2, r3, r4, r5⟩
  clear r1 r2 r3 r4 r5
  obtain ⟨rfl, r1, r2, r3, r4, r5⟩ := hq
  generalize hR2 : (R1 || (decide (0 < h) && (isInf x && (aGet T.pos a).isSome))) = R2 at r1 hr
  refine ss_cut (Fa (R2 || (decide (0 < h) && (isPos x && (aGet T.inf a).isSome)))) (sx_if (te_bool (tes_and (cmp (ex_local rfl r2 rfl rfl (ex_int (op_gt ⟨decide (0 < h), rfl, ?_⟩))))))) fun m3 S3 hq => ?_
  · by_cases hp : 0 < h
    · (first | refine iteP (by first | exact dcP hp | exact ncP hp | simpa using hp) ?_ | rw [if_pos (by first | exact dcP hp | exact ncP hp | simpa using hp)])
      refine tes_and (cmp (ex_local rfl r3 rfl rfl (ex_str (op_eqb (fix_pure x) (pureStr (by decide +kernel)) (fix_depth _ _) (isPos x) (fix_pos x) ⟨isPos x, rfl, ?_⟩))))
      cases hi : isPos x with
      | false =>
        (first | refine iteN (by decide) ?_ | rw [if_neg (by decide)]); (first | refine iteN (by decide) ?_ | rw [if_neg (by decide)])
        exact ss_nil ⟨rfl, rfl, by simpa using r1, r2, r3, r4, r5⟩
      | true =>
        (first | refine iteP rfl ?_ | rw [if_pos rfl])
        refine tes_and (cmp (ex_local rfl r4 rfl rfl (at' (C := 347) (ex_local rfl r5 rfl rfl ⟨O.o, _, _, rfl, hO.o, rfl, in_sdict (k := .int a) hO.i ⟨_, rfl, ?_⟩⟩))))
        rw [tab_get, Option.isSome_map]
        cases hs : (aGet T.inf a).isSome with
        | false =>
          (first | refine iteN (by decide) ?_ | rw [if_neg (by decide)]); (first | refine iteN (by decide) ?_ | rw [if_neg (by decide)])
          exact ss_nil ⟨rfl, rfl, by simpa using r1, r2, r3, r4, r5⟩
        | true =>
          (first | refine iteP rfl ?_ | rw [if_pos rfl])
          refine tes_nil ?_
          (first | refine iteP (by decide) ?_ | rw [if_pos (by decide)])
          refine ss_cons (asg (ex_bool (ss_nil ⟨rfl, rfl, ?_, (updOf (by decide)).trans r2, (updOf (by decide)).trans r3, (updOf (by decide)).trans r4, (updOf (by decide)).trans r5⟩)))
          rw [updSelf]; simp [hp]
    · (first | refine iteN (by first | exact dcN hp | exact ncN hp | simpa using hp) ?_ | rw [if_neg (by first | exact dcN hp | exact ncN hp | simpa using hp)]); (first | refine iteN (by decide) ?_ | rw [if_neg (by decide)])
      exact ss_nil ⟨rfl, rfl, by simpa [hp] using r1, r2, r3, r4, r5⟩
  clear r1 r2 r3 r4 r5
  obtain ⟨rfl, r1, r2, r3, r4, r5⟩ := hq
  rw [← hr] at r1
  refine ss_cons (sx_if (te_val (fun _ _ => rfl) (ex_local rfl r1 rfl rfl ⟨refused T h x a, rfl, ?_⟩)))
  cases hrr : refused T h x a with
  | false =>
    (first | refine iteN (by decide) ?_ | rw [if_neg (by decide)])
    exact ss_nil (ss_nil (h1 hrr))
  | true =>
    (first | refine iteP rfl ?_ | rw [if_pos rfl])
    exact ss_cons (sx_perm hO hS hz hz2 (Nat.le_trans (by decide) hk) (by repeat' (first | exact Plain.nil | refine Plain.cons rfl ?_)) (by repeat' (first | exact Plain.nil | refine Plain.cons rfl ?_)) rfl rfl rfl rfl r5 r4 rfl (h2 hrr))
end
end Mine

namespace Mine

noncomputable def atomV (a : Int) : V := .tup [strV "a", .int a]
noncomputable def chain (c : Int) : List Int → V
  | [] => atomV c
  | a :: r => .tup [strV "s", .int 0, .tup [atomV a, chain c r]]
noncomputable def asOf (c : Int) : List Int → List Int
  | [] => [c]
  | a :: r => a :: r
theorem atom_pure (a : Int) : (atomV a).pure = true := by
  have h : (strV "a").pure = true := pureStr (by decide +kernel)
  simp [atomV, V.pure, V.pures, h]
theorem chain_pure (c : Int) : ∀ cs, (chain c cs).pure = true
  | [] => atom_pure c
  | a :: r => by
    have h : (strV "s").pure = true := pureStr (by decide +kernel)
    have h2 := atom_pure a
    have h3 := chain_pure c r
    simp [chain, V.pure, V.pures, h, h2, h3]
theorem atom_depth (a : Int) : (atomV a).py.depth ≤ 20 := by
  show (PyData.tuple [.str _, .int a]).depth ≤ 20
  exact Nat.le_of_ble_eq_true rfl

section
variable {w : World} {S : MS} {P : V → MS → Prop} {E : V → MS → Prop}

/-- terms.list_items -/
theorem f_items {c : Int} {cs : List Int} (hz : cs.length ≤ 9000) (h : P (.tup [.loc S.length, atomV c]) (S ++ [.list (cs.map atomV)])) : Fn PG w (KK w) 172 [chain c cs] S P E 1 := by
  refine fn_intro (ns := ["term"]) rfl rfl (fun vs hv => by obtain ⟨v, rfl⟩ := args1 hv; rfl) (by decide) (by decide) rfl rfl rfl (fun A₀ base outer g L' k hk => ?_)
  refine ss_cons (asg (lst (es_nil ⟨Nat.le_of_ble_eq_true rfl, ?_⟩)))
  refine ss_cut (fun m' S' => S' = S ++ [.list (cs.map atomV)] ∧ m' "items" = some (.loc S.length) ∧ m' "term" = some (atomV c)) (sx_while (fun n m' S' => ∃ dn rest, n = rest.length ∧ cs = dn ++ rest ∧ S' = S ++ [.list (dn.map atomV)] ∧ m' "items" = some (.loc S.length) ∧ m' "term" = some (chain c rest)) cs.length ⟨[], cs, rfl, rfl, rfl, rfl, rfl⟩ ?_) fun m1 S1 hq => ?_
  · rintro n m1 S1 ⟨dn, rest, rfl, rfl, rfl, e1, e2⟩
    refine te_bool (tes_and (cmp (ex_sub (ex_local rfl e2 rfl rfl (ex_int ?_)))))
    have hlen : dn.length ≤ 9000 := by rw [List.length_append] at hz; omega
    cases rest with
    | nil =>
      refine sub_tup (x := strV "a") (by decide) (by decide) rfl (fun _ _ => by with_unfolding_all rfl) (ex_str ?_)
      refine op_eqb (pureStr (by decide +kernel)) (pureStr (by decide +kernel)) (Nat.le_trans (Nat.min_le_left _ _) (Nat.le_of_ble_eq_true rfl)) false ⟨fun z => absurd (strV_inj z) (by decide), fun z => by cases z⟩ ⟨false, rfl, ?_⟩
      (first | refine iteN (by decide) ?_ | rw [if_neg (by decide)]); (first | refine iteN (by decide) ?_ | rw [if_neg (by decide)])
      exact ⟨rfl, by rw [List.append_nil], e1, e2⟩
    | cons a r =>
      refine sub_tup (x := strV "s") (by decide) (by decide) rfl (fun _ _ => by with_unfolding_all rfl) (ex_str ?_)
      refine op_eqb (pureStr (by decide +kernel)) (pureStr (by decide +kernel)) (Nat.le_trans (Nat.min_le_left _ _) (Nat.le_of_ble_eq_true rfl)) true ⟨fun _ => rfl, fun _ => rfl⟩ ⟨true, rfl, ?_⟩
      (first | refine iteP rfl ?_ | rw [if_pos rfl])
      refine tes_and (cmp (ex_sub (ex_local rfl e2 rfl rfl (ex_int (sub_tup (x := .int 0) (by decide) (by decide) rfl (fun _ _ => by with_unfolding_all rfl) (gint (op_eqI ⟨true, rfl, ?_⟩)))))))
      (first | refine iteP rfl ?_ | rw [if_pos rfl])
      refine tes_nil ?_
      (first | refine iteP (by decide) ?_ | rw [if_pos (by decide)])
      refine ss_cons (exs (bm F.plainAttrs_list F.slot_list_append F.type_list_append (ex_local rfl e1 rfl rfl ⟨Of.list get_app_self, ec ?_⟩)))
      refine ex_sub (ex_sub (ex_local rfl e2 rfl rfl (ex_int (sub_tup (x := .tup [atomV a, chain c r]) (by decide) (by decide) rfl (fun _ _ => by with_unfolding_all rfl) (ex_int (sub_tup (x := atomV a) (by decide) (by decide) rfl (fun _ _ => by with_unfolding_all rfl) (es_nil (opL_append get_app_self (by rw [List.length_map]; omega) ?_))))))))
      refine ss_cons (asg ?_)
      refine ex_sub (ex_sub (ex_local rfl e2 rfl rfl (ex_int (sub_tup (x := .tup [atomV a, chain c r]) (by decide) (by decide) rfl (fun _ _ => by with_unfolding_all rfl) (ex_int (sub_tup (x := chain c r) (by decide) (by decide) rfl (fun _ _ => by with_unfolding_all rfl) ?_))))))
      refine ss_nil ⟨r.length, by simp, dn ++ [a], r, rfl, by simp, ?_, (updOf (by decide)).trans e1, updSelf⟩
      rw [List.set_append_right _ _ (Nat.le_refl _), Nat.sub_self]
      simp
  obtain ⟨rfl, e1, e2⟩ := hq
  exact ss_cons (sx_return (tup (ec (ex_local rfl e1 rfl rfl (ec (ex_local rfl e2 rfl rfl (es_nil ⟨Nat.le_of_ble_eq_true rfl, h⟩)))))))

theorem chain_nil (c : Int) (cs : List Int) : (chain c cs = atomV 0) ↔ decide (cs = [] ∧ c = 0) = true := by
  rw [decide_eq_true_eq]
  cases cs with
  | nil =>
    refine ⟨fun z => ⟨rfl, ?_⟩, fun z => by rw [z.2]; rfl⟩
    unfold chain atomV at z
    injection z with z; injection z with _ z; injection z with z; injection z
  | cons a r =>
    refine ⟨fun z => ?_, fun z => by cases z.1⟩
    unfold chain atomV at z
    injection z with z; injection z with z; exact absurd (strV_inj z) (by decide)
theorem atom0 (c : Int) : (atomV c = atomV 0) ↔ decide (c = 0) = true := by
  have := chain_nil c []
  simpa [chain] using this

/-- Operators.names_of -/
theorem f_names {o : V} {c : Int} {cs : List Int} (hz : cs.length ≤ 9000) (h : ∀ S' l, Same [] S S' → S.length ≤ l → S'[l]? = some (.list ((asOf c cs).map atomV)) → P (.loc l) S') : Fn PG w (KK w) 323 [o, chain c cs] S P E 2 := by
  refine fn_intro (ns := ["self", "name_term"]) rfl rfl (fun vs hv => by obtain ⟨v, u, rfl⟩ := args2 hv; rfl) (by decide) (by decide) rfl rfl rfl (fun A₀ base outer g L' k hk => ?_)
  refine ss_cons (sx_if (cmp (nm (tup (ec (ex_str (ec (gint (es_nil ⟨Nat.le_of_ble_eq_true rfl, ?_⟩)))))))))
  refine op_eqb (chain_pure c cs) (atom_pure 0) (Nat.le_trans (Nat.min_le_right _ _) (atom_depth 0)) (decide (cs = [] ∧ c = 0)) (chain_nil c cs) ⟨_, rfl, ?_⟩
  by_cases hn : cs = [] ∧ c = 0
  · (first | refine iteP (by first | exact dcP hn | exact ncP hn | simpa using hn) ?_ | rw [if_pos (by first | exact dcP hn | exact ncP hn | simpa using hn)])
    obtain ⟨rfl, rfl⟩ := hn
    exact ss_cons (sx_return (lst (ec (nm (es_nil ⟨Nat.le_of_ble_eq_true rfl, h _ _ (.app _ _ _) (Nat.le_refl _) get_app_self⟩)))))
  · (first | refine iteN (by first | exact dcN hn | exact ncN hn | simpa using hn) ?_ | rw [if_neg (by first | exact dcN hn | exact ncN hn | simpa using hn)])
    refine ss_nil (ss_cons (sx_unpack rfl rfl (cl (f := 172) (ec (nm (es_nil (Fn.le (f_items hz ?_) (Nat.le_trans (by decide) hk))))))))
    refine tg_tuple rfl rfl ?_
    refine tg_name rfl rfl rfl (tg_name rfl rfl rfl ?_)
    refine ss_cons (sx_if (cmp (bi (ec (nm (es_nil (opL_len get_app_self (by rw [List.length_map]; omega) (ex_int (op_gt ⟨_, rfl, ?_⟩)))))))))
    rw [List.length_map]
    cases cs with
    | nil =>
      (first | refine iteN (by decide) ?_ | rw [if_neg (by decide)])
      refine ss_nil (ss_cons (sx_return (lst (ec (nm (es_nil ⟨Nat.le_of_ble_eq_true rfl, h _ _ ((Same.app _ _ _).trans (.app _ _ _)) (by simp) get_app_self⟩))))))
    | cons a r =>
      rw [if_pos (by simp)]
      exact ss_cons (sx_return (nm (h _ _ (.app _ _ _) (Nat.le_refl _) get_app_self)))

/-- Operators.check_instantiated -/
theorem f_inst {o : V} {hgt kn c : Int} {cs as : List Int} {li : Nat} (hz : cs.length ≤ 9000) (hl : S[li]? = some (.list (as.map atomV))) (h : ∀ S', Same [] S S' → P .none S') : Fn PG w (KK w) 330 [o, .tup [strV "i", .int hgt], atomV kn, chain c cs, .loc li] S P E 2 := by
  refine fn_intro (ns := ["self", "priority_term", "type_term", "name_term", "items"]) rfl rfl (fun vs hv => by obtain ⟨v, u, t, x, y, rfl⟩ := args5 hv; rfl) (by decide) (by decide) rfl rfl rfl (fun A₀ base outer g L' k hk => ?_)
  have neq : ∀ {x y : String}, Str.ofString x ≠ Str.ofString y → ((strV x = strV y) ↔ false = true) := fun hne => ⟨fun z => absurd (strV_inj z) hne, fun z => by cases z⟩
  refine ss_cons (sx_if (te_bool (tes_or (cmp (ex_sub (nm (ex_int (sub_tup (x := strV "i") (by decide) (by decide) rfl (fun _ _ => by with_unfolding_all rfl) (ex_str ?_)))))))))
  refine op_eqb (pureStr (by decide +kernel)) (pureStr (by decide +kernel)) (Nat.le_trans (Nat.min_le_left _ _) (Nat.le_of_ble_eq_true rfl)) false (neq (by decide)) ⟨false, rfl, ?_⟩
  (first | refine iteN (by decide) ?_ | rw [if_neg (by decide)])
  refine tes_or (cmp (ex_sub (nm (ex_int (sub_tup (x := strV "a") (by decide) (by decide) rfl (fun _ _ => by with_unfolding_all rfl) (ex_str ?_))))))
  refine op_eqb (pureStr (by decide +kernel)) (pureStr (by decide +kernel)) (Nat.le_trans (Nat.min_le_left _ _) (Nat.le_of_ble_eq_true rfl)) false (neq (by decide)) ⟨false, rfl, ?_⟩
  (first | refine iteN (by decide) ?_ | rw [if_neg (by decide)])
  refine tes_nil ?_
  (first | refine iteN (by decide) ?_ | rw [if_neg (by decide)])
  refine ss_nil (ss_cons (asg (ex_sub (cl (f := 172) (ec (nm (es_nil (Fn.le (f_items hz ?_) (Nat.le_trans (by decide) hk)))))))))
  refine ex_int (sub_tup (x := atomV c) (by decide) (by decide) rfl (fun _ _ => by with_unfolding_all rfl) ?_)
  refine ss_cons (sx_if (cmp (ex_sub (nm (ex_int (sub_tup (x := strV "a") (by decide) (by decide) rfl (fun _ _ => by with_unfolding_all rfl) (ex_str ?_)))))))
  refine op_eqb (pureStr (by decide +kernel)) (pureStr (by decide +kernel)) (Nat.le_trans (Nat.min_le_left _ _) (Nat.le_of_ble_eq_true rfl)) false (neq (by decide)) ⟨false, rfl, ?_⟩
  (first | refine iteN (by decide) ?_ | rw [if_neg (by decide)])
  refine ss_nil (ss_cons (sx_if (cmp (nm (tup (ec (ex_str (ec (gint (es_nil ⟨Nat.le_of_ble_eq_true rfl, ?_⟩))))))))))
  refine op_eqb (atom_pure c) (atom_pure 0) (Nat.le_trans (Nat.min_le_right _ _) (atom_depth 0)) (decide (c = 0)) (atom0 c) ⟨_, rfl, ?_⟩
  have fin := h (S ++ [.list (cs.map atomV)]) (.app _ _ _)
  by_cases hc : c = 0
  · (first | refine iteP (by first | exact dcP hc | exact ncP hc | simpa using hc) ?_ | rw [if_pos (by first | exact dcP hc | exact ncP hc | simpa using hc)])
    refine ss_cons (sx_for (fun _ => rfl) (itr_list (nm ⟨li, as.map atomV, rfl, (Same.app [] S _).get hl List.not_mem_nil, (fun q => by cases q), fun rest m' S' => S' = S ++ [.list (cs.map atomV)] ∧ ∀ v ∈ rest, ∃ a, v = atomV a, ⟨rfl, fun v hv => ?_⟩, ?_, ?_, ?_⟩)))
    · obtain ⟨a, _, rfl⟩ := List.mem_map.mp hv; exact ⟨a, rfl⟩
    · rintro rest m1 S1 ⟨rfl, _⟩ l mo q; cases q; exact (Same.app [] S _).get hl List.not_mem_nil
    · rintro x rest m1 S1 ⟨rfl, hr⟩
      obtain ⟨a, rfl⟩ := hr _ (.head _)
      refine tg_name rfl rfl rfl ?_
      refine ss_cons (sx_if (cmp (ex_sub (ex_local rfl updSelf rfl rfl (ex_int (sub_tup (x := strV "a") (by decide) (by decide) rfl (fun _ _ => by with_unfolding_all rfl) (ex_str ?_)))))))
      refine op_eqb (pureStr (by decide +kernel)) (pureStr (by decide +kernel)) (Nat.le_trans (Nat.min_le_left _ _) (Nat.le_of_ble_eq_true rfl)) false (neq (by decide)) ⟨false, rfl, ?_⟩
      (first | refine iteN (by decide) ?_ | rw [if_neg (by decide)])
      exact ss_nil (ss_nil ⟨rfl, fun v hv => hr v (.tail _ hv)⟩)
    · rintro m1 S1 ⟨rfl, _⟩
      exact ss_nil (ss_nil fin)
  · (first | refine iteN (by first | exact dcN hc | exact ncN hc | simpa using hc) ?_ | rw [if_neg (by first | exact dcN hc | exact ncN hc | simpa using hc)])
    exact ss_nil (ss_nil fin)
end
end Mine

namespace Mine

section
variable {w : World} {S : MS} {P : V → MS → Prop} {E : V → MS → Prop}

theorem neqS {x y : String} (hne : Str.ofString x ≠ Str.ofString y) : (strV x = strV y) ↔ false = true := ⟨fun z => absurd (strV_inj z) hne, fun z => by cases z⟩
theorem eqS (x : String) : (strV x = strV x) ↔ true = true := ⟨fun _ => rfl, fun _ => rfl⟩

/-- Operators.check_types -/
theorem f_types {o : V} {hgt kn c : Int} {cs as : List Int} {li : Nat} (hz : cs.length ≤ 9000) (hc : cs ≠ [] → c = 0) (hl : S[li]? = some (.list (as.map atomV))) (h : ∀ S', Same [] S S' → P .none S') : Fn PG w (KK w) 337 [o, .tup [strV "i", .int hgt], atomV kn, chain c cs, .loc li] S P E 2 := by
  refine fn_intro (ns := ["self", "priority_term", "type_term", "name_term", "items"]) rfl rfl (fun vs hv => by obtain ⟨v, u, t, x, y, rfl⟩ := args5 hv; rfl) (by decide) (by decide) rfl rfl rfl (fun A₀ base outer g L' k hk => ?_)
  refine ss_cons (sx_if (cmp (ex_sub (nm (ex_int (sub_tup (x := strV "i") (by decide) (by decide) rfl (fun _ _ => by with_unfolding_all rfl) (ex_str ?_)))))))
  refine op_neb (pureStr (by decide +kernel)) (pureStr (by decide +kernel)) (Nat.le_trans (Nat.min_le_left _ _) (Nat.le_of_ble_eq_true rfl)) true (eqS "i") ⟨false, rfl, ?_⟩
  (first | refine iteN (by decide) ?_ | rw [if_neg (by decide)])
  refine ss_nil (ss_cons (sx_if (cmp (ex_sub (nm (ex_int (sub_tup (x := strV "a") (by decide) (by decide) rfl (fun _ _ => by with_unfolding_all rfl) (ex_str ?_))))))))
  refine op_neb (pureStr (by decide +kernel)) (pureStr (by decide +kernel)) (Nat.le_trans (Nat.min_le_left _ _) (Nat.le_of_ble_eq_true rfl)) true (eqS "a") ⟨false, rfl, ?_⟩
  (first | refine iteN (by decide) ?_ | rw [if_neg (by decide)])
  refine ss_nil (ss_cut (fun m' S' => Same [] S S' ∧ m' "items" = some (.loc li)) (sx_if (te_bool (tes_and (cmp (ex_sub (nm (ex_int ?_))))))) fun m1 S1 hq => ?_)
  · cases cs with
    | nil =>
      refine sub_tup (x := strV "a") (by decide) (by decide) rfl (fun _ _ => by with_unfolding_all rfl) (ex_str ?_)
      refine op_neb (pureStr (by decide +kernel)) (pureStr (by decide +kernel)) (Nat.le_trans (Nat.min_le_left _ _) (Nat.le_of_ble_eq_true rfl)) true (eqS "a") ⟨false, rfl, ?_⟩
      (first | refine iteN (by decide) ?_ | rw [if_neg (by decide)]); (first | refine iteN (by decide) ?_ | rw [if_neg (by decide)])
      exact ss_nil ⟨rfl, .refl _ _, rfl⟩
    | cons a r =>
      obtain rfl := hc nofun
      refine sub_tup (x := strV "s") (by decide) (by decide) rfl (fun _ _ => by with_unfolding_all rfl) (ex_str ?_)
      refine op_neb (pureStr (by decide +kernel)) (pureStr (by decide +kernel)) (Nat.le_trans (Nat.min_le_left _ _) (Nat.le_of_ble_eq_true rfl)) false (neqS (by decide)) ⟨true, rfl, ?_⟩
      (first | refine iteP rfl ?_ | rw [if_pos rfl])
      refine tes_and (cmp (ex_sub (cl (f := 172) (ec (nm (es_nil (Fn.le (f_items hz ?_) (Nat.le_trans (by decide) hk))))))))
      refine ex_int (sub_tup (x := atomV 0) (by decide) (by decide) rfl (fun _ _ => by with_unfolding_all rfl) (tup (ec (ex_str (ec (gint (es_nil ⟨Nat.le_of_ble_eq_true rfl, ?_⟩)))))))
      refine op_neb (atom_pure 0) (atom_pure 0) (Nat.le_trans (Nat.min_le_right _ _) (atom_depth 0)) true ⟨fun _ => rfl, fun _ => rfl⟩ ⟨false, rfl, ?_⟩
      (first | refine iteN (by decide) ?_ | rw [if_neg (by decide)]); (first | refine iteN (by decide) ?_ | rw [if_neg (by decide)])
      exact ss_nil ⟨rfl, .app _ _ _, rfl⟩
  obtain ⟨s1, e1⟩ := hq
  refine ss_cons (sx_for (fun _ => rfl) (itr_list (ex_local rfl e1 rfl rfl ⟨li, as.map atomV, rfl, s1.get hl List.not_mem_nil, (fun q => by cases q), fun rest m' S' => S' = S1 ∧ ∀ v ∈ rest, ∃ a, v = atomV a, ⟨rfl, fun v hv => ?_⟩, ?_, ?_, ?_⟩)))
  · obtain ⟨a, _, rfl⟩ := List.mem_map.mp hv; exact ⟨a, rfl⟩
  · rintro rest m1 S2 ⟨rfl, _⟩ l mo q; cases q; exact s1.get hl List.not_mem_nil
  · rintro x rest m1 S2 ⟨rfl, hr⟩
    obtain ⟨a, rfl⟩ := hr _ (.head _)
    refine tg_name rfl rfl rfl ?_
    refine ss_cons (sx_if (cmp (ex_sub (ex_local rfl updSelf rfl rfl (ex_int (sub_tup (x := strV "a") (by decide) (by decide) rfl (fun _ _ => by with_unfolding_all rfl) (ex_str ?_)))))))
    refine op_neb (pureStr (by decide +kernel)) (pureStr (by decide +kernel)) (Nat.le_trans (Nat.min_le_left _ _) (Nat.le_of_ble_eq_true rfl)) true (eqS "a") ⟨false, rfl, ?_⟩
    (first | refine iteN (by decide) ?_ | rw [if_neg (by decide)])
    exact ss_nil (ss_nil ⟨rfl, fun v hv => hr v (.tail _ hv)⟩)
  · rintro m1 S2 ⟨rfl, _⟩
    exact ss_nil (h _ s1)

/-- Operators.declare -/
noncomputable def addAll (T : Tb) (h : Int) (x : Str) (as : List Int) : Tb := as.foldl (fun T a => T.add h x a) T
theorem Tb.tb_len (T : Tb) (h : Int) (x : Str) (a : Int) : ((T.add h x a).tb x).length ≤ (T.tb x).length + 1 := by
  have u : ∀ es : List Ent, (upd1 es h x a).length ≤ es.length + 1 := fun es => by
    unfold upd1
    split
    · exact aSet_len _ _ _
    · unfold aDel; exact Nat.le_succ_of_le (List.length_filter_le _ _)
  unfold Tb.add Tb.tb
  split
  · exact u _
  · split
    · exact u _
    · exact u _
theorem Ops.lt {O : OL} {L : SL} {T : Tb} (hO : Ops S O L T) : ∀ l ∈ [O.o, O.p, O.i, O.q], l < S.length := fun l hl => by
  simp only [List.mem_cons, List.not_mem_nil, or_false] at hl
  rcases hl with rfl | rfl | rfl | rfl
  · exact (List.getElem?_eq_some_iff.mp hO.o).1
  · exact (List.getElem?_eq_some_iff.mp hO.p).1
  · exact (List.getElem?_eq_some_iff.mp hO.i).1
  · exact (List.getElem?_eq_some_iff.mp hO.q).1
theorem Ops.off {O : OL} {L : SL} {T : Tb} {ts : List Str} {fs : List (Int × Int)} (hO : Ops S O L T) (hS : Sym S L ts fs) (hd : L.a ∉ O.D) : (∀ l ∈ [O.o, O.p, O.i, O.q], l ∉ L.D) ∧ ∀ l ∈ [L.n, L.t, L.a, L.f, L.g], l ∉ O.D := by
  obtain ⟨nums, ha, _⟩ := hS.a
  obtain ⟨fns, hg, _⟩ := hS.g
  have ne : ∀ {l l' : Nat} {mo mo' : MO}, S[l]? = some mo → S[l']? = some mo' → mo ≠ mo' → l ≠ l' := fun e e' n q => by subst q; rw [e] at e'; cases e'; exact n rfl
  have d1 : O.p ≠ L.a := fun q => hd (by simp [OL.D, q])
  have d2 : O.i ≠ L.a := fun q => hd (by simp [OL.D, q])
  have d3 : O.q ≠ L.a := fun q => hd (by simp [OL.D, q])
  constructor
  · intro l hl
    simp only [SL.D, List.mem_cons, List.not_mem_nil, or_false, not_or]
    simp only [List.mem_cons, List.not_mem_nil, or_false] at hl
    rcases hl with rfl | rfl | rfl | rfl
    · exact ⟨ne hO.o hS.t nofun, ne hO.o ha nofun, ne hO.o hS.f nofun, ne hO.o hg nofun⟩
    · exact ⟨ne hO.p hS.t nofun, d1, ne hO.p hS.f nofun, ne hO.p hg nofun⟩
    · exact ⟨ne hO.i hS.t nofun, d2, ne hO.i hS.f nofun, ne hO.i hg nofun⟩
    · exact ⟨ne hO.q hS.t nofun, d3, ne hO.q hS.f nofun, ne hO.q hg nofun⟩
  · intro l hl
    simp only [OL.D, List.mem_cons, List.not_mem_nil, or_false, not_or]
    simp only [List.mem_cons, List.not_mem_nil, or_false] at hl
    rcases hl with rfl | rfl | rfl | rfl | rfl
    · exact ⟨ne hS.n hO.p nofun, ne hS.n hO.i nofun, ne hS.n hO.q nofun⟩
    · exact ⟨ne hS.t hO.p nofun, ne hS.t hO.i nofun, ne hS.t hO.q nofun⟩
    · exact ⟨d1.symm, d2.symm, d3.symm⟩
    · exact ⟨ne hS.f hO.p nofun, ne hS.f hO.i nofun, ne hS.f hO.q nofun⟩
    · exact ⟨ne hg hO.p nofun, ne hg hO.i nofun, ne hg hO.q nofun⟩

theorem f_declare {O : OL} {L : SL} {T : Tb} {ts : List Str} {fs : List (Int × Int)} {h c : Int} {kn : Nat} {x : Str} {cs : List Int} (hO : Ops S O L T) (hS : Sym S L ts fs) (hd : L.a ∉ O.D) (hz : ts.length ≤ 8000) (hz2 : fs.length ≤ 9000) (hlen : cs.length ≤ 3) (htb : (T.tb x).length ≤ 8000)
    (h0 : 0 ≤ h) (h12 : h ≤ 1200) (hkn : ts[kn]? = some x) (hfx : fixV x ≠ .none) (hc : cs ≠ [] → c = 0)
    (h1 : (∀ a ∈ asOf c cs, refused T h x a = false) → ∀ S', Ops S' O L (addAll T h x (asOf c cs)) → Sym S' L ts fs → Same O.D S S' → P .none S')
    (h2 : ∀ pre a post, asOf c cs = pre ++ a :: post → (∀ b ∈ pre, refused T h x b = false) → refused T h x a = true → ∀ S', Ops S' O L T → Sym S' L (tsE ts (actOf a)) (fsE ts fs (actOf a)) → Same L.D S S' → E (ballE ts fs (actOf a) a) S') :
    Fn PG w (KK w) 316 [.loc O.o, .tup [strV "i", .int h], atomV kn, chain c cs] S P E 8 := by
  refine fn_intro (ns := ["self", "priority_term", "type_term", "name_term"]) rfl rfl (fun vs hv => by obtain ⟨v, u, t, y, rfl⟩ := args4 hv; rfl) (by decide) (by decide) rfl rfl rfl (fun A₀ base outer g L' k hk => ?_)
  have nn : ∀ l ∈ [O.o, O.p, O.i, O.q], l ∉ ([] : List Nat) := fun _ _ => List.not_mem_nil
  refine ss_cons (asg (me (C := 347) (f := 323) (nm ⟨O.o, _, rfl, hO.o, rfl, ec (nm (es_nil (Fn.le (f_names (c := c) (cs := cs) (by omega) fun S1 li s1 hli hl => ?_) (Nat.le_trans (by decide) hk))))⟩)))
  have hO1 := hO.same s1 nn
  refine ss_cons (exs (me (C := 347) (f := 330) (nm ⟨O.o, _, rfl, hO1.o, rfl, ec (nm (ec (nm (ec (nm (ec (nm (es_nil (Fn.le (f_inst (c := c) (cs := cs) (by omega) hl fun S2 s2 => ?_) (Nat.le_trans (by decide) hk))))))))))⟩)))
  have hO2 := hO1.same s2 nn
  have hl2 := s2.get hl List.not_mem_nil
  refine ss_cons (exs (me (C := 347) (f := 337) (nm ⟨O.o, _, rfl, hO2.o, rfl, ec (nm (ec (nm (ec (nm (ec (nm (es_nil (Fn.le (f_types (c := c) (cs := cs) (by omega) hc hl2 fun S3 s3 => ?_) (Nat.le_trans (by decide) hk))))))))))⟩)))
  have hO3 := hO2.same s3 nn
  have hl3 := s3.get hl2 List.not_mem_nil
  have s13 := (s1.trans s2).trans s3
  have hS3 := hS.same s13 fun _ _ => List.not_mem_nil
  refine ss_cons (asg (ex_sub (nm (ex_int (sub_tup (x := .int h) (by decide) (by decide) rfl (fun _ _ => by with_unfolding_all rfl) ?_)))))
  refine ss_cons (asg (me (C := 154) (f := 95) (at' (C := 347) (nm ⟨O.o, _, _, rfl, hO3.o, rfl, L.n, _, rfl, hS3.n, rfl, ec (ex_sub (nm (ex_int (sub_tup (x := .int kn) (by decide) (by decide) rfl (fun _ _ => by with_unfolding_all rfl) (es_nil (Fn.le (f_text hS3 hkn (by omega) ?_) (Nat.le_trans (by decide) hk)))))))⟩))))
  refine ss_cons (sx_if (te_bool (tes_or (cmp (nm (ex_int (op_lt ⟨_, rfl, ?_⟩)))))))
  (first | refine iteN (by first | exact dcN h0 | exact ncN h0 | simpa using h0) ?_ | rw [if_neg (by first | exact dcN h0 | exact ncN h0 | simpa using h0)])
  refine tes_or (cmp (nm (gint (op_gt ⟨_, rfl, ?_⟩))))
  (first | refine iteN (by first | exact dcN h12 | exact ncN h12 | simpa using h12) ?_ | rw [if_neg (by first | exact dcN h12 | exact ncN h12 | simpa using h12)])
  refine tes_nil ?_
  (first | refine iteN (by decide) ?_ | rw [if_neg (by decide)])
  refine ss_nil (ss_cons (sx_if (cmp (cl (f := 231) (ec (nm (es_nil (Fn.le (f_fixity (ex_none (op_isNone (fun q => absurd q hfx) fun _ => ⟨false, rfl, ?_⟩))) (Nat.le_trans (by decide) hk)))))))))
  (first | refine iteN (by decide) ?_ | rw [if_neg (by decide)])
  generalize has : asOf c cs = as at hl3 h1 h2
  have hal : as.length ≤ 4 := by
    rw [← has]
    cases cs with
    | nil => simp [asOf]
    | cons a r => simp only [asOf]; omega
  refine ss_nil (ss_cut (fun m' S' => S' = S3 ∧ (∀ a ∈ as, refused T h x a = false) ∧ m' "items" = some (.loc li) ∧ m' "self" = some (.loc O.o) ∧ m' "priority" = some (.int h) ∧ m' "type_text" = some (.str x))
    (sx_for (fun _ => rfl) (itr_list (nm ⟨li, as.map atomV, rfl, hl3, (fun q => by cases q), fun rest m' S' => S' = S3 ∧ (m' "items" = some (.loc li) ∧ m' "self" = some (.loc O.o) ∧ m' "priority" = some (.int h) ∧ m' "type_text" = some (.str x)) ∧ ∃ pre rst, as = pre ++ rst ∧ rest = rst.map atomV ∧ ∀ b ∈ pre, refused T h x b = false,
      ⟨rfl, ⟨rfl, rfl, rfl, rfl⟩, [], as, rfl, rfl, nofun⟩, ?_, ?_, ?_⟩))) fun m1 S4 hq => ?_)
  · rintro rest m1 S4 ⟨rfl, _⟩ l mo q; cases q; exact hl3
  · rintro v rest m1 S4 ⟨rfl, ⟨e1, e2, e3, e4⟩, pre, rst, ea, er, hp⟩
    cases rst with
    | nil => cases er
    | cons a rst =>
      obtain ⟨rfl, rfl⟩ := List.cons.inj er
      refine tg_name rfl rfl rfl ?_
      refine ss_cons (exs (me (C := 347) (f := 344) (ex_local rfl ((updOf (by decide)).trans e2) rfl rfl ⟨O.o, _, rfl, hO3.o, rfl, ?_⟩)))
      refine ec (ex_local rfl ((updOf (by decide)).trans e3) rfl rfl (ec (ex_local rfl ((updOf (by decide)).trans e4) rfl rfl (ec (ex_sub (ex_local rfl updSelf rfl rfl (ex_int (sub_tup (x := .int a) (by decide) (by decide) rfl (fun _ _ => by with_unfolding_all rfl) (es_nil ?_)))))))))
      refine Fn.le (f_check hO3 hS3 hz hz2 (fun hr => ?_) fun hr S5 h5 s5 => ?_) (Nat.le_trans (by decide) hk)
      · refine ss_nil ⟨rfl, ⟨(updOf (by decide)).trans e1, (updOf (by decide)).trans e2, (updOf (by decide)).trans e3, (updOf (by decide)).trans e4⟩, pre ++ [a], rst, by rw [ea]; simp, rfl, fun b hb => ?_⟩
        rcases List.mem_append.mp hb with hb | hb
        · exact hp b hb
        · rw [List.mem_singleton.mp hb]; exact hr
      · exact h2 pre a rst ea hp hr S5 (hO3.same s5 (hO.off hS hd).1) h5 ((s13.mono (fun _ q => absurd q List.not_mem_nil)).trans s5)
  · rintro m1 S4 ⟨rfl, ⟨e1, e2, e3, e4⟩, pre, rst, ea, er, hp⟩
    cases rst with
    | nil => rw [List.append_nil] at ea; subst ea; exact ⟨rfl, rfl, hp, e1, e2, e3, e4⟩
    | cons a rst => cases er
  obtain ⟨rfl, hall, e1, e2, e3, e4⟩ := hq
  have hliD : li ∉ O.D := fun q => by
    have : li < S.length := hO.lt li (by
      simp only [OL.D, List.mem_cons, List.not_mem_nil, or_false] at q
      rcases q with rfl | rfl | rfl <;> simp)
    omega
  refine ss_cons (sx_for (fun _ => rfl) (itr_list (ex_local rfl e1 rfl rfl ⟨li, as.map atomV, rfl, hl3, (fun q => by cases q), fun rest m' S' => (m' "self" = some (.loc O.o) ∧ m' "priority" = some (.int h) ∧ m' "type_text" = some (.str x)) ∧ Same O.D S4 S' ∧ ∃ pre rst, as = pre ++ rst ∧ rest = rst.map atomV ∧ Ops S' O L (addAll T h x pre) ∧ ((addAll T h x pre).tb x).length ≤ 8000 + pre.length,
    ⟨⟨e2, e3, e4⟩, .refl _ _, [], as, rfl, rfl, hO3, by simpa [addAll] using htb⟩, ?_, ?_, ?_⟩)))
  · rintro rest m2 S5 ⟨_, s5, _⟩ l mo q; cases q; exact s5.get hl3 hliD
  · rintro v rest m2 S5 ⟨⟨f2, f3, f4⟩, s5, pre, rst, ea, er, h5, z5⟩
    cases rst with
    | nil => cases er
    | cons a rst =>
      obtain ⟨rfl, rfl⟩ := List.cons.inj er
      have hpl : pre.length ≤ 4 := by have := congrArg List.length ea; rw [List.length_append] at this; omega
      refine tg_name rfl rfl rfl ?_
      refine ss_cons (exs (me (C := 347) (f := 288) (ex_local rfl ((updOf (by decide)).trans f2) rfl rfl ⟨O.o, _, rfl, h5.o, rfl, ?_⟩)))
      refine ec (ex_local rfl ((updOf (by decide)).trans f3) rfl rfl (ec (ex_local rfl ((updOf (by decide)).trans f4) rfl rfl (ec (ex_sub (ex_local rfl updSelf rfl rfl (ex_int (sub_tup (x := .int a) (by decide) (by decide) rfl (fun _ _ => by with_unfolding_all rfl) (es_nil ?_)))))))))
      refine Fn.le (f_add h5 (by omega) fun S6 h6 s6 => ?_) (Nat.le_trans (by decide) hk)
      have eadd : addAll T h x (pre ++ [a]) = (addAll T h x pre).add h x a := by unfold addAll; rw [List.foldl_append]; rfl
      refine ss_nil ⟨⟨(updOf (by decide)).trans f2, (updOf (by decide)).trans f3, (updOf (by decide)).trans f4⟩, s5.trans s6, pre ++ [a], rst, by rw [ea]; simp, rfl, by rw [eadd]; exact h6, ?_⟩
      rw [eadd, List.length_append, List.length_singleton]
      have := Tb.tb_len (addAll T h x pre) h x a
      omega
  · rintro m2 S5 ⟨⟨f2, f3, f4⟩, s5, pre, rst, ea, er, h5, z5⟩
    cases rst with
    | nil =>
      rw [List.append_nil] at ea; subst ea
      exact ss_nil (h1 hall S5 h5 (hS3.same s5 (hO.off hS hd).2) ((s13.mono (fun _ q => absurd q List.not_mem_nil)).trans s5))
    | cons a rst => cases er
end
end Mine

namespace Mine

noncomputable def rowOf (e : Ent) : Row := ⟨e.2.1, e.2.2, e.1⟩
noncomputable def rowsOf (T : Tb) : List Row := (T.pre ++ T.inf ++ T.pos).map rowOf

section
variable {w : World} {S : MS} {P : V → MS → Prop} {E : V → MS → Prop}

theorem set_app_last {mo mo' : MO} : (S ++ [mo]).set S.length mo' = S ++ [mo'] := by
  rw [List.set_append_right _ _ (Nat.le_refl _), Nat.sub_self]; rfl

/-- OperatorTable.rows -/
theorem f_rows {O : OL} {L : SL} {T : Tb} (hO : Ops S O L T) (hz : T.pre.length + T.inf.length + T.pos.length < 60) (h : ∀ S' l (ys : List Row), ys.Perm (rowsOf T) → Same [] S S' → S'[l]? = some (.list (ys.map Row.v)) → S.length ≤ l → P (.loc l) S') : Fn PG w (KK w) 295 [.loc O.o] S P E 2 := by
  refine fn_intro (ns := ["self"]) rfl rfl (fun vs hv => by obtain ⟨v, rfl⟩ := args1 hv; rfl) (by decide) (by decide) rfl rfl rfl (fun A₀ base outer g L' k hk => ?_)
  refine ss_cons (asg (lst (es_nil ⟨Nat.le_of_ble_eq_true rfl, ?_⟩)))
  have hlt := hO.lt
  have hO1 : ∀ mo, Ops (S ++ [mo]) O L T := fun mo => hO.same (.app [] _ _) fun _ _ => List.not_mem_nil
  have tlen : ∀ t ∈ [(O.p, T.pre), (O.i, T.inf), (O.q, T.pos)], S[t.1]? = some (.sdict (tab t.2)) := fun t ht => by
    simp only [List.mem_cons, List.not_mem_nil, or_false] at ht
    rcases ht with rfl | rfl | rfl
    · exact hO.p
    · exact hO.i
    · exact hO.q
  have tot : ((([(O.p, T.pre), (O.i, T.inf), (O.q, T.pos)] : List (Nat × List Ent)).flatMap (·.2)).map rowOf) = rowsOf T := by
    simp [rowsOf]
  have totl : ((([(O.p, T.pre), (O.i, T.inf), (O.q, T.pos)] : List (Nat × List Ent)).flatMap (·.2))).length < 60 := by
    simp; omega
  refine ss_cut (fun m' S' => m' "found" = some (.loc S.length) ∧ S' = S ++ [.list ((rowsOf T).map Row.v)]) (sx_for (fun _ => rfl) (itr_tup (tup (ec (at' (C := 347) (nm ⟨O.o, _, _, rfl, (hO1 _).o, rfl, ec (at' (C := 347) (nm ⟨O.o, _, _, rfl, (hO1 _).o, rfl, ec (at' (C := 347) (nm ⟨O.o, _, _, rfl, (hO1 _).o, rfl, es_nil ⟨Nat.le_of_ble_eq_true rfl, ?_⟩⟩))⟩))⟩)))))) fun m1 S1 hq => ?_
  · refine ⟨[.loc O.p, .loc O.i, .loc O.q], rfl, (fun q => by cases q), fun rest m' S' => m' "found" = some (.loc S.length) ∧ ∃ dn rst, [(O.p, T.pre), (O.i, T.inf), (O.q, T.pos)] = dn ++ rst ∧ rest = rst.map (fun t => V.loc t.1) ∧ S' = S ++ [.list (((dn.flatMap (·.2)).map rowOf).map Row.v)], ⟨rfl, [], _, rfl, rfl, rfl⟩, ?_, ?_, ?_⟩
    · intro rest m S h l mo q; cases q
    · rintro v rest m1 S1 ⟨e1, dn, rst, ea, er, rfl⟩
      cases rst with
      | nil => cases er
      | cons t rst =>
        obtain ⟨rfl, rfl⟩ := List.cons.inj er
        obtain ⟨l, en⟩ := t
        have hl := tlen (l, en) (by rw [ea]; simp)
        have hll : l < S.length := (List.getElem?_eq_some_iff.mp hl).1
        have hlS : ∀ mo, (S ++ [mo])[l]? = some (.sdict (tab en)) := fun mo => (List.getElem?_append_left hll).trans hl
        have dl : (dn.flatMap (·.2)).length + en.length < 60 := by
          have := congrArg (fun z : List (Nat × List Ent) => (z.flatMap (·.2)).length) ea
          simp only [List.flatMap_append, List.flatMap_cons, List.length_append, List.flatMap_nil, List.length_nil] at this
          omega
        refine tg_name rfl rfl rfl ?_
        refine ss_cons (sx_for (fun _ => rfl) (itr_items (fun _ => rfl) rfl (ex_local rfl updSelf rfl rfl ⟨l, tab en, rfl, hlS _, fun ob => ⟨fun _ => rfl, fun rest' m' S' => m' "found" = some (.loc S.length) ∧ ∃ d r, en = d ++ r ∧ rest' = (tab r).map (fun e => V.tup [e.1.v, e.2]) ∧ S' = (S ++ [MO.list (((dn.flatMap (·.2) ++ d).map rowOf).map Row.v)]).set l (.lockS (tab en) ob), ⟨(updOf (by decide)).trans e1, [], en, rfl, rfl, by rw [List.append_nil]⟩, ?_, ?_, ?_⟩⟩)))
        · rintro rest' m2 S2 ⟨_, d, r, _, _, rfl⟩ l' mo q
          cases q
          exact List.getElem?_set_self (by simp; omega)
        · rintro v rest' m2 S2 ⟨f1, d, r, rfl, er', rfl⟩
          cases r with
          | nil => cases er'
          | cons e r =>
            obtain ⟨rfl, rfl⟩ := List.cons.inj er'
            have hne : l ≠ S.length := Nat.ne_of_lt hll
            have hlist : ((S ++ [MO.list (((dn.flatMap (·.2) ++ d).map rowOf).map Row.v)]).set l (.lockS (tab (d ++ e :: r)) ob))[S.length]? = some (.list (((dn.flatMap (·.2) ++ d).map rowOf).map Row.v)) := (List.getElem?_set_ne hne).trans get_app_self
            refine tg_tuple rfl rfl ?_
            refine tg_name rfl rfl rfl (tg_name rfl rfl rfl ?_)
            refine ss_cons (exs (bm F.plainAttrs_list F.slot_list_append F.type_list_append (ex_local rfl ((updOf (by decide)).trans ((updOf (by decide)).trans f1)) rfl rfl ⟨Of.list hlist, ec (tup (ec (ex_sub (ex_local rfl updSelf rfl rfl (ex_int (sub_tup (x := .int e.2.1) (by decide) (by decide) rfl (fun _ _ => by with_unfolding_all rfl) ?_))))))⟩)))
            refine ec (ex_sub (ex_local rfl updSelf rfl rfl (ex_int (sub_tup (x := .str e.2.2) (by decide) (by decide) rfl (fun _ _ => by with_unfolding_all rfl) ?_))))
            refine ec (ex_local rfl ((updOf (by decide)).trans updSelf) rfl rfl (es_nil ⟨Nat.le_of_ble_eq_true rfl, es_nil (opL_append hlist ?_ ?_)⟩))
            · simp only [List.length_map, List.length_append, List.length_cons] at dl ⊢; omega
            · refine ss_nil ⟨(updOf (by decide)).trans ((updOf (by decide)).trans f1), d ++ [e], r, by simp, rfl, ?_⟩
              rw [List.set_comm _ _ hne, set_app_last]
              congr 2
              simp [rowOf, Row.v]
              rfl
        · rintro m2 S2 ⟨f1, d, r, rfl, er', rfl⟩
          cases r with
          | cons e r => cases er'
          | nil =>
            refine aw.unlockS (es := tab (d ++ [])) (List.getElem?_set_self (by simp; omega)) (ss_nil ⟨f1, dn ++ [(l, d ++ [])], rst, by rw [ea]; simp, rfl, ?_⟩)
            rw [List.set_set, set_noop (hlS _)]
            simp
    · rintro m1 S1 ⟨e1, dn, rst, ea, er, rfl⟩
      cases rst with
      | cons t rst => cases er
      | nil =>
        rw [List.append_nil] at ea
        refine ⟨rfl, e1, ?_⟩
        rw [← ea, tot]
  obtain ⟨e1, rfl⟩ := hq
  have hrl : (rowsOf T).length < 64 := by unfold rowsOf; simp; omega
  exact ss_cons (sx_return (bi (ec (ex_local rfl e1 rfl rfl (es_nil (opL_sorted get_app_self hrl fun ys hy => h _ _ ys hy ((Same.app _ _ _).trans (.app _ _ _)) get_app_self (by simp)))))))
end
end Mine

namespace Mine

noncomputable def kinds : List Str := ["xfx", "xfy", "yfx", "fx", "fy", "xf", "yf"]
noncomputable def sideOf (x : Str) : Str := if isPre x = true then "before" else if isPos x = true then "behind" else "between"

section
variable {w : World} {S : MS} {P : V → MS → Prop} {E : V → MS → Prop}

theorem charF (c : Nat) : (V.str ⟨#[c]⟩ = strV "f") ↔ decide (c = 102) = true := by
  rw [decide_eq_true_eq]
  have e : Str.ofString "f" = ⟨#[102]⟩ := by decide
  unfold strV
  rw [e]
  refine ⟨fun z => ?_, fun z => by rw [z]⟩
  injection z with z; injection z with z
  have := congrArg (fun a : Array Nat => a[0]?) z
  simpa using this
theorem char_pure {c : Nat} (h : c < 0x110000) : (V.str ⟨#[c]⟩).pure = true := by
  refine pureStr ?_
  unfold PyData.strOk
  simpa using h

/-- _law_side -/
theorem f_side0 {x side : Str} {c0 c1 : Nat} (h0 : (seqIndex? 0 x.length).bind (x.cps[·]?) = some c0) (h1 : (seqIndex? (-1) x.length).bind (x.cps[·]?) = some c1) (l0 : c0 < 0x110000) (l1 : c1 < 0x110000)
    (hs : side = if c0 = 102 then "before" else if c1 = 102 then "behind" else "between") (h : P (.str side) S) : Fn PG w (KK w) 370 [.str x] S P E 1 := by
  refine fn_intro (ns := ["kind"]) rfl rfl (fun vs hv => by obtain ⟨v, rfl⟩ := args1 hv; rfl) (by decide) (by decide) rfl rfl rfl (fun A₀ base outer g L' k hk => ?_)
  refine ss_cons (sx_if (cmp (ex_sub (nm (ex_int (sub_str (by decide) h0 (fun _ _ => by with_unfolding_all rfl) (ex_str ?_)))))))
  refine op_eqb (char_pure l0) (pureStr (by decide +kernel)) (Nat.le_trans (Nat.min_le_left _ _) (Nat.le_of_ble_eq_true rfl)) (decide (c0 = 102)) (charF c0) ⟨_, rfl, ?_⟩
  by_cases q : c0 = 102
  · (first | refine iteP (by first | exact dcP q | exact ncP q | simpa using q) ?_ | rw [if_pos (by first | exact dcP q | exact ncP q | simpa using q)])
    rw [if_pos q] at hs
    rw [hs] at h
    exact ss_cons (sx_return (ex_str h))
  · (first | refine iteN (by first | exact dcN q | exact ncN q | simpa using q) ?_ | rw [if_neg (by first | exact dcN q | exact ncN q | simpa using q)])
    rw [if_neg q] at hs
    refine ss_nil (ss_cons (sx_return (ex_if (cmp (ex_sub (nm (ex_neg (sub_str (by decide) h1 (fun _ _ => by with_unfolding_all rfl) (ex_str ?_)))))))))
    refine op_eqb (char_pure l1) (pureStr (by decide +kernel)) (Nat.le_trans (Nat.min_le_left _ _) (Nat.le_of_ble_eq_true rfl)) (decide (c1 = 102)) (charF c1) ⟨_, rfl, ?_⟩
    refine ite_str ?_
    rw [hs] at h
    by_cases q1 : c1 = 102
    · rw [if_pos q1] at h
      (first | refine iteP (by first | exact dcP q1 | exact ncP q1 | simpa using q1) ?_ | rw [if_pos (by first | exact dcP q1 | exact ncP q1 | simpa using q1)]); exact h
    · rw [if_neg q1] at h
      (first | refine iteN (by first | exact dcN q1 | exact ncN q1 | simpa using q1) ?_ | rw [if_neg (by first | exact dcN q1 | exact ncN q1 | simpa using q1)]); exact h
theorem f_side {x : Str} (hx : x ∈ kinds) (h : P (.str (sideOf x)) S) : Fn PG w (KK w) 370 [.str x] S P E 1 := by
  simp only [kinds, List.mem_cons, List.not_mem_nil, or_false] at hx
  rcases hx with rfl | rfl | rfl | rfl | rfl | rfl | rfl
  · exact f_side0 (c0 := 120) (c1 := 120) (by decide +kernel) (by decide +kernel) (by decide) (by decide) (by decide +kernel) h
  · exact f_side0 (c0 := 120) (c1 := 121) (by decide +kernel) (by decide +kernel) (by decide) (by decide) (by decide +kernel) h
  · exact f_side0 (c0 := 121) (c1 := 120) (by decide +kernel) (by decide +kernel) (by decide) (by decide) (by decide +kernel) h
  · exact f_side0 (c0 := 102) (c1 := 120) (by decide +kernel) (by decide +kernel) (by decide) (by decide) (by decide +kernel) h
  · exact f_side0 (c0 := 102) (c1 := 121) (by decide +kernel) (by decide +kernel) (by decide) (by decide) (by decide +kernel) h
  · exact f_side0 (c0 := 120) (c1 := 102) (by decide +kernel) (by decide +kernel) (by decide) (by decide) (by decide +kernel) h
  · exact f_side0 (c0 := 121) (c1 := 102) (by decide +kernel) (by decide +kernel) (by decide) (by decide) (by decide +kernel) h
end
end Mine

namespace Mine

section
variable {κ κ' α α' : Type} [DecidableEq κ] [DecidableEq κ']
theorem aGet_map (f : κ → κ') (hf : ∀ a b, f a = f b → a = b) (g : α → α') (es : List (κ × α)) (k : κ) : aGet (es.map fun e => (f e.1, g e.2)) (f k) = (aGet es k).map g := by
  unfold aGet
  induction es with
  | nil => rfl
  | cons e es ih =>
    rw [List.map_cons, List.find?_cons, List.find?_cons]
    by_cases q : e.1 = k
    · simp [q]
    · have q2 : ¬ f e.1 = f k := fun z => q (hf _ _ z)
      simp only [q, q2, decide_false]; exact ih
theorem aSet_map (f : κ → κ') (hf : ∀ a b, f a = f b → a = b) (g : α → α') (es : List (κ × α)) (k : κ) (v : α) : aSet (es.map fun e => (f e.1, g e.2)) (f k) (g v) = (aSet es k v).map fun e => (f e.1, g e.2) := by
  have hany : ((es.map fun e => (f e.1, g e.2)).any fun e => decide (e.1 = f k)) = es.any fun e => decide (e.1 = k) := by
    rw [List.any_map]
    congr 1
    funext e
    by_cases q : e.1 = k
    · simp [q]
    · have q2 : ¬ f e.1 = f k := fun z => q (hf _ _ z)
      simp [q, q2]
  unfold aSet
  rw [hany]
  split
  · rw [List.map_map, List.map_map]
    apply List.map_congr_left
    intro e _
    by_cases q : e.1 = k
    · simp [q]
    · have q2 : ¬ f e.1 = f k := fun z => q (hf _ _ z)
      simp [q, q2]
  · rw [List.map_append]; rfl
noncomputable def Fin' (es : List (κ × α)) : Prop := (es.map (·.1)).Nodup
theorem Fin'.set {es : List (κ × α)} (h : Fin' es) (k : κ) (v : α) : Fin' (aSet es k v) := by
  unfold Fin' aSet at *
  split
  · have : (es.map fun e => if e.1 = k then (e.1, v) else e).map (·.1) = es.map (·.1) := by
      rw [List.map_map]
      apply List.map_congr_left
      intro e _
      show (if e.1 = k then (e.1, v) else e).1 = e.1
      split <;> rfl
    rw [this]; exact h
  · rename_i hn
    rw [List.map_append, List.nodup_append]
    refine ⟨h, by simp, fun a ha b hb => ?_⟩
    simp only [List.map_cons, List.map_nil, List.mem_singleton] at hb
    subst hb
    rintro rfl
    obtain ⟨e, he, hk⟩ := List.mem_map.mp ha
    exact hn (List.any_eq_true.mpr ⟨e, he, by simpa using hk⟩)
theorem Fin'.del {es : List (κ × α)} (h : Fin' es) (k : κ) : Fin' (aDel es k) := by
  unfold Fin' aDel at *
  exact h.sublist (List.Sublist.map _ List.filter_sublist)
theorem Fin'.get {es : List (κ × α)} (h : Fin' es) {e : κ × α} (he : e ∈ es) : aGet es e.1 = some e.2 := by
  unfold Fin' at h
  unfold aGet
  induction es with
  | nil => cases he
  | cons x es ih =>
    rw [List.map_cons, List.nodup_cons] at h
    rw [List.find?_cons]
    rcases List.mem_cons.mp he with rfl | he
    · simp
    · have : ¬ x.1 = e.1 := fun z => h.1 (z ▸ List.mem_map_of_mem he)
      simp only [this, decide_false]
      exact ih h.2 he
theorem aGet_mem {es : List (κ × α)} {k : κ} {v : α} (h : aGet es k = some v) : (k, v) ∈ es := by
  unfold aGet at h
  cases q : es.find? fun e => decide (e.1 = k) with
  | none => rw [q] at h; cases h
  | some e =>
    rw [q] at h
    have h1 := List.mem_of_find?_eq_some q
    have h2 := List.find?_some q
    simp only [decide_eq_true_eq] at h2
    cases h
    rw [← h2]; exact h1
theorem aGet_del (es : List (κ × α)) (k k' : κ) : aGet (aDel es k) k' = if k' = k then none else aGet es k' := by
  unfold aGet aDel
  induction es with
  | nil => simp
  | cons e es ih =>
    rw [List.filter_cons, List.find?_cons]
    by_cases q : e.1 = k
    · simp only [q, ne_eq, not_true_eq_false, decide_false]
      rw [if_neg Bool.false_ne_true, ih]
      by_cases r : k' = k
      · simp [r]
      · have : ¬ k = k' := fun z => r z.symm
        simp [r, this]
    · simp only [ne_eq, q, not_false_eq_true, decide_true, if_true]
      rw [List.find?_cons]
      by_cases r : e.1 = k'
      · have : ¬ k' = k := fun z => q (r.trans z)
        simp [r, this]
      · simp only [r, decide_false]; exact ih
end

noncomputable abbrev Key := Str × Int
noncomputable abbrev St := List (Key × (Int × Str))
noncomputable def keySc (k : Key) : List Sc := [.str k.1, .int k.2]
noncomputable def valV (v : Int × Str) : V := .tup [.int v.1, .str v.2]
noncomputable def stD (es : St) : List (List Sc × V) := es.map fun e => (keySc e.1, valV e.2)
theorem keySc_inj (a b : Key) (h : keySc a = keySc b) : a = b := by
  unfold keySc at h
  injection h with h1 h2; injection h2 with h2; injection h1 with h1; injection h2 with h2
  exact Prod.ext h1 h2
theorem stD_get (es : St) (k : Key) : aGet (stD es) (keySc k) = (aGet es k).map valV := aGet_map keySc keySc_inj valV es k
theorem stD_set (es : St) (k : Key) (v : Int × Str) : aSet (stD es) (keySc k) (valV v) = stD (aSet es k v) := aSet_map keySc keySc_inj valV es k v
noncomputable def stOf (ys : List Row) : St := ys.foldl (fun es r => aSet es (sideOf r.b, r.c) (r.a, r.b)) []

section
variable {w : World} {S : MS} {P : V → MS → Prop} {E : V → MS → Prop}
/-- _law_state -/
theorem f_state {O : OL} {L : SL} {T : Tb} (hO : Ops S O L T) (hz : T.pre.length + T.inf.length + T.pos.length < 60) (hk : ∀ r ∈ rowsOf T, r.b ∈ kinds) (h : ∀ S' l (ys : List Row), ys.Perm (rowsOf T) → Same [] S S' → S'[l]? = some (.tdict (stD (stOf ys))) → S.length ≤ l → P (.loc l) S') : Fn PG w (KK w) 377 [.loc O.o] S P E 4 := by
  refine fn_intro (ns := ["operators"]) rfl rfl (fun vs hv => by obtain ⟨v, rfl⟩ := args1 hv; rfl) (by decide) (by decide) rfl rfl rfl (fun A₀ base outer g L' k hk' => ?_)
  refine ss_cons (asg (ex_tdict ?_))
  have hO1 := hO.same (.app [] S [.tdict []]) fun _ _ => List.not_mem_nil
  refine ss_cons (sx_for (fun _ => rfl) (itr_list (me (C := 347) (f := 295) (nm ⟨O.o, _, rfl, hO1.o, rfl, es_nil (Fn.le (f_rows hO1 hz fun S1 l1 ys hp s1 hl hge => ?_) (Nat.le_trans (by decide) hk'))⟩))))
  have hb : S.length < S1.length := Nat.lt_of_lt_of_le (by simp) s1.1
  have hne : l1 ≠ S.length := by simp at hge; omega
  have hd : S1[S.length]? = some (.tdict []) := s1.get get_app_self List.not_mem_nil
  have hyl : ys.length < 60 := by rw [hp.length_eq]; unfold rowsOf; simp; omega
  refine ⟨l1, ys.map Row.v, rfl, hl, (fun q => by cases q), fun rest m' S' => m' "state" = some (.loc S.length) ∧ ∃ dn rst, ys = dn ++ rst ∧ rest = rst.map Row.v ∧ S' = S1.set S.length (.tdict (stD (stOf dn))) ∧ (stOf dn).length ≤ dn.length, ⟨rfl, [], ys, rfl, rfl, (set_noop hd).symm, Nat.le_refl _⟩, ?_, ?_, ?_⟩
  · rintro rest m2 S2 ⟨_, dn, rst, _, _, rfl, _⟩ l mo q
    cases q
    exact (List.getElem?_set_ne (Ne.symm hne)).trans hl
  · rintro v rest m2 S2 ⟨e1, dn, rst, ea, er, rfl, hz2⟩
    cases rst with
    | nil => cases er
    | cons r rst =>
      obtain ⟨rfl, rfl⟩ := List.cons.inj er
      have hr : r.b ∈ kinds := hk r (hp.mem_iff.mp (by rw [ea]; simp))
      have hdl : dn.length < 60 := by have := congrArg List.length ea; rw [List.length_append] at this; omega
      refine tg_tuple rfl rfl ?_
      refine tg_name rfl rfl rfl (tg_name rfl rfl rfl (tg_name rfl rfl rfl ?_))
      refine ss_cons (sx_setT rfl (tup (ec (ex_local rfl ((updOf (by decide)).trans ((updOf (by decide)).trans updSelf)) rfl rfl (ec (ex_local rfl ((updOf (by decide)).trans updSelf) rfl rfl (es_nil ⟨Nat.le_of_ble_eq_true rfl, ?_⟩)))))))
      refine ex_local rfl ((updOf (by decide)).trans ((updOf (by decide)).trans ((updOf (by decide)).trans e1))) rfl rfl ?_
      refine tup (ec (cl (f := 370) (ec (ex_local rfl ((updOf (by decide)).trans updSelf) rfl rfl (es_nil (Fn.le (f_side hr ?_) (Nat.le_trans (by decide) hk')))))))
      refine ec (ex_local rfl updSelf rfl rfl (es_nil ⟨Nat.le_of_ble_eq_true rfl, S.length, stD (stOf dn), keySc (sideOf r.b, r.c), rfl, rfl, List.getElem?_set_self hb, by unfold stD; rw [List.length_map]; omega, ?_⟩))
      have es : stOf (dn ++ [r]) = aSet (stOf dn) (sideOf r.b, r.c) (r.a, r.b) := by unfold stOf; rw [List.foldl_append]; rfl
      refine ss_nil ⟨(updOf (by decide)).trans ((updOf (by decide)).trans ((updOf (by decide)).trans e1)), dn ++ [r], rst, by rw [ea]; simp, rfl, ?_, ?_⟩
      · rw [List.set_set, es, ← stD_set]; rfl
      · rw [es, List.length_append, List.length_singleton]
        exact Nat.le_trans (aSet_len _ _ _) (Nat.succ_le_succ hz2)
  · rintro m2 S2 ⟨e1, dn, rst, ea, er, rfl, hz2⟩
    cases rst with
    | cons r rst => cases er
    | nil =>
      rw [List.append_nil] at ea; subst ea
      refine ss_cons (sx_return (ex_local rfl e1 rfl rfl (h _ S.length ys hp ⟨?_, fun l q1 _ => ?_⟩ (List.getElem?_set_self hb) (Nat.le_refl _))))
      · simp; omega
      · rw [List.getElem?_set_ne (Ne.symm (Nat.ne_of_lt q1))]
        exact ((Same.app [] S _).trans s1).2 l q1 List.not_mem_nil
end
end Mine

namespace Mine

/-- what an entry of a sound table is -/
noncomputable def okE (es : St) (k : Key) (v : Int × Str) : Bool :=
  !(decide (v.1 < 1) || (decide (v.1 > 1200) || !decide (k.1 = sideOf v.2))) && (!(decide (k.2 = 0) || (decide (k.2 = 2) || (decide (k.2 = 7) && !decide (v = ((1000 : Int), Str.ofString "xfy"))))) &&
    (!(decide (k.2 = 8) && (!decide (k.1 = Str.ofString "between") || decide (v.1 < 1001))) && !(decide (k.1 = Str.ofString "between") && (aGet es ("behind", k.2)).isSome)))
noncomputable def soundB (es : St) : Bool := es.all (fun e => okE es e.1 e.2) && (aGet es ("between", 7)).isSome
noncomputable abbrev sBef : Str := Str.ofString "before"
noncomputable abbrev sBeh : Str := Str.ofString "behind"
noncomputable abbrev sBet : Str := Str.ofString "between"
noncomputable def okP (f : Key → Option (Int × Str)) (k : Key) (v : Int × Str) : Prop := 1 ≤ v.1 ∧ v.1 ≤ 1200 ∧ k.1 = sideOf v.2 ∧ k.2 ≠ 0 ∧ k.2 ≠ 2 ∧ (k.2 = 7 → v = ((1000 : Int), Str.ofString "xfy")) ∧ (k.2 = 8 → k.1 = sBet ∧ 1001 ≤ v.1) ∧ (k.1 = sBet → f (sBeh, k.2) = none)
theorem ok_iff (es : St) (k : Key) (v : Int × Str) : okE es k v = true ↔ okP (aGet es) k v := by
  unfold okE okP
  simp only [Bool.and_eq_true, Bool.not_eq_true', Bool.or_eq_false_iff, decide_eq_false_iff_not, Bool.not_eq_false', decide_eq_true_eq, Bool.and_eq_false_iff, Option.isSome_eq_false_iff, Option.isNone_iff_eq_none]
  constructor
  · rintro ⟨⟨a1, a2, a3⟩, ⟨b1, b2, b3⟩, c, d⟩
    refine ⟨by omega, by omega, a3, b1, b2, fun q => b3.resolve_left fun z => z q, fun q => ?_, fun q => d.resolve_left fun z => z q⟩
    have := c.resolve_left fun z => z q
    exact ⟨this.1, by omega⟩
  · rintro ⟨a1, a2, a3, b1, b2, b3, c, d⟩
    refine ⟨⟨by omega, by omega, a3⟩, ⟨b1, b2, ?_⟩, ?_, ?_⟩
    · by_cases q : k.2 = 7
      · exact .inr (b3 q)
      · exact .inl q
    · by_cases q : k.2 = 8
      · exact .inr ⟨(c q).1, by have := (c q).2; omega⟩
      · exact .inl q
    · by_cases q : k.1 = sBet
      · exact .inr (d q)
      · exact .inl q
theorem side_pure {x : Str} (hx : x ∈ kinds) : (V.str (sideOf x)).pure = true := by
  unfold sideOf
  split
  · exact pureStr (by decide +kernel)
  · split <;> exact pureStr (by decide +kernel)
theorem kind_pure {x : Str} (hx : x ∈ kinds) : (V.str x).pure = true := by
  simp only [kinds, List.mem_cons, List.not_mem_nil, or_false] at hx
  rcases hx with rfl | rfl | rfl | rfl | rfl | rfl | rfl <;> exact pureStr (by decide +kernel)
noncomputable def sides : List Str := ["before", "behind", "between"]
theorem sides_pure {x : Str} (hx : x ∈ sides) : (V.str x).pure = true := by
  simp only [sides, List.mem_cons, List.not_mem_nil, or_false] at hx
  rcases hx with rfl | rfl | rfl <;> exact pureStr (by decide +kernel)
theorem strEq (a b : Str) : (V.str a = V.str b) ↔ decide (a = b) = true := by
  rw [decide_eq_true_eq]; exact ⟨fun z => by injection z, fun z => by rw [z]⟩

section
variable {w : World} {S : MS} {P : V → MS → Prop} {E : V → MS → Prop}
theorem sdep (a : Str) (v : V) : min (V.str a).py.depth v.py.depth ≤ 20 := Nat.le_trans (Nat.min_le_left _ _) (Nat.le_of_ble_eq_true rfl)

theorem ss_cutR {X : Cx} {m : Loc} {P : Fl → Loc → MS → Prop} {st : Stmt} {l : List Stmt} (Q : Loc → MS → Prop) (h : sx PG w (KK w) X st m S (fun f m' S' => match f with | .next => Q m' S' | f => P f m' S') E) (k : ∀ m' S', Q m' S' → ss PG w (KK w) X l m' S' P E) : ss PG w (KK w) X (st :: l) m S P E :=
  ss_cons (aw.mono h (fun f m' S' z => by
    cases f
    · exact k m' S' z
    · exact z
    · exact z
    · exact z) fun _ _ z => z)
/-- _law_sound -/
theorem f_sound {es : St} {l : Nat} (hl : S[l]? = some (.tdict (stD es))) (hf : Fin' es) (hk : ∀ e ∈ es, e.1.1 ∈ sides ∧ e.2.2 ∈ kinds) (h : P (.bool (soundB es)) S) : Fn PG w (KK w) 384 [.loc l] S P E 2 := by
  refine fn_intro (ns := ["state"]) rfl rfl (fun vs hv => by obtain ⟨v, rfl⟩ := args1 hv; rfl) (by decide) (by decide) rfl rfl rfl (fun A₀ base outer g L' k hk' => ?_)
  have hlt := (List.getElem?_eq_some_iff.mp hl).1
  refine ss_cons (sx_for (fun _ => rfl) (itr_keys (nm ⟨l, stD es, rfl, hl, fun o => ⟨(fun q => by cases q), fun rest m' S' => m' "state" = some (.loc l) ∧ S' = S.set l (.lockT (stD es) o) ∧ ∃ dn rst, es = dn ++ rst ∧ rest = (stD rst).map (fun e => tk e.1) ∧ ∀ e ∈ dn, okE es e.1 e.2 = true, ⟨rfl, rfl, [], es, rfl, rfl, nofun⟩, ?_, ?_, ?_⟩⟩)))
  · rintro rest m2 S2 ⟨_, rfl, _⟩ l' mo q; cases q; exact List.getElem?_set_self hlt
  · rintro v rest m2 S2 ⟨e1, rfl, dn, rst, ea, er, hok⟩
    cases rst with
    | nil => cases er
    | cons e rst =>
      obtain ⟨rfl, rfl⟩ := List.cons.inj er
      obtain ⟨⟨sd, a⟩, hh, x⟩ := e
      have hme : ((sd, a), hh, x) ∈ es := by rw [ea]; simp
      obtain ⟨hsd, hx⟩ := hk _ hme
      have hget := hf.get hme
      have hl2 : (S.set l (.lockT (stD es) o))[l]? = some (.lockT (stD es) o) := List.getElem?_set_self hlt
      have hs : soundB es = false → P (.bool false) S := fun q => q ▸ h
      -- a way out
      have out : ¬ okP (aGet es) (sd, a) (hh, x) → P (.bool false) ((S.set l (.lockT (stD es) o)).set l (.tdict (stD es))) := fun hno => by
        rw [List.set_set, set_noop hl]
        refine hs ?_
        unfold soundB
        rw [Bool.and_eq_false_iff]
        left
        rw [List.all_eq_false]
        exact ⟨_, hme, fun z => hno ((ok_iff es _ _).mp z)⟩
      refine tg_tuple rfl rfl ?_
      refine tg_name rfl rfl rfl (tg_name rfl rfl rfl ?_)
      refine ss_cons (sx_unpack rfl rfl (ex_sub (ex_local rfl ((updOf (by decide)).trans ((updOf (by decide)).trans e1)) rfl rfl ?_)))
      refine tup (ec (ex_local rfl ((updOf (by decide)).trans updSelf) rfl rfl (ec (ex_local rfl updSelf rfl rfl (es_nil ⟨Nat.le_of_ble_eq_true rfl, ?_⟩)))))
      refine sub_lockT (k := keySc (sd, a)) (x := valV (hh, x)) hl2 (by rw [stD_get, hget]; rfl) (fun _ _ => by with_unfolding_all rfl) ?_
      refine tg_tuple rfl rfl ?_
      refine tg_name rfl rfl rfl (tg_name rfl rfl rfl ?_)
      have f1 : (upd (upd (upd (upd m2 "side" (.str sd)) "a" (.int a)) "height" (.int hh)) "kind" (.str x)) "state" = some (.loc l) := (updOf (by decide)).trans ((updOf (by decide)).trans ((updOf (by decide)).trans ((updOf (by decide)).trans e1)))
      have f2 : (upd (upd (upd (upd m2 "side" (.str sd)) "a" (.int a)) "height" (.int hh)) "kind" (.str x)) "side" = some (.str sd) := (updOf (by decide)).trans ((updOf (by decide)).trans ((updOf (by decide)).trans updSelf))
      have f3 : (upd (upd (upd (upd m2 "side" (.str sd)) "a" (.int a)) "height" (.int hh)) "kind" (.str x)) "a" = some (.int a) := (updOf (by decide)).trans ((updOf (by decide)).trans updSelf)
      have f4 : (upd (upd (upd (upd m2 "side" (.str sd)) "a" (.int a)) "height" (.int hh)) "kind" (.str x)) "height" = some (.int hh) := (updOf (by decide)).trans updSelf
      have f5 : (upd (upd (upd (upd m2 "side" (.str sd)) "a" (.int a)) "height" (.int hh)) "kind" (.str x)) "kind" = some (.str x) := updSelf
      show ss _ _ _ _ _ (upd (upd (upd (upd m2 "side" (.str sd)) "a" (.int a)) "height" (.int hh)) "kind" (.str x)) _ _ _
      generalize (upd (upd (upd (upd m2 "side" (.str sd)) "a" (.int a)) "height" (.int hh)) "kind" (.str x)) = m3 at f1 f2 f3 f4 f5 ⊢
      -- the height and the side
      refine ss_cons (sx_if (te_bool (tes_or (cmp (ex_local rfl f4 rfl rfl (ex_int (op_lt ⟨_, rfl, ?_⟩)))))))
      by_cases c1 : hh < 1
      · (first | refine iteP (by first | exact dcP c1 | exact ncP c1 | simpa using c1) ?_ | rw [if_pos (by first | exact dcP c1 | exact ncP c1 | simpa using c1)]); (first | refine iteP rfl ?_ | rw [if_pos rfl])
        exact aw.unlockT hl2 (ss_cons (sx_return (ex_bool (out fun z => Int.not_le.mpr c1 z.1))))
      (first | refine iteN (by first | exact dcN c1 | exact ncN c1 | simpa using c1) ?_ | rw [if_neg (by first | exact dcN c1 | exact ncN c1 | simpa using c1)])
      refine tes_or (cmp (ex_local rfl f4 rfl rfl (ex_int (op_gt ⟨_, rfl, ?_⟩))))
      by_cases c2 : 1200 < hh
      · (first | refine iteP (by first | exact dcP c2 | exact ncP c2 | simpa using c2) ?_ | rw [if_pos (by first | exact dcP c2 | exact ncP c2 | simpa using c2)]); (first | refine iteP rfl ?_ | rw [if_pos rfl])
        exact aw.unlockT hl2 (ss_cons (sx_return (ex_bool (out fun z => Int.not_le.mpr c2 z.2.1))))
      (first | refine iteN (by first | exact dcN c2 | exact ncN c2 | simpa using c2) ?_ | rw [if_neg (by first | exact dcN c2 | exact ncN c2 | simpa using c2)])
      refine tes_or (cmp (ex_local rfl f2 rfl rfl (cl (f := 370) (ec (ex_local rfl f5 rfl rfl (es_nil (Fn.le (f_side hx ?_) (Nat.le_trans (by decide) hk'))))))))
      refine op_neb (sides_pure hsd) (side_pure hx) (sdep _ _) (decide (sd = sideOf x)) (strEq _ _) ⟨_, rfl, ?_⟩
      by_cases c3 : sd = sideOf x
      case neg =>
        (first | refine iteP (by first | exact dcP c3 | exact ncP c3 | simpa using c3) ?_ | rw [if_pos (by first | exact dcP c3 | exact ncP c3 | simpa using c3)]); (first | refine iteP rfl ?_ | rw [if_pos rfl])
        exact aw.unlockT hl2 (ss_cons (sx_return (ex_bool (out fun z => c3 z.2.2.1))))
      (first | refine iteN (by first | exact dcN c3 | exact ncN c3 | simpa using c3) ?_ | rw [if_neg (by first | exact dcN c3 | exact ncN c3 | simpa using c3)])
      refine tes_nil ?_
      (first | refine iteN (by decide) ?_ | rw [if_neg (by decide)])
      -- brackets, braces, the comma
      refine ss_nil (ss_cutR (fun m' S' => m' = m3 ∧ S' = S.set l (.lockT (stD es) o) ∧ a ≠ 0 ∧ a ≠ 2 ∧ (a = 7 → (hh, x) = ((1000 : Int), Str.ofString "xfy"))) (sx_if (te_bool (tes_or (cmp (ex_local rfl f3 rfl rfl (gint (op_eqI ⟨_, rfl, ?_⟩))))))) fun m4 S4 hq => ?_)
      · by_cases c4 : a = 0
        · (first | refine iteP (by first | exact dcP c4 | exact ncP c4 | simpa using c4) ?_ | rw [if_pos (by first | exact dcP c4 | exact ncP c4 | simpa using c4)]); (first | refine iteP rfl ?_ | rw [if_pos rfl])
          exact aw.unlockT hl2 (ss_cons (sx_return (ex_bool (out fun z => z.2.2.2.1 c4))))
        (first | refine iteN (by first | exact dcN c4 | exact ncN c4 | simpa using c4) ?_ | rw [if_neg (by first | exact dcN c4 | exact ncN c4 | simpa using c4)])
        refine tes_or (cmp (ex_local rfl f3 rfl rfl (gint (op_eqI ⟨_, rfl, ?_⟩))))
        by_cases c5 : a = 2
        · (first | refine iteP (by first | exact dcP c5 | exact ncP c5 | simpa using c5) ?_ | rw [if_pos (by first | exact dcP c5 | exact ncP c5 | simpa using c5)]); (first | refine iteP rfl ?_ | rw [if_pos rfl])
          exact aw.unlockT hl2 (ss_cons (sx_return (ex_bool (out fun z => z.2.2.2.2.1 c5))))
        (first | refine iteN (by first | exact dcN c5 | exact ncN c5 | simpa using c5) ?_ | rw [if_neg (by first | exact dcN c5 | exact ncN c5 | simpa using c5)])
        refine tes_or (te_bool (tes_and (cmp (ex_local rfl f3 rfl rfl (gint (op_eqI ⟨_, rfl, ?_⟩))))))
        by_cases c6 : a = 7
        · (first | refine iteP (by first | exact dcP c6 | exact ncP c6 | simpa using c6) ?_ | rw [if_pos (by first | exact dcP c6 | exact ncP c6 | simpa using c6)])
          refine tes_and (cmp (tup (ec (ex_local rfl f4 rfl rfl (ec (ex_local rfl f5 rfl rfl (es_nil ⟨Nat.le_of_ble_eq_true rfl, tup (ec (ex_int (ec (ex_str (es_nil ⟨Nat.le_of_ble_eq_true rfl, ?_⟩)))))⟩)))))))
          refine op_neb (a := valV (hh, x)) (b := valV (1000, Str.ofString "xfy")) (by have := kind_pure hx; simpa [valV, V.pure, V.pures] using this) (by have : (V.str (Str.ofString "xfy")).pure = true := pureStr (by decide +kernel); simpa [valV, V.pure, V.pures] using this) (Nat.le_trans (Nat.min_le_left _ _) (Nat.le_of_ble_eq_true rfl)) (decide ((hh, x) = ((1000 : Int), Str.ofString "xfy"))) ⟨fun z => ?_, fun z => ?_⟩ ⟨_, rfl, ?_⟩
          · unfold valV at z
            injection z with z; injection z with z1 z; injection z with z2 z; injection z1 with z1; injection z2 with z2
            rw [decide_eq_true_eq]; exact Prod.ext z1 z2
          · rw [decide_eq_true_eq] at z; rw [z]
          by_cases c7 : (hh, x) = ((1000 : Int), Str.ofString "xfy")
          · (first | refine iteN (by first | exact dcN c7 | exact ncN c7 | simpa using c7) ?_ | rw [if_neg (by first | exact dcN c7 | exact ncN c7 | simpa using c7)]); (first | refine iteN (by decide) ?_ | rw [if_neg (by decide)])
            refine tes_nil ?_
            (first | refine iteN (by decide) ?_ | rw [if_neg (by decide)])
            exact ss_nil ⟨rfl, rfl, c4, c5, fun _ => c7⟩
          · rw [if_pos (by rw [decide_eq_false c7]; rfl)]
            refine tes_nil ?_
            (first | refine iteP (by decide) ?_ | rw [if_pos (by decide)]); (first | refine iteP rfl ?_ | rw [if_pos rfl])
            exact aw.unlockT hl2 (ss_cons (sx_return (ex_bool (out fun z => c7 (z.2.2.2.2.2.1 c6)))))
        · (first | refine iteN (by first | exact dcN c6 | exact ncN c6 | simpa using c6) ?_ | rw [if_neg (by first | exact dcN c6 | exact ncN c6 | simpa using c6)]); (first | refine iteN (by decide) ?_ | rw [if_neg (by decide)])
          refine tes_nil ?_
          (first | refine iteN (by decide) ?_ | rw [if_neg (by decide)])
          exact ss_nil ⟨rfl, rfl, c4, c5, fun z => absurd z c6⟩
      obtain ⟨rfl, rfl, c4, c5, c7⟩ := hq
      -- the bar
      refine ss_cutR (fun m' S' => m' = m4 ∧ S' = S.set l (.lockT (stD es) o) ∧ ¬ (a = 8 ∧ (sd ≠ Str.ofString "between" ∨ hh < 1001))) (sx_if (te_bool (tes_and (cmp (ex_local rfl f3 rfl rfl (gint (op_eqI ⟨_, rfl, ?_⟩))))))) fun m5 S5 hq => ?_
      · by_cases c8 : a = 8
        · (first | refine iteP (by first | exact dcP c8 | exact ncP c8 | simpa using c8) ?_ | rw [if_pos (by first | exact dcP c8 | exact ncP c8 | simpa using c8)])
          refine tes_and (te_bool (tes_or (cmp (ex_local rfl f2 rfl rfl (ex_str ?_)))))
          refine op_neb (sides_pure hsd) (pureStr (by decide +kernel)) (sdep _ _) (decide (sd = Str.ofString "between")) (strEq _ _) ⟨_, rfl, ?_⟩
          by_cases c9 : sd = Str.ofString "between"
          · (first | refine iteN (by first | exact dcN c9 | exact ncN c9 | simpa using c9) ?_ | rw [if_neg (by first | exact dcN c9 | exact ncN c9 | simpa using c9)])
            refine tes_or (cmp (ex_local rfl f4 rfl rfl (ex_int (op_lt ⟨_, rfl, ?_⟩))))
            by_cases c10 : hh < 1001
            · (first | refine iteP (by first | exact dcP c10 | exact ncP c10 | simpa using c10) ?_ | rw [if_pos (by first | exact dcP c10 | exact ncP c10 | simpa using c10)]); (first | refine iteP rfl ?_ | rw [if_pos rfl])
              refine tes_nil ?_
              (first | refine iteP (by decide) ?_ | rw [if_pos (by decide)])
              exact aw.unlockT hl2 (ss_cons (sx_return (ex_bool (out fun z => Int.not_le.mpr c10 (z.2.2.2.2.2.2.1 c8).2))))
            · (first | refine iteN (by first | exact dcN c10 | exact ncN c10 | simpa using c10) ?_ | rw [if_neg (by first | exact dcN c10 | exact ncN c10 | simpa using c10)])
              refine tes_nil ?_
              (first | refine iteN (by decide) ?_ | rw [if_neg (by decide)]); (first | refine iteN (by decide) ?_ | rw [if_neg (by decide)])
              exact ss_nil ⟨rfl, rfl, fun z => z.2.elim (fun z => z c9) c10⟩
          · (first | refine iteP (by first | exact dcP c9 | exact ncP c9 | simpa using c9) ?_ | rw [if_pos (by first | exact dcP c9 | exact ncP c9 | simpa using c9)]); (first | refine iteP rfl ?_ | rw [if_pos rfl])
            refine tes_nil ?_
            (first | refine iteP (by decide) ?_ | rw [if_pos (by decide)])
            exact aw.unlockT hl2 (ss_cons (sx_return (ex_bool (out fun z => c9 (z.2.2.2.2.2.2.1 c8).1))))
        · (first | refine iteN (by first | exact dcN c8 | exact ncN c8 | simpa using c8) ?_ | rw [if_neg (by first | exact dcN c8 | exact ncN c8 | simpa using c8)]); (first | refine iteN (by decide) ?_ | rw [if_neg (by decide)])
          exact ss_nil ⟨rfl, rfl, fun z => c8 z.1⟩
      obtain ⟨rfl, rfl, c8⟩ := hq
      -- infix and postfix at once
      refine ss_cutR (fun m' S' => m' = m5 ∧ S' = S.set l (.lockT (stD es) o) ∧ ¬ (sd = Str.ofString "between" ∧ (aGet es (Str.ofString "behind", a)).isSome = true)) (sx_if (te_bool (tes_and (cmp (ex_local rfl f2 rfl rfl (ex_str ?_)))))) fun m6 S6 hq => ?_
      · refine op_eqb (sides_pure hsd) (pureStr (by decide +kernel)) (sdep _ _) (decide (sd = Str.ofString "between")) (strEq _ _) ⟨_, rfl, ?_⟩
        by_cases c9 : sd = Str.ofString "between"
        · (first | refine iteP (by first | exact dcP c9 | exact ncP c9 | simpa using c9) ?_ | rw [if_pos (by first | exact dcP c9 | exact ncP c9 | simpa using c9)])
          refine tes_and (cmp (tup (ec (ex_str (ec (ex_local rfl f3 rfl rfl (es_nil ⟨Nat.le_of_ble_eq_true rfl, ex_local rfl f1 rfl rfl (in_tdict (k := keySc ("behind", a)) (.inr ⟨o, hl2⟩) ⟨_, rfl, ?_⟩)⟩)))))))
          rw [stD_get, Option.isSome_map]
          cases c10 : (aGet es (Str.ofString "behind", a)).isSome with
          | true =>
            (first | refine iteP rfl ?_ | rw [if_pos rfl])
            refine tes_nil ?_
            (first | refine iteP (by decide) ?_ | rw [if_pos (by decide)])
            exact aw.unlockT hl2 (ss_cons (sx_return (ex_bool (out fun z => by rw [z.2.2.2.2.2.2.2 c9] at c10; cases c10))))
          | false =>
            (first | refine iteN (by decide) ?_ | rw [if_neg (by decide)]); (first | refine iteN (by decide) ?_ | rw [if_neg (by decide)])
            exact ss_nil ⟨rfl, rfl, fun z => by cases z.2⟩
        · (first | refine iteN (by first | exact dcN c9 | exact ncN c9 | simpa using c9) ?_ | rw [if_neg (by first | exact dcN c9 | exact ncN c9 | simpa using c9)]); (first | refine iteN (by decide) ?_ | rw [if_neg (by decide)])
          exact ss_nil ⟨rfl, rfl, fun z => c9 z.1⟩
      obtain ⟨rfl, rfl, c10⟩ := hq
      refine ss_nil ⟨f1, rfl, dn ++ [((sd, a), hh, x)], rst, by rw [ea]; simp, rfl, fun e he => ?_⟩
      rcases List.mem_append.mp he with he | he
      · exact hok e he
      · rw [List.mem_singleton.mp he]
        exact (ok_iff es _ _).mpr ⟨Int.not_lt.mp c1, Int.not_lt.mp c2, c3, c4, c5, c7, fun q => ⟨Decidable.byContradiction fun n => c8 ⟨q, .inl n⟩, Int.not_lt.mp fun n => c8 ⟨q, .inr n⟩⟩, fun q => Option.not_isSome_iff_eq_none.mp fun n => c10 ⟨q, n⟩⟩
  · rintro m2 S2 ⟨e1, rfl, dn, rst, ea, er, hok⟩
    cases rst with
    | cons e rst => cases er
    | nil =>
      rw [List.append_nil] at ea; subst ea
      have hl2 : (S.set l (.lockT (stD es) o))[l]? = some (.lockT (stD es) o) := List.getElem?_set_self hlt
      refine aw.unlockT hl2 ?_
      rw [List.set_set, set_noop hl]
      refine ss_cons (sx_return (cmpx (tup (ec (ex_str (ec (gint (es_nil ⟨Nat.le_of_ble_eq_true rfl, ex_local rfl e1 rfl rfl (in_tdict (k := keySc ("between", 7)) (.inl hl) ?_)⟩))))))))
      rw [stD_get, Option.isSome_map]
      have e : soundB es = (aGet es ("between", 7)).isSome := by
        unfold soundB
        rw [List.all_eq_true.mpr hok, Bool.true_and]
      rw [e] at h
      exact h
end
end Mine

namespace Mine

noncomputable def keepB (side : Str) (crowd : List Int) (k : Key) : Bool := !decide (k.1 = side) || !decide (k.2 ∈ crowd)
noncomputable def changed (es : St) (h : Int) (x : Str) (crowd : List Int) : St :=
  if 0 < h then crowd.foldl (fun f a => aSet f (sideOf x, a) (h, x)) (es.filter fun e => keepB (sideOf x) crowd e.1) else es.filter fun e => keepB (sideOf x) crowd e.1
theorem aSet_new {κ α : Type} [DecidableEq κ] {es : List (κ × α)} {k : κ} {v : α} (h : k ∉ es.map (·.1)) : aSet es k v = es ++ [(k, v)] := by
  unfold aSet
  rw [if_neg]
  intro q
  obtain ⟨e, he, hk⟩ := List.any_eq_true.mp q
  exact h (by rw [← show e.1 = k by simpa using hk]; exact List.mem_map_of_mem he)
theorem ints_map (as : List Int) : (as.map Sc.int).map Sc.v = as.map V.int := by rw [List.map_map]; rfl
theorem ints_mem (a : Int) (as : List Int) : decide (Sc.int a ∈ as.map Sc.int) = decide (a ∈ as) := by
  congr 1
  simp

section
variable {w : World} {S : MS} {P : V → MS → Prop} {E : V → MS → Prop}
theorem foldSet_len (h : Int) (x side : Str) : ∀ (as : List Int) (f : St), (as.foldl (fun f a => aSet f (side, a) (h, x)) f).length ≤ f.length + as.length
  | [], f => Nat.le_refl _
  | a :: as, f => by
    rw [List.foldl_cons]
    refine Nat.le_trans (foldSet_len h x side as _) ?_
    have := aSet_len f (side, a) (h, x)
    simp only [List.length_cons]; omega

/-- _law_changed -/
theorem f_changed {es : St} {l lc : Nat} {h : Int} {x : Str} {crowd : List Int} (hl : S[l]? = some (.tdict (stD es))) (hlc : S[lc]? = some (.list (crowd.map V.int))) (hf : Fin' es) (hk : ∀ e ∈ es, e.1.1 ∈ sides) (hx : x ∈ kinds) (hz : es.length ≤ 5000) (hcz : crowd.length ≤ 5000)
    (hh : ∀ S', Same [] S S' → S'[S.length]? = some (.tdict (stD (changed es h x crowd))) → P (.loc S.length) S') : Fn PG w (KK w) 391 [.loc l, .int h, .str x, .loc lc] S P E 2 := by
  refine fn_intro (ns := ["state", "height", "kind", "crowd"]) rfl rfl (fun vs hv => by obtain ⟨v, u, t, y, rfl⟩ := args4 hv; rfl) (by decide) (by decide) rfl rfl rfl (fun A₀ base outer g L' k hk' => ?_)
  have hlt := (List.getElem?_eq_some_iff.mp hl).1
  have hltc := (List.getElem?_eq_some_iff.mp hlc).1
  have hne : l ≠ S.length := Nat.ne_of_lt hlt
  have hnec : lc ≠ S.length := Nat.ne_of_lt hltc
  have hll : l ≠ lc := fun q => by rw [q, hlc] at hl; cases hl
  refine ss_cons (asg (ex_tdict ?_))
  have hl1 : (S ++ [.tdict []])[l]? = some (.tdict (stD es)) := (List.getElem?_append_left hlt).trans hl
  let flt : St → St := fun es => es.filter fun e => keepB (sideOf x) crowd e.1
  refine ss_cut (fun m' S' => (∃ o, S' = (S ++ [MO.tdict (stD (flt es))]).set l (.lockT (stD es) o)) ∧ m' "fresh" = some (.loc S.length) ∧ m' "height" = some (.int h) ∧ m' "kind" = some (.str x) ∧ m' "crowd" = some (.loc lc)) (sx_for (fun _ => rfl) (itr_keys (nm ⟨l, stD es, rfl, hl1, fun o => ⟨(fun q => by cases q), fun rest m' S' => (m' "state" = some (.loc l) ∧ m' "fresh" = some (.loc S.length) ∧ m' "height" = some (.int h) ∧ m' "kind" = some (.str x) ∧ m' "crowd" = some (.loc lc)) ∧ ∃ dn rst, es = dn ++ rst ∧ rest = (stD rst).map (fun e => tk e.1) ∧ S' = (S ++ [MO.tdict (stD (flt dn))]).set l (.lockT (stD es) o),
    ⟨⟨rfl, rfl, rfl, rfl, rfl⟩, [], es, rfl, rfl, rfl⟩, ?_, ?_, ?_⟩⟩))) fun m1 S1 hq => ?_
  · rintro rest m2 S2 ⟨_, dn, rst, _, _, rfl⟩ l' mo q; cases q; exact List.getElem?_set_self (by simp; omega)
  · rintro v rest m2 S2 ⟨⟨e1, e2, e3, e4, e5⟩, dn, rst, ea, er, rfl⟩
    cases rst with
    | nil => cases er
    | cons e rst =>
      obtain ⟨rfl, rfl⟩ := List.cons.inj er
      obtain ⟨⟨sd, a⟩, v⟩ := e
      have hme : ((sd, a), v) ∈ es := by rw [ea]; simp
      have hget := hf.get hme
      have hl2 : ((S ++ [MO.tdict (stD (flt dn))]).set l (.lockT (stD es) o))[l]? = some (.lockT (stD es) o) := List.getElem?_set_self (by simp; omega)
      have hc2 : ((S ++ [MO.tdict (stD (flt dn))]).set l (.lockT (stD es) o))[lc]? = some (.list ((crowd.map Sc.int).map Sc.v)) := by
        rw [ints_map, List.getElem?_set_ne hll, List.getElem?_append_left hltc]; exact hlc
      have hf2 : ((S ++ [MO.tdict (stD (flt dn))]).set l (.lockT (stD es) o))[S.length]? = some (.tdict (stD (flt dn))) := (List.getElem?_set_ne hne).trans get_app_self
      have hnew : (sd, a) ∉ (flt dn).map (·.1) := fun q => by
        obtain ⟨e, he, hk⟩ := List.mem_map.mp q
        have h1 : Fin' es := hf
        unfold Fin' at h1
        rw [ea, List.map_append, List.nodup_append] at h1
        exact h1.2.2 e.1 (List.mem_map_of_mem (List.mem_filter.mp he).1) (sd, a) (by simp) hk
      have hdl : (flt dn).length ≤ 5000 := by
        have := congrArg List.length ea
        rw [List.length_append] at this
        have h2 : (flt dn).length ≤ dn.length := List.length_filter_le _ _
        omega
      refine tg_name rfl rfl rfl ?_
      refine ss_cut (fun m' S' => (m' "state" = some (.loc l) ∧ m' "fresh" = some (.loc S.length) ∧ m' "height" = some (.int h) ∧ m' "kind" = some (.str x) ∧ m' "crowd" = some (.loc lc)) ∧ S' = (S ++ [MO.tdict (stD (flt (dn ++ [((sd, a), v)])))]).set l (.lockT (stD es) o))
        (sx_if (te_bool (tes_or (cmp (ex_sub (ex_local rfl updSelf rfl rfl (ex_int (sub_tup (x := .str sd) (by decide) (by decide) rfl (fun _ _ => by with_unfolding_all rfl) ?_)))))))) fun m4 S4 hq => ?_
      · have g1 := (updOf (m := m2) (x := "key") (y := "state") (v := tk (keySc (sd, a))) (by decide)).trans e1
        have g2 := (updOf (m := m2) (x := "key") (y := "fresh") (v := tk (keySc (sd, a))) (by decide)).trans e2
        have g3 := (updOf (m := m2) (x := "key") (y := "height") (v := tk (keySc (sd, a))) (by decide)).trans e3
        have g4 := (updOf (m := m2) (x := "key") (y := "kind") (v := tk (keySc (sd, a))) (by decide)).trans e4
        have g5 := (updOf (m := m2) (x := "key") (y := "crowd") (v := tk (keySc (sd, a))) (by decide)).trans e5
        -- keep it
        have keep : keepB (sideOf x) crowd (sd, a) = true → flt (dn ++ [((sd, a), v)]) = flt dn ++ [((sd, a), v)] := fun q => by
          show List.filter _ _ = List.filter _ _ ++ _
          rw [List.filter_append, List.filter_cons, if_pos q]; rfl
        have skip : keepB (sideOf x) crowd (sd, a) = false → flt (dn ++ [((sd, a), v)]) = flt dn := fun q => by
          show List.filter _ _ = List.filter _ _
          rw [List.filter_append, List.filter_cons, if_neg (by rw [q]; exact Bool.false_ne_true)]; simp
        refine cl (f := 370) (ec (ex_local rfl g4 rfl rfl (es_nil (Fn.le (f_side hx ?_) (Nat.le_trans (by decide) hk')))))
        refine op_neb (sides_pure (hk _ hme)) (side_pure hx) (sdep _ _) (decide (sd = sideOf x)) (strEq _ _) ⟨_, rfl, ?_⟩
        have go : keepB (sideOf x) crowd (sd, a) = true → ∀ {rk : Sc}, True := fun _ _ => trivial
        have fin : keepB (sideOf x) crowd (sd, a) = true → ((S ++ [MO.tdict (stD (flt dn))]).set l (.lockT (stD es) o)).set S.length (.tdict (aSet (stD (flt dn)) (keySc (sd, a)) (valV v))) = (S ++ [MO.tdict (stD (flt (dn ++ [((sd, a), v)])))]).set l (.lockT (stD es) o) := fun q => by
          rw [List.set_comm _ _ hne, set_app_last, stD_set, aSet_new hnew, keep q]
        by_cases c1 : sd = sideOf x
        · (first | refine iteN (by first | exact dcN c1 | exact ncN c1 | simpa using c1) ?_ | rw [if_neg (by first | exact dcN c1 | exact ncN c1 | simpa using c1)])
          refine tes_or (cmp (ex_sub (ex_local rfl updSelf rfl rfl (ex_int (sub_tup (x := .int a) (by decide) (by decide) rfl (fun _ _ => by with_unfolding_all rfl) (ex_local rfl g5 rfl rfl (notIn_list (k := .int a) hc2 ⟨_, rfl, ?_⟩)))))))
          rw [ints_mem]
          by_cases c2 : a ∈ crowd
          · have q : keepB (sideOf x) crowd (sd, a) = false := by unfold keepB; rw [decide_eq_true c1, decide_eq_true c2]; rfl
            (first | refine iteN (by first | exact dcN c2 | exact ncN c2 | simpa using c2) ?_ | rw [if_neg (by first | exact dcN c2 | exact ncN c2 | simpa using c2)])
            refine tes_nil ?_
            (first | refine iteN (by decide) ?_ | rw [if_neg (by decide)])
            exact ss_nil ⟨rfl, ⟨g1, g2, g3, g4, g5⟩, by rw [skip q]⟩
          · have q : keepB (sideOf x) crowd (sd, a) = true := by unfold keepB; rw [decide_eq_false c2]; simp
            (first | refine iteP (by first | exact dcP c2 | exact ncP c2 | simpa using c2) ?_ | rw [if_pos (by first | exact dcP c2 | exact ncP c2 | simpa using c2)]); (first | refine iteP rfl ?_ | rw [if_pos rfl])
            refine ss_cons (sx_setT rfl (ex_sub (ex_local rfl g1 rfl rfl (ex_local rfl updSelf rfl rfl (sub_lockT (k := keySc (sd, a)) (x := valV v) hl2 (by rw [stD_get, hget]; rfl) (fun _ _ => by with_unfolding_all rfl) ?_)))))
            refine ex_local rfl g2 rfl rfl (ex_local rfl updSelf rfl rfl ⟨S.length, stD (flt dn), keySc (sd, a), rfl, rfl, hf2, by unfold stD; rw [List.length_map]; omega, ?_⟩)
            exact ss_nil ⟨rfl, ⟨g1, g2, g3, g4, g5⟩, fin q⟩
        · have q : keepB (sideOf x) crowd (sd, a) = true := by unfold keepB; rw [decide_eq_false c1]; rfl
          (first | refine iteP (by first | exact dcP c1 | exact ncP c1 | simpa using c1) ?_ | rw [if_pos (by first | exact dcP c1 | exact ncP c1 | simpa using c1)]); (first | refine iteP rfl ?_ | rw [if_pos rfl])
          refine ss_cons (sx_setT rfl (ex_sub (ex_local rfl g1 rfl rfl (ex_local rfl updSelf rfl rfl (sub_lockT (k := keySc (sd, a)) (x := valV v) hl2 (by rw [stD_get, hget]; rfl) (fun _ _ => by with_unfolding_all rfl) ?_)))))
          refine ex_local rfl g2 rfl rfl (ex_local rfl updSelf rfl rfl ⟨S.length, stD (flt dn), keySc (sd, a), rfl, rfl, hf2, by unfold stD; rw [List.length_map]; omega, ?_⟩)
          exact ss_nil ⟨rfl, ⟨g1, g2, g3, g4, g5⟩, fin q⟩
      · obtain ⟨gg, rfl⟩ := hq
        exact ss_nil ⟨gg, dn ++ [((sd, a), v)], rst, by rw [ea]; simp, rfl, rfl⟩
  · rintro m2 S2 ⟨⟨e1, e2, e3, e4, e5⟩, dn, rst, ea, er, rfl⟩
    cases rst with
    | cons e rst => cases er
    | nil =>
      rw [List.append_nil] at ea
      rw [← ea]
      exact ⟨rfl, ⟨o, rfl⟩, e2, e3, e4, e5⟩
  · obtain ⟨⟨o, rfl⟩, e2, e3, e4, e5⟩ := hq
    refine aw.unlockT (es := stD es) (List.getElem?_set_self (by simp; omega)) ?_
    rw [List.set_set, set_noop ((List.getElem?_append_left hlt).trans hl)]
    have flz : (flt es).length ≤ 5000 := Nat.le_trans (List.length_filter_le _ _) hz
    refine ss_cut (fun m' S' => m' "fresh" = some (.loc S.length) ∧ S' = S ++ [MO.tdict (stD (changed es h x crowd))]) (sx_if (cmp (ex_local rfl e3 rfl rfl (ex_int (op_gt ⟨_, rfl, ?_⟩))))) fun m2 S2 hq => ?_
    · by_cases hp : 0 < h
      · (first | refine iteP (by first | exact dcP hp | exact ncP hp | simpa using hp) ?_ | rw [if_pos (by first | exact dcP hp | exact ncP hp | simpa using hp)])
        refine ss_cons (sx_for (fun _ => rfl) (itr_list (ex_local rfl e5 rfl rfl ⟨lc, crowd.map V.int, rfl, (List.getElem?_append_left hltc).trans hlc, (fun q => by cases q), fun rest m' S' => (m' "fresh" = some (.loc S.length) ∧ m' "height" = some (.int h) ∧ m' "kind" = some (.str x)) ∧ ∃ dn rst, crowd = dn ++ rst ∧ rest = rst.map V.int ∧ S' = S ++ [MO.tdict (stD (dn.foldl (fun f a => aSet f (sideOf x, a) (h, x)) (flt es)))],
          ⟨⟨e2, e3, e4⟩, [], crowd, rfl, rfl, rfl⟩, ?_, ?_, ?_⟩)))
        · rintro rest m3 S3 ⟨_, dn, rst, _, _, rfl⟩ l' mo q; cases q; exact (List.getElem?_append_left hltc).trans hlc
        · rintro v rest m3 S3 ⟨⟨g2, g3, g4⟩, dn, rst, ea, er, rfl⟩
          cases rst with
          | nil => cases er
          | cons a rst =>
            obtain ⟨rfl, rfl⟩ := List.cons.inj er
            have hfl := foldSet_len h x (sideOf x) dn (flt es)
            have hdn : dn.length ≤ 5000 := by have := congrArg List.length ea; rw [List.length_append] at this; omega
            refine tg_name rfl rfl rfl ?_
            refine ss_cons (sx_setT rfl (tup (ec (ex_local rfl ((updOf (by decide)).trans g3) rfl rfl (ec (ex_local rfl ((updOf (by decide)).trans g4) rfl rfl (es_nil ⟨Nat.le_of_ble_eq_true rfl, ?_⟩)))))))
            refine ex_local rfl ((updOf (by decide)).trans g2) rfl rfl ?_
            refine tup (ec (cl (f := 370) (ec (ex_local rfl ((updOf (by decide)).trans g4) rfl rfl (es_nil (Fn.le (f_side hx ?_) (Nat.le_trans (by decide) hk')))))))
            refine ec (ex_local rfl updSelf rfl rfl (es_nil ⟨Nat.le_of_ble_eq_true rfl, S.length, stD (dn.foldl (fun f a => aSet f (sideOf x, a) (h, x)) (flt es)), keySc (sideOf x, a), rfl, rfl, get_app_self, by unfold stD; rw [List.length_map]; exact Nat.le_trans hfl (by omega), ?_⟩))
            refine ss_nil ⟨⟨(updOf (by decide)).trans g2, (updOf (by decide)).trans g3, (updOf (by decide)).trans g4⟩, dn ++ [a], rst, by rw [ea]; simp, rfl, ?_⟩
            rw [set_app_last, List.foldl_append]
            congr 2
            exact congrArg MO.tdict (stD_set _ _ (h, x))
        · rintro m3 S3 ⟨⟨g2, g3, g4⟩, dn, rst, ea, er, rfl⟩
          cases rst with
          | cons a rst => cases er
          | nil =>
            rw [List.append_nil] at ea
            refine ss_nil ⟨rfl, g2, ?_⟩
            rw [← ea]
            unfold changed
            rw [if_pos hp]
      · (first | refine iteN (by first | exact dcN hp | exact ncN hp | simpa using hp) ?_ | rw [if_neg (by first | exact dcN hp | exact ncN hp | simpa using hp)])
        refine ss_nil ⟨rfl, e2, ?_⟩
        unfold changed
        rw [if_neg hp]
    · obtain ⟨g2, rfl⟩ := hq
      exact ss_cons (sx_return (ex_local rfl g2 rfl rfl (hh _ (.app _ _ _) get_app_self)))
end
end Mine

namespace Mine

theorem Fin'.filter {κ α : Type} [DecidableEq κ] {es : List (κ × α)} (h : Fin' es) (p : κ × α → Bool) : Fin' (es.filter p) := by
  unfold Fin' at *
  exact h.sublist (List.Sublist.map _ List.filter_sublist)
theorem Fin'.foldSet {es : St} (h : Fin' es) (hh : Int) (x side : Str) : ∀ as : List Int, Fin' (as.foldl (fun f a => aSet f (side, a) (hh, x)) es)
  | [] => h
  | a :: as => by rw [List.foldl_cons]; exact Fin'.foldSet (h.set _ _) hh x side as
theorem changed_fin {es : St} (h : Fin' es) (hh : Int) (x : Str) (as : List Int) : Fin' (changed es hh x as) := by
  unfold changed
  split
  · exact Fin'.foldSet (h.filter _) _ _ _ _
  · exact h.filter _
noncomputable def Okk (es : St) : Prop := ∀ e ∈ es, e.1.1 ∈ sides ∧ e.2.2 ∈ kinds
theorem side_sides (x : Str) : sideOf x ∈ sides := by
  unfold sideOf
  split
  · decide
  · split <;> decide
theorem Okk.set {es : St} (h : Okk es) {x : Str} (hx : x ∈ kinds) (hh a : Int) : Okk (aSet es (sideOf x, a) (hh, x)) := by
  intro e he
  unfold aSet at he
  split at he
  · obtain ⟨e', he', rfl⟩ := List.mem_map.mp he
    split
    · rename_i q; rw [q]; exact ⟨side_sides x, hx⟩
    · exact h e' he'
  · rcases List.mem_append.mp he with he | he
    · exact h e he
    · rw [List.mem_singleton.mp he]; exact ⟨side_sides x, hx⟩
theorem Okk.foldSet {x : Str} (hx : x ∈ kinds) (hh : Int) : ∀ (as : List Int) {es : St}, Okk es → Okk (as.foldl (fun f a => aSet f (sideOf x, a) (hh, x)) es)
  | [], _, h => h
  | a :: as, es, h => by rw [List.foldl_cons]; exact Okk.foldSet hx hh as (h.set hx hh a)
theorem changed_ok {es : St} (h : Okk es) {x : Str} (hx : x ∈ kinds) (hh : Int) (as : List Int) : Okk (changed es hh x as) := by
  have hf : Okk (es.filter fun e => keepB (sideOf x) as e.1) := fun e he => h e (List.mem_filter.mp he).1
  unfold changed
  split
  · exact Okk.foldSet hx hh as hf
  · exact hf

section
variable {w : World} {S : MS} {P : V → MS → Prop} {E : V → MS → Prop}
theorem ex_not {X : Cx} {m : Loc} {x : Expr} {pos : Pos} (h : ex PG w (KK w) X x m S (fun v S' => ∃ b, v = .bool b ∧ P (.bool (!b)) S') E) : ex PG w (KK w) X (.UnaryOp .Not x pos) m S P E := fun s ro i => by
  refine wpAny_UnaryOp (step .refl (h s ro i) fun va a m1 S1 r1 s1 i1 e1 _ q1 p1 => ?_)
  obtain ⟨rfl, b, rfl, p1⟩ := p1
  cases q1
  exact wpAny_bind (wpAny_truthy_bool (wpAny_pure (done i1 e1 (.bool _) ⟨rfl, p1⟩)))

/-- _law_barred -/
noncomputable def barredB (es : St) (h : Int) (x : Str) (a : Int) : Bool :=
  if a = 7 ∨ a = 0 ∨ a = 2 then true else if a = 8 ∧ sideOf x ≠ Str.ofString "between" then true else !soundB (changed es h x [a])
theorem f_barred {es : St} {l : Nat} {h : Int} {x : Str} {a : Int} (hl : S[l]? = some (.tdict (stD es))) (hf : Fin' es) (hk : Okk es) (hx : x ∈ kinds) (hz : es.length ≤ 4000)
    (hh : ∀ S', Same [] S S' → P (.bool (barredB es h x a)) S') : Fn PG w (KK w) 398 [.loc l, .int h, .str x, .int a] S P E 4 := by
  refine fn_intro (ns := ["state", "height", "kind", "a"]) rfl rfl (fun vs hv => by obtain ⟨v, u, t, y, rfl⟩ := args4 hv; rfl) (by decide) (by decide) rfl rfl rfl (fun A₀ base outer g L' k hk' => ?_)
  refine ss_cons (sx_if (te_bool (tes_or (cmp (nm (gint (op_eqI ⟨_, rfl, ?_⟩)))))))
  by_cases c1 : a = 7
  · (first | refine iteP (by first | exact dcP c1 | exact ncP c1 | simpa using c1) ?_ | rw [if_pos (by first | exact dcP c1 | exact ncP c1 | simpa using c1)]); (first | refine iteP rfl ?_ | rw [if_pos rfl])
    have e : barredB es h x a = true := by unfold barredB; rw [if_pos (.inl c1)]
    rw [e] at hh
    exact ss_cons (sx_return (ex_bool (hh S (.refl _ _))))
  (first | refine iteN (by first | exact dcN c1 | exact ncN c1 | simpa using c1) ?_ | rw [if_neg (by first | exact dcN c1 | exact ncN c1 | simpa using c1)])
  refine tes_or (cmp (nm (gint (op_eqI ⟨_, rfl, ?_⟩))))
  by_cases c2 : a = 0
  · (first | refine iteP (by first | exact dcP c2 | exact ncP c2 | simpa using c2) ?_ | rw [if_pos (by first | exact dcP c2 | exact ncP c2 | simpa using c2)]); (first | refine iteP rfl ?_ | rw [if_pos rfl])
    have e : barredB es h x a = true := by unfold barredB; rw [if_pos (.inr (.inl c2))]
    rw [e] at hh
    exact ss_cons (sx_return (ex_bool (hh S (.refl _ _))))
  (first | refine iteN (by first | exact dcN c2 | exact ncN c2 | simpa using c2) ?_ | rw [if_neg (by first | exact dcN c2 | exact ncN c2 | simpa using c2)])
  refine tes_or (cmp (nm (gint (op_eqI ⟨_, rfl, ?_⟩))))
  by_cases c3 : a = 2
  · (first | refine iteP (by first | exact dcP c3 | exact ncP c3 | simpa using c3) ?_ | rw [if_pos (by first | exact dcP c3 | exact ncP c3 | simpa using c3)]); (first | refine iteP rfl ?_ | rw [if_pos rfl])
    have e : barredB es h x a = true := by unfold barredB; rw [if_pos (.inr (.inr c3))]
    rw [e] at hh
    exact ss_cons (sx_return (ex_bool (hh S (.refl _ _))))
  (first | refine iteN (by first | exact dcN c3 | exact ncN c3 | simpa using c3) ?_ | rw [if_neg (by first | exact dcN c3 | exact ncN c3 | simpa using c3)])
  refine tes_nil ?_
  (first | refine iteN (by decide) ?_ | rw [if_neg (by decide)])
  have e0 : barredB es h x a = if a = 8 ∧ sideOf x ≠ Str.ofString "between" then true else !soundB (changed es h x [a]) := by
    unfold barredB; rw [if_neg (fun z => z.elim c1 fun z => z.elim c2 c3)]
  refine ss_nil (ss_cutR (fun m' S' => S' = S ∧ m' = locOf ["state", "height", "kind", "a"] [.loc l, .int h, .str x, .int a] ∧ ¬ (a = 8 ∧ sideOf x ≠ Str.ofString "between")) (sx_if (te_bool (tes_and (cmp (nm (gint (op_eqI ⟨_, rfl, ?_⟩))))))) fun m1 S1 hq => ?_)
  · by_cases c4 : a = 8
    · (first | refine iteP (by first | exact dcP c4 | exact ncP c4 | simpa using c4) ?_ | rw [if_pos (by first | exact dcP c4 | exact ncP c4 | simpa using c4)])
      refine tes_and (cmp (cl (f := 370) (ec (nm (es_nil (Fn.le (f_side hx (ex_str ?_)) (Nat.le_trans (by decide) hk')))))))
      refine op_neb (side_pure hx) (pureStr (by decide +kernel)) (sdep _ _) (decide (sideOf x = Str.ofString "between")) (strEq _ _) ⟨_, rfl, ?_⟩
      by_cases c5 : sideOf x = Str.ofString "between"
      · (first | refine iteN (by first | exact dcN c5 | exact ncN c5 | simpa using c5) ?_ | rw [if_neg (by first | exact dcN c5 | exact ncN c5 | simpa using c5)]); (first | refine iteN (by decide) ?_ | rw [if_neg (by decide)])
        exact ss_nil ⟨rfl, rfl, fun z => z.2 c5⟩
      · (first | refine iteP (by first | exact dcP c5 | exact ncP c5 | simpa using c5) ?_ | rw [if_pos (by first | exact dcP c5 | exact ncP c5 | simpa using c5)])
        refine tes_nil ?_
        (first | refine iteP (by decide) ?_ | rw [if_pos (by decide)])
        have e : barredB es h x a = true := by rw [e0, if_pos ⟨c4, c5⟩]
        rw [e] at hh
        exact ss_cons (sx_return (ex_bool (hh S (.refl _ _))))
    · (first | refine iteN (by first | exact dcN c4 | exact ncN c4 | simpa using c4) ?_ | rw [if_neg (by first | exact dcN c4 | exact ncN c4 | simpa using c4)]); (first | refine iteN (by decide) ?_ | rw [if_neg (by decide)])
      exact ss_nil ⟨rfl, rfl, fun z => c4 z.1⟩
  obtain ⟨rfl, rfl, c6⟩ := hq
  rw [if_neg c6] at e0
  rw [e0] at hh
  refine ss_cons (sx_return (ex_not (cl (f := 384) (ec (cl (f := 391) (ec (nm (ec (nm (ec (nm (ec (lst (ec (nm (es_nil ⟨Nat.le_of_ble_eq_true rfl, es_nil ?_⟩))))))))))))))))
  have hl1 : (S1 ++ [MO.list [V.int a]])[l]? = some (.tdict (stD es)) := (List.getElem?_append_left (List.getElem?_eq_some_iff.mp hl).1).trans hl
  refine Fn.le (f_changed (crowd := [a]) hl1 get_app_self hf (fun e he => (hk e he).1) hx (by omega) (by simp) fun S2 s2 h2 => ?_) (Nat.le_trans (by decide) hk')
  refine es_nil (Fn.le (f_sound h2 (changed_fin hf h x [a]) (changed_ok hk hx h [a]) ⟨_, rfl, ?_⟩) (Nat.le_trans (by decide) hk'))
  exact hh S2 ((Same.app [] S1 _).trans s2)
end
end Mine

namespace Mine

section
variable {w : World} {S : MS} {P : V → MS → Prop} {E : V → MS → Prop}

/-- _law_next -/
theorem f_next {lr : Nat} {rs : List Int} {many : Int} (hm : 0 < many) (hl : S[lr]? = some (.list (rs.map V.int))) (hz : rs.length ≤ 90)
    (h : ∀ (v : Int) (rs' : List Int), 0 ≤ v → v < many → rs'.length ≤ 90 → P (.int v) (S.set lr (.list (rs'.map V.int)))) : Fn PG w (KK w) 363 [.loc lr, .int many] S P E 1 := by
  refine fn_intro (ns := ["row", "many"]) rfl rfl (fun vs hv => by obtain ⟨v, u, rfl⟩ := args2 hv; rfl) (by decide) (by decide) rfl rfl rfl (fun A₀ base outer g L' k hk => ?_)
  refine ss_cons (sx_return (ex_if (cmp (bi (ec (nm (es_nil (opL_len hl (by rw [List.length_map]; omega) (ex_int (op_gt ⟨_, rfl, ?_⟩))))))))))
  rw [List.length_map]
  rcases List.eq_nil_or_concat rs with rfl | ⟨ini, r, rfl⟩
  · (first | refine iteN (by decide) ?_ | rw [if_neg (by decide)])
    have := h 0 [] (Int.le_refl _) hm (by simp)
    rw [set_noop hl] at this
    exact ex_int this
  · rw [List.concat_eq_append] at hl hz ⊢
    rw [if_pos (by simp)]
    rw [List.map_append] at hl
    simp only [List.length_append, List.length_singleton] at hz
    refine ex_bin (bm F.plainAttrs_list F.slot_list_pop F.type_list_pop (nm ⟨Of.list hl, es_nil (opL_pop (x := .int r) hl (by rw [List.length_map]; omega) (nm (op_mod (b := many) (by omega) ?_)))⟩))
    exact h _ ini (Int.fmod_nonneg_of_pos _ hm) (Int.fmod_lt_of_pos _ hm) (by omega)

/-- _law_row -/
theorem f_row {ls : Nat} {cs : List Int} {ob : Obj} (hl : S[ls]? = some (.listO (cs.map V.int) ob)) (hz : cs.length ≤ 63)
    (h : ∀ S' l (rs : List Int), Same [] S S' → S.length ≤ l → S'[l]? = some (.list (rs.map V.int)) → rs.length ≤ 90 → P (.loc l) S') : Fn PG w (KK w) 356 [.loc ls] S P E 1 := by
  refine fn_intro (ns := ["script"]) rfl rfl (fun vs hv => by obtain ⟨v, rfl⟩ := args1 hv; rfl) (by decide) (by decide) rfl rfl rfl (fun A₀ base outer g L' k hk => ?_)
  have hlt := (List.getElem?_eq_some_iff.mp hl).1
  refine ss_cons (asg (lst (es_nil ⟨Nat.le_of_ble_eq_true rfl, ?_⟩)))
  have hl1 : (S ++ [MO.list []])[ls]? = some (.listO (cs.map V.int) ob) := (List.getElem?_append_left hlt).trans hl
  refine ss_cut (fun m' S' => m' "row" = some (.loc S.length) ∧ ∃ rs : List Int, rs.length ≤ 90 ∧ S' = S ++ [MO.list (rs.map V.int), MO.list ((cs.map V.int).take 40)]) (sx_for (fun _ => rfl) (itr_list (ex_slice0 (by decide) (fun _ _ => rfl) (nm ⟨ls, cs.map V.int, rfl, .inr ⟨ob, hl1⟩, by rw [List.length_map]; omega, (S ++ [MO.list []]).length, _, rfl, get_app_self, (fun q => by cases q), fun rest m' S' => m' "row" = some (.loc S.length) ∧ (∀ v ∈ rest, ∃ z, v = V.int z) ∧ ∃ rs : List Int, rs.length ≤ 90 ∧ S' = S ++ [MO.list (rs.map V.int), MO.list ((cs.map V.int).take 40)], ?_, ?_, ?_, ?_⟩)))) fun m1 S1 hq => ?_
  · refine ⟨rfl, fun v hv => ?_, [], by simp, by simp⟩
    obtain ⟨z, _, rfl⟩ := List.mem_map.mp (List.mem_of_mem_take hv)
    exact ⟨z, rfl⟩
  · rintro rest m2 S2 ⟨_, _, rs, _, rfl⟩ l mo q
    cases q
    simp
  · rintro v rest m2 S2 ⟨e1, hv, rs, hrs, rfl⟩
    obtain ⟨z, rfl⟩ := hv _ (.head _)
    have hrow : (S ++ [MO.list (rs.map V.int), MO.list ((cs.map V.int).take 40)])[S.length]? = some (.list (rs.map V.int)) := by simp
    refine tg_name rfl rfl rfl ?_
    refine ss_cons (asg (bi (ec (ex_local rfl updSelf rfl rfl (es_nil (opL_int ?_))))))
    refine ss_cons (sx_for (fun _ => rfl) (itr_range rfl rfl rfl (by decide) rfl (by repeat' (first | exact Plain.nil | refine Plain.cons rfl ?_)) (ec (bi (ec (ex_int (ec (ex_bin (ex_int (bi (ec (ex_local rfl ((updOf (by decide)).trans ((updOf (by decide)).trans e1)) rfl rfl (es_nil (opL_len hrow (by rw [List.length_map]; omega) (op_sub (es_nil (opL_min ?_)))))))))))))))))
    rw [List.length_map]
    refine es_nil ⟨_, rfl, by omega, by omega, (fun q => by cases q), fun rest' m' S' => m' "row" = some (.loc S.length) ∧ (∃ z, m' "rest" = some (.int z)) ∧ ∃ rs : List Int, rs.length + rest'.length ≤ 90 ∧ S' = S ++ [MO.list (rs.map V.int), MO.list ((cs.map V.int).take 40)], ⟨(updOf (by decide)).trans ((updOf (by decide)).trans e1), ⟨z, updSelf⟩, rs, by simp; omega, rfl⟩, ?_, ?_, ?_⟩
    · rintro rest m2 S2 _ l mo q; cases q
    · rintro v rest' m3 S3 ⟨f1, ⟨z, f2⟩, rs, hrs, rfl⟩
      have hrow : (S ++ [MO.list (rs.map V.int), MO.list ((cs.map V.int).take 40)])[S.length]? = some (.list (rs.map V.int)) := by simp
      simp only [List.length_cons] at hrs
      refine tg_name rfl rfl rfl ?_
      have g1 := (updOf (m := m3) (x := "turn") (y := "row") (v := v) (by decide)).trans f1
      have g2 := (updOf (m := m3) (x := "turn") (y := "rest") (v := v) (by decide)).trans f2
      refine ss_cons (exs (bm F.plainAttrs_list F.slot_list_append F.type_list_append (ex_local rfl g1 rfl rfl ⟨Of.list hrow, ec (ex_bin (ex_local rfl g2 rfl rfl (ex_int (op_mod (by decide) (es_nil (opL_append hrow (by rw [List.length_map]; omega) ?_))))))⟩)))
      have hS : (S ++ [MO.list (rs.map V.int), MO.list ((cs.map V.int).take 40)]).set S.length (.list (rs.map V.int ++ [V.int (z.fmod 96)])) = S ++ [MO.list ((rs ++ [z.fmod 96]).map V.int), MO.list ((cs.map V.int).take 40)] := by
        rw [List.set_append_right _ _ (Nat.le_refl _), Nat.sub_self]
        simp
      rw [hS]
      refine ss_cons (asg (ex_bin (ex_local rfl g2 rfl rfl (ex_int (op_div (by decide) (by decide) ?_)))))
      generalize z.fdiv 96 = z2
      have q1 := (updOf (m := upd m3 "turn" v) (x := "rest") (y := "row") (v := V.int z2) (by decide)).trans g1
      refine ss_cons (sx_if (te_bool (tes_or (cmp (ex_local rfl updSelf rfl rfl (ex_int (op_eqI ⟨_, rfl, ?_⟩)))))))
      by_cases c1 : z2 = 0
      · (first | refine iteP (by first | exact dcP c1 | exact ncP c1 | simpa using c1) ?_ | rw [if_pos (by first | exact dcP c1 | exact ncP c1 | simpa using c1)]); (first | refine iteP rfl ?_ | rw [if_pos rfl])
        exact ss_cons (sx_break (ss_nil ⟨q1, fun v hv' => hv v (.tail _ hv'), rs ++ [z.fmod 96], by simp; omega, rfl⟩))
      · (first | refine iteN (by first | exact dcN c1 | exact ncN c1 | simpa using c1) ?_ | rw [if_neg (by first | exact dcN c1 | exact ncN c1 | simpa using c1)])
        refine tes_or (cmp (ex_local rfl updSelf rfl rfl (ex_neg (op_eqI ⟨_, rfl, ?_⟩))))
        by_cases c2 : z2 = -1
        · (first | refine iteP (by first | exact dcP c2 | exact ncP c2 | simpa using c2) ?_ | rw [if_pos (by first | exact dcP c2 | exact ncP c2 | simpa using c2)]); (first | refine iteP rfl ?_ | rw [if_pos rfl])
          exact ss_cons (sx_break (ss_nil ⟨q1, fun v hv' => hv v (.tail _ hv'), rs ++ [z.fmod 96], by simp; omega, rfl⟩))
        · (first | refine iteN (by first | exact dcN c2 | exact ncN c2 | simpa using c2) ?_ | rw [if_neg (by first | exact dcN c2 | exact ncN c2 | simpa using c2)])
          refine tes_nil ?_
          (first | refine iteN (by decide) ?_ | rw [if_neg (by decide)])
          exact ss_nil (ss_nil ⟨q1, ⟨z2, updSelf⟩, rs ++ [z.fmod 96], by simp; omega, rfl⟩)
    · rintro m3 S3 ⟨f1, ⟨z, f2⟩, rs, hrs, rfl⟩
      exact ss_nil ⟨f1, fun v hv' => hv v (.tail _ hv'), rs, by simpa using hrs, rfl⟩
  · rintro m2 S2 ⟨e1, _, rs, hrs, rfl⟩
    exact ⟨rfl, e1, rs, hrs, rfl⟩
  · obtain ⟨e1, rs, hrs, rfl⟩ := hq
    have hrow : (S ++ [MO.list (rs.map V.int), MO.list ((cs.map V.int).take 40)])[S.length]? = some (.list (rs.map V.int)) := by simp
    refine ss_cons (exs (bm F.plainAttrs_list F.slot_list_reverse F.type_list_reverse (ex_local rfl e1 rfl rfl ⟨Of.list hrow, es_nil (opL_reverse hrow (by rw [List.length_map]; omega) ?_)⟩)))
    refine ss_cons (sx_return (ex_local rfl e1 rfl rfl (h _ S.length rs.reverse ?_ (Nat.le_refl _) ?_ (by simpa using hrs))))
    · refine ⟨by simp, fun l q _ => ?_⟩
      rw [List.getElem?_set_ne (Ne.symm (Nat.ne_of_lt q))]
      exact List.getElem?_append_left q
    · rw [List.getElem?_set_self (by simp), List.map_reverse]
end
end Mine

namespace Mine

section
variable {w : World} {S : MS} {P : V → MS → Prop} {E : V → MS → Prop}

theorem sat {X : Cx} {m : Loc} {P : Fl → Loc → MS → Prop} {o : Expr} {attr : Str} {ap pos : Pos} {e : Expr} {C : Addr}
    (h : ex PG w (KK w) X e m S (fun v S1 => ex PG w (KK w) X o m S1 (fun ov S2 => ∃ l fs, ov = .loc l ∧ S2[l]? = some (.inst C fs) ∧ fs.length ≤ 20 ∧ P .next m (S2.set l (.inst C ((attr, v) :: fs)))) E) E)
    (hsw : swapsWith e (some (.Attribute o attr ap)) pos.line X.env = pure false := by rfl)
    (hs : findIn (KK w) (.ref C) "__setattr__" = some (some (.builtin "object.__setattr__")) := by rfl) (hp : plainOver (KK w) C = true := by rfl) (ht : takerIn (KK w) C attr = some none := by rfl) (hh : hasDictIn (KK w) C = true := by rfl) :
    sx PG w (KK w) X (.Assign [.Attribute o attr ap] e pos) m S P E := sx_setattr hsw hs hp ht hh h

/-! constants, many -/
theorem es_strs {X : Cx} {m : Loc} : ∀ {l : List Expr} {P : List V → MS → Prop}, (∀ e ∈ l, ∃ x k p, e = .Constant (.str x) k p) → (∀ xs : List V, xs.length = l.length → (∀ v ∈ xs, ∃ x, v = .str x) → P xs S) → es PG w (KK w) X l m S P E
  | [], P, _, h => es_nil (h [] rfl nofun)
  | e :: l, P, hl, h => by
    obtain ⟨x, k, p, rfl⟩ := hl _ (.head _)
    refine ec (ex_str (es_strs (fun e he => hl e (.tail _ he)) fun xs h1 h2 => h (.str x :: xs) (by simp [h1]) fun v hv => ?_))
    rcases List.mem_cons.mp hv with rfl | hv
    · exact ⟨x, rfl⟩
    · exact h2 v hv
theorem plain_strs {X : Cx} {pos : Pos} : ∀ {l : List Expr}, (∀ e ∈ l, ∃ x k p, e = .Constant (.str x) k p) → Plain X pos l
  | [], _ => .nil
  | e :: l, hl => by
    obtain ⟨x, k, p, rfl⟩ := hl _ (.head _)
    exact .cons rfl (plain_strs fun e he => hl e (.tail _ he))
theorem es_pairs {X : Cx} {m : Loc} : ∀ {l : List Expr} {P : List V → MS → Prop}, (∀ e ∈ l, ∃ x z k1 k2 k3 p1 p2 p3, e = .Tuple [.Constant (.str x) k1 p1, .Constant (.int z) k2 p2] k3 p3) → (∀ xs : List V, xs.length = l.length → (∀ v ∈ xs, ∃ x z, v = .tup [.str x, .int z]) → P xs S) → es PG w (KK w) X l m S P E
  | [], P, _, h => es_nil (h [] rfl nofun)
  | e :: l, P, hl, h => by
    obtain ⟨x, z, k1, k2, k3, p1, p2, p3, rfl⟩ := hl _ (.head _)
    refine ec (tup (ec (ex_str (ec (ex_int (es_nil ⟨Nat.le_of_ble_eq_true rfl, ?_⟩))))))
    refine es_pairs (fun e he => hl e (.tail _ he)) fun xs h1 h2 => h (.tup [.str x, .int z] :: xs) (by simp [h1]) fun v hv => ?_
    rcases List.mem_cons.mp hv with rfl | hv
    · exact ⟨x, z, rfl⟩
    · exact h2 v hv
theorem plain_pairs {X : Cx} {pos : Pos} : ∀ {l : List Expr}, (∀ e ∈ l, ∃ x z k1 k2 k3 p1 p2 p3, e = .Tuple [.Constant (.str x) k1 p1, .Constant (.int z) k2 p2] k3 p3) → Plain X pos l
  | [], _ => .nil
  | e :: l, hl => by
    obtain ⟨x, z, k1, k2, k3, p1, p2, p3, rfl⟩ := hl _ (.head _)
    exact .cons rfl (plain_pairs fun e he => hl e (.tail _ he))

/-- fixed_atoms -/
theorem f_fixedA (h : ∀ xs : List V, xs.length ≤ 29 → (∀ v ∈ xs, ∃ x, v = .str x) → P (.tup xs) S) : Fn PG w (KK w) 60 [] S P E 1 := by
  refine fn_intro (ns := []) rfl rfl (fun vs hv => by match vs, hv with | [], _ => rfl) nofun nofun rfl rfl rfl (fun A₀ base outer g L k hk => ?_)
  refine ss_cons ?_
  refine sx_return ?_
  refine (fun hl hz => ex_tuple (plain_strs hl).1 hz (es_strs hl fun xs h1 h2 => ?_)) ?_ ?_
  · exact ⟨by rw [h1]; exact Nat.le_of_ble_eq_true rfl, h xs (by rw [h1]; exact Nat.le_of_ble_eq_true rfl) h2⟩
  · repeat refine List.forall_mem_cons.mpr ⟨⟨_, _, _, rfl⟩, ?_⟩
    exact List.forall_mem_nil _
  · exact Nat.le_of_ble_eq_true rfl

/-- fixed_functors -/
theorem f_fixedF (h : ∀ xs : List V, xs.length ≤ 32 → (∀ v ∈ xs, ∃ x z, v = .tup [.str x, .int z]) → P (.tup xs) S) : Fn PG w (KK w) 67 [] S P E 1 := by
  refine fn_intro (ns := []) rfl rfl (fun vs hv => by match vs, hv with | [], _ => rfl) nofun nofun rfl rfl rfl (fun A₀ base outer g L k hk => ?_)
  refine ss_cons ?_
  refine sx_return ?_
  refine (fun hl hz => ex_tuple (plain_pairs hl).1 hz (es_pairs hl fun xs h1 h2 => ?_)) ?_ ?_
  · exact ⟨by rw [h1]; exact Nat.le_of_ble_eq_true rfl, h xs (by rw [h1]; exact Nat.le_of_ble_eq_true rfl) h2⟩
  · repeat refine List.forall_mem_cons.mpr ⟨⟨_, _, _, _, _, _, _, _, rfl⟩, ?_⟩
    exact List.forall_mem_nil _
  · exact Nat.le_of_ble_eq_true rfl

/-- Symbols.__init__ -/
theorem f_symInit {n : Nat} (hn : S[n]? = some (.inst 154 [])) (h : ∀ S' ts fs, Sym S' ⟨n, S.length, S.length + 1, S.length + 2, S.length + 3⟩ ts fs → ts.length ≤ 61 → fs.length ≤ 32 → Same [n] S S' → P .none S') : Fn PG w (KK w) 81 [.loc n] S P E 4 := by
  refine fn_intro (ns := ["self"]) rfl rfl (fun vs hv => by obtain ⟨v, rfl⟩ := args1 hv; rfl) (by decide) (by decide) rfl rfl rfl (fun A₀ base outer g L' k hk => ?_)
  have hnl := (List.getElem?_eq_some_iff.mp hn).1
  have g0 : ∀ {G : MS} {mo : MO}, S.length ≤ G.length → G[n]? = some mo → ∀ mo', (G ++ [mo'])[n]? = some mo := fun hl e mo' => (List.getElem?_append_left (by omega)).trans e
  refine ss_cons (sat (C := 154) (lst (es_nil ⟨Nat.le_of_ble_eq_true rfl, nm ⟨n, [], rfl, g0 (Nat.le_refl _) hn _, Nat.le_of_ble_eq_true rfl, ?_⟩⟩)))
  refine ss_cons (sat (C := 154) (ex_sdict (nm ⟨n, _, rfl, g0 (by simp) (List.getElem?_set_self (by simp; omega)) _, Nat.le_of_ble_eq_true rfl, ?_⟩)))
  refine ss_cons (sat (C := 154) (lst (es_nil ⟨Nat.le_of_ble_eq_true rfl, nm ⟨n, _, rfl, g0 (by simp; omega) (List.getElem?_set_self (by simp; omega)) _, Nat.le_of_ble_eq_true rfl, ?_⟩⟩)))
  refine ss_cons (sat (C := 154) (ex_tdict (nm ⟨n, _, rfl, g0 (by simp; omega) (List.getElem?_set_self (by simp; omega)) _, Nat.le_of_ble_eq_true rfl, ?_⟩)))
  have e : ((((((((S ++ [MO.list []]).set n (.inst 154 [("texts", .loc S.length)])) ++ [MO.sdict []]).set n (.inst 154 [("atom_numbers", .loc (S.length + 1)), ("texts", .loc S.length)])) ++ [MO.list []]).set n (.inst 154 [("functors", .loc (S.length + 2)), ("atom_numbers", .loc (S.length + 1)), ("texts", .loc S.length)])) ++ [MO.tdict []]).set n (.inst 154 [("functor_numbers", .loc (S.length + 3)), ("functors", .loc (S.length + 2)), ("atom_numbers", .loc (S.length + 1)), ("texts", .loc S.length)]))
      = S.set n (.inst 154 (symF ⟨n, S.length, S.length + 1, S.length + 2, S.length + 3⟩)) ++ [MO.list [], MO.sdict [], MO.list [], MO.tdict []] := by
    have l1 : n < S.length + 1 := by omega
    have l2 : n < S.length + 2 := by omega
    have l3 : n < S.length + 3 := by omega
    simp [hnl, symF]
  simp only [List.length_set, List.length_append, List.length_singleton, Nat.add_assoc, Nat.reduceAdd]
  rw [e]
  have hS0 : Sym (S.set n (.inst 154 (symF ⟨n, S.length, S.length + 1, S.length + 2, S.length + 3⟩)) ++ [MO.list [], MO.sdict [], MO.list [], MO.tdict []]) ⟨n, S.length, S.length + 1, S.length + 2, S.length + 3⟩ [] [] := by
    refine ⟨?_, ?_, ⟨[], ?_, Nat.le_refl _, fun _ => rfl⟩, ?_, ⟨[], ?_, Nat.le_refl _, fun _ => rfl⟩, by show S.length ≠ S.length + 2; omega⟩
    · exact (List.getElem?_append_left (by simpa using hnl)).trans (List.getElem?_set_self hnl)
    · simp
    · simp
    · simp
    · simp
  have s0 : Same [n] S (S.set n (.inst 154 (symF ⟨n, S.length, S.length + 1, S.length + 2, S.length + 3⟩)) ++ [MO.list [], MO.sdict [], MO.list [], MO.tdict []]) := (Same.set (by simp)).trans (.app _ _ _)
  generalize (S.set n (.inst 154 (symF ⟨n, S.length, S.length + 1, S.length + 2, S.length + 3⟩)) ++ [MO.list [], MO.sdict [], MO.list [], MO.tdict []]) = S0 at hS0 s0 ⊢
  generalize hL : (⟨n, S.length, S.length + 1, S.length + 2, S.length + 3⟩ : SL) = L at *
  have hLn : L.n = n := by rw [← hL]
  have hLD : ∀ l ∈ L.D, S.length ≤ l := by rw [← hL]; simp [SL.D]
  have wk : ∀ {A B : MS}, S.length ≤ A.length → Same L.D A B → ∀ {C : MS}, Same [n] C A → C.length = S.length → Same [n] C B := fun hA s C s' hc => ⟨Nat.le_trans s'.1 s.1, fun l h1 h2 => (s.2 l (Nat.lt_of_lt_of_le h1 s'.1) fun q => by have := hLD l q; omega).trans (s'.2 l h1 h2)⟩
  refine ss_cut (fun m' S' => m' "self" = some (.loc L.n) ∧ ∃ ts, Sym S' L ts [] ∧ Same [n] S S' ∧ ts.length ≤ 29) (sx_for (fun _ => rfl) (itr_tup (cl (f := 60) (es_nil (Fn.le (f_fixedA fun xs hx1 hx2 => ?_) (Nat.le_trans (by decide) hk)))))) fun m1 S1 hq => ?_
  · refine ⟨xs, rfl, (fun q => by cases q), fun rest m' S' => m' "self" = some (.loc L.n) ∧ (∀ v ∈ rest, ∃ x, v = .str x) ∧ ∃ ts, Sym S' L ts [] ∧ Same [n] S S' ∧ ts.length + rest.length ≤ 29, ⟨by rw [hLn]; rfl, hx2, [], hS0, s0, by simpa using hx1⟩, ?_, ?_, ?_⟩
    · intro rest m S h l mo q; cases q
    · rintro v rest m2 S2 ⟨e1, hv, ts, h2, s2, z2⟩
      obtain ⟨x, rfl⟩ := hv _ (.head _)
      simp only [List.length_cons] at z2
      refine tg_name rfl rfl rfl ?_
      refine ss_cons (exs (me (C := 154) (f := 88) (ex_local rfl ((updOf (by decide)).trans e1) rfl rfl ⟨L.n, _, rfl, h2.n, rfl, ec (ex_local rfl updSelf rfl rfl (es_nil (Fn.le (f_atom h2 (by omega) fun S3 h3 s3 => ?_) (Nat.le_trans (by decide) hk))))⟩)))
      have := intern_len ts x
      exact ss_nil ⟨(updOf (by decide)).trans e1, fun v hv' => hv v (.tail _ hv'), _, h3, wk s2.1 s3 s2 rfl, by omega⟩
    · rintro m2 S2 ⟨e1, hv, ts, h2, s2, z2⟩
      exact ⟨rfl, e1, ts, h2, s2, by simpa using z2⟩
  obtain ⟨e1, ts, h1, s1, z1⟩ := hq
  refine ss_cons (sx_for (fun _ => rfl) (itr_tup (cl (f := 67) (es_nil (Fn.le (f_fixedF fun xs hx1 hx2 => ?_) (Nat.le_trans (by decide) hk))))))
  refine ⟨xs, rfl, (fun q => by cases q), fun rest m' S' => m' "self" = some (.loc L.n) ∧ (∀ v ∈ rest, ∃ x z, v = .tup [.str x, .int z]) ∧ ∃ ts fs, Sym S' L ts fs ∧ Same [n] S S' ∧ ts.length + rest.length ≤ 61 ∧ fs.length + rest.length ≤ 32, ⟨e1, hx2, ts, [], h1, s1, by omega, by simpa using hx1⟩, ?_, ?_, ?_⟩
  · intro rest m S h l mo q; cases q
  · rintro v rest m2 S2 ⟨e1, hv, ts, fs, h2, s2, z2, z3⟩
    obtain ⟨x, z, rfl⟩ := hv _ (.head _)
    simp only [List.length_cons] at z2 z3
    refine tg_name rfl rfl rfl ?_
    refine ss_cons (exs (me (C := 154) (f := 109) (ex_local rfl ((updOf (by decide)).trans e1) rfl rfl ⟨L.n, _, rfl, h2.n, rfl, ?_⟩)))
    refine ec (ex_sub (ex_local rfl updSelf rfl rfl (ex_int (sub_tup (x := .str x) (by decide) (by decide) rfl (fun _ _ => by with_unfolding_all rfl) ?_))))
    refine ec (ex_sub (ex_local rfl updSelf rfl rfl (ex_int (sub_tup (x := .int z) (by decide) (by decide) rfl (fun _ _ => by with_unfolding_all rfl) ?_))))
    refine es_nil (Fn.le (f_func h2 (by omega) (by omega) fun S3 h3 s3 => ?_) (Nat.le_trans (by decide) hk))
    have := intern_len ts x
    have := intern_len fs ((num ts x : Nat), z)
    exact ss_nil ⟨(updOf (by decide)).trans e1, fun v hv' => hv v (.tail _ hv'), _, _, h3, wk s2.1 s3 s2 rfl, by omega, by omega⟩
  · rintro m2 S2 ⟨e1, hv, ts, fs, h2, s2, z2, z3⟩
    exact ss_nil (h S2 ts fs h2 (by simpa using z2) (by simpa using z3) s2)

/-- OperatorTable.__init__, the standard's rows left out -/
theorem f_opInit {n : Nat} {L : SL} {ts : List Str} {fs : List (Int × Int)} (hn : S[n]? = some (.inst 347 [])) (hS : Sym S L ts fs)
    (h : ∀ S', Ops S' ⟨n, S.length, S.length + 1, S.length + 2⟩ L ⟨[], [(7, 1000, "xfy")], []⟩ → Same [n] S S' → P .none S') : Fn PG w (KK w) 246 [.loc n, .loc L.n, .bool false] S P E 5 := by
  refine fn_introD (ns := ["self", "symbols", "standard"]) rfl rfl (fun vs hv s X => by obtain ⟨v, u, t, rfl⟩ := args3 hv; exact .of_defaults (T := 239) rfl (X _ _ rfl) rfl rfl rfl) (by decide) (by decide) rfl rfl rfl (fun A₀ base outer g L' k hk => ?_)
  have hnl := (List.getElem?_eq_some_iff.mp hn).1
  have g0 : ∀ {G : MS} {mo : MO}, S.length ≤ G.length → G[n]? = some mo → ∀ mo', (G ++ [mo'])[n]? = some mo := fun hl e mo' => (List.getElem?_append_left (by omega)).trans e
  refine ss_cons (sat (C := 347) (nm (nm ⟨n, [], rfl, hn, Nat.le_of_ble_eq_true rfl, ?_⟩)))
  refine ss_cons (sat (C := 347) (ex_sdict (nm ⟨n, _, rfl, g0 (by simp) (List.getElem?_set_self hnl) _, Nat.le_of_ble_eq_true rfl, ?_⟩)))
  refine ss_cons (sat (C := 347) (ex_sdict (nm ⟨n, _, rfl, g0 (by simp) (List.getElem?_set_self (by simp; omega)) _, Nat.le_of_ble_eq_true rfl, ?_⟩)))
  refine ss_cons (sat (C := 347) (ex_sdict (nm ⟨n, _, rfl, g0 (by simp; omega) (List.getElem?_set_self (by simp; omega)) _, Nat.le_of_ble_eq_true rfl, ?_⟩)))
  generalize hO : (⟨n, S.length, S.length + 1, S.length + 2⟩ : OL) = O at *
  have e : (((((((S.set n (.inst 347 [("symbols", .loc L.n)])) ++ [MO.sdict []]).set n (.inst 347 [("prefixes", .loc S.length), ("symbols", .loc L.n)])) ++ [MO.sdict []]).set n (.inst 347 [("infixes", .loc (S.length + 1)), ("prefixes", .loc S.length), ("symbols", .loc L.n)])) ++ [MO.sdict []]).set n (.inst 347 [("postfixes", .loc (S.length + 2)), ("infixes", .loc (S.length + 1)), ("prefixes", .loc S.length), ("symbols", .loc L.n)]))
      = S.set n (.inst 347 (opF O L)) ++ [MO.sdict [], MO.sdict [], MO.sdict []] := by
    have l1 : n < S.length + 1 := by omega
    have l2 : n < S.length + 2 := by omega
    rw [← hO]
    simp [hnl, opF]
  simp only [List.length_set, List.length_append, List.length_singleton, Nat.add_assoc, Nat.reduceAdd]
  rw [e]
  have hO0 : Ops (S.set n (.inst 347 (opF O L)) ++ [MO.sdict [], MO.sdict [], MO.sdict []]) O L ⟨[], [], []⟩ := by
    rw [← hO]
    refine ⟨?_, ?_, ?_, ?_, by show S.length ≠ S.length + 1; omega, by show S.length ≠ S.length + 2; omega, by show S.length + 1 ≠ S.length + 2; omega⟩
    · exact (List.getElem?_append_left (by simpa using hnl)).trans (List.getElem?_set_self hnl)
    · simp [tab]
    · simp [tab]
    · simp [tab]
  have s0 : Same [n] S (S.set n (.inst 347 (opF O L)) ++ [MO.sdict [], MO.sdict [], MO.sdict []]) := (Same.set (by simp)).trans (.app _ _ _)
  generalize (S.set n (.inst 347 (opF O L)) ++ [MO.sdict [], MO.sdict [], MO.sdict []]) = S0 at hO0 s0 ⊢
  have hOo : O.o = n := by rw [← hO]
  have hOD : ∀ l ∈ O.D, S.length ≤ l := by rw [← hO]; simp [OL.D]
  refine ss_cons (exs (me (C := 347) (f := 288) (nm ⟨O.o, _, by rw [hOo], hO0.o, rfl, ?_⟩)))
  refine ec (gint (ec (ex_str (ec (gint (es_nil ?_))))))
  refine Fn.le (f_add hO0 (by decide) fun S1 h1 s1 => ?_) (Nat.le_trans (by decide) hk)
  refine ss_cons (sx_if (te_val (fun _ _ => rfl) (nm ⟨false, rfl, ?_⟩)))
  (first | refine iteN (by decide) ?_ | rw [if_neg (by decide)])
  refine ss_nil (ss_nil ?_)
  refine h S1 ?_ ⟨Nat.le_trans s0.1 s1.1, fun l q1 q2 => (s1.2 l (Nat.lt_of_lt_of_le q1 s0.1) fun q => by have := hOD l q; omega).trans (s0.2 l q1 q2)⟩
  exact h1
end
end Mine

namespace Mine

/-! the plain law -/
theorem ne1 : sBef ≠ sBeh := by decide
theorem ne2 : sBef ≠ sBet := by decide
theorem ne3 : sBeh ≠ sBet := by decide

theorem kind_cases {x : Str} (hx : x ∈ kinds) : (isPre x = true ∧ isInf x = false ∧ isPos x = false ∧ sideOf x = sBef) ∨ (isPre x = false ∧ isInf x = true ∧ isPos x = false ∧ sideOf x = sBet) ∨ (isPre x = false ∧ isInf x = false ∧ isPos x = true ∧ sideOf x = sBeh) := by
  simp only [kinds, List.mem_cons, List.not_mem_nil, or_false] at hx
  rcases hx with rfl | rfl | rfl | rfl | rfl | rfl | rfl <;> decide +kernel

theorem aGet_iff {κ α : Type} [DecidableEq κ] {es : List (κ × α)} (h : Fin' es) {k : κ} {v : α} : aGet es k = some v ↔ (k, v) ∈ es := ⟨aGet_mem, fun q => h.get q⟩
theorem opt_ext {α : Type} {x y : Option α} (h : ∀ v, x = some v ↔ y = some v) : x = y := Option.ext h

noncomputable def tget (T : Tb) (k : Key) : Option (Int × Str) := if k.1 = sBef then aGet T.pre k.2 else if k.1 = sBeh then aGet T.pos k.2 else if k.1 = sBet then aGet T.inf k.2 else none
theorem tget_bef (T : Tb) (a : Int) : tget T (sBef, a) = aGet T.pre a := if_pos rfl
theorem tget_beh (T : Tb) (a : Int) : tget T (sBeh, a) = aGet T.pos a := (if_neg ne1.symm).trans (if_pos rfl)
theorem tget_bet (T : Tb) (a : Int) : tget T (sBet, a) = aGet T.inf a := (if_neg ne2.symm).trans ((if_neg ne3.symm).trans (if_pos rfl))

noncomputable def vOf (h : Int) (x : Str) : Option (Int × Str) := if 0 < h then some (h, x) else none
theorem upd1_get (es : List Ent) (h : Int) (x : Str) (a b : Int) : aGet (upd1 es h x a) b = if b = a then vOf h x else aGet es b := by
  unfold upd1 vOf
  split
  · rw [aGet_set]
  · rw [aGet_del]
noncomputable def put (f : Key → Option (Int × Str)) (k : Key) (v : Option (Int × Str)) : Key → Option (Int × Str) := fun k' => if k' = k then v else f k'
theorem tget_add {x : Str} (hx : x ∈ kinds) (T : Tb) (h a : Int) : tget (T.add h x a) = put (tget T) (sideOf x, a) (vOf h x) := by
  funext ⟨s, b⟩
  unfold put
  have e0 : ∀ {s' : Str} {u v : Option (Int × Str)}, s ≠ s' → (if ((s, b) : Key) = (s', a) then u else v) = v := fun q => if_neg fun z => q (congrArg Prod.fst z)
  have e1 : ∀ {s' : Str} {u v : Option (Int × Str)}, (if ((s', b) : Key) = (s', a) then u else v) = if b = a then u else v := by
    intro s' u v
    by_cases q : b = a
    · rw [if_pos q, if_pos (by rw [q])]
    · rw [if_neg q, if_neg fun z => q (congrArg Prod.snd z)]
  rcases kind_cases hx with ⟨h1, h2, h3, h4⟩ | ⟨h1, h2, h3, h4⟩ | ⟨h1, h2, h3, h4⟩
  · have e : T.add h x a = { T with pre := upd1 T.pre h x a } := by unfold Tb.add; rw [if_pos (of_decide_eq_true h1)]
    rw [e, h4]
    by_cases q : s = sBef
    · subst q; rw [tget_bef, tget_bef, e1, upd1_get]
    · rw [e0 q]; unfold tget; rw [if_neg q, if_neg q]
  · have e : T.add h x a = { T with inf := upd1 T.inf h x a } := by unfold Tb.add; rw [if_neg (of_decide_eq_false h1), if_pos (of_decide_eq_true h2)]
    rw [e, h4]
    by_cases q : s = sBet
    · subst q; rw [tget_bet, tget_bet, e1, upd1_get]
    · rw [e0 q]; unfold tget; rw [if_neg q, if_neg q]
  · have e : T.add h x a = { T with pos := upd1 T.pos h x a } := by unfold Tb.add; rw [if_neg (of_decide_eq_false h1), if_neg (of_decide_eq_false h2)]
    rw [e, h4]
    by_cases q : s = sBeh
    · subst q; rw [tget_beh, tget_beh, e1, upd1_get]
    · rw [e0 q]; unfold tget; rw [if_neg q, if_neg q]

structure Twf (T : Tb) : Prop where
  fp : Fin' T.pre
  fi : Fin' T.inf
  fq : Fin' T.pos
  kp : ∀ e ∈ T.pre, e.2.2 ∈ kinds ∧ sideOf e.2.2 = sBef
  ki : ∀ e ∈ T.inf, e.2.2 ∈ kinds ∧ sideOf e.2.2 = sBet
  kq : ∀ e ∈ T.pos, e.2.2 ∈ kinds ∧ sideOf e.2.2 = sBeh
theorem upd1_fin {es : List Ent} (h : Fin' es) (hh : Int) (x : Str) (a : Int) : Fin' (upd1 es hh x a) := by
  unfold upd1
  split
  · exact h.set _ _
  · exact h.del _
theorem upd1_all {es : List Ent} {p : Str → Prop} (h : ∀ e ∈ es, p e.2.2) {hh : Int} {x : Str} (hx : p x) (a : Int) : ∀ e ∈ upd1 es hh x a, p e.2.2 := by
  unfold upd1
  split
  · unfold aSet
    split
    · intro e he
      obtain ⟨e', he', rfl⟩ := List.mem_map.mp he
      split
      · exact hx
      · exact h e' he'
    · intro e he
      rcases List.mem_append.mp he with he | he
      · exact h e he
      · rw [List.mem_singleton.mp he]; exact hx
  · unfold aDel
    exact fun e he => h e (List.mem_filter.mp he).1
theorem Twf.add {T : Tb} (h : Twf T) {x : Str} (hx : x ∈ kinds) (hh a : Int) : Twf (T.add hh x a) := by
  rcases kind_cases hx with ⟨h1, h2, h3, h4⟩ | ⟨h1, h2, h3, h4⟩ | ⟨h1, h2, h3, h4⟩
  · have e : T.add hh x a = { T with pre := upd1 T.pre hh x a } := by unfold Tb.add; rw [if_pos (of_decide_eq_true h1)]
    rw [e]
    exact ⟨upd1_fin h.fp _ _ _, h.fi, h.fq, upd1_all (p := fun y => y ∈ kinds ∧ sideOf y = sBef) h.kp ⟨hx, h4⟩ a, h.ki, h.kq⟩
  · have e : T.add hh x a = { T with inf := upd1 T.inf hh x a } := by unfold Tb.add; rw [if_neg (of_decide_eq_false h1), if_pos (of_decide_eq_true h2)]
    rw [e]
    exact ⟨h.fp, upd1_fin h.fi _ _ _, h.fq, h.kp, upd1_all (p := fun y => y ∈ kinds ∧ sideOf y = sBet) h.ki ⟨hx, h4⟩ a, h.kq⟩
  · have e : T.add hh x a = { T with pos := upd1 T.pos hh x a } := by unfold Tb.add; rw [if_neg (of_decide_eq_false h1), if_neg (of_decide_eq_false h2)]
    rw [e]
    exact ⟨h.fp, h.fi, upd1_fin h.fq _ _ _, h.kp, h.ki, upd1_all (p := fun y => y ∈ kinds ∧ sideOf y = sBeh) h.kq ⟨hx, h4⟩ a⟩
theorem Twf.addAll {x : Str} (hx : x ∈ kinds) (hh : Int) : ∀ (as : List Int) {T : Tb}, Twf T → Twf (addAll T hh x as)
  | [], _, h => h
  | a :: as, T, h => Twf.addAll hx hh as (h.add hx hh a)
noncomputable def Tb.len (T : Tb) : Nat := T.pre.length + T.inf.length + T.pos.length
theorem upd1_len (es : List Ent) (hh : Int) (x : Str) (a : Int) : (upd1 es hh x a).length ≤ es.length + 1 := by
  unfold upd1
  split
  · exact aSet_len _ _ _
  · unfold aDel; exact Nat.le_succ_of_le (List.length_filter_le _ _)
theorem Tb.len_add (T : Tb) (hh : Int) (x : Str) (a : Int) : (T.add hh x a).len ≤ T.len + 1 := by
  unfold Tb.add Tb.len
  split
  · have := upd1_len T.pre hh x a; dsimp only; omega
  · split
    · have := upd1_len T.inf hh x a; dsimp only; omega
    · have := upd1_len T.pos hh x a; dsimp only; omega
theorem Tb.len_addAll (hh : Int) (x : Str) : ∀ (as : List Int) (T : Tb), (Mine.addAll T hh x as).len ≤ T.len + as.length
  | [], T => Nat.le_refl _
  | a :: as, T => by
    have h1 := Tb.len_addAll hh x as (T.add hh x a)
    have h2 := T.len_add hh x a
    show (Mine.addAll (T.add hh x a) hh x as).len ≤ T.len + (as.length + 1)
    omega

/-! the rows as a state -/
noncomputable def keyR (r : Row) : Key := (sideOf r.b, r.c)
noncomputable def valR (r : Row) : Int × Str := (r.a, r.b)
noncomputable def kvR (r : Row) : Key × (Int × Str) := (keyR r, valR r)
theorem stOf_eq' : ∀ (ys : List Row) (acc : St), (acc.map (·.1) ++ ys.map keyR).Nodup → ys.foldl (fun es r => aSet es (sideOf r.b, r.c) (r.a, r.b)) acc = acc ++ ys.map kvR
  | [], acc, _ => by simp
  | r :: ys, acc, h => by
    rw [List.foldl_cons]
    have hn : (sideOf r.b, r.c) ∉ acc.map (·.1) := fun q => by
      rw [List.nodup_append] at h
      exact h.2.2 _ q (keyR r) (by simp) rfl
    rw [aSet_new hn, stOf_eq' ys]
    · simp [kvR, keyR, valR]
    · rw [List.map_append, List.append_assoc]; exact h
theorem stOf_eq {ys : List Row} (h : (ys.map keyR).Nodup) : stOf ys = ys.map kvR := by
  unfold stOf; rw [stOf_eq' ys [] (by simpa using h)]; simp
theorem nodup_side {es : List Ent} (h : Fin' es) {s : Str} (hs : ∀ e ∈ es, sideOf e.2.2 = s) : (es.map fun e => keyR (rowOf e)).Nodup := by
  have e : (es.map fun e => keyR (rowOf e)) = (es.map (·.1)).map fun a => (s, a) := by
    rw [List.map_map]
    exact List.map_congr_left fun e he => by
      show (sideOf e.2.2, e.1) = (s, e.1)
      rw [hs e he]
  rw [e]
  unfold Fin' at h
  exact List.Pairwise.map _ (fun a b hab q => hab (congrArg Prod.snd q)) h
theorem rows_nodup {T : Tb} (h : Twf T) : ((rowsOf T).map keyR).Nodup := by
  unfold rowsOf
  rw [List.map_map, List.map_append, List.map_append]
  have side : ∀ {es : List Ent} {s : Str}, (∀ e ∈ es, sideOf e.2.2 = s) → ∀ k ∈ es.map (keyR ∘ rowOf), k.1 = s := fun hs k hk => by
    obtain ⟨e, he, rfl⟩ := List.mem_map.mp hk
    exact hs e he
  have s1 := side fun e he => (h.kp e he).2
  have s2 := side fun e he => (h.ki e he).2
  have s3 := side fun e he => (h.kq e he).2
  rw [List.nodup_append, List.nodup_append]
  refine ⟨⟨nodup_side h.fp fun e he => (h.kp e he).2, nodup_side h.fi fun e he => (h.ki e he).2, fun a ha b hb q => ?_⟩, nodup_side h.fq fun e he => (h.kq e he).2, fun a ha b hb q => ?_⟩
  · have := s1 a ha; rw [q, s2 b hb] at this; exact ne2 this.symm
  · rcases List.mem_append.mp ha with ha | ha
    · have := s1 a ha; rw [q, s3 b hb] at this; exact ne1 this.symm
    · have := s2 a ha; rw [q, s3 b hb] at this; exact ne3 this
theorem mem_rows {T : Tb} (h : Twf T) (k : Key) (v : Int × Str) : (k, v) ∈ (rowsOf T).map kvR ↔ tget T k = some v := by
  obtain ⟨s, a⟩ := k
  obtain ⟨hh, x⟩ := v
  have one : ∀ {es : List Ent} {s' : Str}, Fin' es → (∀ e ∈ es, sideOf e.2.2 = s') → (((s, a), hh, x) ∈ (es.map rowOf).map kvR ↔ s = s' ∧ aGet es a = some (hh, x)) := fun {es s'} hf hs => by
    rw [aGet_iff hf, List.map_map]
    constructor
    · intro q
      obtain ⟨e, he, q⟩ := List.mem_map.mp q
      have q1 := congrArg (·.1.1) q
      have q2 := congrArg (·.1.2) q
      have q3 := congrArg (·.2) q
      refine ⟨?_, ?_⟩
      · rw [← hs e he]; exact q1.symm
      · obtain ⟨e1, e2, e3⟩ := e
        obtain rfl : e1 = a := q2
        cases q3; exact he
    · rintro ⟨rfl, he⟩
      refine List.mem_map.mpr ⟨_, he, ?_⟩
      show ((sideOf x, a), hh, x) = _
      rw [hs _ he]
  unfold rowsOf
  rw [List.map_append, List.map_append, List.map_append, List.map_append, List.mem_append, List.mem_append, one h.fp fun e he => (h.kp e he).2, one h.fi fun e he => (h.ki e he).2, one h.fq fun e he => (h.kq e he).2]
  unfold tget
  dsimp only
  by_cases q1 : s = sBef
  · subst q1; simp [ne1, ne2]
  · by_cases q2 : s = sBeh
    · subst q2; simp [ne1.symm, ne3]
    · by_cases q3 : s = sBet
      · subst q3; simp [ne2.symm, ne3.symm]
      · simp [q1, q2, q3]
theorem stOf_get {T : Tb} (h : Twf T) {ys : List Row} (hp : ys.Perm (rowsOf T)) : Fin' (stOf ys) ∧ aGet (stOf ys) = tget T := by
  have hn : (ys.map keyR).Nodup := (hp.map keyR).nodup_iff.mpr (rows_nodup h)
  have hf : Fin' (stOf ys) := by
    unfold Fin'
    rw [stOf_eq hn, List.map_map]; exact hn
  refine ⟨hf, funext fun k => opt_ext fun v => ?_⟩
  rw [aGet_iff hf, stOf_eq hn, ← mem_rows h]
  exact (hp.map kvR).mem_iff
theorem rows_kinds {T : Tb} (h : Twf T) : ∀ r ∈ rowsOf T, r.b ∈ kinds := fun r hr => by
  unfold rowsOf at hr
  obtain ⟨e, he, rfl⟩ := List.mem_map.mp hr
  show e.2.2 ∈ kinds
  rcases List.mem_append.mp he with he | he
  · rcases List.mem_append.mp he with he | he
    · exact (h.kp e he).1
    · exact (h.ki e he).1
  · exact (h.kq e he).1

/-! what a call changes -/
theorem filter_get {es : St} (p : Key → Bool) (k : Key) : aGet (es.filter fun e => p e.1) k = if p k = true then aGet es k else none := by
  unfold aGet
  induction es with
  | nil => simp
  | cons e es ih =>
    rw [List.filter_cons, List.find?_cons]
    by_cases q : p e.1 = true
    · rw [if_pos q, List.find?_cons]
      by_cases r : e.1 = k
      · subst r; simp [q]
      · simp only [r, decide_false]; exact ih
    · rw [if_neg q]
      by_cases r : e.1 = k
      · subst r; simp [q] at ih ⊢; exact ih
      · simp only [r, decide_false]; exact ih
theorem fold_get (h : Int) (x side : Str) : ∀ (as : List Int) (f : St) (k : Key), aGet (as.foldl (fun f a => aSet f (side, a) (h, x)) f) k = if k.1 = side ∧ k.2 ∈ as then some (h, x) else aGet f k
  | [], f, k => by simp
  | a :: as, f, k => by
    rw [List.foldl_cons, fold_get h x side as, aGet_set]
    obtain ⟨s, b⟩ := k
    by_cases q1 : s = side
    · subst q1
      by_cases q2 : b ∈ as
      · simp [q2]
      · by_cases q3 : b = a
        · subst q3; simp
        · simp [q2, q3]
    · have : ¬ (((s, b) : Key) = (side, a)) := fun z => q1 (congrArg Prod.fst z)
      simp [q1]
theorem changed_get (es : St) (h : Int) (x : Str) (as : List Int) (k : Key) : aGet (changed es h x as) k = if k.1 = sideOf x ∧ k.2 ∈ as then vOf h x else aGet es k := by
  have fg : aGet (es.filter fun e => keepB (sideOf x) as e.1) k = if k.1 = sideOf x ∧ k.2 ∈ as then none else aGet es k := by
    rw [filter_get (fun k => keepB (sideOf x) as k)]
    unfold keepB
    by_cases q1 : k.1 = sideOf x <;> by_cases q2 : k.2 ∈ as <;> simp [q1, q2]
  unfold changed vOf
  split
  · rw [fold_get, fg]
    split <;> rfl
  · exact fg
theorem addAll_get {x : Str} (hx : x ∈ kinds) (h : Int) : ∀ (as : List Int) (T : Tb) (k : Key), tget (addAll T h x as) k = if k.1 = sideOf x ∧ k.2 ∈ as then vOf h x else tget T k
  | [], T, k => by simp [addAll]
  | a :: as, T, k => by
    show tget (addAll (T.add h x a) h x as) k = _
    rw [addAll_get hx h as, tget_add hx]
    obtain ⟨s, b⟩ := k
    unfold put
    by_cases q1 : s = sideOf x
    · subst q1
      by_cases q2 : b ∈ as
      · simp [q2]
      · by_cases q3 : b = a
        · subst q3; simp
        · simp [q2, q3]
    · have : ¬ (((s, b) : Key) = (sideOf x, a)) := fun z => q1 (congrArg Prod.fst z)
      simp [q1]

/-! sound -/
noncomputable def SoundF (f : Key → Option (Int × Str)) : Prop := (∀ k v, f k = some v → okP f k v) ∧ (f (sBet, 7)).isSome = true
theorem sound_iff {es : St} (h : Fin' es) : soundB es = true ↔ SoundF (aGet es) := by
  unfold soundB SoundF
  rw [Bool.and_eq_true, List.all_eq_true]
  refine and_congr ⟨fun q k v e => (ok_iff es k v).mp (q _ (aGet_mem e)), fun q e he => (ok_iff es _ _).mpr (q _ _ (h.get he))⟩ Iff.rfl

noncomputable def refF (f : Key → Option (Int × Str)) (h : Int) (x : Str) (a : Int) : Prop := a = 7 ∨ a = 0 ∨ a = 2 ∨ (a = 8 ∧ (sideOf x ≠ sBet ∨ (0 < h ∧ h ≤ 1000))) ∨ (0 < h ∧ sideOf x = sBet ∧ (f (sBeh, a)).isSome = true) ∨ (0 < h ∧ sideOf x = sBeh ∧ (f (sBet, a)).isSome = true)
theorem inf_side {x : Str} (hx : x ∈ kinds) : isInf x = true ↔ sideOf x = sBet := by
  rcases kind_cases hx with ⟨h1, h2, h3, h4⟩ | ⟨h1, h2, h3, h4⟩ | ⟨h1, h2, h3, h4⟩ <;> rw [h2, h4]
  · exact ⟨(fun z => by cases z), fun z => absurd z ne2⟩
  · exact ⟨fun _ => rfl, fun _ => rfl⟩
  · exact ⟨(fun z => by cases z), fun z => absurd z ne3⟩
theorem pos_side {x : Str} (hx : x ∈ kinds) : isPos x = true ↔ sideOf x = sBeh := by
  rcases kind_cases hx with ⟨h1, h2, h3, h4⟩ | ⟨h1, h2, h3, h4⟩ | ⟨h1, h2, h3, h4⟩ <;> rw [h3, h4]
  · exact ⟨(fun z => by cases z), fun z => absurd z ne1⟩
  · exact ⟨(fun z => by cases z), fun z => absurd z ne3.symm⟩
  · exact ⟨fun _ => rfl, fun _ => rfl⟩
theorem refused_iff {x : Str} (hx : x ∈ kinds) (T : Tb) (h a : Int) : refused T h x a = true ↔ refF (tget T) h x a := by
  unfold refused refF
  by_cases a7 : a = 7
  · simp [a7]
  by_cases a0 : a = 0 ∨ a = 2
  · rw [if_neg a7, if_pos a0]
    exact ⟨fun _ => .inr (a0.elim .inl fun z => .inr (.inl z)), fun _ => rfl⟩
  rw [if_neg a7, if_neg a0]
  simp only [Bool.or_eq_true, Bool.and_eq_true, decide_eq_true_eq, Bool.not_eq_true', ← Bool.not_eq_true]
  rw [inf_side hx, pos_side hx, tget_beh, tget_bet]
  have n0 : a ≠ 0 := fun z => a0 (.inl z)
  have n2 : a ≠ 2 := fun z => a0 (.inr z)
  simp only [a7, n0, n2, false_or]
  constructor
  · rintro ((z | z) | z)
    · exact .inl z
    · exact .inr (.inl z)
    · exact .inr (.inr z)
  · rintro (z | z | z)
    · exact .inl (.inl z)
    · exact .inl (.inr z)
    · exact .inr z

/-- one more entry keeps a table sound just when it is not refused -/
theorem step_sound {f : Key → Option (Int × Str)} (hf : SoundF f) {h : Int} {x : Str} {a : Int} (h0 : 0 ≤ h) (h12 : h ≤ 1200) (n7 : a ≠ 7) (n0 : a ≠ 0) (n2 : a ≠ 2) (n8 : a = 8 → sideOf x = sBet) :
    SoundF (put f (sideOf x, a) (vOf h x)) ↔ ¬ refF f h x a := by
  have e7 : put f (sideOf x, a) (vOf h x) (sBet, 7) = f (sBet, 7) := if_neg fun z => n7 (congrArg Prod.snd z).symm
  by_cases hp : 0 < h
  · have ev : vOf h x = some (h, x) := if_pos hp
    rw [ev] at e7 ⊢
    have at1 : put f (sideOf x, a) (some (h, x)) (sideOf x, a) = some (h, x) := if_pos rfl
    have at2 : ∀ {k}, k ≠ (sideOf x, a) → put f (sideOf x, a) (some (h, x)) k = f k := fun q => if_neg q
    constructor
    · rintro ⟨h1, h2⟩ r
      obtain ⟨_, _, _, _, _, _, b8, bb⟩ := h1 _ _ at1
      rcases r with r | r | r | r | r | r
      · exact n7 r
      · exact n0 r
      · exact n2 r
      · rcases r.2 with q | q
        · exact q (n8 r.1)
        · have := (b8 r.1).2; simp only at this; omega
      · have hb := bb r.2.1
        rw [at2 (fun z => by rw [r.2.1] at z; exact ne3 (congrArg Prod.fst z))] at hb
        have := r.2.2
        simp only at hb
        rw [hb] at this; cases this
      · obtain ⟨v, hv⟩ := Option.isSome_iff_exists.mp r.2.2
        have hne : ((sBet, a) : Key) ≠ (sideOf x, a) := fun z => by rw [r.2.1] at z; exact ne3 (congrArg Prod.fst z).symm
        obtain ⟨_, _, _, _, _, _, _, bb⟩ := h1 (sBet, a) v ((at2 hne).trans hv)
        have hb := bb rfl
        rw [← r.2.1] at hb
        rw [at1] at hb; cases hb
    · intro r
      refine ⟨fun k v e => ?_, by rw [e7]; exact hf.2⟩
      by_cases q : k = (sideOf x, a)
      · subst q
        rw [at1] at e; cases e
        refine ⟨by show 1 ≤ h; omega, h12, rfl, n0, n2, fun z => absurd z n7, fun z => ⟨n8 z, ?_⟩, fun z => ?_⟩
        · show 1001 ≤ h
          refine Int.not_lt.mp fun q => r (.inr (.inr (.inr (.inl ⟨z, .inr ⟨hp, by omega⟩⟩))))
        · rw [at2 fun y => by
            simp only at z
            rw [z] at y; exact ne3 (congrArg Prod.fst y)]
          cases q : f (sBeh, a) with
          | none => rfl
          | some w => exact absurd (.inr (.inr (.inr (.inr (.inl ⟨hp, z, by rw [q]; rfl⟩))))) r
      · rw [at2 q] at e
        obtain ⟨a1, a2, a3, a4, a5, a6, a7, a8⟩ := hf.1 k v e
        refine ⟨a1, a2, a3, a4, a5, a6, a7, fun z => ?_⟩
        have hb := a8 z
        by_cases y : ((sBeh, k.2) : Key) = (sideOf x, a)
        · exfalso
          refine r (.inr (.inr (.inr (.inr (.inr ⟨hp, (congrArg Prod.fst y).symm, ?_⟩)))))
          have ek : k = (sBet, a) := Prod.ext z (show k.2 = a from congrArg (fun u : Key => u.2) y)
          rw [← ek, e]; rfl
        · rw [at2 y]; exact hb
  · have ev : vOf h x = none := if_neg hp
    rw [ev] at e7 ⊢
    have hr : ¬ refF f h x a := by
      rintro (r | r | r | r | r | r)
      · exact n7 r
      · exact n0 r
      · exact n2 r
      · exact r.2.elim (fun q => q (n8 r.1)) fun q => hp q.1
      · exact hp r.1
      · exact hp r.1
    refine ⟨fun _ => hr, fun _ => ⟨fun k v e => ?_, by rw [e7]; exact hf.2⟩⟩
    have e' : f k = some v := by
      unfold put at e
      split at e
      · cases e
      · exact e
    obtain ⟨a1, a2, a3, a4, a5, a6, a7, a8⟩ := hf.1 k v e'
    refine ⟨a1, a2, a3, a4, a5, a6, a7, fun z => ?_⟩
    unfold put
    split
    · rfl
    · exact a8 z

structure Rel (T : Tb) (es : St) : Prop where
  wf : Twf T
  fin : Fin' es
  get : aGet es = tget T
  ok : Okk es
  sound : soundB es = true
theorem Rel.soundF {T : Tb} {es : St} (r : Rel T es) : SoundF (tget T) := by
  have := (sound_iff r.fin).mp r.sound
  rwa [r.get] at this
/-- what the law bars is what check_permission refuses -/
theorem barred_refused {T : Tb} {es : St} (r : Rel T es) {h : Int} {x : Str} (hx : x ∈ kinds) (h0 : 0 ≤ h) (h12 : h ≤ 1200) (a : Int) : barredB es h x a = refused T h x a := by
  rw [Bool.eq_iff_iff, refused_iff hx]
  unfold barredB
  by_cases c1 : a = 7 ∨ a = 0 ∨ a = 2
  · rw [if_pos c1]
    refine ⟨fun _ => ?_, fun _ => rfl⟩
    rcases c1 with z | z | z
    · exact .inl z
    · exact .inr (.inl z)
    · exact .inr (.inr (.inl z))
  rw [if_neg c1]
  by_cases c2 : a = 8 ∧ sideOf x ≠ Str.ofString "between"
  · rw [if_pos c2]
    exact ⟨fun _ => .inr (.inr (.inr (.inl ⟨c2.1, .inl c2.2⟩))), fun _ => rfl⟩
  rw [if_neg c2]
  have e : aGet (changed es h x [a]) = put (tget T) (sideOf x, a) (vOf h x) := by
    funext k
    rw [changed_get, r.get]
    unfold put
    obtain ⟨s, b⟩ := k
    by_cases q : s = sideOf x ∧ b = a
    · rw [if_pos (by simpa using q), if_pos (by rw [q.1, q.2])]
    · rw [if_neg (by simpa using q), if_neg fun z => q ⟨congrArg Prod.fst z, congrArg Prod.snd z⟩]
  rw [Bool.not_eq_true', ← Bool.not_eq_true, sound_iff (changed_fin r.fin _ _ _), e, step_sound r.soundF h0 h12 (fun z => c1 (.inl z)) (fun z => c1 (.inr (.inl z))) (fun z => c1 (.inr (.inr z))) (fun z => Classical.byContradiction fun y => c2 ⟨z, y⟩)]
  exact Classical.not_not

theorem refF_add {x : Str} (hx : x ∈ kinds) (T : Tb) (h a b : Int) : refF (tget (T.add h x b)) h x a ↔ refF (tget T) h x a := by
  have e1 : sideOf x = sBet → tget (T.add h x b) (sBeh, a) = tget T (sBeh, a) := fun q => by
    rw [tget_add hx]; unfold put; rw [if_neg fun z => by rw [q] at z; exact ne3 (congrArg Prod.fst z)]
  have e2 : sideOf x = sBeh → tget (T.add h x b) (sBet, a) = tget T (sBet, a) := fun q => by
    rw [tget_add hx]; unfold put; rw [if_neg fun z => by rw [q] at z; exact ne3 (congrArg Prod.fst z).symm]
  unfold refF
  refine or_congr Iff.rfl (or_congr Iff.rfl (or_congr Iff.rfl (or_congr Iff.rfl (or_congr ?_ ?_))))
  · exact ⟨fun ⟨z1, z2, z3⟩ => ⟨z1, z2, by rwa [e1 z2] at z3⟩, fun ⟨z1, z2, z3⟩ => ⟨z1, z2, by rwa [e1 z2]⟩⟩
  · exact ⟨fun ⟨z1, z2, z3⟩ => ⟨z1, z2, by rwa [e2 z2] at z3⟩, fun ⟨z1, z2, z3⟩ => ⟨z1, z2, by rwa [e2 z2]⟩⟩
theorem addAll_sound {x : Str} (hx : x ∈ kinds) {h : Int} (h0 : 0 ≤ h) (h12 : h ≤ 1200) : ∀ (as : List Int) {T : Tb}, SoundF (tget T) → (∀ a ∈ as, ¬ refF (tget T) h x a) → SoundF (tget (addAll T h x as))
  | [], _, hs, _ => hs
  | a :: as, T, hs, hr => by
    refine addAll_sound hx h0 h12 as (T := T.add h x a) ?_ fun b hb => ?_
    · have ha := hr a (.head _)
      rw [tget_add hx]
      refine (step_sound hs h0 h12 (fun z => ha (.inl z)) (fun z => ha (.inr (.inl z))) (fun z => ha (.inr (.inr (.inl z)))) fun z => Classical.byContradiction fun y => ha (.inr (.inr (.inr (.inl ⟨z, .inl y⟩))))).mpr ha
    · rw [refF_add hx]; exact hr b (.tail _ hb)
/-- an accepted call -/
theorem Rel.next {T : Tb} {es : St} (r : Rel T es) {h : Int} {x : Str} (hx : x ∈ kinds) (h0 : 0 ≤ h) (h12 : h ≤ 1200) {as : List Int} (hr : ∀ a ∈ as, refused T h x a = false) : Rel (addAll T h x as) (changed es h x as) := by
  have hg : aGet (changed es h x as) = tget (addAll T h x as) := funext fun k => by rw [changed_get, addAll_get hx, r.get]
  have hf := changed_fin r.fin h x as
  refine ⟨Twf.addAll hx h as r.wf, hf, hg, changed_ok r.ok hx h as, ?_⟩
  rw [sound_iff hf, hg]
  refine addAll_sound hx h0 h12 as r.soundF fun a ha => ?_
  rw [← refused_iff hx, hr a ha]; exact Bool.false_ne_true
theorem perm_of_get {κ α : Type} [DecidableEq κ] {xs ys : List (κ × α)} (hx : Fin' xs) (hy : Fin' ys) (h : aGet xs = aGet ys) : xs.Perm ys := by
  have nd : ∀ {zs : List (κ × α)}, Fin' zs → zs.Nodup := fun hz => by
    unfold Fin' at hz
    exact List.Pairwise.of_map (·.1) (fun a b hab q => hab (by rw [q])) hz
  refine (List.perm_ext_iff_of_nodup (nd hx) (nd hy)).mpr fun ⟨k, v⟩ => ?_
  rw [← aGet_iff hx, ← aGet_iff hy, h]
theorem same_st {xs ys : St} (hx : Fin' xs) (hy : Fin' ys) (h : aGet xs = aGet ys) : SameT (stD xs) (stD ys) := by
  refine ⟨by unfold stD; rw [List.length_map, List.length_map, (perm_of_get hx hy h).length_eq], fun e he => ?_⟩
  unfold stD at he
  obtain ⟨e', he', rfl⟩ := List.mem_map.mp he
  rw [stD_get, ← h, hx.get he']
  rfl
theorem Rel.len {T : Tb} {es : St} (r : Rel T es) : es.length = T.len := by
  obtain ⟨hf, hg⟩ := stOf_get r.wf (.refl (rowsOf T))
  rw [(perm_of_get r.fin hf (r.get.trans hg.symm)).length_eq, stOf_eq (rows_nodup r.wf), List.length_map]
  unfold rowsOf Tb.len
  simp; omega
theorem Rel.start : Rel ⟨[], [(7, 1000, "xfy")], []⟩ (stOf (rowsOf ⟨[], [(7, 1000, "xfy")], []⟩)) := by
  have wf : Twf ⟨[], [(7, 1000, "xfy")], []⟩ := ⟨.nil, List.nodup_cons.mpr ⟨List.not_mem_nil, .nil⟩, .nil, nofun, fun e he => by
    rw [List.mem_singleton.mp he]; decide +kernel, nofun⟩
  obtain ⟨hf, hg⟩ := stOf_get wf (.refl _)
  refine ⟨wf, hf, hg, fun e he => ?_, by decide +kernel⟩
  have : ∀ e ∈ stOf (rowsOf ⟨[], [(7, 1000, "xfy")], []⟩), e.1.1 ∈ sides ∧ e.2.2 ∈ kinds := by decide +kernel
  exact this e he
end Mine

namespace Mine

/-! symbols that stay -/
section
variable {α : Type} [DecidableEq α]
noncomputable def Le (ts ts' : List α) : Prop := ∀ y i, pos ts y = some i → pos ts' y = some i
theorem Le.refl (ts : List α) : Le ts ts := fun _ _ h => h
theorem Le.trans {a b c : List α} (x : Le a b) (y : Le b c) : Le a c := fun z i h => y z i (x z i h)
theorem Le.intern (ts : List α) (x : α) : Le ts (intern ts x) := fun _ _ h => pos_keep h
theorem num_of {ts : List α} {x : α} {i : Nat} (h : pos ts x = some i) : num ts x = i := by unfold num; rw [h]; rfl
theorem intern_of {ts : List α} {x : α} {i : Nat} (h : pos ts x = some i) : intern ts x = ts := by unfold Mine.intern; rw [h]
theorem num_le {ts ts' : List α} {x : α} (h : Le (Mine.intern ts x) ts') : num ts' x = num ts x ∧ Mine.intern ts' x = ts' := by
  have := h _ _ (pos_intern ts x)
  exact ⟨num_of this, intern_of this⟩
end
theorem tsE_len (ts : List Str) (act : Str) : (tsE ts act).length ≤ ts.length + 3 := by
  unfold tsE
  have h1 := intern_len ts act
  have h2 := intern_len (intern ts act) "operator"
  have h3 := intern_len (intern (intern ts act) "operator") "permission_error"
  omega
theorem fsE_len (ts : List Str) (fs : List (Int × Int)) (act : Str) : (fsE ts fs act).length ≤ fs.length + 1 := intern_len _ _
theorem Le.tsE (ts : List Str) (act : Str) : Le ts (tsE ts act) := ((Le.intern _ _).trans (Le.intern _ _)).trans (Le.intern _ _)
theorem Le.fsE (ts : List Str) (fs : List (Int × Int)) (act : Str) : Le fs (fsE ts fs act) := Le.intern _ _
/-- an error told again is the same -/
theorem ball_again {ts ts' : List Str} {fs fs' : List (Int × Int)} {act : Str} (h1 : Le (tsE ts act) ts') (h2 : Le (fsE ts fs act) fs') (a : Int) : ballE ts' fs' act a = ballE ts fs act a := by
  obtain ⟨a1, a2⟩ := num_le (((Le.intern _ _).trans (Le.intern _ _)).trans h1 : Le (intern ts act) ts')
  obtain ⟨b1, b2⟩ := num_le ((Le.intern _ _).trans h1 : Le (intern (intern ts act) "operator") ts')
  obtain ⟨c1, c2⟩ := num_le (h1 : Le (intern (intern (intern ts act) "operator") "permission_error") ts')
  obtain ⟨d1, d2⟩ := num_le (h2 : Le (intern fs ((num (intern (intern ts act) "operator") "permission_error" : Nat), 3)) fs')
  unfold ballE
  rw [a1, a2, b1, b2, c1, d1]
theorem ball_pure (ts : List Str) (fs : List (Int × Int)) (act : Str) (a : Int) : (ballE ts fs act a).pure = true := by
  have h : (strV "a").pure = true := pureStr (by decide +kernel)
  have h2 : (strV "s").pure = true := pureStr (by decide +kernel)
  simp [ballE, sysV, V.pure, V.pures, h, h2]
theorem ball_depth (ts : List Str) (fs : List (Int × Int)) (act : Str) (a : Int) : (ballE ts fs act a).py.depth ≤ 20 := by
  refine Nat.le_of_ble_eq_true ?_
  rfl

/-! the law's text -/
noncomputable def lawB (w : World) : List Stmt := match (KK w).lookup 410 with
  | some ⟨_, _, .func fd, _⟩ => (match fd.body with | .stmts b => b | _ => [])
  | _ => []
noncomputable def lawS (w : World) : Scope := match (KK w).lookup 410 with
  | some ⟨_, _, .func fd, _⟩ => fd.scope
  | _ => default
theorem law_eq {w : World} {name qual : Str} {params : Arguments} {body : List Stmt} {scope : Scope} {dV kV doc pm cdv ct oc : Value} {an od : Option Addr} {osl : Array (Option Value)}
    (ho : (KK w).lookup 410 = some ⟨oc, od, .func (fnX name qual params body scope [] dV kV doc pm an cdv ct), osl⟩) : lawB w = body ∧ lawS w = scope :=
  ⟨by unfold lawB; rw [ho], by unfold lawS; rw [ho]⟩

section
variable {w : World} {X : Cx} {m : Loc} {S : MS} {P : V → MS → Prop} {E : V → MS → Prop}
theorem cel {x : Str} {pos : Pos} {v : V} {c : Addr} (hm : m x = some v) (h : P v S) (hx : X.cs.names.lookup x = some .cell := by rfl) (hd : (x == ("__debug__" : Str)) = false := by rfl) (hc : X.cl.lookup x = some c := by rfl) : ex PG w (KK w) X (.Name x pos) m S P E := ex_cell hx hm hd hc h
theorem loc' {x : Str} {pos : Pos} {v : V} (hm : m x = some v) (h : P v S) (hx : X.cs.names.lookup x = some .local := by rfl) (hd : (x == ("__debug__" : Str)) = false := by rfl) (hc : X.cl.lookup x = none := by rfl) : ex PG w (KK w) X (.Name x pos) m S P E := ex_local hx hm hd hc h
theorem asc {P : Fl → Loc → MS → Prop} {x : Str} {c : Addr} {px pos : Pos} {e : Expr} (h : ex PG w (KK w) X e m S (fun v S' => P .next (upd m x v) S') E) (hO : X.own = true := by rfl) (hx : X.cs.names.lookup x = some .cell := by rfl) (hc : X.cl.lookup x = some c := by rfl) (hs : swapsWith e (some (.Name x px)) pos.line X.env = pure false := by rfl) :
    sx PG w (KK w) X (.Assign [.Name x px] e pos) m S P E := sx_assignC hO hx hc hs h
theorem mk {x : Str} {np pos : Pos} {l : List Expr} {C fI : Addr} (hn : 0 < X.n)
    (h : es PG w (KK w) X l m S (fun as S' => Fn PG w (KK w) fI (.loc S'.length :: as) (S' ++ [.inst C []]) (fun v S2 => v = .none ∧ P (.loc S'.length) S2) E (X.n - 1)) E) (hx : X.cs.names.lookup x = some .globalImplicit := by rfl) (he : nsIn (KK w) mainGlobals x = some (some (.ref C)) := by rfl) (hd : (x == ("__debug__" : Str)) = false := by rfl) (hk : keepIn (KK w) (.ref C) = true := by rfl) (hp : Plain X pos l := by repeat' (first | exact Plain.nil | refine Plain.cons rfl ?_))
    (hm : makesIn (KK w) C = true := by rfl) (hi : findIn (KK w) (.ref C) "__init__" = some (some (.ref fI)) := by rfl) (hf : typeIn (KK w) (.ref fI) = some (.type "function") := by rfl) : ex PG w (KK w) X (.Call (.Name x np) l [] pos) m S P E := ex_new hx he hd hk hp hm hi hf hn h
end
end Mine

namespace Mine

/-- where things lie -/
structure Pt where
  lr : Nat
  n : Nat
  o : Nat
  lw : Nat
  cs : List V
  ob : Obj
  words : List Str
noncomputable def Pt.L (p : Pt) : SL := ⟨p.n, p.n + 1, p.n + 2, p.n + 3, p.n + 4⟩
noncomputable def Pt.O (p : Pt) : OL := ⟨p.o, p.o + 1, p.o + 2, p.o + 3⟩
noncomputable def Pt.D (p : Pt) : List Nat := p.lr :: (p.L.D ++ p.O.D)
structure Wd (p : Pt) (S : MS) (ts : List Str) (fs : List (Int × Int)) (T : Tb) : Prop where
  scr : S[0]? = some (.listO p.cs p.ob)
  row : ∃ rs : List Int, S[p.lr]? = some (.list (rs.map V.int)) ∧ rs.length ≤ 90
  wrd : S[p.lw]? = some (.list (p.words.map V.str))
  sym : Sym S p.L ts fs
  ops : Ops S p.O p.L T
  ord : 0 < p.lr ∧ p.lr < p.n ∧ p.n + 4 < p.o ∧ p.o + 3 < p.lw
section
variable {p : Pt} {l : Nat} {S S' : MS} {ts ts' : List Str} {fs fs' : List (Int × Int)} {T T' : Tb}
theorem Wd.lwlt (h : Wd p S ts fs T) : p.lw < S.length := (List.getElem?_eq_some_iff.mp h.wrd).1
theorem Wd.same (h : Wd p S ts fs T) (s : Same [] S S') : Wd p S' ts fs T :=
  ⟨s.get h.scr List.not_mem_nil, let ⟨rs, a, b⟩ := h.row; ⟨rs, s.get a List.not_mem_nil, b⟩, s.get h.wrd List.not_mem_nil, h.sym.same s fun _ _ => List.not_mem_nil, h.ops.same s fun _ _ => List.not_mem_nil, h.ord⟩
theorem Pt.b5 {n l : Nat} (hl : l ∈ [n, n + 1, n + 2, n + 3, n + 4]) : n ≤ l ∧ l ≤ n + 4 := by
  simp only [List.mem_cons, List.not_mem_nil, or_false] at hl; omega
theorem Pt.bO (hl : l ∈ p.O.D) : p.o + 1 ≤ l ∧ l ≤ p.o + 3 := by
  simp only [OL.D, Pt.O, List.mem_cons, List.not_mem_nil, or_false] at hl; omega
theorem Pt.bL (hl : l ∈ p.L.D) : p.n + 1 ≤ l ∧ l ≤ p.n + 4 := by
  simp only [SL.D, Pt.L, List.mem_cons, List.not_mem_nil, or_false] at hl; omega
theorem off {D : List Nat} {a b : Nat} (h : ∀ x ∈ D, a ≤ x ∧ x ≤ b) (q : l < a ∨ b < l) : l ∉ D := fun z => q.elim (fun q => Nat.not_le.mpr q (h l z).1) fun q => Nat.not_le.mpr q (h l z).2
theorem offL {D : List Nat} {n a b : Nat} (h : ∀ x ∈ D, a ≤ x ∧ x ≤ b) (q : n + 4 < a ∨ b < n) : ∀ l ∈ [n, n + 1, n + 2, n + 3, n + 4], l ∉ D := fun l hl =>
  off h (q.imp (fun q => Nat.lt_of_le_of_lt (Pt.b5 hl).2 q) fun q => Nat.lt_of_lt_of_le q (Pt.b5 hl).1)
theorem offO {D : List Nat} {n a b : Nat} (h : ∀ x ∈ D, a ≤ x ∧ x ≤ b) (q : n + 3 < a ∨ b < n) : ∀ l ∈ [n, n + 1, n + 2, n + 3], l ∉ D := fun l hl => by
  have hb : n ≤ l ∧ l ≤ n + 3 := by simp only [List.mem_cons, List.not_mem_nil, or_false] at hl; omega
  exact off h (q.imp (fun q => Nat.lt_of_le_of_lt hb.2 q) fun q => Nat.lt_of_lt_of_le q hb.1)
theorem Wd.symb (h : Wd p S ts fs T) (s : Same p.L.D S S') (h' : Sym S' p.L ts' fs') : Wd p S' ts' fs' T := by
  obtain ⟨o1, o2, o3, o4⟩ := h.ord
  obtain ⟨rs, a, b⟩ := h.row
  have m : ∀ l ∈ p.L.D, p.n + 1 ≤ l ∧ l ≤ p.n + 4 := fun _ => Pt.bL
  exact ⟨s.get h.scr (off m (.inl (Nat.succ_pos _))), ⟨rs, s.get a (off m (.inl (Nat.lt_succ_of_lt o2))), b⟩, s.get h.wrd (off m (.inr (Nat.lt_trans o3 (Nat.lt_of_le_of_lt (Nat.le_add_right _ _) o4)))), h', h.ops.same s (offO m (.inr o3)), h.ord⟩
theorem Wd.opsb (h : Wd p S ts fs T) (s : Same p.O.D S S') (h' : Ops S' p.O p.L T') : Wd p S' ts fs T' := by
  obtain ⟨o1, o2, o3, o4⟩ := h.ord
  obtain ⟨rs, a, b⟩ := h.row
  have m : ∀ l ∈ p.O.D, p.o + 1 ≤ l ∧ l ≤ p.o + 3 := fun _ => Pt.bO
  exact ⟨s.get h.scr (off m (.inl (Nat.succ_pos _))), ⟨rs, s.get a (off m (.inl (Nat.lt_succ_of_lt (Nat.lt_trans o2 (Nat.lt_of_le_of_lt (Nat.le_add_right _ _) o3))))), b⟩, s.get h.wrd (off m (.inr o4)), h.sym.same s (offL m (.inl (Nat.lt_succ_of_lt o3))), h', h.ord⟩
theorem Wd.rowb (h : Wd p S ts fs T) {rs : List Int} (hz : rs.length ≤ 90) : Wd p (S.set p.lr (.list (rs.map V.int))) ts fs T := by
  obtain ⟨o1, o2, o3, o4⟩ := h.ord
  obtain ⟨_, hr, _⟩ := h.row
  have s : Same [p.lr] S (S.set p.lr (.list (rs.map V.int))) := .set (by simp)
  have m : ∀ l ∈ [p.lr], p.lr ≤ l ∧ l ≤ p.lr := fun l hl => by rw [List.mem_singleton.mp hl]; exact ⟨Nat.le_refl _, Nat.le_refl _⟩
  have o5 : p.lr < p.o := Nat.lt_trans o2 (Nat.lt_of_le_of_lt (Nat.le_add_right _ _) o3)
  exact ⟨s.get h.scr (off m (.inl o1)), ⟨rs, List.getElem?_set_self (List.getElem?_eq_some_iff.mp hr).1, hz⟩, s.get h.wrd (off m (.inr (Nat.lt_trans o5 (Nat.lt_of_le_of_lt (Nat.le_add_right _ _) o4)))), h.sym.same s (offL m (.inr o2)), h.ops.same s (offO m (.inr o5)), h.ord⟩
theorem Pt.memL (p : Pt) : ∀ l ∈ p.L.D, l ∈ p.D := fun l h => by simp [Pt.D, h]
theorem Pt.memO (p : Pt) : ∀ l ∈ p.O.D, l ∈ p.D := fun l h => by simp [Pt.D, h]
theorem Pt.memR (p : Pt) : ∀ l ∈ [p.lr], l ∈ p.D := fun l h => by
  simp only [List.mem_singleton] at h; simp [Pt.D, h]
/-- what lies beyond stays -/
theorem Wd.beyond (h : Wd p S ts fs T) {l : Nat} (hl : p.o + 3 < l) : l ∉ p.D := fun q => by
  obtain ⟨o1, o2, o3, o4⟩ := h.ord
  rcases List.mem_cons.mp q with q | q
  · rw [q] at hl; exact Nat.lt_irrefl _ (Nat.lt_trans hl (Nat.lt_of_lt_of_le (Nat.lt_trans o2 (Nat.lt_of_le_of_lt (Nat.le_add_right _ _) o3)) (Nat.le_add_right _ _)))
  · rcases List.mem_append.mp q with q | q
    · exact Nat.not_lt.mpr (Pt.bL q).2 (Nat.lt_trans o3 (Nat.lt_of_le_of_lt (Nat.le_add_right _ _) hl))
    · exact Nat.not_lt.mpr (Pt.bO q).2 hl
theorem Wd.La (h : Wd p S ts fs T) : p.L.a ∉ p.O.D := off (fun _ => Pt.bO) (.inl (Nat.lt_succ_of_lt (Nat.lt_of_le_of_lt (Nat.add_le_add_left (by decide : 2 ≤ 4) _) h.ord.2.2.1)))
end

structure Mh (p : Pt) (m : Loc) : Prop where
  row : m "row" = some (.loc p.lr)
  names : m "names" = some (.loc p.n)
  ops : m "operators" = some (.loc p.o)
  words : m "words" = some (.loc p.lw)
  wrong : m "wrong" = none
theorem Mh.upd {p : Pt} {m : Loc} (h : Mh p m) {x : Str} {v : V} (hx : Str.ofString "row" ≠ x ∧ Str.ofString "names" ≠ x ∧ Str.ofString "operators" ≠ x ∧ Str.ofString "words" ≠ x ∧ Str.ofString "wrong" ≠ x := by decide) : Mh p (upd m x v) :=
  ⟨(updOf hx.1).trans h.row, (updOf hx.2.1).trans h.names, (updOf hx.2.2.1).trans h.ops, (updOf hx.2.2.2.1).trans h.words, (updOf hx.2.2.2.2).trans h.wrong⟩

section
variable {w : World} {X : Cx} {m : Loc} {S : MS} {P : V → MS → Prop} {E : V → MS → Prop} {p : Pt} {ts : List Str} {fs : List (Int × Int)} {T : Tb}
/-- a number drawn from the script -/
theorem ex_next {np rp ip pos : Pos} {z : Int} {k : Nat} {c : Addr} (hm : Mh p m) (hW : Wd p S ts fs T) (hk : 1 ≤ X.n) (hz : 0 < z) (hx1 : X.cs.names.lookup ("_law_next" : Str) = some .globalImplicit) (hx2 : X.cs.names.lookup ("row" : Str) = some .cell) (hc : X.cl.lookup ("row" : Str) = some c) (hp : Plain X pos [.Name "row" rp, .Constant (.int z) k ip])
    (h : ∀ v S', 0 ≤ v → v < z → Wd p S' ts fs T → Same p.D S S' → P (.int v) S') : ex PG w (KK w) X (.Call (.Name "_law_next" np) [.Name "row" rp, .Constant (.int z) k ip] [] pos) m S P E := by
  obtain ⟨rs, hr, hrs⟩ := hW.row
  refine ex_call (f := 363) hx1 rfl rfl rfl hp (ec (cel hm.row (ec (ex_int (es_nil (Fn.le (f_next hz hr hrs fun v rs' h0 h1 h2 => ?_) hk))) rfl) hx2 rfl hc))
  exact h v _ h0 h1 (hW.rowb h2) (.set (by simp [Pt.D]))
end
end Mine

namespace Mine

noncomputable def turnB : List Stmt → List Stmt
  | [_, _, _, _, _, .For _ _ b _ _, _] => b
  | _ => []
noncomputable def innerB : List Stmt → List Stmt
  | [_, _, _, _, _, _, _, _, .For _ _ b _ _, _, _, _, _] => b
  | _ => []
noncomputable abbrev lawX (A₀ : Around) (outer : List Env) (g : Heap) (scope : Scope) (L fa : Addr) (cd : Value) (c1 c2 c3 : Addr) (k : Nat) : Cx := ⟨A₀, g, outer, g, "law", scope, L, fa, cd, [("words", c3), ("names", c2), ("row", c1)], k, true, []⟩

structure Ct (p : Pt) (st : Nat) (es : St) (h : Int) (x : Str) (T : Tb) (m : Loc) (S : MS) (ts : List Str) (fs : List (Int × Int)) : Prop where
  mh : Mh p m
  hst : m "state" = some (.loc st)
  hh : m "height" = some (.int h)
  kk : m "kind" = some (.str x)
  wd : Wd p S ts fs T
  hes : S[st]? = some (.tdict (stD es))
  far : p.o + 3 < st
theorem Ct.upd {p : Pt} {st : Nat} {es : St} {h : Int} {x : Str} {T : Tb} {m : Loc} {S : MS} {ts : List Str} {fs : List (Int × Int)} (c : Ct p st es h x T m S ts fs) {y : Str} {v : V}
    (hy : Str.ofString "row" ≠ y ∧ Str.ofString "names" ≠ y ∧ Str.ofString "operators" ≠ y ∧ Str.ofString "words" ≠ y ∧ Str.ofString "wrong" ≠ y := by decide) (hy2 : Str.ofString "state" ≠ y ∧ Str.ofString "height" ≠ y ∧ Str.ofString "kind" ≠ y := by decide) : Ct p st es h x T (upd m y v) S ts fs :=
  ⟨c.mh.upd hy, (updOf hy2.1).trans c.hst, (updOf hy2.2.1).trans c.hh, (updOf hy2.2.2).trans c.kk, c.wd, c.hes, c.far⟩
theorem Ct.go {p : Pt} {st : Nat} {es : St} {h : Int} {x : Str} {T : Tb} {m : Loc} {S S' : MS} {ts ts' : List Str} {fs fs' : List (Int × Int)} (c : Ct p st es h x T m S ts fs) (s : Same p.D S S') (wd : Wd p S' ts' fs' T) : Ct p st es h x T m S' ts' fs' :=
  ⟨c.mh, c.hst, c.hh, c.kk, wd, s.get c.hes (c.wd.beyond c.far), c.far⟩

/-- the first refused name's error, so far -/
noncomputable def Due (T : Tb) (h : Int) (x : Str) (ts : List Str) (fs : List (Int × Int)) (d : V) (pre : List Int) : Prop :=
  (d = .none ∧ ∀ b ∈ pre, refused T h x b = false) ∨
  ∃ p1 b p2 ts0 fs0, pre = p1 ++ b :: p2 ∧ (∀ c ∈ p1, refused T h x c = false) ∧ refused T h x b = true ∧ Le (tsE ts0 (actOf b)) ts ∧ Le (fsE ts0 fs0 (actOf b)) fs ∧ d = ballE ts0 fs0 (actOf b) b
theorem Due.pure {T : Tb} {h : Int} {x : Str} {ts : List Str} {fs : List (Int × Int)} {d : V} {pre : List Int} (z : Due T h x ts fs d pre) : d.pure = true ∧ d.py.depth ≤ 20 := by
  rcases z with ⟨rfl, _⟩ | ⟨p1, b, p2, ts0, fs0, _, _, _, _, _, rfl⟩
  · exact ⟨rfl, Nat.le_of_ble_eq_true rfl⟩
  · exact ⟨ball_pure _ _ _ _, ball_depth _ _ _ _⟩
/-- what one name's check tells -/
noncomputable def tell (T : Tb) (h : Int) (x : Str) (ts : List Str) (fs : List (Int × Int)) (a : Int) : V := if refused T h x a = true then ballE ts fs (actOf a) a else .none
theorem tell_pure (T : Tb) (h : Int) (x : Str) (ts : List Str) (fs : List (Int × Int)) (a : Int) : (tell T h x ts fs a).pure = true ∧ (tell T h x ts fs a).py.depth ≤ 20 := by
  unfold tell
  split
  · exact ⟨ball_pure _ _ _ _, ball_depth _ _ _ _⟩
  · exact ⟨rfl, Nat.le_of_ble_eq_true rfl⟩
theorem Due.step {T : Tb} {h : Int} {x : Str} {ts ts' : List Str} {fs fs' : List (Int × Int)} {d : V} {pre : List Int} (z : Due T h x ts fs d pre) {a : Int} (l1 : Le ts ts') (l2 : Le fs fs')
    (l3 : refused T h x a = true → Le (tsE ts (actOf a)) ts' ∧ Le (fsE ts fs (actOf a)) fs') : (d = .none → Due T h x ts' fs' (tell T h x ts fs a) (pre ++ [a])) ∧ (d ≠ .none → Due T h x ts' fs' d (pre ++ [a])) := by
  rcases z with ⟨rfl, hp⟩ | ⟨p1, b, p2, ts0, fs0, rfl, hp, hb, e1, e2, rfl⟩
  · refine ⟨fun _ => ?_, fun q => absurd rfl q⟩
    unfold tell
    cases hr : refused T h x a with
    | false =>
      rw [if_neg Bool.false_ne_true]
      refine .inl ⟨rfl, fun b hb => ?_⟩
      rcases List.mem_append.mp hb with hb | hb
      · exact hp b hb
      · rw [List.mem_singleton.mp hb]; exact hr
    | true =>
      (first | refine iteP rfl ?_ | rw [if_pos rfl])
      exact .inr ⟨pre, a, [], ts, fs, rfl, hp, hr, (l3 hr).1, (l3 hr).2, rfl⟩
  · refine ⟨fun q => ?_, fun _ => .inr ⟨p1, b, p2 ++ [a], ts0, fs0, by simp, hp, hb, e1.trans l1, e2.trans l2, rfl⟩⟩
    unfold ballE sysV at q
    cases q

section
variable {w : World}
theorem inner_ss {A₀ : Around} {outer : List Env} {g : Heap} {L fa : Addr} {cd : Value} {c1 c2 c3 : Addr} {k : Nat} (hk : 12 ≤ k) {p : Pt} {st : Nat} {es : St} {h : Int} {x : Str} {T : Tb} {ts : List Str} {fs : List (Int × Int)} {m : Loc} {S : MS} {a : Int} {d : V} {pre : List Int} {P : Fl → Loc → MS → Prop} {B : List Stmt} {scope : Scope} (hB : innerB (turnB (lawB w)) = B) (hs : lawS w = scope)
    (c : Ct p st es h x T m S ts fs) (hr : Rel T es) (hx : x ∈ kinds) (h0 : 0 ≤ h) (h12 : h ≤ 1200) (hts : ts.length ≤ 1000) (hfs : fs.length ≤ 1000) (hT : T.len ≤ 50) (ha : m "a" = some (.int a)) (hd : m "due" = some d) (hdue : Due T h x ts fs d pre)
    (hP : ∀ m' S' ts' fs' d', Ct p st es h x T m' S' ts' fs' → Same p.D S S' → ts'.length ≤ ts.length + 6 → fs'.length ≤ fs.length + 2 → m' "due" = some d' → Due T h x ts' fs' d' (pre ++ [a]) → (∀ y v, y ∈ [Str.ofString "crowd", Str.ofString "named"] → m y = some v → m' y = some v) → P .next m' S') :
    ss PG w (KK w) (lawX A₀ outer g scope L fa cd c1 c2 c3 k) B m S P (fun _ _ => False) := by
  obtain ⟨e1, e2⟩ := law_eq (w := w) rfl
  rw [e1] at hB
  rw [e2] at hs
  dsimp only [turnB, innerB] at hB
  subst hB hs
  clear e1 e2
  have hel : es.length ≤ 4000 := by rw [hr.len]; omega
  refine ss_cons (asg (cl (f := 398) (ec (loc' c.hst (ec (loc' c.hh (ec (loc' c.kk (ec (loc' ha (es_nil (Fn.le (f_barred c.hes hr.fin hr.ok hx hel fun S1 s1 => ?_) (Nat.le_trans (by decide) hk)))))))))))))
  rw [barred_refused hr hx h0 h12 a]
  have c1' := (c.go (s1.mono fun _ q => absurd q List.not_mem_nil) (c.wd.same s1)).upd (y := "barred") (v := .bool (refused T h x a))
  have a1 : upd m "barred" (.bool (refused T h x a)) "a" = some (.int a) := (updOf (by decide)).trans ha
  have d1 : upd m "barred" (.bool (refused T h x a)) "due" = some d := (updOf (by decide)).trans hd
  have b1 : upd m "barred" (.bool (refused T h x a)) "barred" = some (.bool (refused T h x a)) := updSelf
  have kp1 : ∀ y v, y ∈ [Str.ofString "crowd", Str.ofString "named"] → m y = some v → upd m "barred" (.bool (refused T h x a)) y = some v := fun y v hy e => (updOf (by
    simp only [List.mem_cons, List.not_mem_nil, or_false] at hy
    rcases hy with rfl | rfl <;> decide)).trans e
  have sm1 : Same p.D S S1 := s1.mono fun _ q => absurd q List.not_mem_nil
  generalize upd m "barred" (.bool (refused T h x a)) = m1 at c1' a1 d1 b1 kp1 ⊢
  refine ss_cons (asg (ex_none ?_))
  have c2' := c1'.upd (y := "told") (v := .none)
  have a2 : upd m1 "told" .none "a" = some (.int a) := (updOf (by decide)).trans a1
  have d2 : upd m1 "told" .none "due" = some d := (updOf (by decide)).trans d1
  have b2 : upd m1 "told" .none "barred" = some (.bool (refused T h x a)) := (updOf (by decide)).trans b1
  have t2 : upd m1 "told" .none "told" = some .none := updSelf
  have kp2 : ∀ y v, y ∈ [Str.ofString "crowd", Str.ofString "named"] → m y = some v → upd m1 "told" .none y = some v := fun y v hy e => (updOf (by
    simp only [List.mem_cons, List.not_mem_nil, or_false] at hy
    rcases hy with rfl | rfl <;> decide)).trans (kp1 y v hy e)
  generalize upd m1 "told" .none = m2 at c2' a2 d2 b2 t2 kp2 ⊢
  -- the try
  refine ss_cut (fun m' S' => ∃ ts' fs', Ct p st es h x T m' S' ts' fs' ∧ Same p.D S1 S' ∧ Le ts ts' ∧ Le fs fs' ∧ ts'.length ≤ ts.length + 3 ∧ fs'.length ≤ fs.length + 1 ∧ (refused T h x a = true → Le (tsE ts (actOf a)) ts' ∧ Le (fsE ts fs (actOf a)) fs') ∧
    m' "told" = some (tell T h x ts fs a) ∧ m' "a" = some (.int a) ∧ m' "due" = some d ∧ m' "barred" = some (.bool (refused T h x a)) ∧ ∀ y v, y ∈ [Str.ofString "crowd", Str.ofString "named"] → m y = some v → m' y = some v)
    (sx_try rfl rfl rfl rfl rfl rfl rfl c2'.mh.wrong rfl rfl rfl (me (C := 347) (f := 344) (loc' c2'.mh.ops ⟨p.o, _, rfl, c2'.wd.ops.o, rfl, ec (loc' c2'.hh (ec (loc' c2'.kk (ec (loc' a2 (es_nil (Fn.le (f_check c2'.wd.ops c2'.wd.sym (by omega) (by omega) (fun hno => ?_) fun hyes S3 h3 s3 => ?_) (Nat.le_trans (by decide) hk))))))))⟩))) fun m3 S3 hq => ?_
  · refine ⟨rfl, ts, fs, c2', .refl _ _, .refl _, .refl _, by omega, by omega, (fun q => by rw [hno] at q; cases q), ?_, a2, d2, b2, kp2⟩
    unfold tell
    rw [hno, if_neg Bool.false_ne_true]; exact t2
  · have l1 := tsE_len ts (actOf a)
    have l2 := fsE_len ts fs (actOf a)
    refine ⟨rfl, _, _, (c2'.go (s3.mono p.memL) (c2'.wd.symb s3 h3)).upd, s3.mono p.memL, Le.tsE _ _, Le.fsE _ _ _, l1, l2, fun _ => ⟨.refl _, .refl _⟩, ?_, (updOf (by decide)).trans a2, (updOf (by decide)).trans d2, (updOf (by decide)).trans b2, fun y v hy e => (updOf (by
      simp only [List.mem_cons, List.not_mem_nil, or_false] at hy
      rcases hy with rfl | rfl <;> decide)).trans (kp2 y v hy e)⟩
    unfold tell
    rw [hyes, if_pos rfl]; exact updSelf
  obtain ⟨ts3, fs3, c3', s3, le1, le2, z1, z2, le3, t3, a3, d3, b3, kp3⟩ := hq
  -- told != the law's own
  refine ss_cut (fun m' S' => m' = m3 ∧ ∃ ts' fs', Ct p st es h x T m' S' ts' fs' ∧ Same p.D S3 S' ∧ Le ts3 ts' ∧ Le fs3 fs' ∧ ts'.length ≤ ts3.length + 3 ∧ fs'.length ≤ fs3.length + 1)
    (sx_if (cmp (loc' t3 (ex.mono (P := fun v S' => v = tell T h x ts fs a ∧ ∃ ts' fs', Ct p st es h x T m3 S' ts' fs' ∧ Same p.D S3 S' ∧ Le ts3 ts' ∧ Le fs3 fs' ∧ ts'.length ≤ ts3.length + 3 ∧ fs'.length ≤ fs3.length + 1) (ex_if (te_val (fun _ _ => rfl) (loc' b3 ⟨_, rfl, ?_⟩))) (fun v S' hv => ?_) fun _ _ z => z)))) fun m4 S4 hq => ?_
  · cases hrr : refused T h x a with
    | false =>
      rw [if_neg Bool.false_ne_true]
      refine ex_none ⟨?_, ts3, fs3, c3', .refl _ _, .refl _, .refl _, by omega, by omega⟩
      unfold tell; rw [hrr, if_neg Bool.false_ne_true]
    | true =>
      (first | refine iteP rfl ?_ | rw [if_pos rfl])
      refine cl (f := 405) (ec (cel c3'.mh.names (ec (loc' a3 (es_nil (Fn.le (f_refusal (L := p.L) c3'.wd.sym (by omega) (by omega) fun S4 h4 s4 => ?_) (Nat.le_trans (by decide) hk)))))))
      have l1 := tsE_len ts3 (actOf a)
      have l2 := fsE_len ts3 fs3 (actOf a)
      refine ⟨?_, _, _, c3'.go (s4.mono p.memL) (c3'.wd.symb s4 h4), s4.mono p.memL, Le.tsE _ _, Le.fsE _ _ _, l1, l2⟩
      unfold tell; rw [hrr, if_pos rfl]
      exact ball_again (le3 hrr).1 (le3 hrr).2 a
  · obtain ⟨rfl, ts', fs', c', s', e1, e2, y1, y2⟩ := hv
    obtain ⟨q1, q2⟩ := tell_pure T h x ts fs a
    refine op_neb q1 q1 (Nat.le_trans (Nat.min_le_left _ _) q2) true ⟨fun _ => rfl, fun _ => rfl⟩ ⟨false, rfl, ?_⟩
    (first | refine iteN (by decide) ?_ | rw [if_neg (by decide)])
    exact ss_nil ⟨rfl, rfl, ts', fs', c', s', e1, e2, y1, y2⟩
  obtain ⟨rfl, ts4, fs4, c4', s4, le4, le5, z3, z4⟩ := hq
  have all : Same p.D S S4 := (sm1.trans s3).trans s4
  have le3' : refused T h x a = true → Le (tsE ts (actOf a)) ts4 ∧ Le (fsE ts fs (actOf a)) fs4 := fun q => ⟨(le3 q).1.trans le4, (le3 q).2.trans le5⟩
  obtain ⟨n1, n2⟩ := hdue.step (le1.trans le4) (le2.trans le5) le3'
  refine ss_cons (sx_if (cmp (loc' d3 (ex_none (op_isNone (fun q => ⟨true, rfl, ?_⟩) fun q => ⟨false, rfl, ?_⟩)))))
  · (first | refine iteP rfl ?_ | rw [if_pos rfl])
    refine ss_cons (asg (loc' t3 (ss_nil (ss_nil ?_))))
    exact hP _ _ _ _ _ c4'.upd all (by omega) (by omega) updSelf (n1 q) fun y v hy e => (updOf (by
      simp only [List.mem_cons, List.not_mem_nil, or_false] at hy
      rcases hy with rfl | rfl <;> decide)).trans (kp3 y v hy e)
  · (first | refine iteN (by decide) ?_ | rw [if_neg (by decide)])
    exact ss_nil (ss_nil (hP _ _ _ _ _ c4' all (by omega) (by omega) d3 (n2 q) kp3))
end
end Mine

namespace Mine

section
variable {prog : Program} {w : World} {K : Frag} {X : Cx} {m : Loc} {S : MS} {E : V → MS → Prop}

/-- a list made by a walk, and named at once -/
theorem sx_listcomp {elt iter : Expr} {x : Str} {px : Pos} {scope : Scope} {cl : List (Str × Addr)} {pos : Pos} {yn : Str} {py spos : Pos} {P : Fl → Loc → MS → Prop} (hO : X.own = true) (hsw : swapsWith (.ListComp elt [⟨.Name x px, iter, [], 0⟩] scope pos) (some (.Name yn py)) spos.line X.env = pure true) (hyl : X.cs.names.lookup yn = some .local) (hyc : X.cl.lookup yn = none) (hkp : X.keep = []) (hclos : closureFor scope X.env = pure cl) (hcell : ∀ y ∈ scope.names, y.2 ≠ .cell) (hkind : scope.kind = .function)
    (hnames : ∀ y ∈ scope.names, y.2 = .local → scope.names.lookup y.1 = some .local) (hx : scope.names.lookup x = some .local) (hfs : ∀ x, foldedSetIterable iter X.env x = pure x)
    (hel : ∀ C, eval elt (compEnvC scope cl C X.env) = eval elt X.env)
    (h : itr prog w K X iter m S (fun src xs S1 => owned src = false ∧ ∃ I : List V → List V → MS → Prop, I xs [] (S1 ++ [.list []]) ∧ (∀ rest ys S, I rest ys S → ∀ l mo, src = some (l, mo) → S[l]? = some mo) ∧
      (∀ x rest ys S, I (x :: rest) ys S → ∀ C, ex prog w K { X with keep := [C] } elt m S (fun v S' => S'[S1.length]? = some (.list ys) ∧ ys.length ≤ 1000 ∧ I rest (ys ++ [v]) (S'.set S1.length (.list (ys ++ [v])))) (fun _ _ => False)) ∧
      (∀ ys S, I [] ys S → P .next (upd m yn (.loc S1.length)) S)) E) : sx prog w K X (.Assign [.Name yn py] (.ListComp elt [⟨.Name x px, iter, [], 0⟩] scope pos) spos) m S P E := fun s r i => by
  rw [exec_Assign_Name_used _ _ _ _ hsw]
  refine wpAny_bind (wpAny_standAt (wpAny_bind ?_))
  show wpAny _ X.A (do let _ ← comprehension (.ListComp elt [⟨.Name x px, iter, [], 0⟩] scope pos) scope X.env _ (newList []) false (eval iter X.env) (some (assign (.Name yn py) X.env))) _ _ s
  refine wpAny_bind (wpAny_mono (wpAny_comprehension_free (use := some (assign (.Name yn py) X.env)) (Q := fun _ s' => Post prog w K RF X s r P .next s') rfl hfs hclos hkind hnames (h s r i fun s₁ r₁ s₂ r₂ S1 ia src xs e1 e2 k12 hn i2 fr t hs hp => ?_)) (fun _ s' hq => wpAny_pure (wpAny_pure hq)) fun _ _ e => e)
  obtain ⟨how, I, h0, hsrc, turn, fin⟩ := hp
  -- the list and the walk's own names
  refine wpAny_newObj_type ?_ (by size_fits)
  have k3 : ∀ b o, s₂.heap.get? b = some o → (s₂.heap.push { cls := .type "list", data := .seq ([] : List Value).toArray }).get? b = some o := pushKeep _ _
  have i3 := i2.add (g := s₂.gens) (d := s₂.drawn) (t := s₂.toks) (os := s₂.os) (p := (s₂.heap.objs.size, s₂.heap.objs.size)) (mo := .list []) k3 (Nat.le_refl _) ⟨rfl, #[], ⟨0, Heap.get?_push_size _ rfl⟩, .nil⟩
  have hrl : (r₂ ++ [(s₂.heap.objs.size, s₂.heap.objs.size)])[S1.length]? = some (s₂.heap.objs.size, s₂.heap.objs.size) := i2.newLoc _
  have e3 : Ext X s₁ r₁ { s₂ with heap := s₂.heap.push { cls := .type "list", data := .seq ([] : List Value).toArray } } (r₂ ++ [(s₂.heap.objs.size, s₂.heap.objs.size)]) := e2.trans (.growAdd (t := s₂.toks) k3)
  have t3 := t.mono (.of_keeps k3) (.app r₂ [(s₂.heap.objs.size, s₂.heap.objs.size)]) (k3 ia)
  generalize hH : s₂.heap.push { cls := .type "list", data := .seq ([] : List Value).toArray } = H at i3 e3 t3
  generalize hR3 : r₂ ++ [(s₂.heap.objs.size, s₂.heap.objs.size)] = r3 at i3 e3 t3 hrl
  refine wpAny_newFunctionEnv hcell (by intro y hy; simp at hy) (fun h4 hns4 hsb4 => ?_) hkind
  dsimp only at hns4 hsb4 ⊢
  have k4 : ∀ b o, H.get? b = some o → h4.get? b = some o := fun b o e => hsb4.extBut b o (Nat.ne_of_lt (Heap.lt_size e)) (Heap.get?_push_of_some _ e)
  have hCn : H.get? H.objs.size = none := hnew _
  have frC := i3.fresh hCn
  have hnC : s₁.heap.get? H.objs.size = none := by
    cases q : s₁.heap.get? H.objs.size with
    | none => rfl
    | some o => rw [← hH] at hCn; rw [k3 _ _ (k12 _ _ (hH ▸ q))] at hCn; cases hCn
  have i4 := i3.keeps (g := s₂.gens) (d := s₂.drawn) (t := s₂.toks + ([] : List (Str × Value)).length) (os := s₂.os) k4
  have e4 : Ext X s₁ r₁ { s₂ with heap := h4, toks := s₂.toks + ([] : List (Str × Value)).length } r3 := e3.trans (.grow (s := { s₂ with heap := H }) (t := s₂.toks + ([] : List (Str × Value)).length) k4)
  have t4 := t3.mono (.of_keeps k4) (.refl _) (k4 ia)
  have hrC : ∀ p ∈ r3, p.2 ≠ H.objs.size := fun p hp q => by
    obtain ⟨l, hl⟩ := List.mem_iff_getElem?.mp hp
    obtain ⟨mo, _, ro⟩ := i3.rep.at hl
    obtain ⟨o, ho, _⟩ := ro.mutAt
    rw [q, hCn] at ho; cases ho
  have hiaC : ia ≠ H.objs.size := fun q => by
    obtain ⟨o, vs, ho, _⟩ := t3.at
    rw [q, hCn] at ho; cases ho
  generalize hCC : H.objs.size = C at hns4 frC hrC hiaC hnC ⊢
  generalize hs4 : ({ s₂ with heap := h4, toks := s₂.toks + ([] : List (Str × Value)).length } : Shared) = s4 at i4 e4
  have hh4 : s4.heap = h4 := by rw [← hs4]
  rw [← hh4] at hns4 t4
  -- the turns
  have loop : codeAny (model prog w) X.A (.compLoop (.ListComp elt [⟨.Name x px, iter, [], 0⟩] scope pos) 0 (.ref ia) (.ref s₂.heap.objs.size) (compEnvC scope cl C X.env))
      (compPost (model prog w) X.A (PostE prog w X s r E) (some (assign (.Name yn py) X.env)) (fun _ s' => Post prog w K RF X s r P .next s') (.ref s₂.heap.objs.size) C) s4 := by
    refine codeAny_compLoop_list (fun n s' => ∃ rest ys S' r' mC, n = rest.length ∧ In prog w K X m S' r' s' ∧ Ext X s₁ r₁ s' r' ∧ It s'.heap r' ia src rest ∧ I rest ys S' ∧ s'.heap.Ns C mC ∧ (∀ p ∈ r', p.2 ≠ C) ∧ Pre r3 r') ?_ xs.length ⟨xs, [], S1 ++ [.list []], r3, _, rfl, i4, e4, t4, h0, hns4, hrC, .refl _⟩
    rintro n s' ⟨rest, ys, S', r', mC, rfl, i', e', t', h', hC, hr', hpre⟩
    cases rest with
    | nil =>
      refine It.stop i' (hsrc _ _ _ h') t' fr fun h2 i2' eb => ?_
      have hC2 := hC.extBut eb (Ne.symm hiaC)
      have e2' : Ext X s₁ r₁ { s' with heap := h2 } r' := e'.over (t := s'.toks) eb hn
      obtain ⟨mm, F2, _⟩ := i2'.fr
      obtain ⟨oL, hoL, _, hfL⟩ := i2'.Lat
      have hcls : (X.cs.kind == .class || (X.cs.kind == .module && X.L != mainGlobals)) = false := by rw [i.ok.kind]; rfl
      show wpAny _ _ (assign (.Name yn py) X.env (.ref s₂.heap.objs.size)) _ _ _
      refine wpAny_assign_Name (wpAny_storeName_local hyl F2.ns (fun h3 hn3 hs3 => ?_) hcls)
      have i3' := i2'.local (g := s'.gens) (d := s'.drawn) (t := s'.toks + 1) (os := s'.os) hyc (.loc (d := s₂.heap.objs.size) (hpre _ _ hrl)) mm F2.ns hs3 hn3
      have hC3 := hC2.sameBut hs3 frC.2.1
      refine ⟨mC, hC3, fun h5 hs5 => ?_⟩
      obtain ⟨oC, esC, epC, hoC, hdC, _⟩ := hC3
      have hfC : ∀ o, h3.get? C = some o → frozen o = false := fun o ho => by rw [hoC] at ho; cases ho; unfold frozen; rw [hdC]
      have i5 := i3'.butX (h' := h5) (g := s'.gens) (d := s'.drawn) (t := s'.toks + 1) (os := s'.os) hs5.extBut hfC frC hr'
      have e3' : Ext X { s' with heap := h2 } r' { s' with heap := h3, toks := s'.toks + 1 } r' := .but (s := { s' with heap := h2 }) (t := s'.toks + 1) hs3 (fun o ho => by rw [hoL] at ho; cases ho; exact hfL) fun o ho _ z => (z hO).1 rfl
      exact done (b := Fl.next) i5 (e1.trans ((e2'.trans e3').over (t := s'.toks + 1) hs5.extBut hnC)) trivial (fin _ _ h')
    | cons y rest =>
      refine It.next i' (hsrc _ _ _ h') t' fr (target := .Name x px) (fun q => by rw [how] at q; cases q) fun v s1 own => ?_
      show wpAny _ _ (letOwnedTupleGo (.Name x px) (.ref ia) v >>= fun _ => assign (.Name x px) (compEnvC scope cl C X.env) v) _ _ _
      refine wpAny_bind (own fun h2 t2 i2' eb rx it2 => ?_)
      have hC2 := hC.extBut eb (Ne.symm hiaC)
      have e2' : Ext X s₁ r₁ { s' with heap := h2, toks := t2 } r' := e'.over (t := t2) eb hn
      refine wpAny_assign_Name (wpAny_storeName_local (env := compEnvC scope cl C X.env) (lookup_relabel_local hx) hC2 (fun h3 hn3 hs3 => ?_) (by simp [compEnvC, relabel, hkind]))
      replace hs3 : Heap.SameBut C h2 h3 := hs3
      replace hn3 : h3.Ns C _ := hn3
      obtain ⟨oC, esC, epC, hoC, hdC, _⟩ := hC2
      have hfC : ∀ o, h2.get? C = some o → frozen o = false := fun o ho => by rw [hoC] at ho; cases ho; unfold frozen; rw [hdC]
      have i3' := i2'.butX (h' := h3) (g := s'.gens) (d := s'.drawn) (t := t2 + 1) (os := s'.os) hs3.extBut hfC frC hr'
      have e3' : Ext X s₁ r₁ { s' with heap := h3, toks := t2 + 1 } r' := e2'.over (s := { s' with heap := h2, toks := t2 }) (t := t2 + 1) hs3.extBut hnC
      have it3 := it2.mono (.of_sameBut hs3 hfC) (.refl r') fun o ho => (hs3.2 ia hiaC).trans ho
      obtain ⟨oC3, esC3, epC3, hoC3, hdC3, hkC3, hfC3⟩ := hn3
      have ih := i3'.hold hkp hr' frC.2.1 frC.1 ⟨oC3, hoC3, esC3, epC3, hdC3⟩
      rw [hel]
      refine wpAny_mono (turn y rest ys S' h' C _ _ ih) (fun va s5 ⟨b, m5, S5, r5, i5, e5, q5, em5, hl5, hz5, p5⟩ => ?_) fun e s5 ⟨_, _, _, _, _, z⟩ => z.elim
      subst em5
      obtain ⟨i5', hr5⟩ := i5.unhold hkp
      have e5' := e5.unhold hkp
      have it5 := Ext.rec (s₀ := s') (r₀ := r') i3' it3 fr e5'
      obtain ⟨sl5, hg5, _⟩ := e5.2.2.1 C oC3 hoC3 (.inr (.inr (.inr List.mem_cons_self))) (fun _ => ⟨frC.2.1, fun x c hc => frC.2.2.1 x c hc⟩) (.inl (by rw [hdC3]; exact nofun))
      have hC5 : s5.heap.Ns C (fun name => nsFind esC3 name) := ⟨_, esC3, epC3, hg5, hdC3, hkC3, fun _ => rfl⟩
      have hpre5 : Pre r3 r5 := hpre.trans e5.2.1
      have hap : opL prog w K { X with keep := [C] } (fun vs => call (.builtin "list.append") vs) [.loc S1.length, b] m5 S5 (fun v S => I rest (ys ++ [b]) S) (fun _ _ => False) := opL_append hl5 (by omega) p5
      refine wpAny_mono (hap s5 r5 [.ref s₂.heap.objs.size, va] i5 (.cons (.loc (d := s₂.heap.objs.size) (hpre5 _ _ hrl)) (.cons q5 .nil))) (fun vb s6 ⟨b6, m6, S6, r6, i6, e6, q6, em6, p6⟩ => ?_) fun e s6 ⟨_, _, _, _, _, z⟩ => z.elim
      subst em6
      obtain ⟨i6', hr6⟩ := i6.unhold hkp
      have e6' := e6.unhold hkp
      have it6 := Ext.rec (s₀ := s') (r₀ := r') i5' it5 fr e6'
      obtain ⟨sl6, hg6, _⟩ := e6.2.2.1 C _ hg5 (.inr (.inr (.inr List.mem_cons_self))) (fun _ => ⟨frC.2.1, fun x c hc => frC.2.2.1 x c hc⟩) (.inl (by rw [hdC3]; exact nofun))
      exact ⟨rest.length, Nat.lt_succ_self _, rest, ys ++ [b], S6, r6, _, rfl, i6', (e3'.trans e5').trans e6', it6, p6, ⟨_, esC3, epC3, hg6, hdC3, hkC3, fun _ => rfl⟩, hr6, hpre5.trans e6.2.1⟩
  exact codeAny_compStart_list loop (t4.self how loop)
end
end Mine

namespace Mine

noncomputable def wordsL : List Str := ["-", "foo", "|", ",", "[]", "{}", "is"]
noncomputable def hts : List Int := [500, 0, 1000, 1001, 1200, 1, -1]
theorem pickI {l : List Int} {v : Int} (h0 : 0 ≤ v) (h1 : v < l.length) : ∃ z ∈ l, (l.map V.int)[v.toNat]? = some (V.int z) := by
  have : v.toNat < l.length := by omega
  exact ⟨l[v.toNat], List.getElem_mem _, by rw [List.getElem?_map, List.getElem?_eq_getElem this]; rfl⟩
theorem pickS {l : List Str} {v : Int} (h0 : 0 ≤ v) (h1 : v < l.length) : ∃ z ∈ l, (l.map V.str)[v.toNat]? = some (V.str z) := by
  have : v.toNat < l.length := by omega
  exact ⟨l[v.toNat], List.getElem_mem _, by rw [List.getElem?_map, List.getElem?_eq_getElem this]; rfl⟩

/-- before the kind and the height are drawn -/
structure C0 (p : Pt) (st : Nat) (es : St) (T : Tb) (m : Loc) (S : MS) (ts : List Str) (fs : List (Int × Int)) : Prop where
  mh : Mh p m
  hst : m "state" = some (.loc st)
  wd : Wd p S ts fs T
  hes : S[st]? = some (.tdict (stD es))
  far : p.o + 3 < st
theorem C0.upd {p : Pt} {st : Nat} {es : St} {T : Tb} {m : Loc} {S : MS} {ts : List Str} {fs : List (Int × Int)} (c : C0 p st es T m S ts fs) {y : Str} {v : V}
    (hy : Str.ofString "row" ≠ y ∧ Str.ofString "names" ≠ y ∧ Str.ofString "operators" ≠ y ∧ Str.ofString "words" ≠ y ∧ Str.ofString "wrong" ≠ y := by decide) (hy2 : Str.ofString "state" ≠ y := by decide) : C0 p st es T (upd m y v) S ts fs :=
  ⟨c.mh.upd hy, (updOf hy2).trans c.hst, c.wd, c.hes, c.far⟩
theorem C0.go {p : Pt} {st : Nat} {es : St} {T : Tb} {m : Loc} {S S' : MS} {ts ts' : List Str} {fs fs' : List (Int × Int)} (c : C0 p st es T m S ts fs) (s : Same p.D S S') (wd : Wd p S' ts' fs' T) : C0 p st es T m S' ts' fs' :=
  ⟨c.mh, c.hst, wd, s.get c.hes (c.wd.beyond c.far), c.far⟩
theorem C0.app {p : Pt} {st : Nat} {es : St} {T : Tb} {m : Loc} {S : MS} {ts : List Str} {fs : List (Int × Int)} (c : C0 p st es T m S ts fs) (G : MS) : C0 p st es T m (S ++ G) ts fs := c.go (.app _ _ _) (c.wd.same (.app _ _ _))
theorem C0.big {p : Pt} {st : Nat} {es : St} {T : Tb} {m : Loc} {S : MS} {ts : List Str} {fs : List (Int × Int)} (c : C0 p st es T m S ts fs) : p.o + 3 < S.length := Nat.lt_trans c.wd.ord.2.2.2 c.wd.lwlt

theorem Wd.farS {p : Pt} {S S' : MS} {ts : List Str} {fs : List (Int × Int)} {T : Tb} {j : Nat} (h : Wd p S ts fs T) (hj : p.lw < j) (s : Same [j] S S') : Wd p S' ts fs T := by
  obtain ⟨o1, o2, o3, o4⟩ := h.ord
  obtain ⟨rs, a, b⟩ := h.row
  have m : ∀ l ∈ [j], j ≤ l ∧ l ≤ j := fun l hl => by rw [List.mem_singleton.mp hl]; exact ⟨Nat.le_refl _, Nat.le_refl _⟩
  have o6 : p.o + 3 < j := Nat.lt_trans o4 hj
  have o5 : p.n + 4 < j := Nat.lt_trans o3 (Nat.lt_of_le_of_lt (Nat.le_add_right _ _) o6)
  have o7 : p.lr < j := Nat.lt_trans o2 (Nat.lt_of_le_of_lt (Nat.le_add_right _ _) o5)
  exact ⟨s.get h.scr (off m (.inl (Nat.lt_trans o1 o7))), ⟨rs, s.get a (off m (.inl o7)), b⟩, s.get h.wrd (off m (.inl hj)), h.sym.same s (offL m (.inl o5)), h.ops.same s (offO m (.inl o6)), h.ord⟩
theorem Ct.farS {p : Pt} {st : Nat} {es : St} {h : Int} {x : Str} {T : Tb} {m : Loc} {S S' : MS} {ts : List Str} {fs : List (Int × Int)} {j : Nat} (c : Ct p st es h x T m S ts fs) (hj : p.lw < j) (hst : st ≠ j) (s : Same [j] S S') : Ct p st es h x T m S' ts fs :=
  ⟨c.mh, c.hst, c.hh, c.kk, c.wd.farS hj s, s.get c.hes (by simpa using hst), c.far⟩
theorem Ct.stlt {p : Pt} {st : Nat} {es : St} {h : Int} {x : Str} {T : Tb} {m : Loc} {S : MS} {ts : List Str} {fs : List (Int × Int)} (c : Ct p st es h x T m S ts fs) : st < S.length := (List.getElem?_eq_some_iff.mp c.hes).1
theorem Ct.big {p : Pt} {st : Nat} {es : St} {h : Int} {x : Str} {T : Tb} {m : Loc} {S : MS} {ts : List Str} {fs : List (Int × Int)} (c : Ct p st es h x T m S ts fs) : p.o + 3 < S.length := Nat.lt_trans c.wd.ord.2.2.2 c.wd.lwlt

theorem Tb.tb_le (T : Tb) (x : Str) : (T.tb x).length ≤ T.len := by
  unfold Tb.tb Tb.len
  split
  · omega
  · split <;> omega
theorem fix_kind {x : Str} (hx : x ∈ kinds) : fixV x ≠ .none := by
  simp only [kinds, List.mem_cons, List.not_mem_nil, or_false] at hx
  rcases hx with rfl | rfl | rfl | rfl | rfl | rfl | rfl <;> (intro q; unfold fixV at q; revert q; simp (decide := true) [strV])
theorem first_one {α : Type} {f : α → Bool} : ∀ {p1 pre : List α} {b a : α} {p2 post : List α}, p1 ++ b :: p2 = pre ++ a :: post → (∀ c ∈ p1, f c = false) → f b = true → (∀ c ∈ pre, f c = false) → f a = true → b = a
  | [], [], _, _, _, _, e, _, _, _, _ => (List.cons.inj e).1
  | [], c :: pre, b, a, _, _, e, _, hb, hp, _ => by
    have := (List.cons.inj e).1
    rw [this, hp c (.head _)] at hb; cases hb
  | c :: p1, [], b, a, _, _, e, h1, _, _, ha => by
    have := (List.cons.inj e).1
    rw [← this, h1 c (.head _)] at ha; cases ha
  | c :: p1, c' :: pre, b, a, _, _, e, h1, hb, hp, ha => first_one (List.cons.inj e).2 (fun z hz => h1 z (.tail _ hz)) hb (fun z hz => hp z (.tail _ hz)) ha
theorem val_pure {es : St} (hk : ∀ e ∈ es, e.2.2 ∈ kinds) : ∀ e ∈ stD es, e.2.pure = true ∧ e.2.py.depth ≤ 20 := fun e he => by
  unfold stD at he
  obtain ⟨e', he', rfl⟩ := List.mem_map.mp he
  have h := kind_pure (hk e' he')
  refine ⟨by simpa [valV, V.pure, V.pures] using h, Nat.le_of_ble_eq_true rfl⟩
theorem stOf_kinds {T : Tb} (h : Twf T) {ys : List Row} (hp : ys.Perm (rowsOf T)) : ∀ e ∈ stOf ys, e.2.2 ∈ kinds := fun e he => by
  rw [stOf_eq ((hp.map keyR).nodup_iff.mpr (rows_nodup h))] at he
  obtain ⟨r, hr, rfl⟩ := List.mem_map.mp he
  exact rows_kinds h r (hp.mem_iff.mp hr)

section
variable {w : World}
/-- a list of constants -/
inductive Cs : List Expr → List V → Prop
  | nil : Cs [] []
  | int {z k p l vs} : Cs l vs → Cs (.Constant (.int z) k p :: l) (.int z :: vs)
  | str {z k p l vs} : Cs l vs → Cs (.Constant (.str z) k p :: l) (.str z :: vs)
  | neg {z k cp p l vs} : Cs l vs → Cs (.UnaryOp .USub (.Constant (.int z) k cp) p :: l) (.int (-z) :: vs)
theorem Cs.es {X : Cx} {m : Loc} {S : MS} {E : V → MS → Prop} {l : List Expr} {vs : List V} (h : Cs l vs) : ∀ {P : List V → MS → Prop}, P vs S → es PG w (KK w) X l m S P E := by
  induction h with
  | nil => exact fun h => es_nil h
  | int _ ih => exact fun h => ec (ex_int (ih h))
  | str _ ih => exact fun h => ec (ex_str (ih h))
  | neg _ ih => exact fun h => ec (ex_neg (ih h))
theorem Cs.plain {X : Cx} {pos : Pos} {l : List Expr} {vs : List V} (h : Cs l vs) : Plain X pos l := by
  induction h with
  | nil => exact .nil
  | int _ ih => exact .cons rfl ih
  | str _ ih => exact .cons rfl ih
  | neg _ ih => exact .cons rfl ih
theorem lstC {X : Cx} {m : Loc} {S : MS} {P : V → MS → Prop} {E : V → MS → Prop} {l : List Expr} {vs : List V} {pos : Pos} (hc : Cs l vs) (hz : vs.length ≤ 1000) (h : P (.loc S.length) (S ++ [.list vs])) : ex PG w (KK w) X (.List l pos) m S P E := ex_list hc.plain.1 (hc.es ⟨hz, h⟩)
theorem turn_ss {A₀ : Around} {outer : List Env} {g : Heap} {L fa : Addr} {cd : Value} {c1 c2 c3 : Addr} {k : Nat} (hk : 12 ≤ k) {p : Pt} {st : Nat} {es : St} {T : Tb} {ts : List Str} {fs : List (Int × Int)} {m : Loc} {S : MS} {P : Fl → Loc → MS → Prop} {B : List Stmt} {scope : Scope} (hB : turnB (lawB w) = B) (hs : lawS w = scope)
    (hw : p.words = wordsL) (c : C0 p st es T m S ts fs) (hr : Rel T es) (hzt : ts.length ≤ 900) (hzf : fs.length ≤ 900) (hT : T.len ≤ 45)
    (hP : ∀ m' S' st' es' T' ts' fs', C0 p st' es' T' m' S' ts' fs' → Rel T' es' → ts'.length ≤ ts.length + 25 → fs'.length ≤ fs.length + 7 → T'.len ≤ T.len + 3 → P .next m' S') :
    ss PG w (KK w) (lawX A₀ outer g scope L fa cd c1 c2 c3 k) B m S P (fun _ _ => False) := by
  obtain ⟨eB, eS⟩ := law_eq (w := w) rfl
  rw [eB] at hB
  rw [eS] at hs
  dsimp only [turnB] at hB
  subst hB hs
  -- the height
  refine @ss_cut _ _ _ _ _ _ _ _ (fun m' S' => C0 p st es T m' S' ts fs ∧ ∃ z ∈ hts, m' "height" = some (.int z)) ?_ fun m1 S1 hq => ?_
  · refine asg ?_
    refine ex_sub ?_
    refine @lstC _ _ _ _ _ _ _ (hts.map V.int) _ ?_ ?_ ?_
    · exact .int (.int (.int (.int (.int (.int (.neg .nil))))))
    · decide
    have ca := c.app [MO.list (hts.map V.int)]
    refine ex_next ca.mh ca.wd (Nat.le_trans (by decide) hk) (by decide) rfl rfl rfl (by repeat' (first | exact Plain.nil | refine Plain.cons rfl ?_)) fun v S1 v0 v1 w1 s1 => ?_
    obtain ⟨z, hz, hg⟩ := pickI (l := hts) v0 v1
    refine sub_list (l := S.length) (xs := hts.map V.int) (x := .int z) (s1.get get_app_self (ca.wd.beyond c.big)) v0 (by omega) hg (fun _ _ => by with_unfolding_all rfl) ?_
    exact ⟨rfl, (ca.go s1 w1).upd, z, hz, updSelf⟩
  obtain ⟨c1', z, hz, e1⟩ := hq
  refine @ss_cut _ _ _ _ _ _ _ _ (fun m' S' => C0 p st es T m' S' ts fs ∧ ∃ h, 0 ≤ h ∧ h ≤ 1200 ∧ m' "height" = some (.int h)) ?_ fun m2 S2 hq => ?_
  · refine sx_if ?_
    refine cmp (loc' e1 (ex_int (op_lt ⟨_, rfl, ?_⟩)))
    by_cases hneg : z < 0
    · (first | refine iteP (by first | exact dcP hneg | exact ncP hneg | simpa using hneg) ?_ | rw [if_pos (by first | exact dcP hneg | exact ncP hneg | simpa using hneg)])
      refine ss_cons ?_
      refine asg ?_
      refine ex_bin (ex_int (ex_bin (ex_int ?_)))
      refine ex_next c1'.mh c1'.wd (Nat.le_trans (by decide) hk) (by decide) rfl rfl rfl (by repeat' (first | exact Plain.nil | refine Plain.cons rfl ?_)) fun v S2 v0 v1 w2 s2 => ?_
      refine op_mul (.of_left (intBits_le_iff.mpr (by decide))) (op_add ?_)
      exact ss_nil ⟨rfl, (c1'.go s2 w2).upd, _, by omega, by omega, updSelf⟩
    · (first | refine iteN (by first | exact dcN hneg | exact ncN hneg | simpa using hneg) ?_ | rw [if_neg (by first | exact dcN hneg | exact ncN hneg | simpa using hneg)])
      refine ss_nil ⟨rfl, c1', z, by omega, ?_, e1⟩
      simp only [hts, List.mem_cons, List.not_mem_nil, or_false] at hz
      omega
  clear e1 hz
  obtain ⟨c2', h, h0, h12, e2⟩ := hq
  -- the kind
  refine @ss_cut _ _ _ _ _ _ _ _ (fun m' S' => C0 p st es T m' S' ts fs ∧ m' "height" = some (.int h) ∧ ∃ x ∈ kinds, m' "kind" = some (.str x)) ?_ fun m3 S3 hq => ?_
  · refine asg ?_
    refine ex_sub ?_
    refine @lstC _ _ _ _ _ _ _ (kinds.map V.str) _ ?_ ?_ ?_
    · exact .str (.str (.str (.str (.str (.str (.str .nil))))))
    · decide
    have ca := c2'.app [MO.list (kinds.map V.str)]
    refine ex_next ca.mh ca.wd (Nat.le_trans (by decide) hk) (by decide) rfl rfl rfl (by repeat' (first | exact Plain.nil | refine Plain.cons rfl ?_)) fun v S3 v0 v1 w3 s3 => ?_
    obtain ⟨x, hx, hg⟩ := pickS (l := kinds) v0 v1
    refine sub_list (l := S2.length) (xs := kinds.map V.str) (x := .str x) (s3.get get_app_self (ca.wd.beyond c2'.big)) v0 (by omega) hg (fun _ _ => by with_unfolding_all rfl) ?_
    exact ⟨rfl, (ca.go s3 w3).upd, (updOf (by decide)).trans e2, x, hx, updSelf⟩
  obtain ⟨c3', e2', x, hx, e3⟩ := hq
  -- how many
  refine @ss_cut _ _ _ _ _ _ _ _ (fun m' S' => Ct p st es h x T m' S' ts fs ∧ ∃ n : Int, 0 ≤ n ∧ n < 4 ∧ m' "many" = some (.int n)) ?_ fun m4 S4 hq => ?_
  · refine asg ?_
    refine ex_next c3'.mh c3'.wd (Nat.le_trans (by decide) hk) (by decide) rfl rfl rfl (by repeat' (first | exact Plain.nil | refine Plain.cons rfl ?_)) fun v S4 v0 v1 w4 s4 => ?_
    have cb := (c3'.go s4 w4).upd (y := "many") (v := .int v)
    exact ⟨rfl, ⟨cb.mh, cb.hst, (updOf (by decide)).trans e2', (updOf (by decide)).trans e3, cb.wd, cb.hes, cb.far⟩, v, v0, v1, updSelf⟩
  obtain ⟨c4', n, n0, n4, e4⟩ := hq
  -- the crowd
  refine @ss_cut _ _ _ _ _ _ _ _ (fun m' S' => ∃ ts5, Ct p st es h x T m' S' ts5 fs ∧ m' "many" = some (.int n) ∧ ts5.length ≤ ts.length + 3 ∧ ∃ lc, ∃ crowd : List Int, m' "crowd" = some (.loc lc) ∧ S'[lc]? = some (.list (crowd.map V.int)) ∧ p.o + 3 < lc ∧ crowd.length = (max n 1).toNat) ?_ fun m5 S5 hq => ?_
  · refine @sx_listcomp PG w (KK w) _ _ _ _ _ _ _ _ _ [("words", c3), ("row", c1), ("names", c2)] _ _ _ _ _ ?_ ?_ ?_ ?_ ?_ ?_ ?_ ?_ ?_ ?_ ?_ ?_ ?_
    · rfl
    · rfl
    · rfl
    · rfl
    · rfl
    · rfl
    · decide
    · rfl
    · decide
    · rfl
    · exact fun _ => rfl
    · exact fun _ => rfl
    refine itr_range rfl rfl rfl (by decide) rfl (by repeat' (first | exact Plain.nil | refine Plain.cons rfl ?_)) (ec (bi (ec (loc' e4 (ec (ex_int (es_nil (opL_max ?_))))))))
    have hmx : (max n 1).toNat ≤ 3 := by omega
    have hbig := c4'.big
    have hlw := c4'.wd.lwlt
    have hstl := c4'.stlt
    refine es_nil ⟨max n 1, rfl, by omega, by omega, rfl, fun rest ys S' => ∃ ts', Ct p st es h x T m4 S' ts' fs ∧ ∃ as : List Int, ys = as.map V.int ∧ S'[S4.length]? = some (.list ys) ∧ as.length + rest.length = (max n 1).toNat ∧ ts'.length ≤ ts.length + as.length, ?_, ?_, ?_, ?_⟩
    · exact ⟨ts, c4'.go (.app _ _ _) (c4'.wd.same (.app _ _ _)), [], rfl, get_app_self, by simp, by simp⟩
    · intro rest ys S' _ l mo q; cases q
    · rintro y rest ys S' ⟨ts', c', as, rfl, hl, hlen, hz⟩ C
      simp only [List.length_cons] at hlen
      have far4 : S4.length ∉ p.D := c4'.wd.beyond hbig
      refine me (C := 154) (f := 88) (cel c'.mh.names ⟨p.n, _, rfl, c'.wd.sym.n, rfl, ?_⟩)
      refine ec (ex_sub (cel c'.mh.words ?_))
      refine ex_next c'.mh c'.wd (Nat.le_trans (by decide) hk) (by decide) rfl rfl rfl (by repeat' (first | exact Plain.nil | refine Plain.cons rfl ?_)) fun v S6 v0 v1 w6 s6 => ?_
      obtain ⟨u, hu, hg⟩ := pickS (l := wordsL) v0 v1
      refine sub_list (l := p.lw) (xs := wordsL.map V.str) (x := .str u) (hw ▸ w6.wrd) v0 (by omega) hg (fun _ _ => by with_unfolding_all rfl) ?_
      refine es_nil (Fn.le (f_atom (L := p.L) w6.sym (by omega) fun S7 h7 s7 => ?_) (Nat.le_trans (by decide) hk))
      have s67 : Same p.D S' S7 := s6.trans (s7.mono p.memL)
      have hl7 := s67.get hl far4
      have w7 := w6.symb s7 h7
      have c7 : Ct p st es h x T m4 S7 (intern ts' u) fs := c'.go s67 w7
      have := intern_len ts' u
      refine ⟨hl7, by rw [List.length_map]; omega, _, c7.farS hlw (by omega) (.set (by simp)), as ++ [((num ts' u : Nat) : Int)], by simp, List.getElem?_set_self (List.getElem?_eq_some_iff.mp hl7).1, by simp; omega, by simp; omega⟩
    · rintro ys S' ⟨ts', c', as, rfl, hl, hlen, hz⟩
      simp only [List.length_nil, Nat.add_zero] at hlen
      exact ⟨rfl, ts', c'.upd, (updOf (by decide)).trans e4, by omega, S4.length, as, updSelf, hl, hbig, hlen⟩
  obtain ⟨ts5, c5', e5, z5, lc, crowd, f5, hlc, hfar, hcl⟩ := hq
  have hcn : crowd ≠ [] := fun q => by rw [q] at hcl; simp at hcl; omega
  obtain ⟨a0, cr0, hcr⟩ : ∃ a0 cr0, crowd = a0 :: cr0 := by
    cases crowd with
    | nil => exact absurd rfl hcn
    | cons a b => exact ⟨a, b, rfl⟩
  have hc3 : crowd.length ≤ 3 := by omega
  -- the names as a term
  refine @ss_cut _ _ _ _ _ _ _ _ (fun m' S' => S' = S5 ∧ Ct p st es h x T m' S5 ts5 fs ∧ m' "many" = some (.int n) ∧ m' "crowd" = some (.loc lc) ∧ m' "named" = some (atomV a0)) ?_ fun m6 S6 hq => ?_
  · refine asg ?_
    refine tup (ec (ex_str (ec (ex_sub (loc' f5 (ex_int (sub_list (x := .int a0) hlc (by decide) (by decide) (by rw [hcr]; rfl) (fun _ _ => by with_unfolding_all rfl) (es_nil ⟨Nat.le_of_ble_eq_true rfl, ?_⟩))))))))
    exact ⟨rfl, rfl, c5'.upd, (updOf (by decide)).trans e5, (updOf (by decide)).trans f5, updSelf⟩
  obtain ⟨rfl, c6', e6, f6, g6⟩ := hq
  refine @ss_cut _ _ _ _ _ _ _ _ (fun m' S' => S' = S6 ∧ Ct p st es h x T m' S6 ts5 fs ∧ m' "crowd" = some (.loc lc) ∧ ∃ c cs, m' "named" = some (chain c cs) ∧ asOf c cs = crowd ∧ cs.length ≤ 3 ∧ (cs ≠ [] → c = 0)) ?_ fun m7 S7 hq => ?_
  · refine sx_if ?_
    refine cmp (loc' e6 (ex_int (op_gt ⟨_, rfl, ?_⟩)))
    by_cases hn : 0 < n
    · (first | refine iteP (by first | exact dcP hn | exact ncP hn | simpa using hn) ?_ | rw [if_pos (by first | exact dcP hn | exact ncP hn | simpa using hn)])
      refine ss_cons ?_
      refine asg ?_
      refine tup (ec (ex_str (ec (gint (es_nil ⟨Nat.le_of_ble_eq_true rfl, ?_⟩)))))
      have c7' := c6'.upd (y := "named") (v := atomV 0)
      have f7 : upd m6 "named" (atomV 0) "crowd" = some (.loc lc) := (updOf (by decide)).trans f6
      have g7 : upd m6 "named" (atomV 0) "named" = some (atomV 0) := updSelf
      show ss _ _ _ _ _ (upd m6 "named" (atomV 0)) _ _ _
      generalize upd m6 "named" (atomV 0) = m7 at c7' f7 g7 ⊢
      refine ss_cons ?_
      refine sx_for ?_ ?_
      · exact fun _ => rfl
      refine itr_rev rfl rfl rfl (by decide) rfl (by repeat' (first | exact Plain.nil | refine Plain.cons rfl ?_)) (ec (loc' f7 (es_nil ⟨lc, crowd.map V.int, rfl, hlc, (fun q => by cases q), fun rest m' S' => S' = S6 ∧ Ct p st es h x T m' S6 ts5 fs ∧ m' "crowd" = some (.loc lc) ∧ ∃ rp suf : List Int, crowd = rp.reverse ++ suf ∧ rest = rp.map V.int ∧ m' "named" = some (chain 0 suf), ?_, ?_, ?_, ?_⟩)))
      · exact ⟨rfl, c7', f7, crowd.reverse, [], by simp, by simp, g7⟩
      · rintro rest m' S' ⟨rfl, _⟩ l mo q; cases q; exact hlc
      · rintro v rest m' S' ⟨rfl, c8, f8, rp, suf, hrp, hr', g8⟩
        cases rp with
        | nil => cases hr'
        | cons a rp =>
          obtain ⟨rfl, rfl⟩ := List.cons.inj hr'
          refine tg_name rfl rfl rfl ?_
          refine ss_cons ?_
          refine asg ?_
          refine tup (ec (ex_str (ec (gint (ec ?_)))))
          refine tup (ec (tup (ec (ex_str (ec (loc' updSelf (es_nil ⟨Nat.le_of_ble_eq_true rfl, ?_⟩)))))))
          refine ec (loc' ((updOf (by decide)).trans g8) (es_nil ⟨Nat.le_of_ble_eq_true rfl, es_nil ⟨Nat.le_of_ble_eq_true rfl, ?_⟩⟩))
          exact ss_nil ⟨rfl, c8.upd.upd, (updOf (by decide)).trans ((updOf (by decide)).trans f8), rp, a :: suf, by rw [hrp]; simp, rfl, updSelf⟩
      · rintro m' S' ⟨rfl, c8, f8, rp, suf, hrp, hr', g8⟩
        cases rp with
        | cons a rp => cases hr'
        | nil =>
          have hs' : suf = crowd := by rw [hrp]; rfl
          subst hs'
          refine ss_nil ⟨rfl, rfl, c8, f8, 0, suf, g8, ?_, hc3, fun _ => rfl⟩
          rw [hcr]; rfl
    · (first | refine iteN (by first | exact dcN hn | exact ncN hn | simpa using hn) ?_ | rw [if_neg (by first | exact dcN hn | exact ncN hn | simpa using hn)])
      refine ss_nil ⟨rfl, rfl, c6', f6, a0, [], g6, ?_, by simp, fun q => absurd rfl q⟩
      have : cr0 = [] := by
        have := congrArg List.length hcr
        simp only [List.length_cons] at this
        exact List.eq_nil_of_length_eq_zero (by omega)
      rw [hcr, this]; rfl
  obtain ⟨rfl, c7', f7, c, cs, g7, has, hcs, hc0⟩ := hq
  -- due = None
  refine ss_cons ?_
  refine asg ?_
  refine ex_none ?_
  have c8' := c7'.upd (y := "due") (v := .none)
  have f8 : upd m7 "due" .none "crowd" = some (.loc lc) := (updOf (by decide)).trans f7
  have g8 : upd m7 "due" .none "named" = some (chain c cs) := (updOf (by decide)).trans g7
  have d8 : upd m7 "due" .none "due" = some .none := updSelf
  show ss _ _ _ _ _ (upd m7 "due" .none) _ _ _
  generalize upd m7 "due" .none = m8 at c8' f8 g8 d8 ⊢
  -- each name's check
  refine @ss_cut _ _ _ _ _ _ _ _ (fun m' S' => ∃ ts8 fs8 d, Ct p st es h x T m' S' ts8 fs8 ∧ Same p.D S7 S' ∧ ts8.length ≤ ts5.length + 18 ∧ fs8.length ≤ fs.length + 6 ∧ m' "due" = some d ∧ Due T h x ts8 fs8 d crowd ∧ m' "crowd" = some (.loc lc) ∧ m' "named" = some (chain c cs)) ?_ fun m9 S9 hq => ?_
  · refine sx_for ?_ ?_
    · exact fun _ => rfl
    refine itr_list (loc' f8 ⟨lc, crowd.map V.int, rfl, hlc, (fun q => by cases q), fun rest m' S' => ∃ pre rst ts' fs' d, crowd = pre ++ rst ∧ rest = rst.map V.int ∧ Ct p st es h x T m' S' ts' fs' ∧ Same p.D S7 S' ∧ ts'.length ≤ ts5.length + 6 * pre.length ∧ fs'.length ≤ fs.length + 2 * pre.length ∧ m' "due" = some d ∧ Due T h x ts' fs' d pre ∧ m' "crowd" = some (.loc lc) ∧ m' "named" = some (chain c cs), ?_, ?_, ?_, ?_⟩)
    · exact ⟨[], crowd, ts5, fs, .none, rfl, rfl, c8', .refl _ _, by simp, by simp, d8, .inl ⟨rfl, nofun⟩, f8, g8⟩
    · rintro rest m' S' ⟨_, _, _, _, _, _, _, _, s', _⟩ l mo q; cases q; exact s'.get hlc (c7'.wd.beyond hfar)
    · rintro v rest m' S' ⟨pre, rst, ts', fs', d, hpr, hr', c9, s9, z1, z2, d9, due9, f9, g9⟩
      cases rst with
      | nil => cases hr'
      | cons a rst =>
        obtain ⟨rfl, rfl⟩ := List.cons.inj hr'
        have hpl : pre.length + 1 ≤ 3 := by have := congrArg List.length hpr; rw [List.length_append, List.length_cons] at this; omega
        refine tg_name rfl rfl rfl ?_
        refine @inner_ss w _ _ _ _ _ _ _ _ _ _ hk _ _ _ _ _ _ _ _ _ _ _ _ _ _ _ _ ?_ eS c9.upd hr hx h0 h12 (by omega) (by omega) (by omega) updSelf ((updOf (by decide)).trans d9) due9 ?_
        · rw [eB]; rfl
        intro m' S' ts'' fs'' d' c10 s10 y1 y2 d10 due10 kp
        exact ⟨pre ++ [a], rst, ts'', fs'', d', by rw [hpr]; simp, rfl, c10, s9.trans s10, by simp; omega, by simp; omega, d10, due10, kp _ _ (by decide) ((updOf (by decide)).trans f9), kp _ _ (by decide) ((updOf (by decide)).trans g9)⟩
    · rintro m' S' ⟨pre, rst, ts', fs', d, hpr, hr', c9, s9, z1, z2, d9, due9, f9, g9⟩
      cases rst with
      | cons a rst => cases hr'
      | nil =>
        rw [List.append_nil] at hpr
        subst hpr
        exact ⟨rfl, ts', fs', d, c9, s9, by omega, by omega, d9, due9, f9, g9⟩
  obtain ⟨ts8, fs8, d, c9', s9, z1, z2, d9, due9, f9, g9⟩ := hq
  have hlc9 := s9.get hlc (c7'.wd.beyond hfar)
  -- told = None
  refine ss_cons ?_
  refine asg ?_
  refine ex_none ?_
  have c10' := c9'.upd (y := "told") (v := .none)
  have f10 : upd m9 "told" .none "crowd" = some (.loc lc) := (updOf (by decide)).trans f9
  have g10 : upd m9 "told" .none "named" = some (chain c cs) := (updOf (by decide)).trans g9
  have d10 : upd m9 "told" .none "due" = some d := (updOf (by decide)).trans d9
  have t10 : upd m9 "told" .none "told" = some .none := updSelf
  show ss _ _ _ _ _ (upd m9 "told" .none) _ _ _
  generalize upd m9 "told" .none = m10 at c10' f10 g10 d10 t10 ⊢
  -- the call
  refine @ss_cut _ _ _ _ _ _ _ _ (fun m' S' => ∃ ts' fs' T', Ct p st es h x T' m' S' ts' fs' ∧ Same p.D S9 S' ∧ ts'.length ≤ ts8.length + 4 ∧ fs'.length ≤ fs8.length + 1 ∧ m' "told" = some d ∧ m' "due" = some d ∧ m' "crowd" = some (.loc lc) ∧
    ((d = .none ∧ T' = addAll T h x crowd ∧ ∀ a ∈ crowd, refused T h x a = false) ∨ (d ≠ .none ∧ T' = T))) ?_ fun m11 S11 hq => ?_
  · refine sx_try ?_ ?_ ?_ ?_ ?_ ?_ ?_ ?_ ?_ ?_ ?_ ?_
    · rfl
    · rfl
    · rfl
    · rfl
    · rfl
    · rfl
    · rfl
    · exact c10'.mh.wrong
    · rfl
    · rfl
    · rfl
    refine me (C := 347) (f := 316) (loc' c10'.mh.ops ⟨p.o, _, rfl, c10'.wd.ops.o, rfl, ?_⟩)
    refine ec (tup (ec (ex_str (ec (loc' c10'.hh (es_nil ⟨Nat.le_of_ble_eq_true rfl, ?_⟩))))))
    refine ec (tup (ec (ex_str (ec ?_))))
    refine me (C := 154) (f := 88) (cel c10'.mh.names ⟨p.n, _, rfl, c10'.wd.sym.n, rfl, ?_⟩)
    refine ec (loc' c10'.kk (es_nil (Fn.le (f_atom (L := p.L) c10'.wd.sym (by omega) fun S10 h10 s10 => ?_) (Nat.le_trans (by decide) hk))))
    refine es_nil ⟨Nat.le_of_ble_eq_true rfl, ?_⟩
    refine ec (loc' g10 (es_nil ?_))
    have c11 := c10'.go (s10.mono p.memL) (c10'.wd.symb s10 h10)
    have hil := intern_len ts8 x
    have htb := T.tb_le x
    refine Fn.le (f_declare (O := p.O) (L := p.L) (T := T) (kn := num ts8 x) c11.wd.ops c11.wd.sym c11.wd.La (by omega) (by omega) hcs (by omega) h0 h12 (pos_lt (pos_intern ts8 x)).2 (fix_kind hx) hc0 (fun hno S12 hO12 hS12 s12 => ?_) fun pre a post hpr hpre ha S12 hO12 hS12 s12 => ?_) (Nat.le_trans (by decide) hk)
    · rw [has] at hno hO12
      have hd : d = .none := by
        rcases due9 with ⟨q, _⟩ | ⟨p1, b, p2, _, _, q, _, hb, _⟩
        · exact q
        · rw [hno b (by rw [q]; simp)] at hb; cases hb
      refine ⟨rfl, _, _, addAll T h x crowd, ⟨c11.mh, c11.hst, c11.hh, c11.kk, c11.wd.opsb s12 hO12, s12.get c11.hes fun q => c11.wd.beyond c11.far (p.memO _ q), c11.far⟩, (s10.mono p.memL).trans (s12.mono p.memO), by omega, by omega, ?_, d10, f10, .inl ⟨hd, rfl, hno⟩⟩
      rw [hd]; exact t10
    · rw [has] at hpr
      have l1 := tsE_len (intern ts8 x) (actOf a)
      have l2 := fsE_len (intern ts8 x) fs8 (actOf a)
      have hd : d = ballE (intern ts8 x) fs8 (actOf a) a := by
        rcases due9 with ⟨_, q⟩ | ⟨p1, b, p2, ts0, fs0, q, hp1, hb, le1, le2, q2⟩
        · rw [q a (by rw [hpr]; simp)] at ha; cases ha
        · have := first_one (f := fun z => refused T h x z) (q.symm.trans hpr) hp1 hb hpre ha
          subst this
          rw [q2]
          exact (ball_again (le1.trans (Le.intern _ _)) le2 b).symm
      have hdn : d ≠ .none := by rw [hd]; unfold ballE sysV; exact nofun
      rw [← hd]
      refine ⟨rfl, _, _, T, (c11.go (s12.mono p.memL) (c11.wd.symb s12 hS12)).upd, (s10.mono p.memL).trans (s12.mono p.memL), by omega, by omega, updSelf, (updOf (by decide)).trans d10, (updOf (by decide)).trans f10, .inr ⟨hdn, rfl⟩⟩
  obtain ⟨ts11, fs11, T11, c11', s11, z3, z4, t11, d11, f11, hT11⟩ := hq
  have hlc11 := s11.get hlc9 (c9'.wd.beyond hfar)
  obtain ⟨dp1, dp2⟩ := due9.pure
  have hTl : T11.len ≤ T.len + 3 := by
    rcases hT11 with ⟨_, rfl, _⟩ | ⟨_, rfl⟩
    · have := Tb.len_addAll h x crowd T; omega
    · omega
  -- the state that is due
  refine @ss_cut _ _ _ _ _ _ _ _ (fun m' S' => ∃ st' es', Ct p st' es' h x T11 m' S' ts11 fs11 ∧ Rel T11 es' ∧ m' "told" = some d ∧ m' "due" = some d) ?_ fun m12 S12 hq => ?_
  · refine sx_if ?_
    refine cmp (loc' d11 (ex_none (op_isNone (fun q => ⟨true, rfl, ?_⟩) fun q => ⟨false, rfl, ?_⟩)))
    · (first | refine iteP rfl ?_ | rw [if_pos rfl])
      obtain ⟨_, rfl, hno⟩ : d = .none ∧ T11 = addAll T h x crowd ∧ ∀ a ∈ crowd, refused T h x a = false := hT11.elim id fun z => absurd q z.1
      refine ss_cons ?_
      refine asg ?_
      refine cl (f := 391) (ec (loc' c11'.hst (ec (loc' c11'.hh (ec (loc' c11'.kk (ec (loc' f11 (es_nil ?_)))))))))
      have hel : es.length ≤ 5000 := by rw [hr.len]; omega
      refine Fn.le (f_changed c11'.hes hlc11 hr.fin (fun e he => (hr.ok e he).1) hx hel (by omega) fun S' s' hs' => ?_) (Nat.le_trans (by decide) hk)
      have w' := c11'.wd.same s'
      refine ss_nil ⟨rfl, S11.length, changed es h x crowd, ⟨c11'.mh.upd, updSelf, (updOf (by decide)).trans c11'.hh, (updOf (by decide)).trans c11'.kk, w', hs', c11'.big⟩, hr.next hx h0 h12 hno, (updOf (by decide)).trans t11, (updOf (by decide)).trans d11⟩
    · (first | refine iteN (by decide) ?_ | rw [if_neg (by decide)])
      obtain ⟨_, rfl⟩ : d ≠ .none ∧ T11 = T := hT11.elim (fun z => absurd z.1 q) id
      exact ss_nil ⟨rfl, st, es, c11', hr, t11, d11⟩
  obtain ⟨st', es', c12', hr', t12, d12⟩ := hq
  have hlen : T11.pre.length + T11.inf.length + T11.pos.length < 60 := by show T11.len < 60; omega
  -- what is asked
  refine ss_cons ?_
  refine sx_if ?_
  refine te_bool ?_
  refine tes_or (cmp (loc' t12 (loc' d12 (op_neb dp1 dp1 (Nat.le_trans (Nat.min_le_left _ _) dp2) true ⟨fun _ => rfl, fun _ => rfl⟩ ⟨false, rfl, ?_⟩))))
  (first | refine iteN (by decide) ?_ | rw [if_neg (by decide)])
  refine tes_or (cmp (cl (f := 377) (ec (loc' c12'.mh.ops (es_nil (Fn.le (f_state (O := p.O) c12'.wd.ops hlen (rows_kinds hr'.wf) fun S13 l ys hp s13 hl hge => ?_) (Nat.le_trans (by decide) hk)))))))
  have c13 := c12'.go (s13.mono fun _ q => absurd q List.not_mem_nil) (c12'.wd.same s13)
  obtain ⟨hf, hg⟩ := stOf_get hr'.wf hp
  refine loc' c13.hst (op_neT hl c13.hes (val_pure (stOf_kinds hr'.wf hp)) (fun e he => (val_pure (fun e he => (hr'.ok e he).2) e he).1) (fun _ => ⟨false, rfl, ?_⟩) fun q => absurd (same_st hf hr'.fin (hg.trans hr'.get.symm)) q)
  (first | refine iteN (by decide) ?_ | rw [if_neg (by decide)])
  refine tes_or (te_not (te_val (fun _ _ => rfl) (cl (f := 384) (ec (loc' c13.hst (es_nil (Fn.le (f_sound c13.hes hr'.fin hr'.ok ⟨_, rfl, ?_⟩) (Nat.le_trans (by decide) hk))))))))
  rw [hr'.sound, if_neg (by decide)]
  refine tes_nil ?_
  (first | refine iteN (by decide) ?_ | rw [if_neg (by decide)])
  exact ss_nil (ss_nil (hP _ _ st' es' T11 ts11 fs11 ⟨c13.mh, c13.hst, c13.wd, c13.hes, c13.far⟩ hr' (by omega) (by omega) hTl))
end
end Mine

namespace Mine

section
variable {w : World}
theorem spend {a b c r N : Nat} (z : a + c * (r + 1) ≤ N) (y : b ≤ a + c) : b + c * r ≤ N :=
  Nat.le_trans (Nat.add_le_add_right y _) (by rw [Nat.add_assoc, Nat.add_comm c, ← Nat.mul_succ]; exact z)
/-- law -/
theorem law_ss {A₀ : Around} {outer : List Env} {g : Heap} {L fa : Addr} {cd : Value} {c1 c2 c3 : Addr} {k : Nat} (hk : 12 ≤ k) {is : List Int} {ob : Obj} (hz : is.length ≤ 63) {B : List Stmt} {scope : Scope} (hB : lawB w = B) (hs : lawS w = scope) {P : Fl → Loc → MS → Prop}
    (hP : ∀ m' S', S'[0]? = some (.listO (is.map V.int) ob) → P (.ret (.bool true)) m' S') :
    ss PG w (KK w) (lawX A₀ outer g scope L fa cd c1 c2 c3 k) B (locOf ["script"] [.loc 0]) [.listO (is.map V.int) ob] P (fun _ _ => False) := by
  obtain ⟨eB, eS⟩ := law_eq (w := w) rfl
  have eB' := eB
  rw [eB] at hB
  have hs' := hs
  rw [eS] at hs
  subst hB hs
  refine ss_cons ?_
  refine asc ?_
  refine cl (f := 356) (ec (nm (es_nil (Fn.le (f_row (ob := ob) (cs := is) rfl hz fun S1 lr rs s1 hge hl hrs => ?_) (Nat.le_trans (by decide) hk)))))
  have h0 : S1[0]? = some (.listO (is.map V.int) ob) := s1.get rfl List.not_mem_nil
  have hlr : lr < S1.length := (List.getElem?_eq_some_iff.mp hl).1
  refine ss_cons ?_
  refine asc ?_
  refine mk (C := 154) (fI := 81) (by show 0 < k; omega) (es_nil (Fn.le (f_symInit get_app_self fun S2 ts fs hS hts hfs s2 => ⟨rfl, ?_⟩) (by show 4 ≤ k - 1; omega)))
  rw [show (S1 ++ [MO.inst 154 []]).length = S1.length + 1 by simp] at hS
  simp only [Nat.add_assoc, Nat.reduceAdd] at hS
  have s2' : Same [] S1 S2 := ⟨by have := s2.1; simp at this; omega, fun l q _ => (s2.2 l (by simp; omega) (by simp; omega)).trans (List.getElem?_append_left q)⟩
  have h02 := s2'.get h0 List.not_mem_nil
  have hl2 := s2'.get hl List.not_mem_nil
  have hn4 : S1.length + 4 < S2.length := hS.lt _ (by simp)
  refine ss_cons ?_
  refine asg ?_
  refine mk (C := 347) (fI := 246) (by show 0 < k; omega) (ec (cel rfl (ec (ex_bool (es_nil (Fn.le (f_opInit get_app_self (hS.same (.app [] _ _) fun _ _ => List.not_mem_nil) fun S3 hO s3 => ⟨rfl, ?_⟩) (by show 5 ≤ k - 1; omega)))))))
  rw [show (S2 ++ [MO.inst 347 []]).length = S2.length + 1 by simp] at hO
  simp only [Nat.add_assoc, Nat.reduceAdd] at hO
  have s3' : Same [] S2 S3 := ⟨by have := s3.1; simp at this; omega, fun l q _ => (s3.2 l (by simp; omega) (by simp; omega)).trans (List.getElem?_append_left q)⟩
  have h03 := s3'.get h02 List.not_mem_nil
  have hl3 := s3'.get hl2 List.not_mem_nil
  have hS3 := hS.same s3' fun _ _ => List.not_mem_nil
  have ho3 : S2.length + 3 < S3.length := hO.lt _ (by simp)
  have hr0 := Rel.start
  refine ss_cons ?_
  refine asg ?_
  refine cl (f := 377) (ec (nm (es_nil (Fn.le (f_state hO (by decide) (rows_kinds hr0.wf) fun S4 st ys hp s4 hst hge4 => ?_) (Nat.le_trans (by decide) hk)))))
  have hys : ys = rowsOf ⟨[], [(7, 1000, "xfy")], []⟩ := List.perm_singleton.mp hp
  rw [hys] at hst
  have hO4 := hO.same s4 fun _ _ => List.not_mem_nil
  have hS4 := hS3.same s4 fun _ _ => List.not_mem_nil
  have h04 := s4.get h03 List.not_mem_nil
  have hl4 := s4.get hl3 List.not_mem_nil
  have hst4 : st < S4.length := (List.getElem?_eq_some_iff.mp hst).1
  refine ss_cons ?_
  refine asc ?_
  refine @lstC _ _ _ _ _ _ _ (wordsL.map V.str) _ ?_ ?_ ?_
  · exact .str (.str (.str (.str (.str (.str (.str .nil))))))
  · decide
  have hl43 := s4.1
  have wd : Wd ⟨lr, S1.length, S2.length, S4.length, is.map V.int, ob, wordsL⟩ (S4 ++ [MO.list (wordsL.map V.str)]) ts fs ⟨[], [(7, 1000, "xfy")], []⟩ :=
    ⟨(Same.app [] S4 _).get h04 List.not_mem_nil, ⟨rs, (Same.app [] S4 _).get hl4 List.not_mem_nil, hrs⟩, get_app_self, hS4.same (.app [] _ _) fun _ _ => List.not_mem_nil, hO4.same (.app [] _ _) fun _ _ => List.not_mem_nil, ⟨by simp at hge; show 0 < lr; omega, hlr, hn4, by show S2.length + 3 < S4.length; omega⟩⟩
  have c0 : ∀ m : Loc, Mh ⟨lr, S1.length, S2.length, S4.length, is.map V.int, ob, wordsL⟩ m → m "state" = some (.loc st) → C0 ⟨lr, S1.length, S2.length, S4.length, is.map V.int, ob, wordsL⟩ st (stOf (rowsOf ⟨[], [(7, 1000, "xfy")], []⟩)) ⟨[], [(7, 1000, "xfy")], []⟩ m (S4 ++ [MO.list (wordsL.map V.str)]) ts fs := fun m a b =>
    ⟨a, b, wd, (Same.app [] S4 _).get hst List.not_mem_nil, by show S2.length + 3 < st; omega⟩
  have c1' := c0 (upd (upd (upd (upd (upd (locOf ["script"] [.loc 0]) "row" (.loc lr)) "names" (.loc S1.length)) "operators" (.loc S2.length)) "state" (.loc st)) "words" (.loc S4.length)) ⟨rfl, rfl, rfl, rfl, rfl⟩ rfl
  clear c0
  show ss _ _ _ _ _ (upd (upd (upd (upd (upd (locOf ["script"] [.loc 0]) "row" (.loc lr)) "names" (.loc S1.length)) "operators" (.loc S2.length)) "state" (.loc st)) "words" (.loc S4.length)) _ _ _
  generalize (upd (upd (upd (upd (upd (locOf ["script"] [.loc 0]) "row" (.loc lr)) "names" (.loc S1.length)) "operators" (.loc S2.length)) "state" (.loc st)) "words" (.loc S4.length)) = m1 at c1' ⊢
  have hpw : Pt.words ⟨lr, S1.length, S2.length, S4.length, is.map V.int, ob, wordsL⟩ = wordsL := rfl
  have hpc : ∀ {S ts fs T}, Wd ⟨lr, S1.length, S2.length, S4.length, is.map V.int, ob, wordsL⟩ S ts fs T → S[0]? = some (.listO (is.map V.int) ob) := fun w => w.scr
  generalize (⟨lr, S1.length, S2.length, S4.length, is.map V.int, ob, wordsL⟩ : Pt) = p at c1' hpw hpc
  have hT0 : Tb.len ⟨[], [(7, 1000, "xfy")], []⟩ ≤ 1 := by decide
  generalize (⟨[], [(7, 1000, "xfy")], []⟩ : Tb) = T0 at hr0 c1' hT0
  generalize stOf (rowsOf T0) = es0 at hr0 c1'
  -- the history
  refine ss_cons ?_
  refine sx_for ?_ ?_
  · exact fun _ => rfl
  refine itr_range rfl rfl rfl (by decide) rfl (by repeat' (first | exact Plain.nil | refine Plain.cons rfl ?_)) (ec (ex_bin (ex_int ?_)))
  refine ex_next c1'.mh c1'.wd (Nat.le_trans (by decide) hk) (by decide) rfl rfl rfl (by repeat' (first | exact Plain.nil | refine Plain.cons rfl ?_)) fun v S5 v0 v1 w5 s5 => ?_
  refine op_add (es_nil ⟨1 + v, rfl, by omega, by omega, (fun q => by cases q), fun rest m' S' => ∃ st es T ts' fs', C0 p st es T m' S' ts' fs' ∧ Rel T es ∧ ts'.length + 25 * rest.length ≤ 300 ∧ fs'.length + 7 * rest.length ≤ 100 ∧ T.len + 3 * rest.length ≤ 40, ?_, ?_, ?_, ?_⟩)
  · exact ⟨st, es0, T0, ts, fs, c1'.go s5 w5, hr0, by simp; omega, by simp; omega, by simp; omega⟩
  · intro rest m' S' _ l mo q; cases q
  · rintro v rest m' S' ⟨st', es', T', ts', fs', c2', hr', z1, z2, z3⟩
    simp only [List.length_cons] at z1 z2 z3
    refine tg_name rfl rfl rfl ?_
    refine @turn_ss w _ _ _ _ _ _ _ _ _ _ hk _ _ _ _ _ _ _ _ _ _ _ ?_ eS hpw c2'.upd hr' (by omega) (by omega) (by omega) ?_
    · rw [eB]; rfl
    intro m3 S3 st3 es3 T3 ts3 fs3 c3' hr3 y1 y2 y3
    exact ⟨st3, es3, T3, ts3, fs3, c3', hr3, spend z1 y1, spend z2 y2, spend z3 y3⟩
  · rintro m' S' ⟨st', es', T', ts', fs', c2', _⟩
    refine ss_cons ?_
    refine sx_return ?_
    exact ex_bool (hP _ _ (hpc c2'.wd))
end
end Mine

namespace Mine

theorem ints_well {P : Params} {h : Heap} {r : Ro} : ∀ {is : List Int} {vs : List Value}, WellAll P h vs (ofPys (is.map PyData.int)) → RVs h r vs (is.map V.int)
  | [], _, .nil => .nil
  | i :: is, _, .cons (v := v) a b => by
    have a' : Well P h v (.int i) := a
    cases a' with
    | int _ t => exact .cons (.int _ _) (ints_well b)
theorem list_well {P : Params} {h : Heap} {a : Addr} {is : List Int} (x : Well P h (.ref a) (ofPy (.list (is.map PyData.int)))) : ∃ vs : List Value, h.get? a = some { cls := .type "list", data := .seq vs.toArray } ∧ ∀ r, RVs h r vs (is.map V.int) := by
  have x' : Well P h (.ref a) (.list (ofPys (is.map PyData.int))) := x
  cases x' with
  | @list _ vs _ ho hw => exact ⟨vs, ho, fun r => ints_well hw⟩

noncomputable def isL (o : Obj) : Bool := match o.data with
  | .seq _ _ => (match o.cls with
    | .type "tuple" => false
    | _ => true)
  | _ => false
theorem noL (w : World) : (KK w).all (fun e => !isL e.2) = true := by rfl
theorem mem_lookup' {κ α : Type} [BEq κ] [LawfulBEq κ] : ∀ {K : List (κ × α)} {a : κ} {o : α}, K.lookup a = some o → (a, o) ∈ K
  | [], _, _, h => by cases h
  | (b, o') :: K, a, o, h => by
    rw [List.lookup_cons] at h
    cases q : a == b with
    | true => rw [q] at h; cases h; rw [beq_iff_eq.mp q]; exact .head _
    | false => rw [q] at h; exact .tail _ (mem_lookup' h)
theorem mem_lookup : ∀ {K : Frag} {a : Addr} {o : Obj}, K.lookup a = some o → (a, o) ∈ K
  | [], _, _, h => by cases h
  | (b, o') :: K, a, o, h => by
    rw [List.lookup_cons] at h
    cases q : a == b with
    | true => rw [q] at h; cases h; rw [beq_iff_eq.mp q]; exact .head _
    | false => rw [q] at h; exact .tail _ (mem_lookup h)

section
variable {h : Heap} {l5 : Addr} {vs : List Value}
theorem hideK {w : World} (hl : h.get? l5 = some { cls := .type "list", data := .seq vs.toArray }) (X : (KK w).In h) : (KK w).In (hideAll h [l5]) := fun a o e => by
  refine hideAll_get _ (X a o e) fun q => ?_
  rw [List.mem_singleton.mp q] at e
  have := X _ _ e
  rw [hl] at this; cases this
  have := List.all_eq_true.mp (noL w) _ (mem_lookup e)
  exact absurd this (show ¬ (false = true) from Bool.false_ne_true)
theorem hideNs (hl : h.get? l5 = some { cls := .type "list", data := .seq vs.toArray }) {a : Addr} {m : Str → Option Value} (x : h.Ns a m) : (hideAll h [l5]).Ns a m := by
  obtain ⟨o, es, ep, ho, hd, z⟩ := x
  refine ⟨o, es, ep, hideAll_get _ ho fun q => ?_, hd, z⟩
  rw [List.mem_singleton.mp q, hl] at ho
  cases ho; cases hd
theorem hideTop {p : Program} {loose : List Str} {mg mb : Str → Option Value} (hl : h.get? l5 = some { cls := .type "list", data := .seq vs.toArray }) (T : TopRead p loose mg mb h) : TopRead p loose mg mb (hideAll h [l5]) :=
  ⟨hideNs hl T.g, hideNs hl T.b, let ⟨mc, a, b⟩ := T.nolimit; ⟨mc, hideNs hl a, b⟩, T.builtins, T.free⟩
end

/-- the law's body as the head leaves it -/
theorem law_join {w : World} {s₁ : Shared} {h₁ : Heap} {tk : Nat} {fa l5 : Addr} {cd : Value} {mm : Str → Option Value} {o1 o2 o3 : Obj} {u1 u2 u3 : Option Value} {is : List Int} {B : List Stmt} {scope : Scope} {p : Program} {loose : List Str} {mean : ExcName → Option Value} {mg mb : Str → Option Value} {Q : Flow → Shared → Prop} {E : Value → Shared → Prop}
    (hB : lawB w = B) (hs : lawS w = scope) (KX : (KK w).In s₁.heap) (T : Top p loose mean mg mb s₁.heap) (hi : importsNone p = true) (w1 : Well w.params s₁.heap (.ref l5) (ofPy (.list (is.map PyData.int)))) (hz : ¬ ((63 : Nat) : Int) < (is.length : Int))
    (F : Fr s₁.heap s₁.heap.objs.size h₁ mm) (hm : mm "script" = some (.ref l5)) (d3 : o3.data = .cell u3) (d2 : o2.data = .cell u2) (d1 : o1.data = .cell u1)
    (N : News s₁.heap s₁.heap.objs.size h₁ [(s₁.heap.objs.size + 1 + 1 + 1, o3), (s₁.heap.objs.size + 1 + 1, o2), (s₁.heap.objs.size + 1, o1)])
    (hQ : ∀ s' m', s'.gens = s₁.gens → s'.os = s₁.os → Fr s₁.heap s₁.heap.objs.size s'.heap m' → Q (.ret (.bool true)) s') :
    wpAny (model PG w) (callerA.deeper (envX "law" scope s₁.heap.objs.size fa cd [("words", s₁.heap.objs.size + 1 + 1 + 1), ("names", s₁.heap.objs.size + 1 + 1), ("row", s₁.heap.objs.size + 1)]))
      (execs B (envX "law" scope s₁.heap.objs.size fa cd [("words", s₁.heap.objs.size + 1 + 1 + 1), ("names", s₁.heap.objs.size + 1 + 1), ("row", s₁.heap.objs.size + 1)])) Q E ⟨h₁, s₁.gens, s₁.drawn, tk, s₁.os⟩ := by
  obtain ⟨vs, hl, hvs⟩ := list_well w1
  have hlt : l5 < s₁.heap.objs.size := Heap.lt_size hl
  have hne : l5 ≠ sysModules := fun q => by
    obtain ⟨_, ⟨o, es, ep, ho, hd, _⟩, _⟩ := (T.seer hi).mods
    rw [← q, hl] at ho; cases ho; cases hd
  obtain ⟨n3, _, f3⟩ := N _ (.head _)
  obtain ⟨n2, _, f2⟩ := N _ (.tail _ (.head _))
  obtain ⟨n1, _, f1⟩ := N _ (.tail _ (.tail _ (.head _)))
  have hn : ∀ {b}, s₁.heap.get? b = none → (hideAll s₁.heap [l5]).get? b = none := fun {b} e => by
    cases q : (hideAll s₁.heap [l5]).get? b with
    | none => rfl
    | some o => rw [of_hideAll _ q] at e; cases e
  have hscope : scope.kind = .function := by rw [← hs]; rfl
  have I : In PG w (KK w) (lawX callerA [] (hideAll s₁.heap [l5]) scope s₁.heap.objs.size fa cd (s₁.heap.objs.size + 1) (s₁.heap.objs.size + 1 + 1) (s₁.heap.objs.size + 1 + 1 + 1) 12) (locOf ["script"] [.loc 0]) [.listO (is.map V.int) { cls := .type "list", data := .seq vs.toArray }] [(l5, l5)] ⟨h₁, s₁.gens, s₁.drawn, tk, s₁.os⟩ := by
    refine ⟨⟨below_caller _, hideK hl KX, ⟨p, loose, mg, mb, hideTop hl (topRead_of T)⟩, hscope, (by show 1 + claimMargin + 4 * 12 + 8 < recursionLimit; decide), (by show 4 + 20 * 12 + 60 < cLine; decide), rfl, ?_, ?_⟩, ⟨mm, ⟨F.ns, fun b o e => F.keep b o (of_hideAll _ e), Nat.le_of_eq (hideAll_size _ _)⟩, ?_⟩, ?_, ?_, ?_, nofun⟩
    · show [s₁.heap.objs.size + 1 + 1 + 1, s₁.heap.objs.size + 1 + 1, s₁.heap.objs.size + 1].Nodup
      simp; omega
    · intro x c e
      have hc : c = s₁.heap.objs.size + 1 + 1 + 1 ∨ c = s₁.heap.objs.size + 1 + 1 ∨ c = s₁.heap.objs.size + 1 := by
        have := mem_lookup' e
        simp only [List.mem_cons, Prod.mk.injEq, List.not_mem_nil, or_false] at this
        rcases this with ⟨_, q⟩ | ⟨_, q⟩ | ⟨_, q⟩
        · exact .inl q
        · exact .inr (.inl q)
        · exact .inr (.inr q)
      rcases hc with rfl | rfl | rfl
      · exact ⟨hn f3, by show _ ≠ s₁.heap.objs.size; omega⟩
      · exact ⟨hn f2, by show _ ≠ s₁.heap.objs.size; omega⟩
      · exact ⟨hn f1, by show _ ≠ s₁.heap.objs.size; omega⟩
    · intro x v e
      have := mem_lookup' e
      simp only [List.zip_cons_cons, List.zip_nil_right, List.reverse_cons, List.reverse_nil, List.nil_append, List.mem_singleton, Prod.mk.injEq] at this
      obtain ⟨rfl, rfl⟩ := this
      exact ⟨.ref l5, .loc (d := l5) rfl, hm⟩
    · intro x c e
      have := mem_lookup' e
      simp only [List.mem_cons, Prod.mk.injEq, List.not_mem_nil, or_false] at this
      rcases this with ⟨_, rfl⟩ | ⟨_, rfl⟩ | ⟨_, rfl⟩
      · exact ⟨_, _, n3, d3⟩
      · exact ⟨_, _, n2, d2⟩
      · exact ⟨_, _, n1, d1⟩
    · refine ⟨rfl, by simp, fun l mo e => ?_⟩
      cases l with
      | zero =>
        cases e
        exact ⟨_, rfl, rfl, F.keep _ _ hl, vs.toArray, ⟨_, F.keep _ _ hl⟩, (hvs _).mono (.of_keeps F.keep) (.refl _)⟩
      | succ l => cases e
    · intro q hq
      rw [List.mem_singleton.mp hq]
      exact ⟨hideAll_none _ (by simp), Nat.ne_of_lt hlt, hne, nofun⟩
  have run := law_ss (w := w) (A₀ := callerA) (outer := []) (g := hideAll s₁.heap [l5]) (L := s₁.heap.objs.size) (fa := fa) (cd := cd) (c1 := s₁.heap.objs.size + 1) (c2 := s₁.heap.objs.size + 1 + 1) (c3 := s₁.heap.objs.size + 1 + 1 + 1) (k := 12) (Nat.le_refl _) (is := is) (ob := { cls := .type "list", data := .seq vs.toArray }) (by omega) hB hs
    (P := fun fl _ S' => fl = .ret (.bool true) ∧ S'[0]? = some (.listO (is.map V.int) { cls := .type "list", data := .seq vs.toArray })) (fun _ _ h => ⟨rfl, h⟩)
  refine wpAny_mono (run _ _ I) (fun fl s' hp => ?_) fun e s' hp => ?_
  · obtain ⟨b, m', S', r', I', x, q, rfl, h0⟩ := hp
    cases fl <;> first | exact q.elim | skip
    rename_i v
    have q' : RV s'.heap r' v (.bool true) := q
    cases q'
    obtain ⟨mm', F', _⟩ := I'.fr
    obtain ⟨p0, hp0, _, ho0, _⟩ := I'.rep.2.2 0 _ h0
    have e0 := x.2.1 0 (l5, l5) rfl
    rw [hp0] at e0; cases e0
    refine hQ s' mm' x.2.2.2.1 x.2.2.2.2.2 ⟨F'.ns, fun b o e => ?_, Nat.le_refl _⟩
    by_cases hb : b = l5
    · subst hb; rw [hl] at e; cases e; exact ho0
    · exact F'.keep b o (hideAll_get _ e (by simpa using hb))
  · obtain ⟨_, _, _, _, _, z⟩ := hp
    exact z.elim
end Mine


namespace Mine
theorem nmOk : namesOk vw (looseW vw []) (namesW vw []) = true := by decide +kernel
theorem imOk : importsNone vw = true := by decide +kernel
end Mine
local macro_rules | `(tactic| k_qdec) => `(tactic| first | exact Mine.nmOk | exact Mine.imOk)
theorem PySem.Challenge.cw_rh0075_01_holds : PySem.Challenge.rw_rh0075_01.Holds := by
  refine Mine.hd ?_
  w_strict (k_go0; (all_goals try k_fold))
  rename_i w s₀ s₁ mg mb G Y fa ob pm doc ho hg KX XX VV GL T BB TE TW a12 a11 MM cdA a9 hcd is hs hlay0 hL1 hr1 hl2 a7 a6 l5 vs a3 hL ra w1 r0 hI hr hcond1 hcond K0 hD h₁ tk F o3 o2 o1 d3 d2 d1 N0 X0
  refine @Mine.law_join w s₁ h₁ tk fa l5 (.ref cdA) _ o1 o2 o3 _ _ _ is _ _ _ _ _ _ _ _ _ ?_ ?_ KX T ?_ w1 hcond1 F ?_ d3 d2 d1 N0 ?_
  · exact (Mine.law_eq (w := w) rfl).1
  · exact (Mine.law_eq (w := w) rfl).2
  · rfl
  · rfl
  · intro s' m' e1 e2 F'
    exact goodW_bool F' (e1.trans hg) (fun _ => rfl) (by wrow_post) e2
