import PyProof.Rows.All
import Wide.All
import OpenK.AllK
import Wide.FinOn
import HandS.ForMost
import HandS.Exc
import HandS.Defaults
import HandS.IsInst
import HandS.More
import HandS.Style
import HandS.Replace
import HandS.StrMore
import HandS.Evl
import HandS.Steps
import HandS.Wide
import HandS.Flow
import HandS.SortKw
import HandS.Head0
import HandS.Head1
import HandS.Head2
import HandS.HeadEnd
import HandS.HeadHook1
import HandS.HeadHook2
import HandS.HeadHook3
import HandS.NoneIn
import HandS.HeadHook4
import PySem.Challenge.RW_trialrows_k02_left_out_in_any_order
set_option Elab.async false
set_option linter.all false
set_option maxRecDepth 100000
set_option maxHeartbeats 2000000
namespace Z
open PySem PySem.Spec PyProof.Rows L2

/-! ### the frame: a def that is proved over a small heap keeps whatever else is tracked -/
def H0 : Hp := fun _ => none
/-- no dict with tuple keys -/
def noT : HO → Prop
  | .dT _ => False
  | .frz _ u => noT u
  | _ => True
def immut : HO → Prop
  | .tup _ => True
  | .frz _ _ => True
  | .tbl _ => True
  | _ => False
/-- the own dict that an instance leans on -/
def dxOf : HO → Option Addr
  | .ins _ dx _ => some dx
  | .frz _ u => dxOf u
  | _ => none
theorem stayX {P : Program} {w : World} {H H' : Hp} {h h' : Heap} {a : Addr} {o : HO} (x : ObjOk P w H h a o) (k : ∀ b u, (b = a ∨ (dxOf o = some b ∧ H b = some (.own a))) → h.get? b = some u → h'.get? b = some u)
    (ho : ∀ b, dxOf o = some b → H b = some (.own a) → H' b = some (.own a)) (n : noT o ∨ ∀ b xs, H b = some (.tup xs) → H' b = some (.tup xs)) : ObjOk P w H' h' a o := by
  induction o with
  | lst xs => obtain ⟨z, its, n, r, e⟩ := x; exact ⟨z, its, n, r, k _ _ (.inl rfl) e⟩
  | tup xs => obtain ⟨z, its, r, ob, e, c⟩ := x; exact ⟨z, its, r, ob, k _ _ (.inl rfl) e, c⟩
  | dK kvs => obtain ⟨z, y, vs, r, ob, es, ep, e, c⟩ := x; exact ⟨z, y, vs, r, ob, es, ep, k _ _ (.inl rfl) e, c⟩
  | dT kvs =>
    rcases n with n | ht
    · exact n.elim
    · obtain ⟨z, y, xs, r, ob, es, ep, e, c⟩ := x
      exact ⟨z, y, xs, Paired.mapP r fun p q z => ⟨z.1, ht _ _ z.2.1, z.2.2⟩, ob, es, ep, k _ _ (.inl rfl) e, c⟩
  | set S n => obtain ⟨ob, es, ep, t, e, c⟩ := x; exact ⟨ob, es, ep, t, k _ _ (.inl rfl) e, c⟩
  | ins C dx fs =>
    obtain ⟨d, z, ne, e, mA, ⟨od, es, ep, e2, c⟩, r⟩ := x
    exact ⟨ho _ rfl d, z, ne, k _ _ (.inl rfl) e, mA, ⟨od, es, ep, k _ _ (.inr ⟨rfl, d⟩) e2, c⟩, r⟩
  | own y => obtain ⟨ob, e⟩ := x; exact ⟨ob, k _ _ (.inl rfl) e⟩
  | xd fs => obtain ⟨mA, ⟨od, es, ep, e, c⟩, r⟩ := x; exact ⟨mA, ⟨od, es, ep, k _ _ (.inl rfl) e, c⟩, r⟩
  | rng lo hi => obtain ⟨t, u, v, e⟩ := x; exact ⟨t, u, v, k _ _ (.inl rfl) e⟩
  | frz ob u ih => obtain ⟨e, q⟩ := x; exact ⟨k _ _ (.inl rfl) e, ih q k ho n⟩
  | tbl ps =>
    have e : h.get? a = some { cls := .none, data := .fields ps } := x
    show h'.get? a = some { cls := .none, data := .fields ps }
    exact k a _ (.inl rfl) e
  | met f y =>
    have e : h.get? a = some (PySem.W.methodObj (.ref f) (.ref y)) := x
    show h'.get? a = some (PySem.W.methodObj (.ref f) (.ref y))
    exact k a _ (.inl rfl) e
  | ext φ => obtain ⟨p, ⟨o, e⟩, st⟩ := x; exact ⟨st _ _ p fun o q => k _ _ (.inl rfl) q, ⟨o, k _ _ (.inl rfl) e⟩, st⟩
theorem stayN {P : Program} {w : World} {H H' : Hp} {h h' : Heap} {a : Addr} {o : HO} (x : ObjOk P w H h a o) (k : ∀ b u, (b = a ∨ H b = some (.own a)) → h.get? b = some u → h'.get? b = some u)
    (ho : ∀ b, dxOf o = some b → H b = some (.own a) → H' b = some (.own a)) (n : noT o) : ObjOk P w H' h' a o :=
  stayX x (fun b u hb => k b u (hb.elim .inl fun z => .inr z.2)) ho (.inl n)
/-- F, a part of H, is what the def sees; H' what it leaves of that; Hf what is kept on the whole -/
structure Part (F H : Hp) : Prop where
  sub : ∀ a o, F a = some o → H a = some o
  own : ∀ a o b, H a = some o → dxOf o = some b → H b = some (.own a) → (F a).isSome = (F b).isSome
  noT : ∀ a o, F a = some o → noT o
structure Fin (F H H' Hf : Hp) : Prop where
  out : ∀ a o, F a = none → H a = some o → Hf a = some o
  src : ∀ a o, Hf a = some o → (F a = none ∧ H a = some o) ∨ (H' a = some o ∧ Z.noT o)
  imm : ∀ a o, F a = some o → immut o → Hf a = H' a
  own : ∀ a o b, Hf a = some o → dxOf o = some b → H' b = some (.own a) → (F a = none ∧ (H a).isSome = true) ∨ Hf b = some (.own a)
def spFrame (sp : Sp) : Sp := fun vs H Q E => ∃ F : Hp, Part F H ∧ sp vs F (fun v H' => (∀ p o, H' p = some o → F p = none → H p = none) → ∃ Hf, Fin F H H' Hf ∧ Q v Hf) E
section
variable {P : Program} {w : World} {K : PySem.W.Frag} {mg : Str → Option Value} {base : Heap} {k : Nat} {f : Addr} {fd : FuncData} {ps : List Str} {sp : Sp}
theorem FnOk.frame (O : FnOk P w K mg base CX0 k f fd ps sp) : FnOk P w K mg base CX0 k f fd ps (spFrame sp) := by
  refine ⟨fun vs H Q E ⟨F, _, h⟩ => O.len _ _ _ _ h, fun A outer s H args us vs Q E hr e0 hb r ⟨F, hF, h⟩ => ?_⟩
  have fn : ∀ b, H b = none → F b = none := fun b e => by
    cases q : F b with
    | none => rfl
    | some o => rw [hF.sub b o q] at e; cases e
  have hokF : HOk P w F s.heap := fun a o e => stayN (e0.hok a o (hF.sub a o e)) (fun _ _ _ z => z) (fun b hx hb => by
    have z := hF.own a o b (hF.sub a o e) hx hb
    rw [e] at z
    cases q : F b with
    | none => rw [q] at z; cases z
    | some o' => rw [hF.sub b o' q] at hb; exact hb) (hF.noT a o e)
  have eF : Env0 P w K mg base A outer s F := ⟨e0.frames, e0.mod, fun b o e => ⟨(e0.bs b o e).1, fn b (e0.bs b o e).2⟩, e0.bsz, e0.funs, fun b hb => fn b (e0.frf b hb), hokF, e0.bare⟩
  refine codeAny_mono (O.run A outer s F args us vs _ E hr eF hb r h) fun r s' hq => ?_
  cases r with
  | error e => exact hq
  | ok fl =>
    cases fl with
    | next => exact hq
    | brk => exact hq
    | cont => exact hq
    | ret u =>
      obtain ⟨v, H', os, bare, un, hok, rv, q⟩ := hq
      have fresh : ∀ p o, H' p = some o → F p = none → H p = none := fun p o e n => by
        cases z : H p with
        | none => rfl
        | some ob =>
          obtain ⟨x, hx⟩ : ∃ x, s.heap.get? p = some x := by
            have l := e0.hok.lt z
            cases y : s.heap.get? p with
            | some x => exact ⟨x, rfl⟩
            | none => exact absurd y (by
                have t := e0.hok p ob z
                cases ob with
                | lst xs => obtain ⟨_, _, _, _, e⟩ := t; rw [e]; exact fun z => nomatch z
                | tup xs => obtain ⟨_, _, _, _, e, _⟩ := t; rw [e]; exact fun z => nomatch z
                | dK kvs => obtain ⟨_, _, _, _, o, _, _, e, _⟩ := t; rw [e]; exact fun z => nomatch z
                | dT kvs => obtain ⟨_, _, _, _, o, _, _, e, _⟩ := t; rw [e]; exact fun z => nomatch z
                | set S n => obtain ⟨o, _, _, _, e, _⟩ := t; rw [e]; exact fun z => nomatch z
                | ins C dx fs => obtain ⟨_, _, _, e, _⟩ := t; rw [e]; exact fun z => nomatch z
                | own y => obtain ⟨_, e⟩ := t; rw [e]; exact fun z => nomatch z
                | xd fs => obtain ⟨_, ⟨_, _, _, e, _⟩, _⟩ := t; rw [e]; exact fun z => nomatch z
                | rng lo hi => obtain ⟨_, _, _, e⟩ := t; rw [e]; exact fun z => nomatch z
                | frz ob u => obtain ⟨e, _⟩ := t; rw [e]; exact fun z => nomatch z
                | tbl ps => rw [show s.heap.get? p = some _ from t]; exact fun z => nomatch z
                | met f y => rw [show s.heap.get? p = some _ from t]; exact fun z => nomatch z
                | ext φ => obtain ⟨_, ⟨_, e⟩, _⟩ := t; rw [e]; exact fun z => nomatch z)
          rw [un.free p x hx n (by simp)] at e; cases e
      obtain ⟨Hf, hf, q⟩ := q fresh
      have kept : ∀ b o, F b = none → (H b).isSome = true → s.heap.get? b = some o → s'.heap.get? b = some o := fun b o n sm e => by
        refine un.keep b o e n (fun hb => ?_) (by simp)
        rw [e0.frf b hb] at sm; cases sm
      refine ⟨v, Hf, os, bare, ⟨fun b o e n hb hx => un.keep b o e (fn b n) hb hx, fun b o e n hb hx => un.slot b o e (fn b n) hb hx, fun b o e n hx => ?_, un.there, fun b xs e => ?_, fun b o u e => ?_, fun b p e => ?_⟩, fun a o e => ?_, rv, q⟩
      · cases z : Hf b with
        | none => rfl
        | some u =>
          rcases hf.src b u z with ⟨_, y⟩ | ⟨y, _⟩
          · rw [n] at y; cases y
          · rw [un.free b o e (fn b n) hx] at y; cases y
      · cases z : F b with
        | none => exact hf.out b _ z e
        | some u =>
          have e1 := hF.sub b u z
          rw [e] at e1; cases e1
          rw [hf.imm b _ z trivial]
          exact un.tups b xs z
      · cases z : F b with
        | none => exact hf.out b _ z e
        | some y =>
          have e1 := hF.sub b y z
          rw [e] at e1; cases e1
          rw [hf.imm b _ z trivial]
          exact un.frzs b o u z
      · cases z : F b with
        | none => exact ⟨#[], by rw [hf.out b _ z e]; simp⟩
        | some y =>
          have e1 := hF.sub b y z
          rw [e] at e1; cases e1
          rw [hf.imm b _ z trivial]
          exact un.tbls b p z
      · rcases hf.src a o e with ⟨n, e1⟩ | ⟨e1, nt⟩
        · have x := e0.hok a o e1
          refine stayX x (fun b u hb e2 => ?_) (fun b hx hb => ?_) (.inr fun b xs hb => ?_)
          · rcases hb with rfl | ⟨hx, hb⟩
            · exact kept b u n (by rw [e1]; rfl) e2
            · refine kept b u ?_ (by rw [hb]; rfl) e2
              have z := hF.own a o b e1 hx hb
              rw [n] at z
              cases y : F b with
              | none => rfl
              | some _ => rw [y] at z; cases z
          · refine hf.out b _ ?_ hb
            have z := hF.own a o b e1 hx hb
            rw [n] at z
            cases y : F b with
            | none => rfl
            | some _ => rw [y] at z; cases z
          · cases z : F b with
            | none => exact hf.out b _ z hb
            | some u =>
              have e1 := hF.sub b u z
              rw [hb] at e1; cases e1
              rw [hf.imm b _ z trivial]
              exact un.tups b xs z
        · refine stayN (hok a o e1) (fun _ _ _ z => z) (fun b hx hb => ?_) nt
          rcases hf.own a o b e hx hb with ⟨n, sm⟩ | z
          · cases y : H a with
            | none => rw [y] at sm; cases sm
            | some u => rw [fresh a o e1 n] at y; cases y
          · exact z
end
end Z
namespace Z
open PySem PySem.Spec PyProof.Rows L2

/-! ### texts by their codes -/
def S (l : List Nat) : Str := ⟨l.toArray⟩
theorem S_inj {a b : List Nat} : S a = S b ↔ a = b := by
  constructor
  · intro h
    have := congrArg (fun x : Str => x.cps.toList) h
    simpa [S] using this
  · rintro rfl; rfl
theorem S_eta (x : Str) : S x.cps.toList = x := by cases x; simp [S]
theorem S_len (l : List Nat) : (S l).length = l.length := by simp [S, Str.length]
theorem S_tl (l : List Nat) : (S l).cps.toList = l := by simp [S]
theorem S_cps (l : List Nat) : (S l).cps = l.toArray := rfl
theorem S_app (a b : List Nat) : S a ++ S b = S (a ++ b) := by
  show (⟨a.toArray ++ b.toArray⟩ : Str) = ⟨(a ++ b).toArray⟩
  simp
theorem S_one (c : Nat) : (⟨#[c]⟩ : Str) = S [c] := rfl
theorem S_mk (l : List Nat) : (⟨l.toArray⟩ : Str) = S l := rfl
def cutL (l : List Nat) (lo hi : Option Int) : List Nat := (l.drop (HT.sIx l.length 0 lo)).take (HT.sIx l.length l.length hi - HT.sIx l.length 0 lo)
theorem S_cut (l : List Nat) (lo hi : Option Int) : cutS (S l) lo hi = S (cutL l lo hi) := by
  unfold cutS cutL
  rw [S_tl, S_len] <;> rfl
theorem sIx_none (n d : Nat) : HT.sIx n d none = d := rfl
theorem sIx_nat (n d k : Nat) : HT.sIx n d (some (k : Int)) = min k n := by
  show (if (k : Int) < 0 then ((k : Int) + (n : Int)).toNat else min (k : Int).toNat n) = _
  rw [if_neg (by omega)] <;> rfl
theorem sIx_m1 (n d : Nat) : HT.sIx n d (some (-1)) = n - 1 := by
  show (if (-1 : Int) < 0 then ((-1 : Int) + (n : Int)).toNat else min (-1 : Int).toNat n) = _
  rw [if_pos (by decide)]
  omega
theorem cut_to (l : List Nat) (n : Nat) : cutL l none (some (n : Int)) = l.take n := by
  unfold cutL
  rw [sIx_none, sIx_nat, List.drop_zero, Nat.sub_zero]
  rcases Nat.le_total n l.length with h | h
  · rw [Nat.min_eq_left h]
  · rw [Nat.min_eq_right h, List.take_of_length_le (Nat.le_refl _), List.take_of_length_le h]
theorem cut_from (l : List Nat) (n : Nat) : cutL l (some (n : Int)) none = l.drop n := by
  unfold cutL
  rw [sIx_none, sIx_nat]
  rcases Nat.le_total n l.length with h | h
  · rw [Nat.min_eq_left h, List.take_of_length_le (by rw [List.length_drop]; omega)]
  · rw [Nat.min_eq_right h, List.drop_eq_nil_of_le (Nat.le_refl _), List.drop_eq_nil_of_le h] <;> simp
theorem cut_init (l : List Nat) : cutL l none (some (-1)) = l.dropLast := by
  unfold cutL
  rw [sIx_none, sIx_m1, List.drop_zero, Nat.sub_zero, List.dropLast_eq_take]
theorem cut_last (l : List Nat) : cutL l (some (-1)) none = l.drop (l.length - 1) := by
  unfold cutL
  rw [sIx_none, sIx_m1, List.take_of_length_le (by rw [List.length_drop]; omega)]
theorem cut_mid (l : List Nat) (a b : Nat) : cutL l (some (a : Int)) (some (b : Int)) = (l.drop a).take (b - a) := by
  unfold cutL
  rw [sIx_nat, sIx_nat]
  rcases Nat.le_total a l.length with h | h
  · rw [Nat.min_eq_left h]
    rcases Nat.le_total b l.length with h2 | h2
    · rw [Nat.min_eq_left h2]
    · rw [Nat.min_eq_right h2, List.take_of_length_le (by rw [List.length_drop]; omega), List.take_of_length_le (by rw [List.length_drop]; omega)]
  · rw [Nat.min_eq_right h, List.drop_eq_nil_of_le (Nat.le_refl _), List.drop_eq_nil_of_le h] <;> simp
theorem atI_nat' {α : Type} (xs : List α) (n : Nat) : atI xs (n : Int) = xs[n]? := by
  unfold atI ixN
  rcases Nat.lt_or_ge n xs.length with h | h
  · rw [if_pos (by omega), if_pos (by omega)]
    simp
  · rw [if_pos (by omega), if_neg (by omega), List.getElem?_eq_none h] <;> rfl
theorem atI_last' {α : Type} (xs : List α) : atI xs (-1) = xs.getLast? := by
  unfold atI ixN
  rw [if_neg (by decide), List.getLast?_eq_getElem?]
  by_cases h : xs = []
  · subst h; rfl
  · have : 0 < xs.length := List.length_pos_iff.mpr h
    rw [if_pos (by omega)]
    show xs[((-1 : Int) + (xs.length : Int)).toNat]? = _
    congr 1
    omega

/-! ### values that are no objects -/
def flat : V → Bool
  | .ref _ => false
  | .ty _ => false
  | _ => true
def vK : V → Option Key
  | .int i => some (.inl i)
  | .str x => some (.inr x)
  | _ => none
theorem vK_eq {y : V} {k : Key} (h : vK y = some k) : y = kV k := by
  cases y <;> simp [vK] at h <;> subst h <;> rfl

/-! ### operators, by values -/
def rAddP : R2 := fun x y H Q => match x, y with
  | .int i, .int j => Q (.int (i + j)) H
  | .str a, .str b => a.length + b.length ≤ sizeLine ∧ Q (.str (a ++ b)) H
  | .ref l, .ref b => (match H l, H b with
    | some (.lst xs), some (.lst ys) => xs.length + ys.length ≤ sizeLine ∧ ∀ p, H p = none → Q (.ref p) (upd H p (.lst (xs ++ ys)))
    | _, _ => False)
  | _, _ => False
def rEqP : R2 := fun x y H Q => match scal x y with
  | true => Q (.bl (decide (x = y))) H
  | false => False
def rNeP : R2 := fun x y H Q => match scal x y with
  | true => Q (.bl (!decide (x = y))) H
  | false => False
def rItem : R2 := fun x y H Q => match x, y with
  | .str z, .int i => z.length ≤ sizeLine ∧ (match atI z.cps.toList i with
    | some c => Q (.str (S [c])) H
    | none => False)
  | .ref a, .int i => (match H a with
    | some (.lst xs) => (match atI xs i with
      | some v => Q v H
      | none => False)
    | some (.tup xs) => (match atI xs i with
      | some v => Q v H
      | none => False)
    | some (.frz _ (.lst xs)) => (match atI xs i with
      | some v => Q v H
      | none => False)
    | some (.dK kvs) => (match valV kvs (.inl i) with
      | some v => Q v H
      | none => False)
    | _ => False)
  | .ref a, .str z => (match H a with
    | some (.dK kvs) => (match valV kvs (.inr z) with
      | some v => Q v H
      | none => False)
    | _ => False)
  | _, _ => False
section
variable {X : Cx}
theorem op_addP : OpR X (binaryOp .Add) rAddP := by
  intro pins s σ H x y v u Q I rx ry h
  unfold rAddP at h
  split at h
  · exact op_add pins s σ H _ _ v u Q I rx ry ⟨_, _, rfl, rfl, h⟩
  · exact op_add_str pins s σ H _ _ v u Q I rx ry ⟨_, _, rfl, rfl, h⟩
  · rename_i l b
    split at h
    · rename_i xs ys e1 e2
      exact op_cat pins s σ H _ _ v u Q I rx ry ⟨_, _, _, _, rfl, rfl, e1, e2, h⟩
    · exact h.elim
  · exact h.elim
theorem op_eqP : OpR X (compareOp .Eq) rEqP := by
  intro pins s σ H x y v u Q I rx ry h
  unfold rEqP at h
  split at h
  · rename_i e
    exact op_eq pins s σ H _ _ v u Q I rx ry ⟨e, h⟩
  · exact h.elim
theorem op_neP : OpR X (compareOp .NotEq) rNeP := by
  intro pins s σ H x y v u Q I rx ry h
  unfold rNeP at h
  split at h
  · rename_i e
    exact op_ne pins s σ H _ _ v u Q I rx ry ⟨e, h⟩
  · exact h.elim
/-- an item of a dict that is tracked -/
theorem ix_dK (hu : X.A.units + 1 < cLine) {value slice : Expr} {pins : List (Addr × Obj)} {s : Shared} {σ : L2.St} {H : Hp} {a : Addr} {kvs : List (Key × V)} {y w : V} {k : Key} {v u : Value} {Q : VK} (I : Inv X pins σ H s) (rx : RelV (.ref a) v) (ry : RelV y u)
    (e : H a = some (.dK kvs)) (hy : vK y = some k) (hv : valV kvs k = some w) (q : Q w H) (hs : subscripted slice false v u = operate [v, u] (getItem v u)) : wpAny (model X.prog X.w) X.A (subscriptTail value slice v u) (EP X pins σ Q) X.xe s := by
  cases rx
  obtain ⟨_, _, vs, _, o, es, ep, h1, h2, _⟩ := (show ObjOk X.prog X.w H s.heap a (.dK kvs) from I.hok a _ e)
  have ht : s.TypeIs (.ref a) "dict" := ⟨o, h1, h2.1⟩
  have g : DGet H a y (some w) := by
    rw [vK_eq hy, ← hv]
    exact DGet.k e
  exact tail_any ht slot_dict_getitem.lookup (d_getItem hu I g ry fun w' s' I' r => ⟨w, H, I', r, q⟩) hs
theorem ix_P (hu : X.A.units + 1 < cLine) : IxR X rItem := by
  intro value slice pins s σ H x y v u Q I rx ry h hs
  unfold rItem at h
  split at h
  · rename_i z i
    obtain ⟨hz, h⟩ := h
    split at h
    · rename_i c e
      exact ix_str value slice pins s σ H _ _ v u Q I rx ry ⟨_, _, c, rfl, rfl, hz, e, h⟩ hs
    · exact h.elim
  · rename_i a i
    split at h
    · rename_i xs e
      split at h
      · rename_i w hw
        exact ix_list value slice pins s σ H _ _ v u Q I rx ry ⟨_, _, _, w, rfl, rfl, SqL.of e, hw, h⟩ hs
      · exact h.elim
    · rename_i xs e
      split at h
      · rename_i w hw
        exact ix_tup value slice pins s σ H _ _ v u Q I rx ry ⟨_, _, _, w, rfl, rfl, SqT.of e, hw, h⟩ hs
      · exact h.elim
    · rename_i ob xs e
      split at h
      · rename_i w hw
        exact ix_list value slice pins s σ H _ _ v u Q I rx ry ⟨_, _, _, w, rfl, rfl, .inl (.inr ⟨_, e⟩), hw, h⟩ hs
      · exact h.elim
    · rename_i kvs e
      split at h
      · rename_i w hw
        exact ix_dK hu I rx ry e rfl hw h hs
      · exact h.elim
    · exact h.elim
  · rename_i a z
    split at h
    · rename_i kvs e
      split at h
      · rename_i w hw
        exact ix_dK hu I rx ry e rfl hw h hs
      · exact h.elim
    · exact h.elim
  · exact h.elim

/-! ### == [], != [] of a list -/
def rNil (neg : Bool) : V → Hp → VK → Prop := fun x H Q => match x with
  | .ref a => (match H a with
    | some (.lst xs) => Q (.bl (if neg then !xs.isEmpty else xs.isEmpty)) H
    | _ => False)
  | _ => False
theorem rNil_inv {neg : Bool} {x : V} {H : Hp} {Q : VK} (h : rNil neg x H Q) : ∃ a xs, x = .ref a ∧ H a = some (.lst xs) ∧ Q (.bl (if neg then !xs.isEmpty else xs.isEmpty)) H := by
  unfold rNil at h
  split at h
  · rename_i a
    split at h
    · rename_i xs e
      exact ⟨a, xs, rfl, e, h⟩
    · exact h.elim
  · exact h.elim
def tNil1 (neg : Bool) (te : TE) : TE := fun σ H Q => te σ H fun x H1 => rNil neg x H1 Q
theorem eqnil_list {pins : List (Addr × Obj)} {σ : L2.St} {H : Hp} {s : Shared} {a : Addr} {xs : List V} {R : Value → Shared → Prop} {E : Value → Shared → Prop} (hu : X.A.units < cLine) (I : Inv X pins σ H s) (e : H a = some (.lst xs))
    (h : ∀ s', Inv X pins σ H s' → R (.bool xs.isEmpty) s') : wpAny (model X.prog X.w) X.A (compareOp .Eq (.ref a) (.ref s.heap.objs.size)) R E { s with heap := s.heap.push { cls := .type "list", data := .seq #[] } } := by
  have I2 : Inv X pins σ H { s with heap := s.heap.push { cls := .type "list", data := .seq #[] } } := I.kept (t' := s.toks) fun b o e => Heap.get?_push_of_some _ e
  obtain ⟨its, r, pl, hz⟩ := I2.list (SqL.of e)
  have hb : (s.heap.push { cls := .type "list", data := .seq #[] }).IsList s.heap.objs.size #[] := ⟨_, Heap.get?_push_size _ rfl, rfl, 0, rfl⟩
  have hl := r.length
  cases its with
  | nil =>
    have e0 : xs = [] := List.length_eq_zero_iff.mp (by simpa using hl)
    subst e0
    exact PySem.SeqAt.eq_listAt (e := fun _ => true) pl.isList hb rfl hu (fun j h1 => absurd h1 (by simp)) (h _ I2)
  | cons i its =>
    have e0 : xs.isEmpty = false := by
      cases xs with
      | nil => simp at hl
      | cons _ _ => rfl
    rw [e0] at h
    exact PySem.SeqAt.eq_list_lengthsAt pl.isList hb (by simp) hu (h _ I2)
theorem nenil_list {pins : List (Addr × Obj)} {σ : L2.St} {H : Hp} {s : Shared} {a : Addr} {xs : List V} {R : Value → Shared → Prop} {E : Value → Shared → Prop} (hu : X.A.units < cLine) (I : Inv X pins σ H s) (e : H a = some (.lst xs))
    (h : ∀ s', Inv X pins σ H s' → R (.bool (!xs.isEmpty)) s') : wpAny (model X.prog X.w) X.A (compareOp .NotEq (.ref a) (.ref s.heap.objs.size)) R E { s with heap := s.heap.push { cls := .type "list", data := .seq #[] } } := by
  have I2 : Inv X pins σ H { s with heap := s.heap.push { cls := .type "list", data := .seq #[] } } := I.kept (t' := s.toks) fun b o e => Heap.get?_push_of_some _ e
  obtain ⟨its, r, pl, hz⟩ := I2.list (SqL.of e)
  have hb : (s.heap.push { cls := .type "list", data := .seq #[] }).IsList s.heap.objs.size #[] := ⟨_, Heap.get?_push_size _ rfl, rfl, 0, rfl⟩
  have hl := r.length
  cases its with
  | nil =>
    have e0 : xs = [] := List.length_eq_zero_iff.mp (by simpa using hl)
    subst e0
    exact PySem.SeqAt.RcNeAt.lists (e := fun _ => true) pl.isList hb rfl hu (fun j h1 => absurd h1 (by simp)) _ _ _ _ (h _ I2)
  | cons i its =>
    have e0 : xs.isEmpty = false := by
      cases xs with
      | nil => simp at hl
      | cons _ _ => rfl
    rw [e0] at h
    exact PySem.SeqAt.RcNeAt.lists_lengths pl.isList hb (by simp) hu _ _ _ _ (h _ I2)
theorem pc_eqNil {a : Expr} {ta : TE} {p : Pos} (hu : X.A.units < cLine) (ha : PE X a ta) : PC X .Eq a (.List [] p) (tNil1 false ta) := by
  refine ⟨fun pins s σ H Q I h => thn (ha.run pins s σ H _ I h) fun v s1 ⟨x, H1, I1, r1, q1⟩ => ?_⟩
  obtain ⟨a, xs, rfl, e, q1⟩ := rNil_inv q1
  cases r1
  refine wpAny_List_spliced (Calls.spliced_nil ⟨Nat.zero_le _, ?_⟩)
  exact eqnil_list hu I1 e fun s' I' => ⟨.bl _, H1, I', rfl, q1⟩
theorem pc_neNil {a : Expr} {ta : TE} {p : Pos} (hu : X.A.units < cLine) (ha : PE X a ta) : PC X .NotEq a (.List [] p) (tNil1 true ta) := by
  refine ⟨fun pins s σ H Q I h => thn (ha.run pins s σ H _ I h) fun v s1 ⟨x, H1, I1, r1, q1⟩ => ?_⟩
  obtain ⟨a, xs, rfl, e, q1⟩ := rNil_inv q1
  cases r1
  refine wpAny_List_spliced (Calls.spliced_nil ⟨Nat.zero_le _, ?_⟩)
  exact nenil_list hu I1 e fun s' I' => ⟨.bl _, H1, I', rfl, q1⟩

/-! ### z[::-1] of a text -/
def tRevS (te : TE) : TE := fun σ H Q => te σ H fun x H1 => match x with
  | .str z => z.length ≤ sizeLine ∧ Q (.str (S z.cps.toList.reverse)) H1
  | _ => False
theorem revIdx (z : Str) : ((Builtin.Str.strSliceIndices none none (-1) z.length).filterMap (z.cps[·]?)).toArray = z.cps.toList.reverse.toArray := by
  have e : Builtin.Str.strSliceIndices none none (-1) z.length = sliceRange ((z.length : Int) - 1) (-1) (-1) := by
    have h1 : ((-1 : Int) > 0) = False := by simp
    simp only [Builtin.Str.strSliceIndices, h1, if_false]
  rw [e, PySem.W.krv_sliceRange, PySem.W.krv_range, List.filterMap_reverse]
  congr 2
  exact PySem.W.krv_all z.cps
theorem pe_revS {e : Expr} {te : TE} {k : Nat} {p1 p2 p3 pos : Pos} (he : PE X e te) : PE X (.Subscript e (.Slice none none (some (.UnaryOp .USub (.Constant (.int 1) k p1) p2)) p3) pos) (tRevS te) := by
  refine ⟨fun pins s σ H Q I h => ?_⟩
  refine Subscript_ (thn (he.run pins s σ H _ I h) fun v s1 ⟨x, H1, I1, r1, q1⟩ => ?_)
  cases x with
  | str z =>
    obtain ⟨hz, q⟩ := q1
    obtain ⟨t, rfl⟩ := r1
    have hst : PO X (some (.UnaryOp .USub (.Constant (.int 1) k p1) p2)) (tPart (tUn (rU fun i => .int (-i)) (tC (.int 1)))) := po_some (pe_un un_neg pe_int)
    refine wpAny_Slice (thn (po_none.run pins s1 σ H1 (fun o H2 => o = none ∧ H2 = H1) I1 ⟨rfl, rfl⟩) fun vl s2 ⟨l, H2, I2, pl, el, e2⟩ => ?_)
    subst el e2
    refine thn (po_none.run pins s2 σ H2 (fun o H3 => o = none ∧ H3 = H2) I2 ⟨rfl, rfl⟩) fun vu s3 ⟨u, H3, I3, pu, eu, e3⟩ => ?_
    subst eu e3
    refine thn (hst.run pins s3 σ H3 (fun o H4 => o = some (-1) ∧ H4 = H3) I3 ⟨1, rfl, -1, rfl, rfl, rfl⟩) fun vs s4 ⟨o, H4, I4, ps, eo, e4⟩ => ?_
    subst eo e4
    have I5 : Inv X pins σ H4 { s4 with heap := s4.heap.push { cls := .type "slice", data := .fields #[vl, vu, vs] } } := I4.kept (t' := s4.toks) fun b ob q => Heap.get?_push_of_some _ q
    obtain ⟨l, rfl, el⟩ := IsPart.raw pl
    obtain ⟨u, rfl, eu⟩ := IsPart.raw pu
    obtain ⟨w, rfl, ew⟩ := IsPart.raw ps
    have e1 : l = none := by
      cases l with
      | none => rfl
      | some _ => cases el
    have e2 : u = none := by
      cases u with
      | none => rfl
      | some _ => cases eu
    subst e1 e2
    cases w with
    | none => cases ew
    | some w =>
      obtain ⟨i, t'⟩ := w
      have ei : i = -1 := by
        simp only [Option.map_some, Option.some.injEq] at ew
        exact ew
      subst ei
      show wpAny (model X.prog X.w) X.A (subscriptTail e (.Slice none none (some (.UnaryOp .USub (.Constant (.int 1) k p1) p2)) p3) (.str z t) (.ref s4.heap.objs.size)) (EP X pins σ Q) X.xe { s4 with heap := s4.heap.push { cls := .type "slice", data := .fields #[partValue none, partValue none, partValue (some (-1, t'))] } }
      refine tail_any (ops := [.str z t, .ref s4.heap.objs.size]) (typeIs_str _ z t) F.slot_str_getitem.lookup ?_ (by with_unfolding_all rfl)
      refine wpAny_getItem_str_slice (l := none) (u := none) (st := some (-1, t')) ⟨_, Heap.get?_push_size _ rfl, rfl, rfl⟩ rfl ?_
      show Made.post (if ((-1 : Int) == 1 && (Builtin.Str.strSliceIndices none none (-1) z.length).length == z.length) = true then Made.val (.str z t)
        else Made.str ⟨((Builtin.Str.strSliceIndices none none (-1) z.length).filterMap (z.cps[·]?)).toArray⟩) (EP X pins σ Q) _
      have c : ¬ ((-1 : Int) == 1 && (Builtin.Str.strSliceIndices none none (-1) z.length).length == z.length) = true := by simp
      rw [if_neg c, revIdx]
      refine ⟨?_, .str _, H4, I5.tok _, ⟨_, rfl⟩, q⟩
      show (z.cps.toList.reverse.toArray).size ≤ sizeLine
      simp
      exact hz
  | _ => exact q1.elim
end
end Z
namespace Z
open PySem PySem.Spec PyProof.Rows L2
abbrev St := L2.St

/-! ### loops and comprehensions: what they walk first, then the walk -/
def ForAt (J : It) (g : TG) (tb : TS) (D : Ends) (σ : L2.St) (H1 : Hp) : Prop := ∃ W : Nat → Nat → L2.St → Hp → Prop, (∃ m, W 0 m σ H1) ∧ ∀ i m σ H, W i m σ H →
  (J.stop i H ∧ D.nx σ H) ∨ (J.go i H ∧ ∃ N : L2.St → Hp → Prop, (∀ σ' H', N σ' H' → ∃ m', m' < m ∧ W (i + 1) m' σ' H') ∧ ∀ x H', J.yld i H x H' → g x σ H' fun σ2 H2 => tb { D with nx := N, ct := N, bk := D.nx } σ2 H2)
theorem tFor_at {wi : TI} {g : TG} {tb : TS} {D : Ends} {σ : L2.St} {H : Hp} : tFor wi g tb D σ H = wi σ H fun J H1 => ForAt J g tb D σ H1 := rfl
/-- one turn of a comprehension: the item's test, its element or nothing -/
def lcTurn (g : TG) (tt : TT) (te : TE) (vs : List Nat) (σ : L2.St) (x : V) (H : Hp) (R : Option V → Hp → Prop) : Prop := g x (wipe σ vs) H fun σ2 H2 => wipe σ2 vs = wipe σ vs ∧ tt σ2 H2 fun b H3 => if b = true then te σ2 H3 fun y H4 => R (some y) H4 else R none H3
def LcAt (J : It) (g : TG) (tt : TT) (te : TE) (vs : List Nat) (σ : L2.St) (H1 : Hp) (Q : VK) : Prop := ∀ D, H1 D = none → ∃ W : Nat → Nat → Hp → Prop, (∃ m, W 0 m (upd H1 D (.lst []))) ∧ ∀ i m H, W i m H →
  (J.stop i H ∧ Q (.ref D) H) ∨ (J.go i H ∧ ∃ Nx : Hp → Prop, (∀ H', Nx H' → ∃ m', m' < m ∧ W (i + 1) m' H') ∧ ∀ x H', J.yld i H x H' → g x (wipe σ vs) H' fun σ2 H2 => wipe σ2 vs = wipe σ vs ∧ tt σ2 H2 fun b H3 =>
    if b = true then te σ2 H3 fun y H4 => ∃ acc, H4 D = some (.lst acc) ∧ acc.length < sizeLine ∧ Nx (upd H4 D (.lst (acc ++ [y]))) else Nx H3)
theorem tLc_at {wi : TI} {g : TG} {tt : TT} {te : TE} {vs : List Nat} {σ : L2.St} {H : Hp} {Q : VK} : tLc wi g tt te vs σ H Q = wi σ H fun J H1 => LcAt J g tt te vs σ H1 Q := rfl

/-- an iterator that walks the items xs, whatever else changes, as long as G -/
structure Goes (J : It) (xs : List V) (G : Hp → Prop) : Prop where
  go : ∀ (i : Nat) H, i < xs.length → G H → J.go i H
  stop : ∀ H, G H → J.stop xs.length H
  yld : ∀ (i : Nat) H x H', i < xs.length → G H → J.yld i H x H' → H' = H ∧ xs[i]? = some x
theorem goes_text (z : Str) : Goes (Its z) (z.cps.toList.map fun c => .str (S [c])) (fun _ => True) := by
  refine ⟨fun i H hi _ => ?_, fun H _ => ?_, fun i H x H' hi _ ⟨h1, c, h2, h3⟩ => ⟨h1, ?_⟩⟩
  · show i < z.cps.size
    simpa using hi
  · show z.cps.size ≤ _
    simp
  · rw [h3, List.getElem?_map, Array.getElem?_toList, h2] <;> rfl
theorem goes_list {K : PySem.W.Frag} (a : Addr) (xs : List V) : Goes (Itl K a) xs (fun H => SqL K H a xs) := by
  refine ⟨fun i H hi h => ⟨xs, xs[i], h, by simp [hi]⟩, fun H h => ⟨xs, h, Nat.le_refl _⟩, fun i H x H' hi h ⟨h1, h2⟩ => ⟨h1, h2 xs h⟩⟩
theorem goes_tup {K : PySem.W.Frag} (a : Addr) (xs : List V) : Goes (Itt K a) xs (fun H => SqT K H a xs) := by
  refine ⟨fun i H hi h => ⟨xs, xs[i], h, by simp [hi]⟩, fun H h => ⟨xs, h, Nat.le_refl _⟩, fun i H x H' hi h ⟨h1, h2⟩ => ⟨h1, h2 xs h⟩⟩
theorem goes_range (lo : Int) (n : Nat) : Goes (Itr lo n) ((List.range n).map fun (k : Nat) => .int (lo + (k : Int))) (fun _ => True) := by
  refine ⟨fun i H hi _ => ?_, fun H _ => ?_, fun i H x H' hi _ ⟨h1, h2⟩ => ⟨h1, ?_⟩⟩
  · show i < n
    simpa using hi
  · show n ≤ _
    simp
  · have : i < n := by simpa using hi
    rw [h2, List.getElem?_map, List.getElem?_range this] <;> rfl
theorem split_at {α : Type} {xs : List α} {i : Nat} {x : α} (h : xs[i]? = some x) : xs = xs.take i ++ x :: xs.drop (i + 1) := by
  obtain ⟨hi, e⟩ := List.getElem?_eq_some_iff.mp h
  rw [← e, List.getElem_cons_drop, List.take_append_drop]
theorem take_succ_of {α : Type} {xs : List α} {i : Nat} {x : α} (h : xs[i]? = some x) : xs.take (i + 1) = xs.take i ++ [x] := by
  rw [List.take_add_one, h] <;> rfl
theorem map_at {α : Type} {emb : α → V} {ks : List α} {i : Nat} {x : V} (h : (ks.map emb)[i]? = some x) : ∃ k, ks[i]? = some k ∧ x = emb k := by
  rw [List.getElem?_map] at h
  obtain ⟨k, h1, h2⟩ := Option.map_eq_some_iff.mp h
  exact ⟨k, h1, h2.symm⟩
/-- a for by what holds of the items gone through -/
theorem for_at {α : Type} {emb : α → V} {ks : List α} {J : It} {G : Hp → Prop} (w : Goes J (ks.map emb) G) {g : TG} {tb : TS} {D : Ends} {σ : L2.St} {H : Hp} (Pv : List α → L2.St → Hp → Prop) (hG : ∀ pre σ H, Pv pre σ H → G H) (h0 : Pv [] σ H)
    (hs : ∀ pre k post σ H, ks = pre ++ k :: post → Pv pre σ H → g (emb k) σ H fun σ2 H2 => tb { D with nx := Pv (pre ++ [k]), ct := Pv (pre ++ [k]), bk := D.nx } σ2 H2) (hd : ∀ σ H, Pv ks σ H → D.nx σ H) : ForAt J g tb D σ H := by
  have hl : (ks.map emb).length = ks.length := List.length_map ..
  refine ⟨fun i m σ H => m = ks.length - i ∧ i ≤ ks.length ∧ Pv (ks.take i) σ H, ⟨ks.length, by simp, Nat.zero_le _, h0⟩, ?_⟩
  rintro i m σ H ⟨rfl, hi, p⟩
  have q := hG _ _ _ p
  by_cases hlt : i < ks.length
  · refine .inr ⟨w.go i H (by omega) q, Pv (ks.take (i + 1)), fun σ' H' p' => ⟨ks.length - (i + 1), by omega, rfl, hlt, p'⟩, fun x H' y => ?_⟩
    obtain ⟨e, y2⟩ := w.yld i H x H' (by omega) q y
    subst e
    obtain ⟨k, y3, rfl⟩ := map_at y2
    have e2 := hs (ks.take i) k (ks.drop (i + 1)) σ _ (split_at y3) p
    rw [← take_succ_of y3] at e2
    exact e2
  · have e : i = ks.length := by omega
    subst e
    rw [List.take_length] at p
    refine .inl ⟨?_, hd σ H p⟩
    have z := w.stop H q
    rw [hl] at z
    exact z
/-- a comprehension by what holds of the items gone through -/
def lcR (D : Addr) (P : Hp → Prop) : Option V → Hp → Prop
  | some y, H' => ∃ acc, H' D = some (.lst acc) ∧ acc.length < sizeLine ∧ P (upd H' D (.lst (acc ++ [y])))
  | none, H' => P H'
theorem lc_at {α : Type} {emb : α → V} {ks : List α} {J : It} {G : Hp → Prop} (w : Goes J (ks.map emb) G) {g : TG} {tt : TT} {te : TE} {vs : List Nat} {σ : L2.St} {H1 : Hp} {Q : VK} (Pv : Addr → List α → Hp → Prop) (hG : ∀ D pre H, H1 D = none → Pv D pre H → G H)
    (h0 : ∀ D, H1 D = none → Pv D [] (upd H1 D (.lst [])))
    (hs : ∀ D pre k post H, H1 D = none → ks = pre ++ k :: post → Pv D pre H → lcTurn g tt te vs σ (emb k) H (lcR D (Pv D (pre ++ [k]))))
    (hd : ∀ D H, H1 D = none → Pv D ks H → Q (.ref D) H) : LcAt J g tt te vs σ H1 Q := by
  intro D hD
  have hl : (ks.map emb).length = ks.length := List.length_map ..
  refine ⟨fun i m H => m = ks.length - i ∧ i ≤ ks.length ∧ Pv D (ks.take i) H, ⟨ks.length, by simp, Nat.zero_le _, h0 D hD⟩, ?_⟩
  rintro i m H ⟨rfl, hi, p⟩
  have q := hG _ _ _ hD p
  by_cases hlt : i < ks.length
  · refine .inr ⟨w.go i H (by omega) q, fun H' => Pv D (ks.take (i + 1)) H', fun H' p' => ⟨ks.length - (i + 1), by omega, rfl, hlt, p'⟩, fun x H' y => ?_⟩
    obtain ⟨e, y2⟩ := w.yld i H x H' (by omega) q y
    subst e
    obtain ⟨k, y3, rfl⟩ := map_at y2
    have e2 := hs D (ks.take i) k (ks.drop (i + 1)) _ hD (split_at y3) p
    rw [← take_succ_of y3] at e2
    exact e2
  · have e : i = ks.length := by omega
    subst e
    rw [List.take_length] at p
    refine .inl ⟨?_, hd D H hD p⟩
    have z := w.stop H q
    rw [hl] at z
    exact z
/-- .. whose element leaves the heap as it is -/
theorem lc_pure {α : Type} {emb : α → V} {ks : List α} {J : It} {G : Hp → Prop} (w : Goes J (ks.map emb) G) {g : TG} {tt : TT} {te : TE} {vs : List Nat} {σ : L2.St} {H1 : Hp} {Q : VK} (f : α → Option V) (hz : ks.length ≤ sizeLine) (hG : ∀ D ys, H1 D = none → G (upd H1 D (.lst ys)))
    (hs : ∀ D k acc R, H1 D = none → k ∈ ks → R (f k) (upd H1 D (.lst acc)) → lcTurn g tt te vs σ (emb k) (upd H1 D (.lst acc)) R)
    (hd : ∀ D, H1 D = none → Q (.ref D) (upd H1 D (.lst (ks.filterMap f)))) : LcAt J g tt te vs σ H1 Q := by
  refine lc_at w (fun D pre H => H = upd H1 D (.lst (pre.filterMap f))) (fun D pre H hD e => e ▸ hG D _ hD) (fun D hD => rfl) (fun D pre x post H hD e p => ?_) fun D H hD e => e ▸ hd D hD
  subst p
  refine hs D x _ _ hD (by rw [e]; simp) ?_
  have hl : (pre.filterMap f).length < sizeLine := by
    have h1 : (pre.filterMap f).length ≤ pre.length := List.length_filterMap_le _ _
    have h2 : ks.length = pre.length + (post.length + 1) := by rw [e]; simp
    omega
  cases q : f x with
  | none =>
    show upd H1 D (.lst (pre.filterMap f)) = upd H1 D (.lst ((pre ++ [x]).filterMap f))
    rw [List.filterMap_append]
    simp [q]
  | some y =>
    refine ⟨pre.filterMap f, upd_same, hl, ?_⟩
    rw [upd_upd, List.filterMap_append]
    simp [q]
/-- over the signs of a text -/
abbrev eSign : Nat → V := fun c => .str (S [c])
theorem goes_S (l : List Nat) : Goes (Its (S l)) (l.map eSign) (fun _ => True) := by
  have h := goes_text (S l)
  rw [S_tl] at h
  exact h
abbrev eRng (lo : Int) : Nat → V := fun k => .int (lo + (k : Int))

/-! ### small garbage: an expression whose value is no object, and what it made on its way -/
theorem Same.new {H H' : Hp} {p : Addr} {o : HO} (h : H' p = none) (e : Same H H') : Same H (upd H' p o) := fun b u hb => by
  rw [upd_ne (ne_of_none (e b u hb) h)]
  exact e b u hb
theorem Same.mut {H H' : Hp} {p : Addr} {o : HO} (h : H p = none) (e : Same H H') : Same H (upd H' p o) := fun b u hb => by
  rw [upd_ne (ne_of_none hb h)]
  exact e b u hb
def NoT (H : Hp) : Prop := ∀ a o, H a = some o → noT o
theorem NoT.upd {H : Hp} {p : Addr} {o : HO} (h : NoT H) (n : noT o) : NoT (upd H p o) := fun a u e => by
  by_cases ha : a = p
  · subst ha
    rw [upd_same] at e; cases e; exact n
  · rw [upd_ne ha] at e
    exact h a u e
theorem noT0 : NoT H0 := fun _ _ e => nomatch e
def tTmp (t : TE) : TE := fun σ H Q => NoT H ∧ t σ H (fun v H' => Same H H' ∧ Q v H)
theorem Inv.forget {X : Cx} {pins : List (Addr × Obj)} {σ : L2.St} {H H' : Hp} {s s' : Shared} (I : Inv X pins σ H s) (I' : Inv X pins σ H' s') (sm : Same H H') (nt : NoT H) : Inv X pins σ H s' := by
  have nn : ∀ b, H' b = none → H b = none := fun b e => Same.free sm e
  refine ⟨I'.ok, I'.os, I'.bare, ⟨I'.base.keep, I'.base.slot, fun b o e n hx => nn b (I'.base.free b o e n hx), I'.base.there, I.base.tups, I.base.frzs, I.base.tbls⟩, I'.loc, I'.cell, nn _ I'.free, fun x c e => nn _ (I'.freeC x c e), fun p hp => ?_, fun a o e => ?_, I'.len⟩
  · obtain ⟨a, b, c⟩ := I'.pin p hp
    exact ⟨a, nn _ b, c⟩
  · refine stayN (I'.hok a o (sm a o e)) (fun _ _ _ z => z) (fun b hb _ => ?_) (nt a o e)
    have key : ∀ (o : HO) (h : Heap), ObjOk X.prog X.w H h a o → dxOf o = some b → H b = some (.own a) := fun o h => by
      induction o with
      | ins C dx fs => intro x q; cases q; exact x.1
      | frz ob u ih => intro x q; exact ih x.2 q
      | _ => intro _ q; cases q
    exact key o _ (I.hok a o e) hb
theorem pe_tmp {X : Cx} {e : Expr} {t : TE} (h : PE X e t) : PE X e (tTmp t) := by
  refine ⟨fun pins s σ H Q I ⟨nt, hq⟩ => ?_⟩
  exact thn (h.run pins s σ H _ I hq) fun u s' ⟨v, H', I', r, sm, q⟩ => ⟨v, H, Inv.forget I I' sm nt, r, q⟩
theorem pt_tmp {X : Cx} {e : Expr} {t : TT} (h : PT X e t) : PT X e (fun σ H Q => NoT H ∧ t σ H fun b H' => Same H H' ∧ Q b H) := by
  refine ⟨fun pins s σ H Q I ⟨nt, hq⟩ => ?_⟩
  exact thn (h.run pins s σ H _ I hq) fun u s' ⟨H', I', sm, q⟩ => ⟨H, Inv.forget I I' sm nt, q⟩
end Z
namespace Z
open PySem PySem.Spec PyProof.Rows L2

/-! ### built-ins and methods, by values -/
def isLst (x : V) (H : Hp) : Prop := match x with
  | .ref l => (match H l with
    | some (.lst _) => True
    | _ => False)
  | _ => False
def isTxt (x : V) (_ : Hp) : Prop := match x with
  | .str _ => True
  | _ => False
def isDct (x : V) (H : Hp) : Prop := match x with
  | .ref l => (match H l with
    | some (.dK _) => True
    | _ => False)
  | _ => False
theorem isLst_ty {K : PySem.W.Frag} {x : V} {H : Hp} (h : isLst x H) : tyV K "list" x H := by
  unfold isLst at h
  split at h
  · split at h
    · rename_i e
      exact Or.inl ⟨rfl, _, SqL.of e⟩
    · exact h.elim
  · exact h.elim
theorem isTxt_ty {K : PySem.W.Frag} {x : V} {H : Hp} (h : isTxt x H) : tyV K "str" x H := by
  unfold isTxt at h
  split at h
  · exact rfl
  · exact h.elim
theorem isDct_ty {K : PySem.W.Frag} {x : V} {H : Hp} (h : isDct x H) : tyV K "dict" x H := by
  unfold isDct at h
  split at h
  · split at h
    · rename_i e
      exact Or.inr (Or.inr (Or.inl ⟨rfl, Or.inl ⟨_, e⟩⟩))
    · exact h.elim
  · exact h.elim
/-- a reading, weakened upward -/
def up (t : TE) : TE := fun σ H Q => ∃ P : VK, t σ H P ∧ ∀ x H1, P x H1 → Q x H1
def upA (t : TA) : TA := fun σ H Q => ∃ P : List V → Hp → Prop, t σ H P ∧ ∀ x H1, P x H1 → Q x H1
theorem PE.up {X : Cx} {e : Expr} {t : TE} (h : PE X e t) : PE X e (up t) := ⟨fun pins s σ H _ I ⟨P, p, f⟩ => thn (h.run pins s σ H P I p) fun _ _ ⟨x, H1, I1, r, q⟩ => ⟨x, H1, I1, r, f x H1 q⟩⟩
theorem PA.up {X : Cx} {es : List Expr} {t : TA} (h : PA X es t) : PA X es (upA t) := ⟨fun pos pins s σ H _ I ⟨P, p, f⟩ => thn (h.run pos pins s σ H P I p) fun _ _ ⟨x, H1, I1, r, q⟩ => ⟨x, H1, I1, r, f x H1 q⟩⟩
theorem PE.of {X : Cx} {e : Expr} {t t' : TE} (h : PE X e t) (f : ∀ σ H Q, t' σ H Q → t σ H Q) : PE X e t' := ⟨fun pins s σ H Q I q => h.run pins s σ H Q I (f σ H Q q)⟩
theorem PI.of {X : Cx} {tg e : Expr} {t t' : TI} (h : PI X tg e t) (f : ∀ σ H R, t' σ H R → t σ H R) : PI X tg e t' := ⟨fun pins s σ H R I q => h.run pins s σ H R I (f σ H R q)⟩
def tMth0 (chk : V → Hp → Prop) (r : V → List V → Hp → VK → Prop) (to : TE) : TE := fun σ H Q => to σ H fun x H1 => chk x H1 ∧ r x [] H1 Q
def tMth (chk : V → Hp → Prop) (r : V → List V → Hp → VK → Prop) (to : TE) (t : TA) : TE := fun σ H Q => to σ H fun x H1 => chk x H1 ∧ t σ H1 fun xs H2 => r x xs H2 Q
section
variable {X : Cx} {o e : Expr} {es : List Expr} {to : TE} {t : TA} {name : Str} {apos cpos : Pos} {T id : String} {r : V → List V → Hp → VK → Prop} {chk : V → Hp → Prop}
/-- a built-in type's method, the receiver's kind read off its value -/
theorem pe_mth0 (pa : PlainAttrs T) (slot : Slot T name id) (ty : typeOf (.builtin id) = pure (.type "method_descriptor")) (hk : ∀ x H, chk x H → tyV X.K T x H) (hm : MtR X id r) (ho : PE X o to)
    (h1 : attributeBase o name X.env (eval o X.env) = eval o X.env := by rfl) (h2 : (apos.endLine == cpos.line) = true := by rfl) : PE X (.Call (.Attribute o name apos) [] [] cpos) (tMth0 chk r to) :=
  PE.of (pe_bm0 pa slot ty hm (PE.up ho) h1 h2) fun _ _ _ q => ⟨_, q, fun x H1 z => ⟨hk x H1 z.1, z.2⟩⟩
theorem pe_mth (pa : PlainAttrs T) (slot : Slot T name id) (ty : typeOf (.builtin id) = pure (.type "method_descriptor")) (hk : ∀ x H, chk x H → tyV X.K T x H) (hm : MtR X id r) (ho : PE X o to) (ha : PA X (e :: es) t)
    (h1 : attributeBase o name X.env (eval o X.env) = eval o X.env := by rfl)
    (h2 : ((backTo cpos (starEach (e :: es) X.env)).all (fun x => !x.1) && (backToKw cpos (keywordEach [] X.env)).all (fun x => x.1.isSome)
      && decide ((e :: es).length + ([] : List Keyword).length + (if ([] : List Keyword).isEmpty then 0 else 1) < 30)) = true := by rfl)
    (h3 : (apos.endLine == cpos.line) = true := by rfl) (h4 : starEach (e :: es) X.env = (false, eval e X.env) :: starEach es X.env := by rfl) (h5 : (backTo cpos (starEach es X.env)).any (·.1) = false := by rfl) :
    PE X (.Call (.Attribute o name apos) (e :: es) [] cpos) (tMth chk r to t) :=
  PE.of (pe_bm pa slot ty hm (PE.up ho) (PA.up ha) h1 h2 h3 h4 h5) fun _ _ _ q => ⟨_, q, fun x H1 z => ⟨hk x H1 z.1, _, z.2, fun _ _ y => y⟩⟩
end
def mAppend : V → List V → Hp → VK → Prop := fun x vs H Q => match x, vs with
  | .ref l, [y] => (match H l with
    | some (.lst xs) => xs.length < sizeLine ∧ Q .non (upd H l (.lst (xs ++ [y])))
    | _ => False)
  | _, _ => False
def mPop : V → List V → Hp → VK → Prop := fun x vs H Q => match x, vs with
  | .ref l, [] => (match H l with
    | some (.lst xs) => (match xs.getLast? with
      | some y => Q y (upd H l (.lst xs.dropLast))
      | none => False)
    | _ => False)
  | .ref l, [.int i] => (match H l with
    | some (.lst xs) => 0 ≤ i ∧ (match xs[i.toNat]? with
      | some y => Q y (upd H l (.lst (xs.eraseIdx i.toNat)))
      | none => False)
    | _ => False)
  | _, _ => False
def mExtend : V → List V → Hp → VK → Prop := fun x vs H Q => match x, vs with
  | .ref l, [.ref b] => (match H l, H b with
    | some (.lst xs), some (.lst ys) => xs.length + ys.length ≤ sizeLine ∧ Q .non (upd H l (.lst (xs ++ ys)))
    | _, _ => False)
  | _, _ => False
/-- all texts -/
def allTxt : List V → Option (List (List Nat))
  | [] => some []
  | .str x :: r => (allTxt r).map (x.cps.toList :: ·)
  | _ :: _ => none
theorem allTxt_ok : ∀ {xs : List V} {ls : List (List Nat)}, allTxt xs = some ls → xs = (ls.map S).map V.str
  | [], _, h => by cases h; rfl
  | .str x :: r, ls, h => by
    obtain ⟨l2, h1, h2⟩ := Option.map_eq_some_iff.mp (show (allTxt r).map (x.cps.toList :: ·) = some ls from h)
    subst h2
    rw [List.map_cons, List.map_cons, ← allTxt_ok h1, S_eta]
  | .non :: _, _, h => by cases h
  | .bl _ :: _, _, h => by cases h
  | .int _ :: _, _, h => by cases h
  | .byt _ :: _, _, h => by cases h
  | .flt _ :: _, _, h => by cases h
  | .ref _ :: _, _, h => by cases h
  | .ty _ :: _, _, h => by cases h
/-- the texts of a list | a tuple -/
def strsAt (H : Hp) (a : Addr) : Option (List (List Nat)) := match H a with
  | some (.lst xs) => allTxt xs
  | some (.tup xs) => allTxt xs
  | _ => none
def mJoin : V → List V → Hp → VK → Prop := fun x vs H Q => match x, vs with
  | .str z, [.ref p] => (match strsAt H p with
    | some ls => (ls.map (·.length)).sum + ls.length * z.length ≤ 16777216 ∧ Q (.str (S (TL.joinL z.cps.toList ls))) H
    | none => False)
  | _, _ => False
/-- z.index(c) of one sign -/
def mIndex : V → List V → Hp → VK → Prop := fun x vs H Q => match x, vs with
  | .str z, [.str y] => (match y.cps.toList with
    | [c] => c ∈ z.cps.toList ∧ Q (.int ((z.cps.toList.idxOf c : Nat) : Int)) H
    | _ => False)
  | _, _ => False
section
variable {X : Cx}
theorem mtr_append : MtR X "list.append" mAppend := by
  intro pins s σ H x xs v us Q I rx rs h
  unfold mAppend at h
  split at h
  · split at h
    · rename_i e
      exact mt_append pins s σ H _ _ v us Q I rx rs ⟨_, _, _, rfl, rfl, e, h.1, h.2⟩
    · exact h.elim
  · exact h.elim
theorem seqIndex_nat {i : Int} {n : Nat} (h0 : 0 ≤ i) (h : i.toNat < n) : seqIndex? i n = some i.toNat := seqIndex_of h0 (by omega)
theorem mtr_pop : MtR X "list.pop" mPop := by
  intro pins s σ H x xs v us Q I rx rs h
  unfold mPop at h
  split at h
  · split at h
    · rename_i ys e
      split at h
      · rename_i y hy
        rw [List.getLast?_eq_getElem?] at hy
        exact mt_pop pins s σ H _ _ v us Q I rx rs ⟨_, _, y, rfl, rfl, e, hy, h⟩
      · exact h.elim
    · exact h.elim
  · rename_i l i
    split at h
    · rename_i ys e
      obtain ⟨h0, h⟩ := h
      split at h
      · rename_i y hy
        have hl := (List.getElem?_eq_some_iff.mp hy).1
        have hz : ys.length ≤ sizeLine := by
          obtain ⟨z, _⟩ := I.hok l _ e
          exact z
        have hn := line63
        exact mt_popAt pins s σ H _ _ v us Q I rx rs ⟨l, ys, i, i.toNat, y, rfl, rfl, e, by omega, by omega, seqIndex_nat h0 hl, hy, h⟩
      · exact h.elim
    · exact h.elim
  · exact h.elim
theorem mtr_extend : MtR X "list.extend" mExtend := by
  intro pins s σ H x xs v us Q I rx rs h
  unfold mExtend at h
  split at h
  · split at h
    · rename_i e1 e2
      exact mt_extend pins s σ H _ _ v us Q I rx rs ⟨_, _, _, _, rfl, rfl, e1, e2, h.1, h.2⟩
    · exact h.elim
  · exact h.elim
theorem joinS (z : Str) (ls : List (List Nat)) : Txt.join z (ls.map S) = S (TL.joinL z.cps.toList ls) := by
  rw [TL.join_eq]
  have e := TL.tl_join z (ls.map S)
  have e2 : (ls.map S).map TL.tl = ls := by
    rw [List.map_map]
    exact (List.map_congr_left (g := id) fun l _ => S_tl l).trans (List.map_id _)
  rw [e2] at e
  rw [← S_eta (Str.join z (ls.map S))]
  exact congrArg S e
theorem mtr_join : MtR X "str.join" mJoin := by
  intro pins s σ H x xs v us Q I rx rs h
  unfold mJoin at h
  split at h
  · rename_i z p
    split at h
    · rename_i ls e
      obtain ⟨hz, q⟩ := h
      have key : SqL X.K H p ((ls.map S).map V.str) ∨ SqT X.K H p ((ls.map S).map V.str) := by
        unfold strsAt at e
        split at e
        · rename_i h1
          rw [← allTxt_ok e]
          exact .inl (SqL.of h1)
        · rename_i h1
          rw [← allTxt_ok e]
          exact .inr (SqT.of h1)
        · cases e
      refine mt_join pins s σ H _ _ v us Q I rx rs ⟨z, p, ls.map S, rfl, rfl, key, ?_, by rw [joinS]; exact q⟩
      rw [List.length_map, List.map_map]
      have e3 : (fun x : Str => x.length) ∘ S = fun l : List Nat => l.length := funext fun l => S_len l
      rw [show ((·.length) ∘ S) = fun l : List Nat => l.length from e3]
      exact hz
    · exact h.elim
  · exact h.elim

/-! ### len, abs, int, list -/
def cLen : List V → Hp → VK → Prop := fun vs H Q => match vs with
  | [.str z] => z.length ≤ sizeLine ∧ Q (.int z.length) H
  | [.ref a] => (match H a with
    | some (.lst xs) => Q (.int xs.length) H
    | some (.tup xs) => Q (.int xs.length) H
    | some (.frz _ (.lst xs)) => Q (.int xs.length) H
    | some (.dK kvs) => Q (.int kvs.length) H
    | _ => False)
  | _ => False
theorem call_lenP : CallR X (.builtin "len") cLen := by
  intro pins s σ H xs us Q I r h
  unfold cLen at h
  split at h
  · exact call_len pins s σ H _ us Q I r ⟨_, _, rfl, ⟨h.1, rfl⟩, h.2⟩
  · split at h
    · rename_i e
      exact call_len pins s σ H _ us Q I r ⟨_, _, rfl, .inl ⟨_, SqL.of e, rfl⟩, h⟩
    · rename_i e
      exact call_len pins s σ H _ us Q I r ⟨_, _, rfl, .inr ⟨_, SqT.of e, rfl⟩, h⟩
    · rename_i e
      exact call_len pins s σ H _ us Q I r ⟨_, _, rfl, .inl ⟨_, .inl (.inr ⟨_, e⟩), rfl⟩, h⟩
    · rename_i e
      exact call_lenD pins s σ H _ us Q I r ⟨_, _, rfl, e, h⟩
    · exact h.elim
  · exact h.elim
def cAbs : List V → Hp → VK → Prop := fun vs H Q => match vs with
  | [.int i] => Q (.int (i.natAbs : Int)) H
  | _ => False
theorem call_absP : CallR X (.builtin "abs") cAbs := by
  intro pins s σ H xs us Q I r h
  unfold cAbs at h
  split at h
  · rename_i i
    refine call_abs pins s σ H _ us Q I r ⟨i, rfl, ?_⟩
    have e : (if i < 0 then -i else i) = (i.natAbs : Int) := by split <;> omega
    rw [e]
    exact h
  · exact h.elim
def cInt : List V → Hp → VK → Prop := fun vs H Q => match vs with
  | [.int i] => Q (.int i) H
  | [.bl k] => Q (.int (if k then 1 else 0)) H
  | _ => False
theorem call_intP : CallR X (.type "int") cInt := by
  intro pins s σ H xs us Q I r h
  unfold cInt at h
  split at h
  · exact call_int1 pins s σ H _ us Q I r (.inl ⟨_, rfl, h⟩)
  · exact call_int1 pins s σ H _ us Q I r (.inr ⟨_, rfl, h⟩)
  · exact h.elim
def cList : List V → Hp → VK → Prop := fun vs H Q => match vs with
  | [.ref a] => (match H a with
    | some (.lst xs) => ∀ l, H l = none → Q (.ref l) (upd H l (.lst xs))
    | some (.tup xs) => ∀ l, H l = none → Q (.ref l) (upd H l (.lst xs))
    | _ => False)
  | [.str z] => z.length ≤ sizeLine ∧ ∀ l, H l = none → Q (.ref l) (upd H l (.lst (z.cps.toList.map fun c => V.str (S [c]))))
  | _ => False
theorem call_listP (hc : X.calm = true) : CallR X (.type "list") cList := by
  intro pins s σ H xs us Q I r h
  unfold cList at h
  split at h
  · split at h
    · rename_i e
      exact call_list_of pins s σ H _ us Q I r ⟨_, _, rfl, .inl (SqL.of e), h⟩
    · rename_i e
      exact call_list_of pins s σ H _ us Q I r ⟨_, _, rfl, .inr (SqT.of e), h⟩
    · exact h.elim
  · rename_i z
    obtain ⟨u, rfl, rx⟩ := vals1 r
    obtain ⟨t, rfl⟩ := rx
    refine call_list_str (I.ok.hd hc) z t (fun h' tk acc' c' hk hS hacc => ?_) (hn := h.1)
    refine ⟨.ref _, _, I.laid (t' := tk) hk (Nat.le_refl _) (o := .lst (z.cps.toList.map fun c => V.str (S [c]))) ?_, rfl, h.2 _ (I.hok.fresh (Nat.le_refl _))⟩
    have hlen : acc'.toList.length = z.cps.toList.length := by
      have := hacc.1
      simpa using this
    have hv : Vals (z.cps.toList.map fun c => V.str (S [c])) acc'.toList := by
      have key : ∀ (cs : List Nat) (us : List Value), us.length = cs.length → (∀ (j : Nat) (v : Value), us[j]? = some v → ∃ (c : Nat) (u : Tok), cs[j]? = some c ∧ v = Value.str ⟨#[c]⟩ u) → Vals (cs.map fun c => V.str (S [c])) us := by
        intro cs
        induction cs with
        | nil =>
          intro us hl _
          cases us with
          | nil => exact .nil
          | cons _ _ => simp at hl
        | cons c cs ih =>
          intro us hl hj
          cases us with
          | nil => simp at hl
          | cons v us =>
            obtain ⟨c', t', e1, e2⟩ := hj 0 v rfl
            simp at e1
            subst e1 e2
            exact .cons ⟨t', rfl⟩ (ih us (by simpa using hl) fun j v hv => by
              have := hj (j + 1) v (by simpa using hv)
              simpa using this)
      refine key _ _ hlen fun j v hv => ?_
      obtain ⟨c, t', e1, e2⟩ := hacc.2 j v (by simpa using hv)
      exact ⟨c, t', by simpa using e1, e2⟩
    refine ⟨?_, acc'.toList, c', hv, hS⟩
    rw [List.length_map]
    have : z.cps.toList.length = z.length := by simp [Str.length]
    rw [this]
    exact h.1
  · exact h.elim
theorem idx_first {l : List Nat} {c i : Nat} (h : l[i]? = some c) (hn : ∀ k, k < i → l[k]? ≠ some c) : l.idxOf c = i := by
  induction l generalizing i with
  | nil => simp at h
  | cons a l ih =>
    cases i with
    | zero =>
      simp at h
      subst h
      simp
    | succ i =>
      have h0 : a ≠ c := fun e => hn 0 (by omega) (by simp [e])
      rw [List.idxOf_cons]
      have : (a == c) = false := by simp [h0]
      rw [this]
      simp
      exact ih (by simpa using h) fun k hk => by
        have := hn (k + 1) (by omega)
        simpa using this
theorem mtr_index : MtR X "str.index" mIndex := by
  intro pins s σ H x xs v us Q I rx rs h
  unfold mIndex at h
  split at h
  · rename_i z y
    split at h
    · rename_i c hy
      obtain ⟨hc, q⟩ := h
      have ey : y = S [c] := by rw [← hy, S_eta]
      rcases PySem.StrLaws.occ_head z y 1 (Nat.le_refl 1) with ⟨_, hn⟩ | ⟨i, r, e, ha, hn⟩
      · exfalso
        obtain ⟨i, hi⟩ := List.mem_iff_getElem?.mp hc
        refine hn i ?_
        rw [ey]
        exact (PySem.StrLaws.subAt_one z c i).mpr hi
      · have hi : z.cps.toList[i]? = some c := by
          rw [ey] at ha
          exact (PySem.StrLaws.subAt_one z c i).mp ha
        have e2 : z.cps.toList.idxOf c = i := idx_first hi fun k hk e => hn k hk (by rw [ey]; exact (PySem.StrLaws.subAt_one z c k).mpr e)
        rw [e2] at q
        exact mt_sindex pins s σ H _ _ v us Q I rx rs ⟨z, y, i, r, rfl, rfl, e, q⟩
    · exact h.elim
  · exact h.elim
/-- the great letters of a text of ASCII signs -/
def upL (l : List Nat) : List Nat := l.map fun c => if 97 ≤ c ∧ c ≤ 122 then c - 32 else c
def loL (l : List Nat) : List Nat := l.map fun c => if 65 ≤ c ∧ c ≤ 90 then c + 32 else c
def mUpper : V → List V → Hp → VK → Prop := fun x vs H Q => match x, vs with
  | .str z, [] => (z.cps.toList.all (· < 128)) = true ∧ z.length ≤ 5592405 ∧ Q (.str (S (upL z.cps.toList))) H
  | _, _ => False
def mLower : V → List V → Hp → VK → Prop := fun x vs H Q => match x, vs with
  | .str z, [] => (z.cps.toList.all (· < 128)) = true ∧ z.length ≤ 5592405 ∧ Q (.str (S (loL z.cps.toList))) H
  | _, _ => False
theorem mtr_upper : MtR X "str.upper" mUpper := by
  intro pins s σ H x xs v us Q I rx rs h
  unfold mUpper at h
  split at h
  · rename_i z
    obtain ⟨ha, hz, q⟩ := h
    refine mt_upper pins s σ H _ _ v us Q I rx rs ⟨z, rfl, rfl, hz, ?_⟩
    rw [PyProof.Rows.upper_ascii fun c hc => by simpa using List.all_eq_true.mp ha c hc]
    have e : (⟨z.cps.map PyProof.Rows.up1⟩ : Str) = S (upL z.cps.toList) := by
      unfold S upL
      congr 1
      apply Array.toList_inj.mp
      simp [PyProof.Rows.up1]
    rw [e]
    exact q
  · exact h.elim
theorem mtr_lower : MtR X "str.lower" mLower := by
  intro pins s σ H x xs v us Q I rx rs h
  unfold mLower at h
  split at h
  · rename_i z
    obtain ⟨ha, hz, q⟩ := h
    refine mt_lower pins s σ H _ _ v us Q I rx rs ⟨z, rfl, rfl, hz, ?_⟩
    rw [PyProof.Rows.lower_ascii fun c hc => by simpa using List.all_eq_true.mp ha c hc]
    have e : (⟨z.cps.map PyProof.Rows.lo1⟩ : Str) = S (loL z.cps.toList) := by
      unfold S loL
      congr 1
      apply Array.toList_inj.mp
      simp [PyProof.Rows.lo1]
    rw [e]
    exact q
  · exact h.elim
/-- all(..), any(..) of a list of truth values -/
def allBl : List V → Option (List Bool)
  | [] => some []
  | .bl b :: r => (allBl r).map (b :: ·)
  | _ :: _ => none
theorem allBl_ok : ∀ {xs : List V} {bs : List Bool}, allBl xs = some bs → xs = bs.map V.bl
  | [], _, h => by cases h; rfl
  | .bl b :: r, bs, h => by
    obtain ⟨l2, h1, h2⟩ := Option.map_eq_some_iff.mp (show (allBl r).map (b :: ·) = some bs from h)
    subst h2
    rw [List.map_cons, ← allBl_ok h1]
  | .non :: _, _, h => by cases h
  | .str _ :: _, _, h => by cases h
  | .int _ :: _, _, h => by cases h
  | .byt _ :: _, _, h => by cases h
  | .flt _ :: _, _, h => by cases h
  | .ref _ :: _, _, h => by cases h
  | .ty _ :: _, _, h => by cases h
def cAll : List V → Hp → VK → Prop := fun vs H Q => match vs with
  | [.ref a] => (match H a with
    | some (.lst xs) => (match allBl xs with
      | some bs => Q (.bl (bs.all id)) H
      | none => False)
    | _ => False)
  | _ => False
def cAny : List V → Hp → VK → Prop := fun vs H Q => match vs with
  | [.ref a] => (match H a with
    | some (.lst xs) => (match allBl xs with
      | some bs => Q (.bl (bs.any id)) H
      | none => False)
    | _ => False)
  | _ => False
theorem call_allP (hc : X.calm = true) : CallR X (.builtin "all") cAll := by
  intro pins s σ H xs us Q I r h
  unfold cAll at h
  split at h
  · split at h
    · rename_i e
      split at h
      · rename_i bs hb
        exact cr_all hc pins s σ H _ us Q I r ⟨_, bs, rfl, by rw [← allBl_ok hb]; exact SqL.of e, h⟩
      · exact h.elim
    · exact h.elim
  · exact h.elim
theorem call_anyP (hc : X.calm = true) : CallR X (.builtin "any") cAny := by
  intro pins s σ H xs us Q I r h
  unfold cAny at h
  split at h
  · split at h
    · rename_i e
      split at h
      · rename_i bs hb
        exact cr_any hc pins s σ H _ us Q I r ⟨_, bs, rfl, by rw [← allBl_ok hb]; exact SqL.of e, h⟩
      · exact h.elim
    · exact h.elim
  · exact h.elim
end
end Z
namespace Z
open PySem PySem.Spec PyProof.Rows L2

/-! ### a written dict with text keys: all of it -/
def wdL (K : PySem.W.Frag) : List DictEntry → List (Str × He.Dv) → Bool
  | [], [] => true
  | e :: es, q :: kvs => (match e.key with
    | .str y _ => decide (y = q.1)
    | _ => false) && (He.relB (q.2.v K) e.val && wdL K es kvs)
  | _, _ => false
def wdB (K : PySem.W.Frag) (a : Addr) (kvs : List (Str × He.Dv)) : Bool := match K.lookup a with
  | some ⟨_, _, .dict es _, _⟩ => wdL K es.toList kvs
  | _ => false
structure WD (K : PySem.W.Frag) (w : World) (a : Addr) (kvs : List (Str × V)) : Prop where
  kd : ∃ es n, KDict K w a es n
  get : ∀ z v, kvs.lookup z = some v → ∃ u, PySem.W.nsIn K a z = some (some u) ∧ RelV v u
  no : ∀ z, kvs.lookup z = none → PySem.W.nsIn K a z = some none
theorem wdL_ok {K : PySem.W.Frag} (z : Str) : ∀ {es : List DictEntry} {kvs : List (Str × He.Dv)}, wdL K es kvs = true →
    (∀ v, (kvs.map fun q => (q.1, q.2.v K)).lookup z = some v → ∃ e, es.find? (·.key.isStr z) = some e ∧ RelV v e.val) ∧
    ((kvs.map fun q => (q.1, q.2.v K)).lookup z = none → es.find? (·.key.isStr z) = none) ∧ es.any (·.refKey) = false
  | [], [], _ => ⟨fun v h => (by cases h), fun _ => rfl, rfl⟩
  | [], _ :: _, h => by cases h
  | _ :: _, [], h => by cases h
  | e :: es, q :: kvs, h => by
    obtain ⟨h1, h2⟩ := He.ba (show ((match e.key with
      | .str y _ => decide (y = q.1)
      | _ => false) && (He.relB (q.2.v K) e.val && wdL K es kvs)) = true from h)
    obtain ⟨h3, h4⟩ := He.ba h2
    obtain ⟨i1, i2, i3⟩ := wdL_ok z h4
    obtain ⟨y, t, ek, ey⟩ : ∃ y t, e.key = .str y t ∧ y = q.1 := by
      cases k : e.key with
      | str y t =>
        rw [k] at h1
        exact ⟨y, t, rfl, of_decide_eq_true h1⟩
      | _ => rw [k] at h1; cases h1
    have rf : e.refKey = false := by
      unfold DictEntry.refKey
      rw [ek]
    have es1 : e.key.isStr z = decide (q.1 = z) := by
      rw [ek, ey]
      show (q.1 == z) = decide (q.1 = z)
      exact Bool.beq_eq_decide_eq ..
    by_cases hz : q.1 = z
    · have hb : (z == q.1) = true := by simp [hz]
      refine ⟨fun v hv => ?_, fun hv => ?_, ?_⟩
      · rw [List.map_cons, List.lookup_cons, hb] at hv
        cases hv
        exact ⟨e, by rw [List.find?_cons, es1, decide_eq_true hz], He.relB_ok h3⟩
      · rw [List.map_cons, List.lookup_cons, hb] at hv
        cases hv
      · rw [List.any_cons, rf, i3] <;> rfl
    · have hb : (z == q.1) = false := by
        have : ¬ z = q.1 := fun e => hz e.symm
        simp [this]
      refine ⟨fun v hv => ?_, fun hv => ?_, ?_⟩
      · rw [List.map_cons, List.lookup_cons, hb] at hv
        rw [List.find?_cons, es1, decide_eq_false hz]
        exact i1 v hv
      · rw [List.map_cons, List.lookup_cons, hb] at hv
        rw [List.find?_cons, es1, decide_eq_false hz]
        exact i2 hv
      · rw [List.any_cons, rf, i3] <;> rfl
theorem wd_ok {K : PySem.W.Frag} {w : World} {a : Addr} {kvs : List (Str × He.Dv)} (k : ∃ es n, KDict K w a es n) (h : wdB K a kvs = true) : WD K w a (kvs.map fun q => (q.1, q.2.v K)) := by
  obtain ⟨es, n, D⟩ := k
  have hl := D.at_
  unfold wdB at h
  rw [hl] at h
  refine ⟨⟨es, n, D⟩, fun z v hv => ?_, fun z hz => ?_⟩
  · obtain ⟨e, h1, h2⟩ := (wdL_ok z h).1 v hv
    refine ⟨e.val, ?_, h2⟩
    unfold PySem.W.nsIn
    rw [hl]
    show (match es.toList.find? (·.key.isStr z) with
      | some e => some (some e.val)
      | none => if es.toList.any (·.refKey) then none else some none) = _
    rw [h1]
  · obtain ⟨_, h1, h2⟩ := wdL_ok z h
    unfold PySem.W.nsIn
    rw [hl]
    show (match es.toList.find? (·.key.isStr z) with
      | some e => some (some e.val)
      | none => if es.toList.any (·.refKey) then none else some none) = _
    rw [h1 hz, h2] <;> rfl
/-- d[y], y in d of such a dict -/
def rWItem (kvs : List (Str × V)) : V → Hp → VK → Prop := fun y H Q => match y with
  | .str z => (match kvs.lookup z with
    | some v => Q v H
    | none => False)
  | _ => False
theorem rWItem_inv {kvs : List (Str × V)} {y : V} {H : Hp} {Q : VK} (h : rWItem kvs y H Q) : ∃ z v, y = .str z ∧ kvs.lookup z = some v ∧ Q v H := by
  unfold rWItem at h
  split at h
  · split at h
    · rename_i z _ v hv
      exact ⟨_, v, rfl, hv, h⟩
    · exact h.elim
  · exact h.elim
def rWIn (neg : Bool) (kvs : List (Str × V)) : V → Hp → VK → Prop := fun y H Q => match y with
  | .str z => Q (.bl (if neg then !(kvs.lookup z).isSome else (kvs.lookup z).isSome)) H
  | _ => False
section
variable {X : Cx} {a : Addr} {kvs : List (Str × V)} {e : Expr} {te : TE} {x : Str} {p pos : Pos}
theorem pe_wItem (W : WD X.K X.w a kvs) (hg : Gl X x) (hm : X.mg x = some (.ref a)) (he : PE X e te) (hs : PlainIx e) (hd : (x == ("__debug__" : Str)) = false := by decide) : PE X (.Subscript (.Name x p) e pos) (tUn (rWItem kvs) te) := by
  refine ⟨fun pins s σ H Q I h => ?_⟩
  refine Subscript_ (ld_glob I hg hm (thn (he.run pins s σ H _ I h) fun u s2 ⟨y, H2, I2, ry, q⟩ => ?_) hd)
  obtain ⟨es, n, D⟩ := W.kd
  obtain ⟨z, v, rfl, hv, q⟩ := rWItem_inv q
  obtain ⟨t, rfl⟩ := ry
  obtain ⟨u0, h1, h2⟩ := W.get z v hv
  exact tail_any (kd_type D I2) slot_dict_getitem.lookup (op_item_kd D pins s2 σ H2 (.ref a) (.str z) (.ref a) (.str z t) Q I2 rfl ⟨t, rfl⟩ ⟨z, u0, v, rfl, rfl, h1, h2, q⟩) (hs _ _)
theorem op_wIn (W : WD X.K X.w a kvs) : OpR X (compareOp .In) (fun x y H Q => y = .ref a ∧ rWIn false kvs x H Q) := by
  intro pins s σ H x y v u Q I rx ry ⟨h1, h⟩
  obtain ⟨es, n, D⟩ := W.kd
  unfold rWIn at h
  split at h
  · rename_i z
    cases e : kvs.lookup z with
    | none =>
      rw [e] at h
      exact op_in_kd D pins s σ H _ _ v u Q I rx ry ⟨z, none, rfl, h1, W.no z e, h⟩
    | some w =>
      rw [e] at h
      obtain ⟨u0, h2, h3⟩ := W.get z w e
      exact op_in_kd D pins s σ H _ _ v u Q I rx ry ⟨z, some u0, rfl, h1, h2, h⟩
  · exact h.elim
theorem op_wNotIn (W : WD X.K X.w a kvs) : OpR X (compareOp .NotIn) (fun x y H Q => y = .ref a ∧ rWIn true kvs x H Q) := by
  intro pins s σ H x y v u Q I rx ry ⟨h1, h⟩
  obtain ⟨es, n, D⟩ := W.kd
  unfold rWIn at h
  split at h
  · rename_i z
    cases e : kvs.lookup z with
    | none =>
      rw [e] at h
      exact op_notIn_kd D pins s σ H _ _ v u Q I rx ry ⟨z, none, rfl, h1, W.no z e, h⟩
    | some w =>
      rw [e] at h
      obtain ⟨u0, h2, h3⟩ := W.get z w e
      exact op_notIn_kd D pins s σ H _ _ v u Q I rx ry ⟨z, some u0, rfl, h1, h2, h⟩
  · exact h.elim
theorem pc_wIn (W : WD X.K X.w a kvs) (hg : Gl X x) (hm : X.mg x = some (.ref a)) (he : PE X e te) (hd : (x == ("__debug__" : Str)) = false := by decide) : PC X .In e (.Name x p) (tUn (rWIn false kvs) te) :=
  ⟨fun pins s σ H Q I h => thn (he.run pins s σ H _ I h) fun v s1 ⟨y, H1, I1, r1, q1⟩ => ld_glob I1 hg hm (op_wIn W pins s1 σ H1 y (.ref a) v (.ref a) Q I1 r1 rfl ⟨rfl, q1⟩) hd⟩
theorem pc_wNotIn (W : WD X.K X.w a kvs) (hg : Gl X x) (hm : X.mg x = some (.ref a)) (he : PE X e te) (hd : (x == ("__debug__" : Str)) = false := by decide) : PC X .NotIn e (.Name x p) (tUn (rWIn true kvs) te) :=
  ⟨fun pins s σ H Q I h => thn (he.run pins s σ H _ I h) fun v s1 ⟨y, H1, I1, r1, q1⟩ => ld_glob I1 hg hm (op_wNotIn W pins s1 σ H1 y (.ref a) v (.ref a) Q I1 r1 rfl ⟨rfl, q1⟩) hd⟩
end

/-! ### a callee, as its callers take it -/
structure Cal (P : Program) (w : World) (K : PySem.W.Frag) (mg : Str → Option Value) (base : Heap) (CX : CXT) (k : Nat) (x : Str) (ps : List Str) (sp : Sp) : Prop where
  ex : ∃ f fd, mg x = some (.ref f) ∧ FnOk P w K mg base CX k f fd ps sp ∧ PySem.W.keepIn K (.ref f) = true ∧ Binds K fd ps []
theorem Cal.imp {P : Program} {w : World} {K : PySem.W.Frag} {mg : Str → Option Value} {base : Heap} {CX : CXT} {k : Nat} {x : Str} {ps : List Str} {sp sp' : Sp} (C : Cal P w K mg base CX k x ps sp) (h : ∀ vs H Q E, sp' vs H Q E → sp vs H Q E) : Cal P w K mg base CX k x ps sp' := by
  obtain ⟨f, fd, a, b, c, d⟩ := C.ex
  exact ⟨f, fd, a, b.imp h, c, d⟩
theorem Cal.frame {P : Program} {w : World} {K : PySem.W.Frag} {mg : Str → Option Value} {base : Heap} {k : Nat} {x : Str} {ps : List Str} {sp : Sp} (C : Cal P w K mg base CX0 k x ps sp) : Cal P w K mg base CX0 k x ps (spFrame sp) := by
  obtain ⟨f, fd, a, b, c, d⟩ := C.ex
  exact ⟨f, fd, a, FnOk.frame b, c, d⟩
def tC0 (sp : Sp) (t : TA) : TE := fun σ H Q => t σ H fun vs H1 => sp vs H1 Q E0
theorem pe_c0 {X : Cx} {k : Nat} {x : Str} {ps : List Str} {sp : Sp} {e : Expr} {es : List Expr} {t : TA} {p pos : Pos} (C : Cal X.prog X.w X.K X.mg X.base CX0 k x ps sp) (hr : Room k X.A) (hg : Gl X x) (ha : PA X (e :: es) t)
    (hdb : (x == ("__debug__" : Str)) = false := by decide) (he : starEach (e :: es) X.env = (false, eval e X.env) :: starEach es X.env := by rfl) (hpl : (backTo pos (starEach es X.env)).any (·.1) = false := by rfl) :
    PE X (.Call (.Name x p) (e :: es) [] pos) (tC0 sp t) := by
  obtain ⟨f, fd, a, b, c, d⟩ := C.ex
  have h : PE X (.Call (.Name x p) (e :: es) [] pos) (tCall sp [] E0 t) := pe_call (ds := []) (dvs := []) b hr hg a c d .nil pass0 ha hdb he hpl
  have e2 : tCall sp [] E0 t = tC0 sp t := by
    funext σ H Q
    show t σ H (fun vs H1 => sp (vs ++ []) H1 Q E0) = t σ H fun vs H1 => sp vs H1 Q E0
    congr 1
    funext vs H1
    rw [List.append_nil]
  rw [e2] at h
  exact h

/-! ### pure defs: from the small heap to any -/
/-- what a def over values alone promises -/
def spPure (R : List V → V → Prop) : Sp := fun vs H Q _ => ∃ v, R vs v ∧ Q v H
def spPure0 (R : List V → V → Prop) : Sp := fun vs H Q _ => H = H0 ∧ ∃ v, R vs v ∧ ∀ H', Q v H'
theorem part0 {H : Hp} : Part H0 H := ⟨fun _ _ e => (by cases e), fun _ _ _ _ _ _ => rfl, fun _ _ e => (by cases e)⟩
theorem fin0 {H H' : Hp} : Z.Fin H0 H H' H := ⟨fun _ _ _ e => e, fun _ _ e => Or.inl ⟨rfl, e⟩, fun _ _ e => (by cases e), fun a o b h _ _ => Or.inl ⟨rfl, by rw [h] <;> rfl⟩⟩
theorem pure_frame {R : List V → V → Prop} (vs : List V) (H : Hp) (Q : VK) (E : XK) (h : spPure R vs H Q E) : spFrame (spPure0 R) vs H Q E := by
  obtain ⟨v, r, q⟩ := h
  exact ⟨H0, part0, rfl, v, r, fun H' _ => ⟨H, fin0, q⟩⟩
/-- .. that hands back a new list, tuple, dict of such -/
def spNew (R : List V → HO → Prop) : Sp := fun vs H Q _ => ∃ o, R vs o ∧ ∀ p, H p = none → Q (.ref p) (upd H p o)
def spNew0 (R : List V → HO → Prop) : Sp := fun vs H Q _ => H = H0 ∧ ∃ o, R vs o ∧ ∀ p H', H' p = some o → Q (.ref p) H'
theorem new_frame {R : List V → HO → Prop} (hR : ∀ vs o, R vs o → noT o ∧ dxOf o = none) (vs : List V) (H : Hp) (Q : VK) (E : XK) (h : spNew R vs H Q E) : spFrame (spNew0 R) vs H Q E := by
  obtain ⟨o, r, q⟩ := h
  obtain ⟨n1, n2⟩ := hR vs o r
  refine ⟨H0, part0, rfl, o, r, fun p H' e fr => ?_⟩
  have hp := fr p o e rfl
  refine ⟨upd H p o, ⟨fun a u _ ha => ?_, fun a u ha => ?_, fun _ _ e => (by cases e), fun a u b ha hx hb => ?_⟩, q p hp⟩
  · rw [upd_ne (ne_of_none ha hp)]; exact ha
  · by_cases hap : a = p
    · subst hap
      rw [upd_same] at ha; cases ha
      exact .inr ⟨e, n1⟩
    · rw [upd_ne hap] at ha
      exact .inl ⟨rfl, ha⟩
  · by_cases hap : a = p
    · subst hap
      rw [upd_same] at ha; cases ha
      rw [n2] at hx; cases hx
    · rw [upd_ne hap] at ha
      exact .inl ⟨rfl, by rw [ha] <;> rfl⟩
end Z
namespace Z
open PySem PySem.Spec PyProof.Rows L2

/-! ### the source of draws: a dict, two lists -/
structure Dst where
  digits : Int
  great : List Int
  lumps : List Int
  turn : Int
def kDig : Str := S [100, 105, 103, 105, 116, 115]
def kGre : Str := S [103, 114, 101, 97, 116]
def kLum : Str := S [108, 117, 109, 112, 115]
def kTur : Str := S [116, 117, 114, 110]
theorem lit_dig : Str.ofString "digits" = kDig := by decide +kernel
theorem lit_gre : Str.ofString "great" = kGre := by decide +kernel
theorem lit_lum : Str.ofString "lumps" = kLum := by decide +kernel
theorem lit_tur : Str.ofString "turn" = kTur := by decide +kernel
def drK (G L : Addr) (st : Dst) : List (Key × V) := [(.inr kDig, .int st.digits), (.inr kGre, .ref G), (.inr kLum, .ref L), (.inr kTur, .int st.turn)]
def dr (H : Hp) (D G L : Addr) (st : Dst) : Hp := upd (upd (upd H L (.lst (st.lumps.map V.int))) G (.lst (st.great.map V.int))) D (.dK (drK G L st))
theorem kn12 : (Sum.inr kDig : Key) ≠ .inr kGre := by decide +kernel
theorem kn13 : (Sum.inr kDig : Key) ≠ .inr kLum := by decide +kernel
theorem kn14 : (Sum.inr kDig : Key) ≠ .inr kTur := by decide +kernel
theorem kn23 : (Sum.inr kGre : Key) ≠ .inr kLum := by decide +kernel
theorem kn24 : (Sum.inr kGre : Key) ≠ .inr kTur := by decide +kernel
theorem kn34 : (Sum.inr kLum : Key) ≠ .inr kTur := by decide +kernel
theorem dv_dig {G L : Addr} {st : Dst} : valV (drK G L st) (.inr kDig) = some (.int st.digits) := valV_pos rfl
theorem dv_gre {G L : Addr} {st : Dst} : valV (drK G L st) (.inr kGre) = some (.ref G) := (valV_neg kn12).trans (valV_pos rfl)
theorem dv_lum {G L : Addr} {st : Dst} : valV (drK G L st) (.inr kLum) = some (.ref L) := (valV_neg kn13).trans ((valV_neg kn23).trans (valV_pos rfl))
theorem dv_tur {G L : Addr} {st : Dst} : valV (drK G L st) (.inr kTur) = some (.int st.turn) := (valV_neg kn14).trans ((valV_neg kn24).trans ((valV_neg kn34).trans (valV_pos rfl)))
theorem dp_dig {G L : Addr} {st : Dst} {d : Int} : putK (drK G L st) (.inr kDig) (.int d) = drK G L { st with digits := d } := by
  unfold drK
  have e1 : decide ((Sum.inr kDig : Key) = .inr kDig) = true := by decide +kernel
  have e2 : decide ((Sum.inr kGre : Key) = .inr kDig) = false := by decide +kernel
  have e3 : decide ((Sum.inr kLum : Key) = .inr kDig) = false := by decide +kernel
  have e4 : decide ((Sum.inr kTur : Key) = .inr kDig) = false := by decide +kernel
  simp [putK, of_decide_eq_false e2, of_decide_eq_false e3, of_decide_eq_false e4]
theorem dp_tur {G L : Addr} {st : Dst} {d : Int} : putK (drK G L st) (.inr kTur) (.int d) = drK G L { st with turn := d } := by
  unfold drK
  have e2 : decide ((Sum.inr kGre : Key) = .inr kTur) = false := by decide +kernel
  have e3 : decide ((Sum.inr kLum : Key) = .inr kTur) = false := by decide +kernel
  have e4 : decide ((Sum.inr kDig : Key) = .inr kTur) = false := by decide +kernel
  simp [putK, of_decide_eq_false e2, of_decide_eq_false e3, of_decide_eq_false e4]
structure Ad (D G L : Addr) : Prop where
  dg : D ≠ G
  dl : D ≠ L
  gl : G ≠ L
section
variable {H : Hp} {D G L p : Addr} {st st' : Dst} {o : HO}
theorem dr_D : dr H D G L st D = some (.dK (drK G L st)) := upd_same
theorem dr_G (a : Ad D G L) : dr H D G L st G = some (.lst (st.great.map V.int)) := by
  unfold dr
  rw [upd_ne a.dg.symm, upd_same]
theorem dr_L (a : Ad D G L) : dr H D G L st L = some (.lst (st.lumps.map V.int)) := by
  unfold dr
  rw [upd_ne a.dl.symm, upd_ne a.gl.symm, upd_same]
theorem dr_ne (h1 : p ≠ D) (h2 : p ≠ G) (h3 : p ≠ L) : dr H D G L st p = H p := by
  unfold dr
  rw [upd_ne h1, upd_ne h2, upd_ne h3]
theorem dr_free (h : dr H D G L st p = none) : p ≠ D ∧ p ≠ G ∧ p ≠ L ∧ H p = none := by
  have h1 : p ≠ D := fun e => by rw [e, dr_D] at h; cases h
  have h2 : p ≠ G := fun e => by
    rw [e] at h
    unfold dr at h
    by_cases x : G = D
    · rw [x, upd_same] at h; cases h
    · rw [upd_ne x, upd_same] at h; cases h
  have h3 : p ≠ L := fun e => by
    rw [e] at h
    unfold dr at h
    by_cases x : L = D
    · rw [x, upd_same] at h; cases h
    · rw [upd_ne x] at h
      by_cases y : L = G
      · rw [y, upd_same] at h; cases h
      · rw [upd_ne y, upd_same] at h; cases h
  rw [dr_ne h1 h2 h3] at h
  exact ⟨h1, h2, h3, h⟩
theorem upd_comm {H : Hp} {a b : Addr} {o u : HO} (h : a ≠ b) : upd (upd H a o) b u = upd (upd H b u) a o := by
  funext c
  by_cases h1 : c = a
  · subst h1
    rw [upd_same, upd_ne h, upd_same]
  · by_cases h2 : c = b
    · subst h2
      rw [upd_same, upd_ne h1, upd_same]
    · rw [upd_ne h2, upd_ne h1, upd_ne h1, upd_ne h2]
/-- the draws stand outermost -/
theorem dr_out (h : dr H D G L st p = none) : upd (dr H D G L st) p o = dr (upd H p o) D G L st := by
  obtain ⟨h1, h2, h3, _⟩ := dr_free h
  unfold dr
  rw [upd_comm (Ne.symm h1), upd_comm (Ne.symm h2), upd_comm (Ne.symm h3)]
theorem dr_out' (h1 : p ≠ D) (h2 : p ≠ G) (h3 : p ≠ L) : upd (dr H D G L st) p o = dr (upd H p o) D G L st := by
  unfold dr
  rw [upd_comm (Ne.symm h1), upd_comm (Ne.symm h2), upd_comm (Ne.symm h3)]
theorem dr_set {st2 : Dst} (h1 : st2.great = st.great) (h2 : st2.lumps = st.lumps) : upd (dr H D G L st) D (.dK (drK G L st2)) = dr H D G L st2 := by
  unfold dr
  rw [upd_upd, h1, h2]
theorem drK_len {G L : Addr} {st : Dst} : (drK G L st).length = 4 := rfl
theorem dr_setD {d : Int} : upd (dr H D G L st) D (.dK (drK G L { st with digits := d })) = dr H D G L { st with digits := d } := by
  unfold dr
  rw [upd_upd]
theorem dr_setT {d : Int} : upd (dr H D G L st) D (.dK (drK G L { st with turn := d })) = dr H D G L { st with turn := d } := by
  unfold dr
  rw [upd_upd]
theorem dr_setG (a : Ad D G L) {g : List Int} : upd (dr H D G L st) G (.lst (g.map V.int)) = dr H D G L { st with great := g } := by
  unfold dr
  rw [upd_comm a.dg, upd_upd] <;> rfl
end
/-- what a def that draws promises: over the values behind the draws and their state, what comes back and the state then -/
def spD (Pre : List V → Dst → Prop) (Post : List V → Dst → V → Dst → Prop) : Sp := fun vs H Q _ => ∃ Hb D G L st rest, vs = .ref D :: rest ∧ H = dr Hb D G L st ∧ Ad D G L ∧ Pre rest st ∧ ∀ v st', Post rest st v st' → st'.lumps = st.lumps → Q v (dr Hb D G L st')
def spD0 (Pre : List V → Dst → Prop) (Post : List V → Dst → V → Dst → Prop) : Sp := fun vs H Q _ => ∃ D G L st rest, vs = .ref D :: rest ∧ H = dr H0 D G L st ∧ Ad D G L ∧ Pre rest st ∧
  ∀ v st' H', Post rest st v st' → st'.lumps = st.lumps → H' D = some (.dK (drK G L st')) → H' G = some (.lst (st'.great.map V.int)) → H' L = some (.lst (st'.lumps.map V.int)) → Q v H'
theorem dr_part {Hb : Hp} {D G L : Addr} {st : Dst} (a : Ad D G L) : Part (dr H0 D G L st) (dr Hb D G L st) := by
  have key : ∀ c, (c = D ∨ c = G ∨ c = L) → dr H0 D G L st c = dr Hb D G L st c := by
    rintro c (rfl | rfl | rfl)
    · rw [dr_D, dr_D]
    · rw [dr_G a, dr_G a]
    · rw [dr_L a, dr_L a]
  have nok : ∀ c o, dr H0 D G L st c = some o → noT o ∧ dxOf o = none ∧ (∀ y, o ≠ .own y) ∧ (c = D ∨ c = G ∨ c = L) := fun c o e => by
    by_cases h1 : c = D
    · subst h1; rw [dr_D] at e; cases e; exact ⟨trivial, rfl, (fun y z => (by cases z)), .inl rfl⟩
    · by_cases h2 : c = G
      · subst h2; rw [dr_G a] at e; cases e; exact ⟨trivial, rfl, (fun y z => (by cases z)), .inr (.inl rfl)⟩
      · by_cases h3 : c = L
        · subst h3; rw [dr_L a] at e; cases e; exact ⟨trivial, rfl, (fun y z => (by cases z)), .inr (.inr rfl)⟩
        · rw [dr_ne h1 h2 h3] at e; cases e
  refine ⟨fun c o e => ?_, fun c o b hc hx hb => ?_, fun c o e => (nok c o e).1⟩
  · rw [← key c (nok c o e).2.2.2]; exact e
  · have e1 : dr H0 D G L st c = none := by
      cases z : dr H0 D G L st c with
      | none => rfl
      | some u =>
        obtain ⟨_, n2, _, n4⟩ := nok c u z
        rw [← key c n4, z] at hc
        cases hc
        rw [n2] at hx; cases hx
    have e2 : dr H0 D G L st b = none := by
      cases z : dr H0 D G L st b with
      | none => rfl
      | some u =>
        obtain ⟨_, _, n3, n4⟩ := nok b u z
        rw [← key b n4, z] at hb
        cases hb
        exact absurd rfl (n3 c)
    rw [e1, e2]
theorem draw_frame {Pre : List V → Dst → Prop} {Post : List V → Dst → V → Dst → Prop} (vs : List V) (H : Hp) (Q : VK) (E : XK) (h : spD Pre Post vs H Q E) : spFrame (spD0 Pre Post) vs H Q E := by
  obtain ⟨Hb, D, G, L, st, rest, e1, rfl, a, pre, q⟩ := h
  refine ⟨dr H0 D G L st, dr_part a, D, G, L, st, rest, e1, rfl, a, pre, fun v st' H' post el h1 h2 h3 fr => ⟨dr Hb D G L st', ⟨fun c o hc ho => ?_, fun c o ho => ?_, fun c o ho hi => ?_, fun c o b ho hx hb => ?_⟩, q v st' post el⟩⟩
  · have n : c ≠ D ∧ c ≠ G ∧ c ≠ L := ⟨fun e => (by rw [e, dr_D] at hc; cases hc), fun e => (by rw [e, dr_G a] at hc; cases hc), fun e => (by rw [e, dr_L a] at hc; cases hc)⟩
    rw [dr_ne n.1 n.2.1 n.2.2] at ho ⊢
    exact ho
  · by_cases c1 : c = D
    · subst c1
      rw [dr_D] at ho; cases ho
      exact .inr ⟨h1, trivial⟩
    · by_cases c2 : c = G
      · subst c2
        rw [dr_G a] at ho; cases ho
        exact .inr ⟨h2, trivial⟩
      · by_cases c3 : c = L
        · subst c3
          rw [dr_L a] at ho; cases ho
          exact .inr ⟨h3, trivial⟩
        · rw [dr_ne c1 c2 c3] at ho
          exact .inl ⟨by rw [dr_ne c1 c2 c3] <;> rfl, by rw [dr_ne c1 c2 c3]; exact ho⟩
  · by_cases c1 : c = D
    · subst c1
      rw [dr_D] at ho; cases ho; cases hi
    · by_cases c2 : c = G
      · subst c2
        rw [dr_G a] at ho; cases ho; cases hi
      · by_cases c3 : c = L
        · subst c3
          rw [dr_L a] at ho; cases ho; cases hi
        · rw [dr_ne c1 c2 c3] at ho; cases ho
  · by_cases c1 : c = D
    · subst c1
      rw [dr_D] at ho; cases ho; cases hx
    · by_cases c2 : c = G
      · subst c2
        rw [dr_G a] at ho; cases ho; cases hx
      · by_cases c3 : c = L
        · subst c3
          rw [dr_L a] at ho; cases ho; cases hx
        · rw [dr_ne c1 c2 c3] at ho
          refine .inl ⟨?_, by rw [dr_ne c1 c2 c3, ho] <;> rfl⟩
          rw [dr_ne c1 c2 c3] <;> rfl
end Z
namespace Z
open PySem PySem.Spec PyProof.Rows L2

/-! ### readings at a frame that is written out -/
theorem r_v0 {v : V} {σ : L2.St} {H : Hp} {Q : VK} : tVar 0 (some v :: σ) H Q = Q v H := by
  apply propext
  constructor
  · rintro ⟨w, e, q⟩
    have e2 : v = w := by simpa using e
    subst e2
    exact q
  · intro q
    exact ⟨v, rfl, q⟩
theorem r_vS {i : Nat} {x : Option V} {σ : L2.St} {H : Hp} {Q : VK} : tVar (i + 1) (x :: σ) H Q = tVar i σ H Q := rfl
theorem st0 {a b : Option V} {r : L2.St} : (a :: r).set 0 b = b :: r := rfl
theorem stS {i : Nat} {a b : Option V} {r : L2.St} : (a :: r).set (i + 1) b = a :: r.set i b := rfl
/-- what follows, not looked at yet -/
def Then (f : L2.St → Hp → Prop) : L2.St → Hp → Prop := fun σ H => f σ H
theorem tSeq_then {t u : TS} {D : Ends} {σ : L2.St} {H : Hp} : tSeq t u D σ H = t { D with nx := Then (u D) } σ H := rfl
theorem then_go {f : L2.St → Hp → Prop} {σ : L2.St} {H : Hp} (h : f σ H) : Then f σ H := h
theorem wp0 {σ : L2.St} : wipe σ [] = σ := rfl
theorem wpS {σ : L2.St} {v : Nat} {vs : List Nat} : wipe σ (v :: vs) = (wipe σ vs).set v none := rfl
/-- what stands at a list's address -/
def itemsAt (H : Hp) (a : Addr) : Option (List V) := match H a with
  | some (.lst xs) => some xs
  | some (.frz _ (.lst xs)) => some xs
  | _ => none
theorem itemsAt_sq {K : PySem.W.Frag} {H : Hp} {a : Addr} {xs : List V} (h : itemsAt H a = some xs) : SqL K H a xs := by
  unfold itemsAt at h
  split at h
  · rename_i e; cases h; exact .inl (.inl e)
  · rename_i e; cases h; exact .inl (.inr ⟨_, e⟩)
  · cases h
def iListP (K : PySem.W.Frag) (te : TE) : TI := fun σ H R => te σ H fun x H1 => match x with
  | .ref a => (match itemsAt H1 a with
    | some _ => R (Itl K a) H1
    | none => False)
  | _ => False
def iTupP (K : PySem.W.Frag) (te : TE) : TI := fun σ H R => te σ H fun x H1 => match x with
  | .ref a => (match H1 a with
    | some (.tup _) => R (Itt K a) H1
    | _ => False)
  | _ => False
def iStrP (te : TE) : TI := fun σ H R => te σ H fun x H1 => match x with
  | .str z => R (Its z) H1
  | _ => False
section
variable {X : Cx} {tg e : Expr} {te : TE}
theorem pi_listP (he : PE X e te) : PI X tg e (iListP X.K te) :=
  PI.of (pi_list (PE.up he)) fun σ H R q => ⟨_, q, fun x H1 z => by
    cases x with
    | ref a =>
      cases e2 : itemsAt H1 a with
      | none => dsimp only at z; rw [e2] at z; exact False.elim z
      | some xs => dsimp only at z; rw [e2] at z; exact ⟨a, rfl, ⟨xs, itemsAt_sq e2⟩, z⟩
    | _ => exact False.elim z⟩
theorem pi_tupP (he : PE X e te) : PI X tg e (iTupP X.K te) :=
  PI.of (pi_tup (PE.up he)) fun σ H R q => ⟨_, q, fun x H1 z => by
    cases x with
    | ref a =>
      dsimp only at z
      split at z
      · rename_i xs e2
        exact ⟨a, rfl, ⟨xs, SqT.of e2⟩, z⟩
      · exact False.elim z
    | _ => exact False.elim z⟩
theorem pi_strP (he : PE X e te) : PI X tg e (iStrP te) :=
  PI.of (pi_str (PE.up he)) fun σ H R q => ⟨_, q, fun x H1 z => by
    cases x with
    | str a => exact ⟨a, rfl, z⟩
    | _ => exact False.elim z⟩
end
/-! ### ints -/
theorem r_I0 {g : Int → Int → V} {i j : Int} {H : Hp} {Q : VK} : rI0 g (.int i) (.int j) H Q = Q (g i j) H := by
  apply propext
  constructor
  · rintro ⟨a, b, e1, e2, q⟩
    cases e1; cases e2
    exact q
  · intro q
    exact ⟨i, j, rfl, rfl, q⟩
theorem r_I {C : Int → Int → Prop} {g : Int → Int → V} {i j : Int} {H : Hp} {Q : VK} : rI C g (.int i) (.int j) H Q = (C i j ∧ Q (g i j) H) := by
  apply propext
  constructor
  · rintro ⟨a, b, e1, e2, c, q⟩
    cases e1; cases e2
    exact ⟨c, q⟩
  · rintro ⟨c, q⟩
    exact ⟨i, j, rfl, rfl, c, q⟩
theorem r_U {g : Int → V} {i : Int} {H : Hp} {Q : VK} : rU g (.int i) H Q = Q (g i) H := by
  apply propext
  constructor
  · rintro ⟨a, e1, q⟩
    cases e1
    exact q
  · intro q
    exact ⟨i, rfl, q⟩
/-- what a test, a branch asks of a truth value -/
theorem r_test {b : Bool} {Q : Bool → Prop} : (∃ k, V.bl b = .bl k ∧ Q k) = Q b := by
  apply propext
  constructor
  · rintro ⟨k, e, q⟩
    cases e
    exact q
  · intro q
    exact ⟨b, rfl, q⟩
theorem r_int {i : Int} {Q : Int → Prop} : (∃ k, V.int i = .int k ∧ Q k) = Q i := by
  apply propext
  constructor
  · rintro ⟨k, e, q⟩
    cases e
    exact q
  · intro q
    exact ⟨i, rfl, q⟩
/-- the ranges: below 2 ^ 62 -/
def iRng1P (ta : TA) : TI := fun σ H R => ta σ H fun vs H1 => match vs with
  | [.int j] => (-1000000000 ≤ j ∧ j < 1000000000) ∧ R (Itr 0 j.toNat) H1
  | _ => False
def iRng2P (ta : TA) : TI := fun σ H R => ta σ H fun vs H1 => match vs with
  | [.int i, .int j] => (-1000000000 ≤ i ∧ i < 1000000000 ∧ -1000000000 ≤ j ∧ j < 1000000000) ∧ R (Itr i (j - i).toNat) H1
  | _ => False
theorem pi_rng1P {X : Cx} {tg a : Expr} {ta : TA} {p pos : Pos} (hg : Gl X "range") (hm : X.mg "range" = none) (ha : PA X [a] ta) (hs : starEach [a] X.env = [(false, eval a X.env)] := by rfl) : PI X tg (.Call (.Name "range" p) [a] [] pos) (iRng1P ta) :=
  PI.of (pi_range1 hg hm (PA.up ha) hs) fun σ H R q => ⟨_, q, fun x H1 z => by
    split at z
    · obtain ⟨⟨z1, z2⟩, z3⟩ := z
      exact ⟨_, rfl, by omega, by omega, z3⟩
    · exact False.elim z⟩
theorem pi_rng2P {X : Cx} {tg a b : Expr} {ta : TA} {p pos : Pos} (hg : Gl X "range") (hm : X.mg "range" = none) (ha : PA X [a, b] ta) (hs : starEach [a, b] X.env = [(false, eval a X.env), (false, eval b X.env)] := by rfl) (hs2 : starEach [b] X.env = [(false, eval b X.env)] := by rfl) :
    PI X tg (.Call (.Name "range" p) [a, b] [] pos) (iRng2P ta) :=
  PI.of (pi_range2 hg hm (PA.up ha) hs hs2) fun σ H R q => ⟨_, q, fun x H1 z => by
    split at z
    · obtain ⟨⟨z1, z2, z3, z4⟩, z5⟩ := z
      exact ⟨_, _, rfl, ⟨by omega, by omega, by omega, by omega⟩, z5⟩
    · exact False.elim z⟩
end Z
namespace Z
open PySem PySem.Spec PyProof.Rows L2

/-! ### what a law's text has written, by places -/
abbrev Wd : Type := Str × List (Str × He.Dv)
structure Ctx (fa : List He.Fa) (fn : List He.DefD) (wd : List Wd) (w : World) (K : PySem.W.Frag) (mg : Str → Option Value) : Prop where
  glo : ∀ (x : Str) (i : Nat), fa[i]? = some (.glo x) → mg x = some (.ref (He.ga K x))
  free : ∀ (x : Str) (i : Nat), fa[i]? = some (.free x) → mg x = none
  int : ∀ (x : Str) (n : Int) (i : Nat), fa[i]? = some (.int x n) → ∃ t, mg x = some (.int n t)
  fun_ : ∀ (d : He.DefD) (i : Nat), fn[i]? = some d → ∃ fd, FunD K d.name d.qual d.params d.body d.scope (d.dvs K) (d.kws K) (He.fAd K d.at_) fd
  wdt : ∀ (t : Wd) (i : Nat), wd[i]? = some t → WD K w (He.ga K t.1) (t.2.map fun q => (q.1, q.2.v K))
def tabsOf (wd : List Wd) : List He.Tab := wd.map fun t => (fun K => He.ga K t.1, t.2.map (·.1))
def exOf (wd : List Wd) (K : PySem.W.Frag) : Bool := wd.all fun t => wdB K (He.ga K t.1) t.2
theorem ctx_of {fa : List He.Fa} {fn : List He.DefD} {wd : List Wd} {w : World} {K : PySem.W.Frag} {h : Heap} {mg : Str → Option Value} (X : K.In h) (G : h.Ns mainGlobals mg) (c : He.SaysX fa fn (tabsOf wd) [] (exOf wd) w h K) : Ctx fa fn wd w K mg := by
  refine ⟨fun x i e => He.glo_ok X G (c.t.d.fact i e), fun x i e => He.free_ok X G (c.t.d.fact i e), fun x n i e => He.int_ok X G (c.t.d.fact i e), fun d i e => c.t.d.def_ i e, fun t i e => wd_ok ?_ ?_⟩
  · have e2 : (tabsOf wd)[i]? = some ((fun K => He.ga K t.1, t.2.map (·.1)) : He.Tab) := by
      unfold tabsOf
      rw [List.getElem?_map, e] <;> rfl
    exact c.t.tab i e2
  · have e2 : (wd.all fun t => wdB K (He.ga K t.1) t.2) = true := c.more
    exact List.all_eq_true.mp e2 t (List.mem_of_getElem? e)
section
variable {X : Cx} {a b e : Expr} {ta tb te : TE} {x : Str} {p pos : Pos}
theorem pe_gint {i : Int} (hg : Gl X x) (h : ∃ t, X.mg x = some (.int i t)) (hd : (x == ("__debug__" : Str)) = false := by decide) : PE X (.Name x pos) (tC (.int i)) := by
  obtain ⟨t, ht⟩ := h
  exact pe_glob hg ht ⟨t, rfl⟩ hd
def CDivP (_ j : Int) : Prop := 0 < j ∧ j < 18446744073709551616
theorem op_fdivP : OpR X (binaryOp .FloorDiv) (rI CDivP fun i j => .int (i / j)) := by
  intro pins s σ H x y v u Q I rx ry ⟨i, j, e1, e2, ⟨h1, h2⟩, q⟩
  exact op_fdivW pins s σ H x y v u Q I rx ry ⟨i, j, e1, e2, wide_div (b := 64) h1 (by omega) (by decide) (by decide), q⟩
/-- a sign in a text -/
def rInSP (neg : Bool) : R2 := fun x y H Q => match x, y with
  | .str c, .str z => (match c.cps.toList with
    | [k] => Q (.bl (if neg then !decide (k ∈ z.cps.toList) else decide (k ∈ z.cps.toList))) H
    | _ => False)
  | _, _ => False
theorem op_inSP : OpR X (compareOp .In) (rInSP false) := by
  intro pins s σ H x y v u Q I rx ry h
  unfold rInSP at h
  split at h
  · rename_i c z
    split at h
    · rename_i k hk
      have ec : c = ⟨#[k]⟩ := by rw [← S_eta c, hk] <;> rfl
      subst ec
      exact op_in_sign pins s σ H _ _ v u Q I rx ry ⟨k, z, rfl, rfl, h⟩
    · exact h.elim
  · exact h.elim
theorem op_notInSP : OpR X (compareOp .NotIn) (rInSP true) := by
  intro pins s σ H x y v u Q I rx ry h
  unfold rInSP at h
  split at h
  · rename_i c z
    split at h
    · rename_i k hk
      have ec : c = ⟨#[k]⟩ := by rw [← S_eta c, hk] <;> rfl
      subst ec
      exact op_notIn_sign pins s σ H _ _ v u Q I rx ry ⟨k, z, rfl, rfl, h⟩
    · exact h.elim
  · exact h.elim
/-- a flat thing in a list, a tuple of such -/
def seqAt (H : Hp) (a : Addr) : Option (List V) := match H a with
  | some (.lst xs) => some xs
  | some (.tup xs) => some xs
  | some (.frz _ (.lst xs)) => some xs
  | _ => none
theorem seqAt_sq {K : PySem.W.Frag} {H : Hp} {a : Addr} {xs : List V} (h : seqAt H a = some xs) : SqL K H a xs ∨ SqT K H a xs := by
  unfold seqAt at h
  split at h
  · rename_i e; cases h; exact .inl (SqL.of e)
  · rename_i e; cases h; exact .inr (SqT.of e)
  · rename_i e; cases h; exact .inl (.inl (.inr ⟨_, e⟩))
  · cases h
def rInP (neg : Bool) : R2 := fun x y H Q => match y with
  | .ref a => (match seqAt H a with
    | some xs => (flatV x = true ∧ xs.all flatV = true) ∧ Q (.bl (if neg then !inV x xs else inV x xs)) H
    | none => False)
  | _ => False
theorem op_inP : OpR X (compareOp .In) (rInP false) := by
  intro pins s σ H x y v u Q I rx ry h
  unfold rInP at h
  split at h
  · split at h
    · rename_i a xs e
      exact op_in_seq pins s σ H _ _ v u Q I rx ry ⟨_, xs, rfl, seqAt_sq e, h.1.1, h.1.2, h.2⟩
    · exact h.elim
  · exact h.elim
theorem op_notInP : OpR X (compareOp .NotIn) (rInP true) := by
  intro pins s σ H x y v u Q I rx ry h
  unfold rInP at h
  split at h
  · split at h
    · rename_i a xs e
      exact op_notIn_seq pins s σ H _ _ v u Q I rx ry ⟨_, xs, rfl, seqAt_sq e, h.1.1, h.1.2, h.2⟩
    · exact h.elim
  · exact h.elim
/-- is True, is not True of a truth value -/
def rIsBP (neg : Bool) : R2 := fun x y H Q => match x, y with
  | .bl a, .bl b => Q (.bl (if neg then !decide (a = b) else decide (a = b))) H
  | _, _ => False
theorem op_isBP : OpR X (compareOp .Is) (rIsBP false) := by
  intro pins s σ H x y v u Q I rx ry h
  unfold rIsBP at h
  split at h
  · exact op_isBl pins s σ H _ _ v u Q I rx ry ⟨_, _, rfl, rfl, h⟩
  · exact h.elim
theorem op_notBP : OpR X (compareOp .IsNot) (rIsBP true) := by
  intro pins s σ H x y v u Q I rx ry h
  unfold rIsBP at h
  split at h
  · exact op_notBl pins s σ H _ _ v u Q I rx ry ⟨_, _, rfl, rfl, h⟩
  · exact h.elim
end
end Z
namespace Z
open PySem PySem.Spec PyProof.Rows L2
/-! ### isinstance against a built-in type -/
def tyNames : List String := ["NoneType", "bool", "int", "str", "float", "list", "tuple", "dict"]
def tyName (x : V) (H : Hp) : Option String := match x with
  | .non => some "NoneType"
  | .bl _ => some "bool"
  | .int _ => some "int"
  | .str _ => some "str"
  | .flt _ => some "float"
  | .ref a => (match H a with
    | some (.lst _) => some "list"
    | some (.frz _ (.lst _)) => some "list"
    | some (.tup _) => some "tuple"
    | some (.dK _) => some "dict"
    | some (.dT _) => some "dict"
    | _ => none)
  | _ => none
def isiB (t T : String) : Bool := t == T || (t == "bool" && T == "int")
theorem kitB_all : ∀ t ∈ tyNames, ∀ T ∈ tyNames, kitB t T = some (isiB t T) := by decide +kernel
theorem tyName_ok {K : PySem.W.Frag} {x : V} {H : Hp} {t : String} (h : tyName x H = some t) : TyOf K H x (.type t) ∧ t ∈ tyNames := by
  cases x with
  | non => cases h; exact ⟨.non, by decide⟩
  | bl b => cases h; exact ⟨.bl b, by decide⟩
  | int i => cases h; exact ⟨.int i, by decide⟩
  | str z => cases h; exact ⟨.str z, by decide⟩
  | flt z => cases h; exact ⟨.flt z, by decide⟩
  | byt z => cases h
  | ty z => cases h
  | ref a =>
    have h2 : (match H a with
      | some (.lst _) => some "list"
      | some (.frz _ (.lst _)) => some "list"
      | some (.tup _) => some "tuple"
      | some (.dK _) => some "dict"
      | some (.dT _) => some "dict"
      | _ => none) = some t := h
    split at h2
    · rename_i e; cases h2; exact ⟨.lst e, by decide⟩
    · rename_i e; cases h2; exact ⟨.frz e, by decide⟩
    · rename_i e; cases h2; exact ⟨.tup e, by decide⟩
    · rename_i e; cases h2; exact ⟨.dK e, by decide⟩
    · rename_i e; cases h2; exact ⟨.dT e, by decide⟩
    · cases h2
def cIsi : List V → Hp → VK → Prop := fun vs H Q => match vs with
  | [x, .ty T] => T ∈ tyNames ∧ (match tyName x H with
    | some t => Q (.bl (isiB t T)) H
    | none => False)
  | _ => False
theorem call_isiP {X : Cx} : CallR X (.builtin "isinstance") cIsi := by
  intro pins s σ H xs us Q I r h
  unfold cIsi at h
  split at h
  · rename_i x T
    obtain ⟨hT, h⟩ := h
    split at h
    · rename_i t ht
      obtain ⟨h1, h2⟩ := tyName_ok (K := X.K) ht
      exact call_isi pins s σ H _ us Q I r ⟨x, .ty T, .type t, .type T, isiB t T, rfl, .ty T, .base h1, kit_ty (kitB_all t h2 T hT), h⟩
    · exact h.elim
  · exact h.elim
end Z
namespace Z
open PySem PySem.Spec PyProof.Rows L2

/-! ### slices, stores into dicts -/
def rSlSP : V → Option Int → Option Int → Hp → VK → Prop := fun x lo hi H Q => match x with
  | .str z => z.length ≤ sizeLine ∧ Q (.str (S (cutL z.cps.toList lo hi))) H
  | _ => False
def rSlLP : V → Option Int → Option Int → Hp → VK → Prop := fun x lo hi H Q => match x with
  | .ref a => (match itemsAt H a with
    | some xs => ∀ p, H p = none → Q (.ref p) (upd H p (.lst (cutV xs lo hi)))
    | none => False)
  | _ => False
def sSDPut (td ty tv : TE) : TS := fun D σ H => tv σ H fun v H1 => td σ H1 fun x H2 => ty σ H2 fun y H3 => match x with
  | .ref a => (match H3 a with
    | some (.dK kvs) => (match vK y with
      | some k => kvs.length < sizeLine ∧ D.nx σ (upd H3 a (.dK (putK kvs k v)))
      | none => False)
    | _ => False)
  | _ => False
/-- d[y] += an int -/
def sSDAdd (td ty tv : TE) : TS := fun D σ H => td σ H fun x H1 => ty σ H1 fun y H2 => match x with
  | .ref a => (match H2 a with
    | some (.dK kvs) => (match vK y with
      | some k => (match valV kvs k with
        | some (.int i) => tv σ H2 fun z H3 => (match z with
          | .int j => (match H3 a with
            | some (.dK kvs2) => kvs2.length < sizeLine ∧ D.nx σ (upd H3 a (.dK (putK kvs2 k (.int (i + j)))))
            | _ => False)
          | _ => False)
        | _ => False)
      | none => False)
    | _ => False)
  | _ => False
section
variable {X : Cx} {o i e value : Expr} {pos pos' tpos : Pos} {td ty tv : TE}
theorem sl_strP : SlR X rSlSP := by
  intro pins s σ H x v vl vu lo hi sl Q I rx hs pl pu h
  unfold rSlSP at h
  split at h
  · rename_i z
    refine sl_str pins s σ H _ v vl vu lo hi sl Q I rx hs pl pu ⟨z, rfl, h.1, ?_⟩
    have e := S_cut z.cps.toList lo hi
    rw [S_eta] at e
    rw [e]
    exact h.2
  · exact h.elim
theorem sl_listP : SlR X rSlLP := by
  intro pins s σ H x v vl vu lo hi sl Q I rx hs pl pu h
  unfold rSlLP at h
  split at h
  · split at h
    · rename_i a xs e
      exact sl_list pins s σ H _ v vl vu lo hi sl Q I rx hs pl pu ⟨_, xs, rfl, itemsAt_sq e, h⟩
    · exact h.elim
  · exact h.elim
theorem PS.of {st : Stmt} {t t' : TS} (h : PS X st t) (f : ∀ D σ H, t' D σ H → t D σ H) : PS X st t' := ⟨fun pins s σ H D I q => h.run pins s σ H D I (f D σ H q)⟩
theorem ps_dputP (hu : X.A.units + 1 < cLine) (ho : PE X o td) (hi : PE X i ty) (hv : PE X value tv) (hs : swapsWith value (some (.Subscript o i pos')) pos.line X.env = pure false) : PS X (.Assign [.Subscript o i pos'] value pos) (sSDPut td ty tv) :=
  PS.of (ps_dput hu (PE.up ho) (PE.up hi) (PE.up hv) hs) fun D σ H q => ⟨_, q, fun v H1 q1 => ⟨_, q1, fun x H2 q2 => ⟨_, q2, fun y H3 q3 => by
    split at q3
    · split at q3
      · rename_i a _ kvs e
        split at q3
        · rename_i k hk
          refine ⟨a, _, rfl, ?_, q3.2⟩
          rw [vK_eq hk]
          exact DPut.k e q3.1
        · exact q3.elim
      · exact q3.elim
    · exact q3.elim⟩⟩⟩
theorem ps_daddP (hu : X.A.units + 1 < cLine) (ho : PE X o td) (hi : PE X i ty) (hv : PE X value tv)
    (ha : ∀ ov iv new, augStore i ov iv new = (do holding [new, ov, iv] (setItem ov iv new); release [new, ov, iv] []; pure .next)) : PS X (.AugAssign (.Subscript o i tpos) .Add value pos) (sSDAdd td ty tv) :=
  PS.of (ps_daug hu (PE.up ho) (PE.up hi) (PE.up hv) in_add ha) fun D σ H q => ⟨_, q, fun x H1 q1 => ⟨_, q1, fun y H2 q2 => by
    split at q2
    · split at q2
      · rename_i a _ kvs e
        split at q2
        · rename_i k hk
          split at q2
          · rename_i n hn
            refine ⟨a, .int n, rfl, ?_, _, q2, fun z H3 q3 => ?_⟩
            · rw [vK_eq hk, ← hn]
              exact DGet.k e
            · split at q3
              · split at q3
                · rename_i j _ kvs2 e2
                  refine ⟨n, j, rfl, rfl, _, ?_, q3.2⟩
                  rw [vK_eq hk]
                  exact DPut.k e2 q3.1
                · exact q3.elim
              · exact q3.elim
          · exact q2.elim
        · exact q2.elim
      · exact q2.elim
    · exact q2.elim⟩⟩
end
end Z
namespace Z
open PySem PySem.Spec PyProof.Rows L2

/-! ### lists of texts, of truth values -/
theorem allTxt_map {α : Type} (f : α → List Nat) (l : List α) : allTxt (l.map fun x => V.str (S (f x))) = some (l.map f) := by
  induction l with
  | nil => rfl
  | cons c l ih =>
    show (allTxt (l.map fun x => V.str (S (f x)))).map ((S (f c)).cps.toList :: ·) = _
    rw [ih, S_tl] <;> rfl
theorem allTxt_sign (l : List Nat) : allTxt (l.map eSign) = some (l.map fun c => [c]) := allTxt_map (fun c => [c]) l
theorem allBl_map {α : Type} (f : α → Bool) (l : List α) : allBl (l.map fun x => V.bl (f x)) = some (l.map f) := by
  induction l with
  | nil => rfl
  | cons c l ih =>
    show (allBl (l.map fun x => V.bl (f x))).map (f c :: ·) = _
    rw [ih] <;> rfl
theorem joinL_nil : ∀ ls : List (List Nat), TL.joinL [] ls = ls.flatten
  | [] => rfl
  | [p] => by simp [TL.joinL]
  | p :: q :: r => by
    show p ++ ([] ++ TL.joinL [] (q :: r)) = _
    rw [joinL_nil (q :: r)]
    simp
theorem flat_one {α : Type} (f : α → Nat) (l : List α) : (l.map fun c => [f c]).flatten = l.map f := by
  induction l with
  | nil => rfl
  | cons c l ih => simp [ih]
theorem sum_one {α : Type} (f : α → Nat) (l : List α) : ((l.map fun c => [f c]).map (·.length)).sum = l.length := by
  induction l with
  | nil => rfl
  | cons c l ih =>
    rw [List.map_cons, List.map_cons, List.sum_cons, ih, List.length_cons]
    simp
    omega
theorem flat_sign (l : List Nat) : (l.map fun c => [c]).flatten = l := by
  have h := flat_one (fun c : Nat => c) l
  rw [h]
  simp
theorem sum_sign (l : List Nat) : ((l.map fun c => [c]).map (·.length)).sum = l.length := sum_one (fun c : Nat => c) l
theorem all_map_id {α : Type} (f : α → Bool) (l : List α) : (l.map f).all id = l.all f := by
  rw [List.all_map] <;> rfl
theorem any_map_id {α : Type} (f : α → Bool) (l : List α) : (l.map f).any id = l.any f := by
  rw [List.any_map] <;> rfl
theorem tyn1 : "str" ∈ tyNames := by decide
theorem tyn2 : "int" ∈ tyNames := by decide
theorem tyn3 : "bool" ∈ tyNames := by decide
theorem tyn4 : "list" ∈ tyNames := by decide
theorem tyn5 : "tuple" ∈ tyNames := by decide
theorem tyn6 : "dict" ∈ tyNames := by decide
theorem isiB_same (t : String) : isiB t t = true := by simp [isiB]
end Z
namespace Z
open PySem PySem.Spec PyProof.Rows L2

/-! ### the source of draws, made of a script -/
theorem upd_none {H : Hp} {a b : Addr} {o : HO} (h : upd H a o b = none) : b ≠ a ∧ H b = none := by
  have h1 : b ≠ a := fun e => by rw [e, upd_same] at h; cases h
  rw [upd_ne h1] at h
  exact ⟨h1, h⟩
structure Dok (st : Dst) : Prop where
  dig : 0 ≤ st.digits
  gre : ∀ g ∈ st.great, 0 < g
  lum : ∀ l ∈ st.lumps, 0 ≤ l ∧ l < 1000000000000000000
  tur : 0 ≤ st.turn
theorem merge_dr {G L : Addr} {d t : Int} {g l : List Int} : mergeK [] [(.inr kDig, .int d), (.inr kGre, .ref G), (.inr kLum, .ref L), (.inr kTur, .int t)] = drK G L ⟨d, g, l, t⟩ := by
  have k21 := Ne.symm kn12
  have k31 := Ne.symm kn13
  have k41 := Ne.symm kn14
  have k32 := Ne.symm kn23
  have k42 := Ne.symm kn24
  have k43 := Ne.symm kn34
  have n12 := kn12
  have n13 := kn13
  have n14 := kn14
  have n23 := kn23
  have n24 := kn24
  have n34 := kn34
  simp [mergeK, putK, drK] at *
  simp [*]
/-- the script: a list of ints, tracked or written -/
def spBegun (K : PySem.W.Frag) : Sp := fun vs H Q _ => ∃ a, ∃ ns : List Int, vs = [.ref a] ∧ SqL K H a (ns.map V.int) ∧ ns.length ≤ 100000 ∧
  ∀ D G L st, H D = none → H G = none → H L = none → Ad D G L → Dok st → st.turn = 0 → Q (.ref D) (dr H D G L st)
def spBegun0 (K : PySem.W.Frag) : Sp := fun vs H Q _ => ∃ a, ∃ ns : List Int, vs = [.ref a] ∧ SqL K H a (ns.map V.int) ∧ ns.length ≤ 100000 ∧
  ∀ D G L st H', H D = none → H G = none → H L = none → Ad D G L → Dok st → st.turn = 0 → H' D = some (.dK (drK G L st)) → H' G = some (.lst (st.great.map V.int)) → H' L = some (.lst (st.lumps.map V.int)) → (∀ c o, H c = some o → H' c = some o) → Q (.ref D) H'
structure Bg (R H : Hp) : Prop where
  at_ : ∀ c o, R c = some o → H c = some o ∧ noT o ∧ dxOf o = none ∧ ∀ y, o ≠ .own y
theorem bg_of {K : PySem.W.Frag} {H : Hp} {a : Addr} {xs : List V} (h : SqL K H a xs) : ∃ R, Bg R H ∧ SqL K R a xs := by
  have one : ∀ o, H a = some o → noT o → dxOf o = none → (∀ y, o ≠ .own y) → Bg (upd H0 a o) H := fun o ha n1 n2 n3 => ⟨fun c u e => by
    by_cases hc : c = a
    · subst hc
      rw [upd_same] at e; cases e
      exact ⟨ha, n1, n2, n3⟩
    · rw [upd_ne hc] at e; cases e⟩
  rcases h with (h | ⟨ob, h⟩) | h
  · exact ⟨_, one _ h trivial rfl fun y z => (by cases z), .inl (.inl upd_same)⟩
  · exact ⟨_, one _ h trivial rfl fun y z => (by cases z), .inl (.inr ⟨ob, upd_same⟩)⟩
  · exact ⟨H0, ⟨fun c u e => (by cases e)⟩, .inr h⟩
theorem begun_frame {K : PySem.W.Frag} (vs : List V) (H : Hp) (Q : VK) (E : XK) (h : spBegun K vs H Q E) : spFrame (spBegun0 K) vs H Q E := by
  obtain ⟨a, ns, e1, hs, hl, q⟩ := h
  obtain ⟨R, bg, hR⟩ := bg_of hs
  refine ⟨R, ⟨fun c u hc => (bg.at_ c u hc).1, fun c u b hc hx hb => ?_, fun c u hc => (bg.at_ c u hc).2.1⟩, a, ns, e1, hR, hl, fun D G L st H' hD hG hL ad ok ht h1 h2 h3 h4 fr => ?_⟩
  · have rc : R c = none := by
      cases z : R c with
      | none => rfl
      | some v =>
        obtain ⟨x, _, y, _⟩ := bg.at_ c v z
        rw [hc] at x; cases x
        rw [y] at hx; cases hx
    have rb : R b = none := by
      cases z : R b with
      | none => rfl
      | some v =>
        obtain ⟨x, _, _, y⟩ := bg.at_ b v z
        rw [hb] at x; cases x
        exact absurd rfl (y c)
    rw [rc, rb]
  · have fD := fr D _ h1 hD
    have fG := fr G _ h2 hG
    have fL := fr L _ h3 hL
    refine ⟨dr H D G L st, ⟨fun c u hc hu => ?_, fun c u hu => ?_, fun c u hc hi => ?_, fun c u b hu hx hb => ?_⟩, q D G L st fD fG fL ad ok ht⟩
    · rw [dr_ne (ne_of_none hu fD) (ne_of_none hu fG) (ne_of_none hu fL)]
      exact hu
    · by_cases c1 : c = D
      · subst c1; rw [dr_D] at hu; cases hu; exact .inr ⟨h1, trivial⟩
      · by_cases c2 : c = G
        · subst c2; rw [dr_G ad] at hu; cases hu; exact .inr ⟨h2, trivial⟩
        · by_cases c3 : c = L
          · subst c3; rw [dr_L ad] at hu; cases hu; exact .inr ⟨h3, trivial⟩
          · rw [dr_ne c1 c2 c3] at hu
            cases z : R c with
            | some v =>
              obtain ⟨x, y, _⟩ := bg.at_ c v z
              rw [hu] at x; cases x
              exact .inr ⟨h4 c _ z, y⟩
            | none => exact .inl ⟨rfl, hu⟩
    · obtain ⟨x, _⟩ := bg.at_ c u hc
      rw [dr_ne (ne_of_none x fD) (ne_of_none x fG) (ne_of_none x fL), x, h4 c u hc]
    · by_cases c1 : c = D
      · subst c1; rw [dr_D] at hu; cases hu; cases hx
      · by_cases c2 : c = G
        · subst c2; rw [dr_G ad] at hu; cases hu; cases hx
        · by_cases c3 : c = L
          · subst c3; rw [dr_L ad] at hu; cases hu; cases hx
          · rw [dr_ne c1 c2 c3] at hu
            cases z : R c with
            | some v =>
              obtain ⟨x, _, y, _⟩ := bg.at_ c v z
              rw [hu] at x; cases x
              rw [y] at hx; cases hx
            | none => exact .inl ⟨rfl, by rw [hu] <;> rfl⟩
/-- a for, a comprehension over the script -/
def iSqP (K : PySem.W.Frag) (te : TE) : TI := fun σ H R => te σ H fun x H1 => match x with
  | .ref a => (∃ xs, SqL K H1 a xs) ∧ R (Itl K a) H1
  | _ => False
theorem pi_sqP {X : Cx} {tg e : Expr} {te : TE} (he : PE X e te) : PI X tg e (iSqP X.K te) :=
  PI.of (pi_list (PE.up he)) fun σ H R q => ⟨_, q, fun x H1 z => by
    cases x with
    | ref a => exact ⟨a, rfl, z.1, z.2⟩
    | _ => exact False.elim z⟩
theorem sq_new {K : PySem.W.Frag} {H : Hp} {a p : Addr} {o : HO} {xs : List V} (h : SqL K H a xs) (hp : H p = none) : SqL K (upd H p o) a xs := by
  rcases h with (h | ⟨ob, h⟩) | h
  · exact .inl (.inl (by rw [upd_ne (ne_of_none h hp)]; exact h))
  · exact .inl (.inr ⟨ob, by rw [upd_ne (ne_of_none h hp)]; exact h⟩)
  · exact .inr h
/-! ### the draws, taken -/
/-- r is below m, and one turn at most is gone -/
def preN (rest : List V) (st : Dst) : Prop := ∃ m : Int, rest = [.int m] ∧ 0 < m ∧ m < 1000000000 ∧ Dok st ∧ st.turn < 1000000000
def postN (rest : List V) (st : Dst) (v : V) (st' : Dst) : Prop := ∃ m r : Int, rest = [.int m] ∧ v = .int r ∧ 0 ≤ r ∧ r < m ∧ Dok st' ∧ st'.turn ≤ st.turn + 1
theorem next_i {Hb : Hp} {D G L : Addr} {st : Dst} {m : Int} {Q : VK} {E : XK} (a : Ad D G L) (ok : Dok st) (h1 : 0 < m) (h2 : m < 1000000000) (ht : st.turn < 1000000000)
    (q : ∀ (r : Int) st', 0 ≤ r → r < m → Dok st' → st'.turn ≤ st.turn + 1 → st'.lumps = st.lumps → Q (.int r) (dr Hb D G L st')) : spD preN postN [.ref D, .int m] (dr Hb D G L st) Q E :=
  ⟨Hb, D, G, L, st, [.int m], rfl, rfl, a, ⟨m, rfl, h1, h2, ok, ht⟩, fun v st' ⟨m', r, e1, e2, r0, r1, ok', t'⟩ el => by
    cases e1
    subst e2
    exact q r st' r0 r1 ok' t' el⟩
theorem atI_mem {α β : Type} {xs : List α} {f : α → β} {i : Int} (h0 : 0 ≤ i) (h1 : i < (xs.length : Int)) : ∃ x, x ∈ xs ∧ xs[i.toNat]? = some x ∧ atI (xs.map f) i = some (f x) := by
  have hn : i.toNat < xs.length := by omega
  refine ⟨xs[i.toNat], List.getElem_mem hn, List.getElem?_eq_getElem hn, ?_⟩
  have e : (i.toNat : Int) = i := by omega
  have e2 := atI_nat' (xs.map f) i.toNat
  rw [e, List.getElem?_map, List.getElem?_eq_getElem hn] at e2
  exact e2
/-- one of some lumps, 0 where there are none -/
theorem lump_both {c p : Prop} {hd : Decidable c} {o : Option V} {F : V → Prop} (h1 : c → p ∧ ∃ l : Int, o = some (V.int l) ∧ 0 ≤ l ∧ l < 1000000000000000000) (h : ∀ l : Int, 0 ≤ l → l < 1000000000000000000 → F (.int l)) :
    if c then p ∧ (match (generalizing := false) o with | some v => F v | none => False) else F (.int 0) := by
  by_cases hc : c
  · obtain ⟨hp, l, rfl, l0, l1⟩ := h1 hc
    rw [if_pos hc]
    exact ⟨hp, h l l0 l1⟩
  · rw [if_neg hc]
    exact h 0 (by decide) (by decide)
end Z
namespace Z
open PySem PySem.Spec PyProof.Rows L2

/-! ### draws, with lists that are read and lists that are made -/
structure Plain (o : HO) : Prop where
  nt : noT o
  dx : dxOf o = none
  ow : ∀ y, o ≠ .own y
theorem plain_lst {xs : List V} : Plain (.lst xs) := ⟨trivial, rfl, fun y z => (by cases z)⟩
theorem plain_tup {xs : List V} : Plain (.tup xs) := ⟨trivial, rfl, fun y z => (by cases z)⟩
theorem plain_dK {kvs : List (Key × V)} : Plain (.dK kvs) := ⟨trivial, rfl, fun y z => (by cases z)⟩
/-- N laid over H -/
def ov (N H : Hp) : Hp := fun a => match N a with
  | some o => some o
  | none => H a
theorem ov_some {N H : Hp} {a : Addr} {o : HO} (h : N a = some o) : ov N H a = some o := by
  unfold ov
  rw [h]
theorem ov_none {N H : Hp} {a : Addr} (h : N a = none) : ov N H a = H a := by
  unfold ov
  rw [h]
theorem ov0 {H : Hp} : ov H0 H = H := rfl
theorem ov_upd {N H : Hp} {a : Addr} {o : HO} : ov (upd N a o) H = upd (ov N H) a o := by
  funext c
  by_cases h : c = a
  · subst h
    rw [upd_same, ov_some upd_same]
  · rw [upd_ne h]
    unfold ov
    rw [upd_ne h]
/-- what is read: a part of the heap behind the draws -/
structure Rd (R Hb : Hp) (D G L : Addr) : Prop where
  at_ : ∀ a o, R a = some o → Hb a = some o ∧ Plain o ∧ a ≠ D ∧ a ≠ G ∧ a ≠ L
theorem rd0 {Hb : Hp} {D G L : Addr} : Rd H0 Hb D G L := ⟨fun _ _ h => (by cases h)⟩
theorem rd_add {R Hb : Hp} {D G L a : Addr} {o : HO} (r : Rd R Hb D G L) (h : Hb a = some o) (p : Plain o) (h1 : a ≠ D) (h2 : a ≠ G) (h3 : a ≠ L) : Rd (upd R a o) Hb D G L :=
  ⟨fun c u e => by
    by_cases hc : c = a
    · subst hc
      rw [upd_same] at e; cases e
      exact ⟨h, p, h1, h2, h3⟩
    · rw [upd_ne hc] at e
      exact r.at_ c u e⟩
def spW (Pre : List V → Hp → Dst → Prop) (Post : List V → Hp → Dst → V → Dst → Hp → Prop) : Sp := fun vs H Q _ => ∃ Hb D G L st rest R, vs = .ref D :: rest ∧ H = dr Hb D G L st ∧ Ad D G L ∧ Rd R Hb D G L ∧ Pre rest R st ∧
  ∀ v st' N, (∀ a o, N a = some o → Plain o ∧ dr Hb D G L st a = none) → Post rest R st v st' N → st'.lumps = st.lumps → Q v (dr (ov N Hb) D G L st')
def spW0 (Pre : List V → Hp → Dst → Prop) (Post : List V → Hp → Dst → V → Dst → Hp → Prop) : Sp := fun vs H Q _ => ∃ D G L st rest R, vs = .ref D :: rest ∧ H = dr R D G L st ∧ Ad D G L ∧ Rd R R D G L ∧ Pre rest R st ∧
  ∀ v st' N H', (∀ a o, N a = some o → Plain o ∧ dr R D G L st a = none ∧ H' a = some o) → Post rest R st v st' N → st'.lumps = st.lumps →
    H' D = some (.dK (drK G L st')) → H' G = some (.lst (st'.great.map V.int)) → H' L = some (.lst (st'.lumps.map V.int)) → (∀ a o, R a = some o → H' a = some o) → Q v H'
theorem dr_plain {R Hb : Hp} {D G L c : Addr} {st : Dst} {o : HO} (ad : Ad D G L) (r : Rd R Hb D G L) (e : dr R D G L st c = some o) : Plain o ∧ dr Hb D G L st c = some o := by
  by_cases h1 : c = D
  · subst h1; rw [dr_D] at e; cases e; exact ⟨plain_dK, dr_D⟩
  · by_cases h2 : c = G
    · subst h2; rw [dr_G ad] at e; cases e; exact ⟨plain_lst, dr_G ad⟩
    · by_cases h3 : c = L
      · subst h3; rw [dr_L ad] at e; cases e; exact ⟨plain_lst, dr_L ad⟩
      · rw [dr_ne h1 h2 h3] at e
        obtain ⟨x, y, _⟩ := r.at_ c o e
        exact ⟨y, by rw [dr_ne h1 h2 h3]; exact x⟩
theorem w_part {R Hb : Hp} {D G L : Addr} {st : Dst} (ad : Ad D G L) (r : Rd R Hb D G L) : Part (dr R D G L st) (dr Hb D G L st) := by
  refine ⟨fun c o e => (dr_plain ad r e).2, fun c o b hc hx hb => ?_, fun c o e => (dr_plain ad r e).1.nt⟩
  have e1 : dr R D G L st c = none := by
    cases z : dr R D G L st c with
    | none => rfl
    | some u =>
      obtain ⟨p, q⟩ := dr_plain ad r z
      rw [hc] at q; cases q
      rw [p.dx] at hx; cases hx
  have e2 : dr R D G L st b = none := by
    cases z : dr R D G L st b with
    | none => rfl
    | some u =>
      obtain ⟨p, q⟩ := dr_plain ad r z
      rw [hb] at q; cases q
      exact absurd rfl (p.ow c)
  rw [e1, e2]
theorem w_frame {Pre : List V → Hp → Dst → Prop} {Post : List V → Hp → Dst → V → Dst → Hp → Prop} (vs : List V) (H : Hp) (Q : VK) (E : XK) (h : spW Pre Post vs H Q E) : spFrame (spW0 Pre Post) vs H Q E := by
  obtain ⟨Hb, D, G, L, st, rest, R, e1, rfl, ad, r, pre, q⟩ := h
  refine ⟨dr R D G L st, w_part ad r, D, G, L, st, rest, R, e1, rfl, ad, ⟨fun a o e => ⟨e, (r.at_ a o e).2⟩⟩, pre, fun v st' N H' hN post el h1 h2 h3 h4 fr => ?_⟩
  have nN : ∀ a o, N a = some o → dr Hb D G L st a = none := fun a o e => fr a o (hN a o e).2.2 (hN a o e).2.1
  refine ⟨dr (ov N Hb) D G L st', ⟨fun c o hc ho => ?_, fun c o ho => ?_, fun c o ho hi => ?_, fun c o b ho hx hb => ?_⟩, q v st' N (fun a o e => ⟨(hN a o e).1, nN a o e⟩) post el⟩
  · have n : c ≠ D ∧ c ≠ G ∧ c ≠ L := ⟨fun e => (by rw [e, dr_D] at hc; cases hc), fun e => (by rw [e, dr_G ad] at hc; cases hc), fun e => (by rw [e, dr_L ad] at hc; cases hc)⟩
    have nn : N c = none := by
      cases z : N c with
      | none => rfl
      | some u => rw [nN c u z] at ho; cases ho
    rw [dr_ne n.1 n.2.1 n.2.2] at ho ⊢
    rw [ov_none nn]
    exact ho
  · by_cases c1 : c = D
    · subst c1; rw [dr_D] at ho; cases ho; exact .inr ⟨h1, trivial⟩
    · by_cases c2 : c = G
      · subst c2; rw [dr_G ad] at ho; cases ho; exact .inr ⟨h2, trivial⟩
      · by_cases c3 : c = L
        · subst c3; rw [dr_L ad] at ho; cases ho; exact .inr ⟨h3, trivial⟩
        · rw [dr_ne c1 c2 c3] at ho
          cases z : N c with
          | some u =>
            rw [ov_some z] at ho; cases ho
            exact .inr ⟨(hN c _ z).2.2, (hN c _ z).1.nt⟩
          | none =>
            rw [ov_none z] at ho
            cases y : R c with
            | some u =>
              have t := r.at_ c u y
              rw [ho] at t
              obtain ⟨t1, t2, _⟩ := t
              cases t1
              exact .inr ⟨h4 c _ y, t2.nt⟩
            | none => exact .inl ⟨by rw [dr_ne c1 c2 c3]; exact y, by rw [dr_ne c1 c2 c3]; exact ho⟩
  · by_cases c1 : c = D
    · subst c1; rw [dr_D] at ho; cases ho; cases hi
    · by_cases c2 : c = G
      · subst c2; rw [dr_G ad] at ho; cases ho; cases hi
      · by_cases c3 : c = L
        · subst c3; rw [dr_L ad] at ho; cases ho; cases hi
        · have nn : N c = none := by
            cases z : N c with
            | none => rfl
            | some u => rw [(hN c u z).2.1] at ho; cases ho
          rw [dr_ne c1 c2 c3] at ho ⊢
          rw [ov_none nn, (r.at_ c o ho).1, h4 c o ho]
  · by_cases c1 : c = D
    · subst c1; rw [dr_D] at ho; cases ho; cases hx
    · by_cases c2 : c = G
      · subst c2; rw [dr_G ad] at ho; cases ho; cases hx
      · by_cases c3 : c = L
        · subst c3; rw [dr_L ad] at ho; cases ho; cases hx
        · rw [dr_ne c1 c2 c3] at ho
          cases z : N c with
          | some u =>
            rw [ov_some z] at ho; cases ho
            rw [(hN c _ z).1.dx] at hx; cases hx
          | none =>
            rw [ov_none z] at ho
            cases y : R c with
            | some u =>
              have t := r.at_ c u y
              rw [ho] at t
              obtain ⟨t1, t2, _⟩ := t
              cases t1
              rw [t2.dx] at hx; cases hx
            | none => exact .inl ⟨by rw [dr_ne c1 c2 c3]; exact y, by rw [dr_ne c1 c2 c3, ho] <;> rfl⟩
/-- a new object, told to the caller of a def -/
theorem n_one {H H' : Hp} {p : Addr} {o : HO} (pl : Plain o) (h : H p = none) (h' : H' p = some o) : ∀ a u, upd H0 p o a = some u → Plain u ∧ H a = none ∧ H' a = some u := fun a u e => by
  by_cases ha : a = p
  · subst ha
    rw [upd_same] at e; cases e
    exact ⟨pl, h, h'⟩
  · rw [upd_ne ha] at e; cases e
theorem n_no {H H' : Hp} : ∀ a u, H0 a = some u → Plain u ∧ H a = none ∧ H' a = some u := fun a u e => by cases e
end Z
namespace Z
open PySem PySem.Spec PyProof.Rows L2

theorem r_par {a b : V} {P : V → V → Prop} : (∃ v w, [a, b] = [v, w] ∧ P v w) = P a b := by
  apply propext
  constructor
  · rintro ⟨v, w, e, p⟩
    cases e
    exact p
  · intro p
    exact ⟨a, b, rfl, p⟩
theorem upd_in {H : Hp} {a b : Addr} {x y z : HO} (h : a ≠ b) : upd (upd (upd H a x) b y) a z = upd (upd H a z) b y := by
  rw [upd_comm (Ne.symm h), upd_upd]
theorem rd_dr {R Hb : Hp} {D G L a : Addr} {o : HO} {st : Dst} (r : Rd R Hb D G L) (h : R a = some o) : dr Hb D G L st a = some o := by
  obtain ⟨h1, _, h2, h3, h4⟩ := r.at_ a o h
  rw [dr_ne h2 h3 h4]
  exact h1
theorem erase_perm {α : Type} {x : α} : ∀ {xs : List α} {i : Nat}, xs[i]? = some x → (x :: xs.eraseIdx i).Perm xs
  | [], _, h => by cases h
  | y :: ys, 0, h => by
    cases h
    exact .refl _
  | y :: ys, i + 1, h => by
    have h2 : ys[i]? = some x := h
    exact (List.Perm.swap y x (ys.eraseIdx i)).trans ((erase_perm h2).cons y)
theorem erase_len {α : Type} {xs : List α} {i : Nat} {x : α} (h : xs[i]? = some x) : (xs.eraseIdx i).length + 1 = xs.length := (erase_perm h).length_eq
theorem move_perm {α : Type} {xs ls fs : List α} {i : Nat} {x : α} (h : ls[i]? = some x) (p : (fs ++ ls).Perm xs) : ((fs ++ [x]) ++ ls.eraseIdx i).Perm xs := by
  rw [List.append_assoc]
  exact ((erase_perm h).append_left fs).trans p
theorem neC {α : Type} {y : α} {ys : List α} : (!(y :: ys).isEmpty) = true := rfl
theorem neN {α : Type} : ¬ (!([] : List α).isEmpty) = true := fun h => (by cases h)
theorem cutV_to (l : List V) (n : Nat) : cutV l none (some (n : Int)) = l.take n := by
  unfold cutV
  rw [sIx_none, sIx_nat, List.drop_zero, Nat.sub_zero]
  rcases Nat.le_total n l.length with h | h
  · rw [Nat.min_eq_left h]
  · rw [Nat.min_eq_right h, List.take_of_length_le (Nat.le_refl _), List.take_of_length_le h]
theorem cutV_toI (l : List V) {i : Int} (h : 0 ≤ i) : cutV l none (some i) = l.take i.toNat := by
  have e : i = (i.toNat : Int) := by omega
  rw [e, cutV_to]
  congr 1
theorem cutV_from (l : List V) (n : Nat) : cutV l (some (n : Int)) none = l.drop n := by
  unfold cutV
  rw [sIx_none, sIx_nat]
  rcases Nat.le_total n l.length with h | h
  · rw [Nat.min_eq_left h, List.take_of_length_le (by rw [List.length_drop]; omega)]
  · rw [Nat.min_eq_right h, List.drop_eq_nil_of_le (Nat.le_refl _), List.drop_eq_nil_of_le h] <;> simp
theorem cutV_fromI (l : List V) {i : Int} (h : 0 ≤ i) : cutV l (some i) none = l.drop i.toNat := by
  have e : i = (i.toNat : Int) := by omega
  rw [e, cutV_from]
  congr 1
theorem cut_toI (l : List Nat) {i : Int} (h : 0 ≤ i) : cutL l none (some i) = l.take i.toNat := by
  have e : i = (i.toNat : Int) := by omega
  rw [e, cut_to]
  congr 1
theorem cut_fromI (l : List Nat) {i : Int} (h : 0 ≤ i) : cutL l (some i) none = l.drop i.toNat := by
  have e : i = (i.toNat : Int) := by omega
  rw [e, cut_from]
  congr 1
theorem lift_list {α : Type} {f : α → V} {P : α → Prop} : ∀ {ys : List V}, (∀ v ∈ ys, ∃ c, P c ∧ v = f c) → ∃ l : List α, ys = l.map f ∧ ∀ c ∈ l, P c
  | [], _ => ⟨[], rfl, fun c h => (by cases h)⟩
  | y :: ys, h => by
    obtain ⟨c, hc, e⟩ := h y (List.mem_cons_self ..)
    obtain ⟨l, e2, hl⟩ := lift_list fun v hv => h v (List.mem_cons_of_mem _ hv)
    refine ⟨c :: l, by rw [e, e2] <;> rfl, fun d hd => ?_⟩
    rcases List.mem_cons.mp hd with rfl | hd
    · exact hc
    · exact hl d hd
/-- a law: at a script of at most 63 ints it gives True, whatever heap it leaves -/
def sp_law (K : PySem.W.Frag) : Sp := fun vs H Q _ => ∃ a, ∃ ns : List Int, vs = [.ref a] ∧ ns.length ≤ 63 ∧ SqL K H a (ns.map V.int) ∧ ∀ H', Q (.bl true) H'
theorem law_sp {K : PySem.W.Frag} (H : Hp) (a : Addr) (ns : List Int) (hl : ns.length ≤ 63) (_ : Only H) (hS : SqL K H a (ns.map V.int)) : sp_law K [.ref a] H (fun v _ => v = .bl true) fun _ _ _ => False :=
  ⟨a, ns, rfl, hl, hS, fun _ => rfl⟩
/-- its first step -/
theorem begun_go {K : PySem.W.Frag} {H : Hp} {a : Addr} {ns : List Int} {Q : VK} {E : XK} (h : SqL K H a (ns.map V.int)) (hl : ns.length ≤ 63)
    (q : ∀ D G L st, Ad D G L → Dok st → st.turn = 0 → Q (.ref D) (dr H D G L st)) : spBegun K [.ref a] H Q E :=
  ⟨a, ns, rfl, h, by omega, fun D G L st _ _ _ ad ok t => q D G L st ad ok t⟩
abbrev eTxt : List Nat → V := fun l => .str (S l)
end Z
namespace Z
open PySem PySem.Spec PyProof.Rows L2

/-! ### readings from the head on: what follows is not looked into before its turn -/
/-- a term that hangs on b: what it stands beside is not rewritten -/
structure Hold {β : Sort u} (b : β) : Type where
  mk ::
def onSome {α : Type} (o : Option α) (F : α → Prop) (_ : Hold F := ⟨⟩) : Prop := match o with
  | some x => F x
  | none => False
theorem onSome_some {α : Type} {x : α} {F : α → Prop} {u : Hold F} : onSome (some x) F u = F x := rfl
theorem onS {α : Type} {o : Option α} {F : α → Prop} {u : Hold F} : onSome o F u = (match o with | some x => F x | none => False) := by cases o <;> rfl
theorem onSome_go {α : Type} {o : Option α} {x : α} {F : α → Prop} {u : Hold F} (h : o = some x) (q : F x) : onSome o F u := by
  subst h
  exact q
/-- a call, its end not looked into -/
def callU (sp : Sp) (vs : List V) (H : Hp) (Q : VK) (_ : Hold Q := ⟨⟩) : Prop := sp vs H Q E0
theorem callU_pure {R : List V → V → Prop} {vs : List V} {H : Hp} {Q : VK} {u : Hold Q} : callU (spPure R) vs H Q u = spPure R vs H Q E0 := rfl
/-- what a tracked thing is -/
def lstO : Option HO → Option (List V)
  | some (.lst xs) => some xs
  | _ => none
def itmO : Option HO → Option (List V)
  | some (.lst xs) => some xs
  | some (.frz _ (.lst xs)) => some xs
  | _ => none
def seqO : Option HO → Option (List V)
  | some (.lst xs) => some xs
  | some (.tup xs) => some xs
  | some (.frz _ (.lst xs)) => some xs
  | _ => none
def ltO : Option HO → Option (List V)
  | some (.lst xs) => some xs
  | some (.tup xs) => some xs
  | _ => none
def tupO : Option HO → Option (List V)
  | some (.tup xs) => some xs
  | _ => none
def dkO : Option HO → Option (List (Key × V))
  | some (.dK kvs) => some kvs
  | _ => none
def lenO : Option HO → Option Nat
  | some (.lst xs) => some xs.length
  | some (.tup xs) => some xs.length
  | some (.frz _ (.lst xs)) => some xs.length
  | some (.dK kvs) => some kvs.length
  | _ => none
def getO : Option HO → Int → Option V
  | some (.lst xs), i => atI xs i
  | some (.tup xs), i => atI xs i
  | some (.frz _ (.lst xs)), i => atI xs i
  | some (.dK kvs), i => valV kvs (.inl i)
  | _, _ => none
def getK : Option HO → Str → Option V
  | some (.dK kvs), z => valV kvs (.inr z)
  | _, _ => none
theorem lstO_l {xs : List V} : lstO (some (.lst xs)) = some xs := rfl
theorem itmO_l {xs : List V} : itmO (some (.lst xs)) = some xs := rfl
theorem itmO_f {ob : Obj} {xs : List V} : itmO (some (.frz ob (.lst xs))) = some xs := rfl
theorem seqO_l {xs : List V} : seqO (some (.lst xs)) = some xs := rfl
theorem seqO_t {xs : List V} : seqO (some (.tup xs)) = some xs := rfl
theorem ltO_l {xs : List V} : ltO (some (.lst xs)) = some xs := rfl
theorem ltO_t {xs : List V} : ltO (some (.tup xs)) = some xs := rfl
theorem tupO_t {xs : List V} : tupO (some (.tup xs)) = some xs := rfl
theorem dkO_k {kvs : List (Key × V)} : dkO (some (.dK kvs)) = some kvs := rfl
theorem lenO_l {xs : List V} : lenO (some (.lst xs)) = some xs.length := rfl
theorem lenO_t {xs : List V} : lenO (some (.tup xs)) = some xs.length := rfl
theorem lenO_k {kvs : List (Key × V)} : lenO (some (.dK kvs)) = some kvs.length := rfl
theorem getO_l {xs : List V} {i : Int} : getO (some (.lst xs)) i = atI xs i := rfl
theorem getO_t {xs : List V} {i : Int} : getO (some (.tup xs)) i = atI xs i := rfl
theorem getO_f {ob : Obj} {xs : List V} {i : Int} : getO (some (.frz ob (.lst xs))) i = atI xs i := rfl
theorem getO_k {kvs : List (Key × V)} {i : Int} : getO (some (.dK kvs)) i = valV kvs (.inl i) := rfl
theorem getK_k {kvs : List (Key × V)} {z : Str} : getK (some (.dK kvs)) z = valV kvs (.inr z) := rfl
theorem atI_0 {α : Type} {a : α} {r : List α} : atI (a :: r) 0 = some a := by
  have := atI_nat' (a :: r) 0
  exact this
theorem atI_1 {α : Type} {a b : α} {r : List α} : atI (a :: b :: r) 1 = some b := by
  have := atI_nat' (a :: b :: r) 1
  exact this
theorem atI_2 {α : Type} {a b c : α} {r : List α} : atI (a :: b :: c :: r) 2 = some c := by
  have := atI_nat' (a :: b :: c :: r) 2
  exact this
theorem atI_3 {α : Type} {a b c d : α} {r : List α} : atI (a :: b :: c :: d :: r) 3 = some d := by
  have := atI_nat' (a :: b :: c :: d :: r) 3
  exact this
section
variable {σ : L2.St} {H H1 : Hp} {Q : VK} {E : XK} {D : Ends} {v x : V} {te ta tb tc : TE} {t u : TS}
theorem a_C : tC v σ H Q = Q v H := rfl
theorem a_Op {r : R2} : tOp r ta tb σ H Q = ta σ H fun x H1 => tb σ H1 fun y H2 => r x y H2 Q := rfl
theorem a_Un {r : V → Hp → VK → Prop} : tUn r ta σ H Q = ta σ H fun x H1 => r x H1 Q := rfl
theorem a_Test {R : Bool → Hp → Prop} : tTest ta σ H R = ta σ H fun x H' => ∃ k, x = .bl k ∧ R k H' := rfl
theorem a_B {R : Bool → Hp → Prop} : tB ta σ H R = ta σ H fun x H' => ∃ k, x = .bl k ∧ R k H' := rfl
theorem a_And {p q : TT} {R : Bool → Hp → Prop} : tAnd p q σ H R = p σ H fun c H1 => if c = true then q σ H1 R else R false H1 := rfl
theorem a_Or {p q : TT} {R : Bool → Hp → Prop} : tOr p q σ H R = p σ H fun c H1 => if c = true then R true H1 else q σ H1 R := rfl
theorem a_Not {p : TT} {R : Bool → Hp → Prop} : tNot p σ H R = p σ H fun c H1 => R (!c) H1 := rfl
theorem a_Yes {R : Bool → Hp → Prop} : tYes σ H R = R true H := rfl
theorem a_If {p : TT} : tIf p ta tb σ H Q = p σ H fun c H1 => if c = true then ta σ H1 Q else tb σ H1 Q := rfl
theorem a_AndV : tAndV ta tb σ H Q = ta σ H fun x H1 => ∃ c, x = .bl c ∧ if c = true then tb σ H1 Q else Q (.bl false) H1 := rfl
theorem a_OrV : tOrV ta tb σ H Q = ta σ H fun x H1 => ∃ c, x = .bl c ∧ if c = true then Q (.bl true) H1 else tb σ H1 Q := rfl
theorem a_NotV : tNotV ta σ H Q = ta σ H fun x H1 => ∃ c, x = .bl c ∧ Q (.bl (!c)) H1 := rfl
theorem a_Seq : tSeq t u D σ H = t { D with nx := Then (u D) } σ H := rfl
theorem a_Next : tNext D σ H = D.nx σ H := rfl
theorem a_Asg {g : TG} : tAsg te g D σ H = te σ H fun x H1 => g x σ H1 D.nx := rfl
theorem a_Name {i : Nat} {R : L2.St → Hp → Prop} : gName i v σ H R = R (σ.set i (some v)) H := rfl
theorem a_Ret : tRet te D σ H = te σ H D.rt := rfl
theorem a_RetN : tRetN D σ H = D.rt .non H := rfl
theorem a_IfS {p : TT} : tIfS p t u D σ H = p σ H fun b H1 => if b = true then t D σ H1 else u D σ H1 := rfl
theorem a_Drop : tDrop te D σ H = te σ H fun _ H1 => D.nx σ H1 := rfl
theorem a_Nil {R : List V → Hp → Prop} : tNil σ H R = R [] H := rfl
theorem a_Cons {tr : TA} {R : List V → Hp → Prop} : tCons ta tr σ H R = ta σ H fun x H1 => tr σ H1 fun xs H2 => R (x :: xs) H2 := rfl
theorem a_CB {r : List V → Hp → VK → Prop} {tr : TA} : tCB r tr σ H Q = tr σ H fun vs H1 => r vs H1 Q := rfl
theorem a_C0 {sp : Sp} {tr : TA} : tC0 sp tr σ H Q = tr σ H fun vs H1 => callU sp vs H1 Q := rfl
theorem a_Par {i j : Nat} {tr : TA} : tPar i j tr D σ H = tr σ H fun vs H1 => ∃ v w, vs = [v, w] ∧ D.nx ((σ.set i (some v)).set j (some w)) H1 := rfl
theorem a_Mth {chk : V → Hp → Prop} {r : V → List V → Hp → VK → Prop} {tr : TA} : tMth chk r ta tr σ H Q = ta σ H fun x H1 => chk x H1 ∧ tr σ H1 fun xs H2 => r x xs H2 Q := rfl
theorem a_Mth0 {chk : V → Hp → Prop} {r : V → List V → Hp → VK → Prop} : tMth0 chk r ta σ H Q = ta σ H fun x H1 => chk x H1 ∧ r x [] H1 Q := rfl
theorem a_For {wi : TI} {g : TG} : tFor wi g t D σ H = wi σ H fun J H1 => ForAt J g t D σ H1 := rfl
theorem a_Lc {wi : TI} {g : TG} {tt : TT} {vs : List Nat} : tLc wi g tt te vs σ H Q = wi σ H fun J H1 => LcAt J g tt te vs σ H1 Q := rfl
theorem a_lcTurn {g : TG} {tt : TT} {vs : List Nat} {R : Option V → Hp → Prop} : lcTurn g tt te vs σ x H R = g x (wipe σ vs) H fun σ2 H2 => wipe σ2 vs = wipe σ vs ∧ tt σ2 H2 fun b H3 => if b = true then te σ2 H3 fun y H4 => R (some y) H4 else R none H3 := rfl
theorem a_Sl {r : V → Option Int → Option Int → Hp → VK → Prop} {tl th : TO} : tSl r te tl th σ H Q = te σ H fun x H1 => tl σ H1 fun l H2 => th σ H2 fun u H3 => r x l u H3 Q := rfl
theorem a_NoPart {R : Option Int → Hp → Prop} : tNoPart σ H R = R none H := rfl
theorem a_Part {R : Option Int → Hp → Prop} : tPart te σ H R = te σ H fun x H1 => ∃ i, x = .int i ∧ R (some i) H1 := rfl
theorem a_Chain {r r' : R2} : tChain r r' ta tb tc σ H Q = ta σ H fun x H1 => tb σ H1 fun y H2 => r x y H2 fun z H3 => ∃ k, z = .bl k ∧ (if k = true then tc σ H3 fun w' H4 => r' y w' H4 Q else Q (.bl false) H3) := rfl
theorem a_Lst {tr : TA} : tLst tr σ H Q = tr σ H fun xs H1 => xs.length ≤ sizeLine ∧ ∀ p, H1 p = none → Q (.ref p) (upd H1 p (.lst xs)) := rfl
theorem a_Tup {tr : TA} : tTup tr σ H Q = tr σ H fun xs H1 => xs.length ≤ sizeLine ∧ ∀ p, H1 p = none → Q (.ref p) (upd H1 p (.tup xs)) := rfl
theorem a_While {c : TT} : tWhile c t D σ H = (∃ W : Nat → L2.St → Hp → Prop, (∃ m, W m σ H) ∧ ∀ m σ H, W m σ H → c σ H fun b H1 => if b = true then ∃ N : L2.St → Hp → Prop, (∀ σ' H', N σ' H' → ∃ m', m' < m ∧ W m' σ' H') ∧ t { D with nx := N, ct := N, bk := D.nx } σ H1 else D.nx σ H1) := rfl
/-! values -/
theorem a_addI {i j : Int} : rAddP (.int i) (.int j) H Q = Q (.int (i + j)) H := rfl
theorem a_addS {a b : Str} : rAddP (.str a) (.str b) H Q = (a.length + b.length ≤ sizeLine ∧ Q (.str (a ++ b)) H) := rfl
theorem a_addL {l b : Addr} : rAddP (.ref l) (.ref b) H Q = onSome (lstO (H l)) fun xs => onSome (lstO (H b)) fun ys => xs.length + ys.length ≤ sizeLine ∧ ∀ p, H p = none → Q (.ref p) (upd H p (.lst (xs ++ ys))) := by
  show (match H l, H b with
    | some (.lst xs), some (.lst ys) => xs.length + ys.length ≤ sizeLine ∧ ∀ p, H p = none → Q (.ref p) (upd H p (.lst (xs ++ ys)))
    | _, _ => False) = _
  cases H l with
  | none => rfl
  | some o =>
    cases o with
    | lst xs =>
      cases H b with
      | none => rfl
      | some o2 => cases o2 <;> rfl
    | _ => rfl
theorem a_eqI {i j : Int} : rEqP (.int i) (.int j) H Q = Q (.bl (decide (i = j))) H := by
  show Q (.bl (decide (V.int i = V.int j))) H = _
  simp only [V.int.injEq]
theorem a_eqS {a b : Str} : rEqP (.str a) (.str b) H Q = Q (.bl (decide (a = b))) H := by
  show Q (.bl (decide (V.str a = V.str b))) H = _
  simp only [V.str.injEq]
theorem a_eqB {a b : Bool} : rEqP (.bl a) (.bl b) H Q = Q (.bl (decide (a = b))) H := by
  show Q (.bl (decide (V.bl a = V.bl b))) H = _
  simp only [V.bl.injEq]
theorem a_neI {i j : Int} : rNeP (.int i) (.int j) H Q = Q (.bl (!decide (i = j))) H := by
  show Q (.bl (!decide (V.int i = V.int j))) H = _
  simp only [V.int.injEq]
theorem a_neS {a b : Str} : rNeP (.str a) (.str b) H Q = Q (.bl (!decide (a = b))) H := by
  show Q (.bl (!decide (V.str a = V.str b))) H = _
  simp only [V.str.injEq]
theorem a_neB {a b : Bool} : rNeP (.bl a) (.bl b) H Q = Q (.bl (!decide (a = b))) H := by
  show Q (.bl (!decide (V.bl a = V.bl b))) H = _
  simp only [V.bl.injEq]
theorem a_itS {z : Str} {i : Int} : rItem (.str z) (.int i) H Q = (z.length ≤ sizeLine ∧ onSome (atI z.cps.toList i) fun c => Q (.str (S [c])) H) := by
  simp only [rItem, onS]
  generalize atI z.cps.toList i = o
  cases o <;> rfl
theorem a_itR {a : Addr} {i : Int} : rItem (.ref a) (.int i) H Q = onSome (getO (H a) i) fun v => Q v H := by
  unfold rItem
  dsimp only
  cases H a with
  | none => rfl
  | some o =>
    cases o with
    | lst xs => simp only [getO_l, onS]; generalize atI xs i = o; cases o <;> rfl
    | tup xs => simp only [getO_t, onS]; generalize atI xs i = o; cases o <;> rfl
    | dK kvs => simp only [getO_k, onS]; generalize valV kvs (.inl i) = o; cases o <;> rfl
    | frz ob u =>
      cases u with
      | lst xs => simp only [getO_f, onS]; generalize atI xs i = o; cases o <;> rfl
      | _ => rfl
    | _ => rfl
theorem a_itK {a : Addr} {z : Str} : rItem (.ref a) (.str z) H Q = onSome (getK (H a) z) fun v => Q v H := by
  unfold rItem
  dsimp only
  cases H a with
  | none => rfl
  | some o =>
    cases o with
    | dK kvs => simp only [getK_k, onS]; generalize valV kvs (.inr z) = o; cases o <;> rfl
    | _ => rfl
theorem a_nil1 {neg : Bool} : tNil1 neg te σ H Q = te σ H fun x H1 => rNil neg x H1 Q := rfl
theorem a_nilR {neg : Bool} {a : Addr} : rNil neg (.ref a) H Q = onSome (lstO (H a)) fun xs => Q (.bl (if neg then !xs.isEmpty else xs.isEmpty)) H := by
  unfold rNil
  dsimp only
  cases H a with
  | none => rfl
  | some o => cases o <;> rfl
def rRev : V → Hp → VK → Prop := fun x H1 Q => match x with
  | .str z => z.length ≤ sizeLine ∧ Q (.str (S z.cps.toList.reverse)) H1
  | _ => False
theorem a_revS : tRevS te σ H Q = te σ H fun x H1 => rRev x H1 Q := by
  unfold tRevS rRev
  congr 1
theorem a_revT {z : Str} : rRev (.str z) H Q = (z.length ≤ sizeLine ∧ Q (.str (S z.cps.toList.reverse)) H) := rfl
theorem a_lenS {z : Str} : cLen [.str z] H Q = (z.length ≤ sizeLine ∧ Q (.int z.length) H) := rfl
theorem a_lenR {a : Addr} : cLen [.ref a] H Q = onSome (lenO (H a)) fun n => Q (.int (n : Int)) H := by
  unfold cLen
  dsimp only
  cases H a with
  | none => rfl
  | some o =>
    cases o with
    | frz ob u => cases u <;> rfl
    | _ => rfl
theorem a_abs {i : Int} : cAbs [.int i] H Q = Q (.int (i.natAbs : Int)) H := rfl
theorem a_int {i : Int} : cInt [.int i] H Q = Q (.int i) H := rfl
theorem a_intB {k : Bool} : cInt [.bl k] H Q = Q (.int (if k then 1 else 0)) H := rfl
theorem a_listR {a : Addr} : cList [.ref a] H Q = onSome (ltO (H a)) fun xs => ∀ l, H l = none → Q (.ref l) (upd H l (.lst xs)) := by
  unfold cList
  dsimp only
  cases H a with
  | none => rfl
  | some o => cases o <;> rfl
theorem a_listS {z : Str} : cList [.str z] H Q = (z.length ≤ sizeLine ∧ ∀ l, H l = none → Q (.ref l) (upd H l (.lst (z.cps.toList.map fun c => V.str (S [c]))))) := rfl
theorem a_all {a : Addr} : cAll [.ref a] H Q = onSome (lstO (H a)) fun xs => onSome (allBl xs) fun bs => Q (.bl (bs.all id)) H := by
  unfold cAll
  dsimp only
  cases H a with
  | none => rfl
  | some o =>
    cases o with
    | lst xs => simp only [lstO_l, onSome_some, onS]; generalize allBl xs = o; cases o <;> rfl
    | _ => rfl
theorem a_any {a : Addr} : cAny [.ref a] H Q = onSome (lstO (H a)) fun xs => onSome (allBl xs) fun bs => Q (.bl (bs.any id)) H := by
  unfold cAny
  dsimp only
  cases H a with
  | none => rfl
  | some o =>
    cases o with
    | lst xs => simp only [lstO_l, onSome_some, onS]; generalize allBl xs = o; cases o <;> rfl
    | _ => rfl
theorem a_append {l : Addr} {y : V} : mAppend (.ref l) [y] H Q = onSome (lstO (H l)) fun xs => xs.length < sizeLine ∧ Q .non (upd H l (.lst (xs ++ [y]))) := by
  unfold mAppend
  dsimp only
  cases H l with
  | none => rfl
  | some o => cases o <;> rfl
theorem a_pop {l : Addr} : mPop (.ref l) [] H Q = onSome (lstO (H l)) fun xs => onSome xs.getLast? fun y => Q y (upd H l (.lst xs.dropLast)) := by
  unfold mPop
  dsimp only
  cases H l with
  | none => rfl
  | some o =>
    cases o with
    | lst xs => simp only [lstO_l, onSome_some, onS]; generalize xs.getLast? = o; cases o <;> rfl
    | _ => rfl
theorem a_popI {l : Addr} {i : Int} : mPop (.ref l) [.int i] H Q = onSome (lstO (H l)) fun xs => 0 ≤ i ∧ onSome xs[i.toNat]? fun y => Q y (upd H l (.lst (xs.eraseIdx i.toNat))) := by
  unfold mPop
  dsimp only
  cases H l with
  | none => rfl
  | some o =>
    cases o with
    | lst xs => simp only [lstO_l, onSome_some, onS]; generalize xs[i.toNat]? = o; cases o <;> rfl
    | _ => rfl
theorem a_extend {l b : Addr} : mExtend (.ref l) [.ref b] H Q = onSome (lstO (H l)) fun xs => onSome (lstO (H b)) fun ys => xs.length + ys.length ≤ sizeLine ∧ Q .non (upd H l (.lst (xs ++ ys))) := by
  unfold mExtend
  dsimp only
  cases H l with
  | none => rfl
  | some o =>
    cases o with
    | lst xs =>
      cases H b with
      | none => rfl
      | some o2 => cases o2 <;> rfl
    | _ => rfl
theorem a_join {z : Str} {p : Addr} : mJoin (.str z) [.ref p] H Q = onSome (ltO (H p)) fun xs => onSome (allTxt xs) fun ls => (ls.map (·.length)).sum + ls.length * z.length ≤ 16777216 ∧ Q (.str (S (TL.joinL z.cps.toList ls))) H := by
  unfold mJoin strsAt
  dsimp only
  cases H p with
  | none => rfl
  | some o =>
    cases o with
    | lst xs => simp only [ltO_l, onSome_some, onS]; generalize allTxt xs = o; cases o <;> rfl
    | tup xs => simp only [ltO_t, onSome_some, onS]; generalize allTxt xs = o; cases o <;> rfl
    | _ => rfl
theorem a_index {l : List Nat} {c : Nat} : mIndex (.str (S l)) [.str (S [c])] H Q = (c ∈ l ∧ Q (.int ((l.idxOf c : Nat) : Int)) H) := by
  simp only [mIndex, S_tl, S_len]
theorem a_upper {l : List Nat} : mUpper (.str (S l)) [] H Q = ((l.all (· < 128)) = true ∧ l.length ≤ 5592405 ∧ Q (.str (S (upL l))) H) := by
  simp only [mUpper, S_tl, S_len]
theorem a_lower {l : List Nat} : mLower (.str (S l)) [] H Q = ((l.all (· < 128)) = true ∧ l.length ≤ 5592405 ∧ Q (.str (S (loL l))) H) := by
  simp only [mLower, S_tl, S_len]
theorem a_wItem {kvs : List (Str × V)} {z : Str} : rWItem kvs (.str z) H Q = onSome (kvs.lookup z) fun v => Q v H := by
  unfold rWItem
  dsimp only
  cases kvs.lookup z <;> rfl
theorem a_wIn {kvs : List (Str × V)} {neg : Bool} {z : Str} : rWIn neg kvs (.str z) H Q = Q (.bl (if neg then !(kvs.lookup z).isSome else (kvs.lookup z).isSome)) H := rfl
theorem a_inS {neg : Bool} {c : Nat} {l : List Nat} : rInSP neg (.str (S [c])) (.str (S l)) H Q = Q (.bl (if neg then !decide (c ∈ l) else decide (c ∈ l))) H := by
  simp only [rInSP, S_tl, S_len]
theorem a_inL {neg : Bool} {a : Addr} : rInP neg x (.ref a) H Q = onSome (seqO (H a)) fun xs => (flatV x = true ∧ xs.all flatV = true) ∧ Q (.bl (if neg then !inV x xs else inV x xs)) H := by
  unfold rInP seqAt
  dsimp only
  cases H a with
  | none => rfl
  | some o =>
    cases o with
    | frz ob u => cases u <;> rfl
    | _ => rfl
theorem a_isB {neg : Bool} {a b : Bool} : rIsBP neg (.bl a) (.bl b) H Q = Q (.bl (if neg then !decide (a = b) else decide (a = b))) H := rfl
theorem a_slS {lo hi : Option Int} {l : List Nat} : rSlSP (.str (S l)) lo hi H Q = (l.length ≤ sizeLine ∧ Q (.str (S (cutL l lo hi))) H) := by
  simp only [rSlSP, S_tl, S_len]
theorem a_slL {lo hi : Option Int} {a : Addr} : rSlLP (.ref a) lo hi H Q = onSome (itmO (H a)) fun xs => ∀ p, H p = none → Q (.ref p) (upd H p (.lst (cutV xs lo hi))) := by
  unfold rSlLP itemsAt
  dsimp only
  cases H a with
  | none => rfl
  | some o =>
    cases o with
    | frz ob u => cases u <;> rfl
    | _ => rfl
theorem a_isi {T : String} : cIsi [x, .ty T] H Q = (T ∈ tyNames ∧ onSome (tyName x H) fun t => Q (.bl (isiB t T)) H) := by
  unfold cIsi
  dsimp only
  cases tyName x H <;> rfl
def iL (K : PySem.W.Frag) (x : V) (H1 : Hp) (R : It → Hp → Prop) : Prop := match x with
  | .ref a => onSome (itmO (H1 a)) fun _ => R (Itl K a) H1
  | _ => False
theorem a_iL {K : PySem.W.Frag} {R : It → Hp → Prop} : iListP K te σ H R = te σ H fun x H1 => iL K x H1 R := by
  unfold iListP iL itemsAt
  congr 1
  funext x H1
  cases x with
  | ref a =>
    dsimp only
    cases H1 a with
    | none => rfl
    | some o =>
      cases o with
      | frz ob u => cases u <;> rfl
      | _ => rfl
  | _ => rfl
theorem a_iLr {K : PySem.W.Frag} {a : Addr} {R : It → Hp → Prop} : iL K (.ref a) H1 R = onSome (itmO (H1 a)) fun _ => R (Itl K a) H1 := rfl
def iT (K : PySem.W.Frag) (x : V) (H1 : Hp) (R : It → Hp → Prop) : Prop := match x with
  | .ref a => onSome (tupO (H1 a)) fun _ => R (Itt K a) H1
  | _ => False
theorem a_iT {K : PySem.W.Frag} {R : It → Hp → Prop} : iTupP K te σ H R = te σ H fun x H1 => iT K x H1 R := by
  unfold iTupP iT
  congr 1
  funext x H1
  cases x with
  | ref a =>
    dsimp only
    cases H1 a with
    | none => rfl
    | some o => cases o <;> rfl
  | _ => rfl
theorem a_iTr {K : PySem.W.Frag} {a : Addr} {R : It → Hp → Prop} : iT K (.ref a) H1 R = onSome (tupO (H1 a)) fun _ => R (Itt K a) H1 := rfl
def iS (x : V) (H1 : Hp) (R : It → Hp → Prop) : Prop := match x with
  | .str z => R (Its z) H1
  | _ => False
theorem a_iS {R : It → Hp → Prop} : iStrP te σ H R = te σ H fun x H1 => iS x H1 R := by
  unfold iStrP iS
  congr 1
theorem a_iSs {z : Str} {R : It → Hp → Prop} : iS (.str z) H1 R = R (Its z) H1 := rfl
def iR1 (vs : List V) (H1 : Hp) (R : It → Hp → Prop) : Prop := match vs with
  | [.int j] => (-1000000000 ≤ j ∧ j < 1000000000) ∧ R (Itr 0 j.toNat) H1
  | _ => False
theorem a_iR1 {tr : TA} {R : It → Hp → Prop} : iRng1P tr σ H R = tr σ H fun vs H1 => iR1 vs H1 R := by
  unfold iRng1P iR1
  congr 1
theorem a_iR1i {j : Int} {R : It → Hp → Prop} : iR1 [.int j] H1 R = ((-1000000000 ≤ j ∧ j < 1000000000) ∧ R (Itr 0 j.toNat) H1) := rfl
def iR2 (vs : List V) (H1 : Hp) (R : It → Hp → Prop) : Prop := match vs with
  | [.int i, .int j] => (-1000000000 ≤ i ∧ i < 1000000000 ∧ -1000000000 ≤ j ∧ j < 1000000000) ∧ R (Itr i (j - i).toNat) H1
  | _ => False
theorem a_iR2 {tr : TA} {R : It → Hp → Prop} : iRng2P tr σ H R = tr σ H fun vs H1 => iR2 vs H1 R := by
  unfold iRng2P iR2
  congr 1
theorem a_iR2i {i j : Int} {R : It → Hp → Prop} : iR2 [.int i, .int j] H1 R = ((-1000000000 ≤ i ∧ i < 1000000000 ∧ -1000000000 ≤ j ∧ j < 1000000000) ∧ R (Itr i (j - i).toNat) H1) := rfl
theorem a_isLst {a : Addr} : isLst (.ref a) H = onSome (lstO (H a)) fun _ => True := by
  unfold isLst
  dsimp only
  cases H a with
  | none => rfl
  | some o => cases o <;> rfl
theorem a_isTxt {z : Str} : isTxt (.str z) H = True := rfl
/-! (a, b, ..) = a list, a tuple of that length -/
def gU (n : Nat) (ts : TGs) : TG := fun v σ H Q => match v with
  | .ref a => onSome (lstO (H a)) fun xs => xs.length = n ∧ ts xs σ H Q
  | _ => False
theorem a_gU {n : Nat} {ts : TGs} {a : Addr} {R : L2.St → Hp → Prop} : gU n ts (.ref a) σ H R = onSome (lstO (H a)) fun xs => xs.length = n ∧ ts xs σ H R := rfl
def gT (n : Nat) (ts : TGs) : TG := fun v σ H Q => match v with
  | .ref a => onSome (tupO (H a)) fun xs => xs.length = n ∧ ts xs σ H Q
  | _ => False
theorem a_gT {n : Nat} {ts : TGs} {a : Addr} {R : L2.St → Hp → Prop} : gT n ts (.ref a) σ H R = onSome (tupO (H a)) fun xs => xs.length = n ∧ ts xs σ H R := rfl
theorem a_gCons {tg : TG} {us : TGs} {y : V} {r : List V} {R : L2.St → Hp → Prop} : gCons tg us (y :: r) σ H R = tg y σ H fun σ' H' => us r σ' H' R := by
  apply propext
  constructor
  · rintro ⟨v, r', e, q⟩
    cases e
    exact q
  · intro q
    exact ⟨y, r, rfl, q⟩
theorem a_gNil {R : L2.St → Hp → Prop} : gNil [] σ H R = R σ H := by
  apply propext
  exact ⟨fun h => h.2, fun h => ⟨rfl, h⟩⟩
theorem PG.of {X : Cx} {tg : Expr} {g g' : TG} (h : PG X tg g) (f : ∀ v σ H Q, g' v σ H Q → g v σ H Q) : PG X tg g' := ⟨fun pins s σ H v u Q I r q => h.run pins s σ H v u Q I r (f v σ H Q q)⟩
theorem pg_unlP {X : Cx} {es : List Expr} {k : Nat} {ts : TGs} {n : Nat} {pos : Pos} (hc : X.calm = true) (h : PGs X es ts) (hn : (assignEach es X.env).length = n := by rfl) (hst : (assignEach es X.env).findIdx? (·.1) = none := by rfl) : PG X (.Tuple es k pos) (gU n ts) :=
  PG.of (pg_unl hc h hn hst) fun v σ H Q q => by
    cases v with
    | ref a =>
      rw [a_gU] at q
      cases e : H a with
      | none => rw [e] at q; exact False.elim q
      | some o =>
        rw [e] at q
        cases o with
        | lst xs => exact ⟨a, xs, rfl, .inl (.inl e), q⟩
        | _ => exact False.elim q
    | _ => exact False.elim q
theorem pg_tupP {X : Cx} {es : List Expr} {k : Nat} {ts : TGs} {n : Nat} {pos : Pos} (hc : X.calm = true) (h : PGs X es ts) (hn : (assignEach es X.env).length = n := by rfl) (hst : (assignEach es X.env).findIdx? (·.1) = none := by rfl) : PG X (.Tuple es k pos) (gT n ts) :=
  PG.of (pg_tup hc h hn hst) fun v σ H Q q => by
    cases v with
    | ref a =>
      rw [a_gT] at q
      cases e : H a with
      | none => rw [e] at q; exact False.elim q
      | some o =>
        rw [e] at q
        cases o with
        | tup xs => exact ⟨a, xs, rfl, SqT.of e, q⟩
        | _ => exact False.elim q
    | _ => exact False.elim q
end
end Z
namespace Z
open PySem PySem.Spec PyProof.Rows L2
def topS (i : Nat) : Stmt := PySem.Challenge.pw_trialrows_k02_left_out_in_any_order.main.body.getD i (.Pass ⟨0, 0, 0, 0⟩)
abbrev s_has_steps : Stmt := topS 6
abbrev s_is_row : Stmt := topS 7
abbrev s_is_short : Stmt := topS 8
abbrev s_need_row : Stmt := topS 9
abbrev s_reversed_steps : Stmt := topS 10
abbrev s_shortened : Stmt := topS 11
abbrev s_undone : Stmt := topS 12
abbrev s_short : Stmt := topS 13
abbrev s_joined : Stmt := topS 14
abbrev s__law_begun : Stmt := topS 16
abbrev s__law_next : Stmt := topS 17
abbrev s__law_pick : Stmt := topS 18
abbrev s__law_shuffled : Stmt := topS 19
abbrev s__law_undo : Stmt := topS 20
abbrev s__law_back : Stmt := topS 21
abbrev s__law_row : Stmt := topS 22
abbrev s__law_some : Stmt := topS 23
abbrev s__law_thinned : Stmt := topS 24
abbrev s_law : Stmt := topS 25
def d_has_steps : He.DefD := ⟨("has_steps", none), "has_steps", "has_steps", defArgs s_has_steps, defBody s_has_steps, defScope s_has_steps, [], []⟩
def d_is_row : He.DefD := ⟨("is_row", none), "is_row", "is_row", defArgs s_is_row, defBody s_is_row, defScope s_is_row, [], []⟩
def d_is_short : He.DefD := ⟨("is_short", none), "is_short", "is_short", defArgs s_is_short, defBody s_is_short, defScope s_is_short, [], []⟩
def d_need_row : He.DefD := ⟨("need_row", none), "need_row", "need_row", defArgs s_need_row, defBody s_need_row, defScope s_need_row, [], []⟩
def d_reversed_steps : He.DefD := ⟨("reversed_steps", none), "reversed_steps", "reversed_steps", defArgs s_reversed_steps, defBody s_reversed_steps, defScope s_reversed_steps, [], []⟩
def d_shortened : He.DefD := ⟨("shortened", none), "shortened", "shortened", defArgs s_shortened, defBody s_shortened, defScope s_shortened, [], []⟩
def d_undone : He.DefD := ⟨("undone", none), "undone", "undone", defArgs s_undone, defBody s_undone, defScope s_undone, [], []⟩
def d_short : He.DefD := ⟨("short", none), "short", "short", defArgs s_short, defBody s_short, defScope s_short, [], []⟩
def d_joined : He.DefD := ⟨("joined", none), "joined", "joined", defArgs s_joined, defBody s_joined, defScope s_joined, [], []⟩
def d__law_begun : He.DefD := ⟨("_law_begun", none), "_law_begun", "_law_begun", defArgs s__law_begun, defBody s__law_begun, defScope s__law_begun, [], []⟩
def d__law_next : He.DefD := ⟨("_law_next", none), "_law_next", "_law_next", defArgs s__law_next, defBody s__law_next, defScope s__law_next, [], []⟩
def d__law_pick : He.DefD := ⟨("_law_pick", none), "_law_pick", "_law_pick", defArgs s__law_pick, defBody s__law_pick, defScope s__law_pick, [], []⟩
def d__law_shuffled : He.DefD := ⟨("_law_shuffled", none), "_law_shuffled", "_law_shuffled", defArgs s__law_shuffled, defBody s__law_shuffled, defScope s__law_shuffled, [], []⟩
def d__law_undo : He.DefD := ⟨("_law_undo", none), "_law_undo", "_law_undo", defArgs s__law_undo, defBody s__law_undo, defScope s__law_undo, [], []⟩
def d__law_back : He.DefD := ⟨("_law_back", none), "_law_back", "_law_back", defArgs s__law_back, defBody s__law_back, defScope s__law_back, [], []⟩
def d__law_row : He.DefD := ⟨("_law_row", none), "_law_row", "_law_row", defArgs s__law_row, defBody s__law_row, defScope s__law_row, [], []⟩
def d__law_some : He.DefD := ⟨("_law_some", none), "_law_some", "_law_some", defArgs s__law_some, defBody s__law_some, defScope s__law_some, [], []⟩
def d__law_thinned : He.DefD := ⟨("_law_thinned", none), "_law_thinned", "_law_thinned", defArgs s__law_thinned, defBody s__law_thinned, defScope s__law_thinned, [], []⟩
def d_law : He.DefD := ⟨("law", none), "law", "law", defArgs s_law, defBody s_law, defScope s_law, [], []⟩
def fn : List He.DefD := [d_has_steps, d_is_row, d_is_short, d_need_row, d_reversed_steps, d_shortened, d_undone, d_short, d_joined, d__law_begun, d__law_next, d__law_pick, d__law_shuffled, d__law_undo, d__law_back, d__law_row, d__law_some, d__law_thinned, d_law]
def fa : List He.Fa := [.glo "has_steps", .glo "is_row", .glo "is_short", .glo "need_row", .glo "reversed_steps", .glo "shortened", .glo "undone", .glo "short", .glo "joined", .glo "_law_begun", .glo "_law_next", .glo "_law_pick", .glo "_law_shuffled", .glo "_law_undo", .glo "_law_back", .glo "_law_row", .glo "_law_some", .glo "_law_thinned", .glo "law", .free "ValueError", .free "abs", .free "all", .free "int", .free "isinstance", .free "len", .free "list", .free "range", .free "str", .int "MOST_STEPS" 400, .glo "UNDOS"]
def w_UNDOS : Wd := ("UNDOS", [("a", .str "A"), ("b", .str "B"), ("c", .str "C"), ("d", .str "D"), ("A", .str "a"), ("B", .str "b"), ("C", .str "c"), ("D", .str "d")])
def wd : List Wd := [w_UNDOS]
theorem lit0 : Str.ofString "no row" = S [110, 111, 32, 114, 111, 119] := by decide +kernel
theorem lit1 : Str.ofString "" = S [] := by decide +kernel
theorem lit2 : Str.ofString "abcdABCD" = S [97, 98, 99, 100, 65, 66, 67, 68] := by decide +kernel
theorem lit3 : Str.ofString "ABCDabcd" = S [65, 66, 67, 68, 97, 98, 99, 100] := by decide +kernel
theorem lit4 : Str.ofString "abcd" = S [97, 98, 99, 100] := by decide +kernel
/-! ### steps -/
def isStep (c : Nat) : Bool := (65 ≤ c && c ≤ 68) || (97 ≤ c && c ≤ 100)
def und (c : Nat) : Nat := if 97 ≤ c then c - 32 else c + 32
abbrev undosV : List (Str × V) := [("a", .str "A"), ("b", .str "B"), ("c", .str "C"), ("d", .str "D"), ("A", .str "a"), ("B", .str "b"), ("C", .str "c"), ("D", .str "d")]
theorem step_cases {c : Nat} (h : isStep c = true) : c = 65 ∨ c = 66 ∨ c = 67 ∨ c = 68 ∨ c = 97 ∨ c = 98 ∨ c = 99 ∨ c = 100 := by
  simp [isStep] at h
  omega
theorem wUNDOS {K : PySem.W.Frag} : (w_UNDOS.2.map fun q => (q.1, q.2.v K)) = undosV := rfl
theorem undos_get {c : Nat} (h : isStep c = true) : undosV.lookup (S [c]) = some (.str (S [und c])) := by
  rcases step_cases h with rfl | rfl | rfl | rfl | rfl | rfl | rfl | rfl <;> decide +kernel
theorem undos_keys : undosV.map (·.1) = [97, 98, 99, 100, 65, 66, 67, 68].map fun c => S [c] := by decide +kernel
theorem lookup_none {x : Str} : ∀ {l : List (Str × V)}, x ∉ l.map (·.1) → l.lookup x = none
  | [], _ => rfl
  | q :: l, h => by
    have h1 : x ≠ q.1 := fun e => h (by simp [e])
    have h2 : (x == q.1) = false := by simp [h1]
    rw [List.lookup_cons, h2]
    exact lookup_none fun z => h (by rw [List.map_cons]; exact List.mem_cons_of_mem _ z)
theorem undos_some (c : Nat) : (undosV.lookup (S [c])).isSome = isStep c := by
  cases h : isStep c with
  | true => rw [undos_get h] <;> rfl
  | false =>
    rw [lookup_none] <;> try rfl
    rw [undos_keys]
    intro z
    obtain ⟨k, hk, e⟩ := List.mem_map.mp z
    have e2 : [k] = [c] := S_inj.mp e
    have e3 : k = c := by simpa using e2
    subst e3
    simp at hk
    simp [isStep] at h
    omega
def redStep (st : List Nat) (c : Nat) : List Nat := if st.getLast? = some (und c) then st.dropLast else st ++ [c]
def red (l : List Nat) : List Nat := l.foldl redStep []
theorem red_snoc (l : List Nat) (c : Nat) : red (l ++ [c]) = redStep (red l) c := by
  unfold red
  rw [List.foldl_append] <;> rfl
theorem redStep_len (st : List Nat) (c : Nat) : (redStep st c).length ≤ st.length + 1 := by
  unfold redStep
  split
  · rw [List.length_dropLast]; omega
  · rw [List.length_append]; simp
theorem foldl_len : ∀ (l st : List Nat), (l.foldl redStep st).length ≤ st.length + l.length := by
  intro l
  induction l with
  | nil => intro st; simp
  | cons c l ih =>
    intro st
    have h1 := ih (redStep st c)
    have h2 := redStep_len st c
    rw [List.foldl_cons, List.length_cons]
    omega
theorem red_len (l : List Nat) : (red l).length ≤ l.length := by
  have := foldl_len l []
  unfold red
  simpa using this
/-- a def of one text that gives a truth value, one that gives a text -/
def R_bool1 (f : List Nat → Bool) (vs : List V) (v : V) : Prop := ∃ l : List Nat, vs = [.str (S l)] ∧ l.length ≤ 100000 ∧ v = .bl (f l)
def R_str1 (ok : List Nat → Bool) (f : List Nat → List Nat) (vs : List V) (v : V) : Prop := ∃ l : List Nat, vs = [.str (S l)] ∧ (ok l = true ∧ l.length ≤ 100000) ∧ v = .str (S (f l))
theorem c_bool1 {f : List Nat → Bool} {l : List Nat} {H : Hp} {Q : VK} {E : XK} : spPure (R_bool1 f) [.str (S l)] H Q E = (l.length ≤ 100000 ∧ Q (.bl (f l)) H) := by
  apply propext
  constructor
  · rintro ⟨_, ⟨l', e, h, rfl⟩, q⟩
    have e2 : l = l' := by simpa [S_inj] using e
    subst e2
    exact ⟨h, q⟩
  · rintro ⟨h, q⟩
    exact ⟨_, ⟨l, rfl, h, rfl⟩, q⟩
theorem c_str1 {ok : List Nat → Bool} {f : List Nat → List Nat} {l : List Nat} {H : Hp} {Q : VK} {E : XK} : spPure (R_str1 ok f) [.str (S l)] H Q E = ((ok l = true ∧ l.length ≤ 100000) ∧ Q (.str (S (f l))) H) := by
  apply propext
  constructor
  · rintro ⟨_, ⟨l', e, h, rfl⟩, q⟩
    have e2 : l = l' := by simpa [S_inj] using e
    subst e2
    exact ⟨h, q⟩
  · rintro ⟨h, q⟩
    exact ⟨_, ⟨l, rfl, h, rfl⟩, q⟩
def stepsB (l : List Nat) : Bool := l.all isStep
def rowB (l : List Nat) : Bool := l.all isStep && decide (l.length ≤ 400)
def shortB (l : List Nat) : Bool := rowB l && decide (red l = l)
def inv (l : List Nat) : List Nat := l.reverse.map und
theorem sc_shortened : FnScope ["text", "left", "step"] ["text"] (defScope s_shortened) := ⟨rfl, rfl, rfl, by decide +kernel, rfl, by decide +kernel, by decide +kernel⟩
theorem ok_shortened {P : Program} {w : World} {K : PySem.W.Frag} {mg : Str → Option Value} {base : Heap} (T : Ctx fa fn wd w K mg) : Cal P w K mg base CX0 1 "shortened" ["text"] (spPure (R_str1 stepsB red)) := by
  obtain ⟨fd, F⟩ := T.fun_ d_shortened 5 rfl
  refine Cal.imp (sp := spFrame (spPure0 (R_str1 stepsB red))) (Cal.frame ⟨_, fd, T.glo "shortened" 5 rfl, ?_, F.kp, FunD.bindsN F fun _ _ _ _ _ _ us hl => match us, hl with | [_], _ => rfl⟩) fun vs H Q E h => pure_frame vs H Q E h
  refine FunD.ok F sc_shortened (fun vs H Q E h => (by obtain ⟨_, _, ⟨_, rfl, _⟩, _⟩ := h; rfl)) (fun cdv A outer s H vs Q E hr h => ?_)
  have hu : A.units + 3 + 1 < cLine := Nat.lt_of_le_of_lt (Nat.add_le_add_left (by decide : 1 ≤ 64) _) hr.units
  have hu0 : A.units + 3 < cLine := hr.units0
  obtain ⟨rfl, _, ⟨l, rfl, ⟨hs, hl⟩, rfl⟩, q⟩ := h
  refine ⟨_, PSs.nox (pss_cons (ps_set (i := 1) sc_shortened.nd rfl (by first | exact Or.inl rfl | exact Or.inr rfl) (pe_lst pa_nil))
      (pss_cons (ps_for PassesOwn.never rfl (pi_strP (pv 0)) (pg_name (i := 2) sc_shortened.nd rfl (by first | exact Or.inl rfl | exact Or.inr rfl)) (pss_one (ps_if (PW.pt (pw_and (pt_cmp (pc_neNil hu0 (pv 1)) (by rfl)) (pw_and1 (pt_cmpR op_eqP (pe_ix (ix_P hu) (pv 1) (pe_un un_neg pe_int) (fun _ _ => rfl)) (pe_wItem (T.wdt w_UNDOS 0 rfl) rfl (T.glo "UNDOS" 29 rfl) (pv 2) (fun _ _ => rfl)) (nomark _))))) (pss_one (ps_expr (pe_mth0 PySem.F.plainAttrs_list PySem.F.slot_list_pop PySem.F.type_list_pop (fun _ _ z => isLst_ty z) mtr_pop (pv 1)))) (pss_one (ps_expr (pe_mth PySem.F.plainAttrs_list PySem.F.slot_list_append PySem.F.type_list_append (fun _ _ z => isLst_ty z) mtr_append (pv 1) (pa_cons (pv 2) pa_nil)))))))
      (pss_one (ps_ret (pe_mth PySem.F.plainAttrs_str PySem.F.slot_str_join PySem.F.type_str_join (fun _ _ z => isTxt_ty z) mtr_join pe_str (pa_cons (pv 1) pa_nil)))))), ?_⟩
  simp (maxSteps := 1000000) only [lcTurn, sizeLine_eq, L2.start, Nat.zero_le, List.replicate_succ, List.replicate_zero, Nat.reduceSub, Nat.sub_self, tC, tOp, tUn, tTest, tB, tAnd, tOr, tNot, tIf, tAndV, tOrV, tNotV, tSeq, tNext, tAsg, gName, tRet, tRetN, tIfS, tDrop, tNil, tCons, tCB, tC0, tPar, tMth, tMth0, tFor_at, tLc_at, iStrP, iListP, iSqP, iTupP, iRng1P, iRng2P, tSl, tNoPart, tPart, tChain, tNever, tYes, tLst, tTup, tDNewK, tDisp, tPairs,
  r_v0, r_vS, r_par, r_I, r_I0, r_U, r_test, r_int, st0, stS, wp0, wpS, rAddP, rEqP, rNeP, rItem, rNil, tNil1, tRevS, cLen, cAbs, cInt, cList, cAll, cAny, mAppend, mPop, mExtend, mJoin, mIndex, mUpper, mLower, rWItem, rWIn, rInSP, rInP, rIsBP, rSlSP, rSlLP, cIsi, tyName, tyn1, tyn2, tyn3, tyn4, tyn5, tyn6, isiB_same, allTxt_map, allTxt_sign, allBl_map, joinL_nil, flat_one, flat_sign, sum_one, sum_sign, all_map_id, any_map_id, List.filterMap_eq_map', List.length_map, Nat.mul_zero, Nat.add_zero, List.length_reverse, List.map_id', isLst, isTxt, isDct, itemsAt, seqAt, strsAt, allTxt, allBl, scal, sSDPut, sSDAdd,
  S_len, S_tl, S_app, S_one, S_inj, List.map_cons, List.map_nil, List.cons_append, List.nil_append, upd_same, Option.map_some, Option.map_none, if_true, if_false, reduceIte, Bool.false_eq_true, Bool.not_true, Bool.not_false, decide_eq_true_eq, exists_eq_left, exists_eq_left', and_true, true_and, V.str.injEq, V.int.injEq, V.bl.injEq, V.ref.injEq, List.length_cons, List.length_nil, Nat.zero_add, lit_dig, lit_gre, lit_lum, lit_tur, lit0, lit1, lit2, lit3, lit4, c_bool1, c_str1, wUNDOS, wUNDOS]
  intro p hp
  refine for_at (goes_S l) (fun pre σ H => (∃ x, σ = [some (.str (S l)), some (.ref p), x]) ∧ H = upd H0 p (.lst ((red pre).map eSign))) (fun _ _ _ _ => trivial) ⟨⟨_, rfl⟩, rfl⟩ ?_ ?_
  · rintro pre c post σ H e ⟨⟨x, rfl⟩, rfl⟩
    have hc : isStep c = true := List.all_eq_true.mp hs c (by rw [e]; simp)
    have hz : (red pre).length < sizeLine := by
      have h1 := red_len pre
      have h2 : l.length = pre.length + (post.length + 1) := by rw [e]; simp
      rw [sizeLine_eq]
      omega
    rw [sizeLine_eq] at hz
    simp (maxSteps := 1000000) only [lcTurn, sizeLine_eq, L2.start, Nat.zero_le, List.replicate_succ, List.replicate_zero, Nat.reduceSub, Nat.sub_self, tC, tOp, tUn, tTest, tB, tAnd, tOr, tNot, tIf, tAndV, tOrV, tNotV, tSeq, tNext, tAsg, gName, tRet, tRetN, tIfS, tDrop, tNil, tCons, tCB, tC0, tPar, tMth, tMth0, tFor_at, tLc_at, iStrP, iListP, iSqP, iTupP, iRng1P, iRng2P, tSl, tNoPart, tPart, tChain, tNever, tYes, tLst, tTup, tDNewK, tDisp, tPairs,
  r_v0, r_vS, r_par, r_I, r_I0, r_U, r_test, r_int, st0, stS, wp0, wpS, rAddP, rEqP, rNeP, rItem, rNil, tNil1, tRevS, cLen, cAbs, cInt, cList, cAll, cAny, mAppend, mPop, mExtend, mJoin, mIndex, mUpper, mLower, rWItem, rWIn, rInSP, rInP, rIsBP, rSlSP, rSlLP, cIsi, tyName, tyn1, tyn2, tyn3, tyn4, tyn5, tyn6, isiB_same, allTxt_map, allTxt_sign, allBl_map, joinL_nil, flat_one, flat_sign, sum_one, sum_sign, all_map_id, any_map_id, List.filterMap_eq_map', List.length_map, Nat.mul_zero, Nat.add_zero, List.length_reverse, List.map_id', isLst, isTxt, isDct, itemsAt, seqAt, strsAt, allTxt, allBl, scal, sSDPut, sSDAdd,
  S_len, S_tl, S_app, S_one, S_inj, List.map_cons, List.map_nil, List.cons_append, List.nil_append, upd_same, Option.map_some, Option.map_none, if_true, if_false, reduceIte, Bool.false_eq_true, Bool.not_true, Bool.not_false, decide_eq_true_eq, exists_eq_left, exists_eq_left', and_true, true_and, V.str.injEq, V.int.injEq, V.bl.injEq, V.ref.injEq, List.length_cons, List.length_nil, Nat.zero_add, lit_dig, lit_gre, lit_lum, lit_tur, lit0, lit1, lit2, lit3, lit4, c_bool1, c_str1, wUNDOS, undos_get hc]
    rw [red_snoc]
    unfold redStep
    rcases List.eq_nil_or_concat (red pre) with h0 | ⟨ini, x, h0⟩
    · rw [h0]
      simp [upd_upd]
    · rw [h0] at hz ⊢
      simp (maxSteps := 1000000) only [lcTurn, sizeLine_eq, L2.start, Nat.zero_le, List.replicate_succ, List.replicate_zero, Nat.reduceSub, Nat.sub_self, tC, tOp, tUn, tTest, tB, tAnd, tOr, tNot, tIf, tAndV, tOrV, tNotV, tSeq, tNext, tAsg, gName, tRet, tRetN, tIfS, tDrop, tNil, tCons, tCB, tC0, tPar, tMth, tMth0, tFor_at, tLc_at, iStrP, iListP, iSqP, iTupP, iRng1P, iRng2P, tSl, tNoPart, tPart, tChain, tNever, tYes, tLst, tTup, tDNewK, tDisp, tPairs,
  r_v0, r_vS, r_par, r_I, r_I0, r_U, r_test, r_int, st0, stS, wp0, wpS, rAddP, rEqP, rNeP, rItem, rNil, tNil1, tRevS, cLen, cAbs, cInt, cList, cAll, cAny, mAppend, mPop, mExtend, mJoin, mIndex, mUpper, mLower, rWItem, rWIn, rInSP, rInP, rIsBP, rSlSP, rSlLP, cIsi, tyName, tyn1, tyn2, tyn3, tyn4, tyn5, tyn6, isiB_same, allTxt_map, allTxt_sign, allBl_map, joinL_nil, flat_one, flat_sign, sum_one, sum_sign, all_map_id, any_map_id, List.filterMap_eq_map', List.length_map, Nat.mul_zero, Nat.add_zero, List.length_reverse, List.map_id', isLst, isTxt, isDct, itemsAt, seqAt, strsAt, allTxt, allBl, scal, sSDPut, sSDAdd,
  S_len, S_tl, S_app, S_one, S_inj, List.map_cons, List.map_nil, List.cons_append, List.nil_append, upd_same, Option.map_some, Option.map_none, if_true, if_false, reduceIte, Bool.false_eq_true, Bool.not_true, Bool.not_false, decide_eq_true_eq, exists_eq_left, exists_eq_left', and_true, true_and, V.str.injEq, V.int.injEq, V.bl.injEq, V.ref.injEq, List.length_cons, List.length_nil, Nat.zero_add, lit_dig, lit_gre, lit_lum, lit_tur, lit0, lit1, lit2, lit3, lit4, c_bool1, c_str1, wUNDOS, List.map_append, atI_last', List.getLast?_concat, List.dropLast_concat]
      by_cases hx : x = und c
      · simp [hx, upd_upd]
      · have hz2 : ini.length + 1 < 16777216 := by simpa using hz
        simp [hx, upd_upd, hz2, S_inj]
  · rintro σ H ⟨⟨x, rfl⟩, rfl⟩
    have h1 := red_len l
    simp (maxSteps := 1000000) only [lcTurn, sizeLine_eq, L2.start, Nat.zero_le, List.replicate_succ, List.replicate_zero, Nat.reduceSub, Nat.sub_self, tC, tOp, tUn, tTest, tB, tAnd, tOr, tNot, tIf, tAndV, tOrV, tNotV, tSeq, tNext, tAsg, gName, tRet, tRetN, tIfS, tDrop, tNil, tCons, tCB, tC0, tPar, tMth, tMth0, tFor_at, tLc_at, iStrP, iListP, iSqP, iTupP, iRng1P, iRng2P, tSl, tNoPart, tPart, tChain, tNever, tYes, tLst, tTup, tDNewK, tDisp, tPairs,
  r_v0, r_vS, r_par, r_I, r_I0, r_U, r_test, r_int, st0, stS, wp0, wpS, rAddP, rEqP, rNeP, rItem, rNil, tNil1, tRevS, cLen, cAbs, cInt, cList, cAll, cAny, mAppend, mPop, mExtend, mJoin, mIndex, mUpper, mLower, rWItem, rWIn, rInSP, rInP, rIsBP, rSlSP, rSlLP, cIsi, tyName, tyn1, tyn2, tyn3, tyn4, tyn5, tyn6, isiB_same, allTxt_map, allTxt_sign, allBl_map, joinL_nil, flat_one, flat_sign, sum_one, sum_sign, all_map_id, any_map_id, List.filterMap_eq_map', List.length_map, Nat.mul_zero, Nat.add_zero, List.length_reverse, List.map_id', isLst, isTxt, isDct, itemsAt, seqAt, strsAt, allTxt, allBl, scal, sSDPut, sSDAdd,
  S_len, S_tl, S_app, S_one, S_inj, List.map_cons, List.map_nil, List.cons_append, List.nil_append, upd_same, Option.map_some, Option.map_none, if_true, if_false, reduceIte, Bool.false_eq_true, Bool.not_true, Bool.not_false, decide_eq_true_eq, exists_eq_left, exists_eq_left', and_true, true_and, V.str.injEq, V.int.injEq, V.bl.injEq, V.ref.injEq, List.length_cons, List.length_nil, Nat.zero_add, lit_dig, lit_gre, lit_lum, lit_tur, lit0, lit1, lit2, lit3, lit4, c_bool1, c_str1, wUNDOS]
    exact ⟨by omega, q _⟩
theorem sc_reversed_steps : FnScope ["text", "step"] ["text"] (defScope s_reversed_steps) := ⟨rfl, rfl, rfl, by decide +kernel, rfl, by decide +kernel, by decide +kernel⟩
theorem ok_reversed_steps {P : Program} {w : World} {K : PySem.W.Frag} {mg : Str → Option Value} {base : Heap} (T : Ctx fa fn wd w K mg) : Cal P w K mg base CX0 1 "reversed_steps" ["text"] (spPure (R_str1 stepsB inv)) := by
  obtain ⟨fd, F⟩ := T.fun_ d_reversed_steps 4 rfl
  refine Cal.imp (sp := spFrame (spPure0 (R_str1 stepsB inv))) (Cal.frame ⟨_, fd, T.glo "reversed_steps" 4 rfl, ?_, F.kp, FunD.bindsN F fun _ _ _ _ _ _ us hl => match us, hl with | [_], _ => rfl⟩) fun vs H Q E h => pure_frame vs H Q E h
  refine FunD.ok F sc_reversed_steps (fun vs H Q E h => (by obtain ⟨_, _, ⟨_, rfl, _⟩, _⟩ := h; rfl)) (fun cdv A outer s H vs Q E hr h => ?_)
  have hu : A.units + 3 + 1 < cLine := Nat.lt_of_le_of_lt (Nat.add_le_add_left (by decide : 1 ≤ 64) _) hr.units
  have hu0 : A.units + 3 < cLine := hr.units0
  obtain ⟨rfl, _, ⟨l, rfl, ⟨hs, hl⟩, rfl⟩, q⟩ := h
  refine ⟨_, PSs.nox (pss_one (ps_ret (pe_mth PySem.F.plainAttrs_str PySem.F.slot_str_join PySem.F.type_str_join (fun _ _ z => isTxt_ty z) mtr_join pe_str (pa_cons (pe_lc (own := [("step", 1)]) rfl sc_reversed_steps.nd (pi_strP (pe_revS (pv 0))) (blkOk_by (own := [("step", 1)]) (N := ["text", "step"]) (sc := defScope s_reversed_steps) (by decide +kernel)) (fun _ _ _ _ _ => pg_name (i := 1) sc_reversed_steps.nd rfl (by first | exact Or.inl rfl | exact Or.inr rfl)) (fun _ _ _ _ _ => pts_nil) (fun _ _ _ _ _ => (pe_wItem (T.wdt w_UNDOS 0 rfl) rfl (T.glo "UNDOS" 29 rfl) (pv 1) (fun _ _ => rfl)))) pa_nil)))), ?_⟩
  simp (maxSteps := 1000000) only [lcTurn, sizeLine_eq, L2.start, Nat.zero_le, List.replicate_succ, List.replicate_zero, Nat.reduceSub, Nat.sub_self, tC, tOp, tUn, tTest, tB, tAnd, tOr, tNot, tIf, tAndV, tOrV, tNotV, tSeq, tNext, tAsg, gName, tRet, tRetN, tIfS, tDrop, tNil, tCons, tCB, tC0, tPar, tMth, tMth0, tFor_at, tLc_at, iStrP, iListP, iSqP, iTupP, iRng1P, iRng2P, tSl, tNoPart, tPart, tChain, tNever, tYes, tLst, tTup, tDNewK, tDisp, tPairs,
  r_v0, r_vS, r_par, r_I, r_I0, r_U, r_test, r_int, st0, stS, wp0, wpS, rAddP, rEqP, rNeP, rItem, rNil, tNil1, tRevS, cLen, cAbs, cInt, cList, cAll, cAny, mAppend, mPop, mExtend, mJoin, mIndex, mUpper, mLower, rWItem, rWIn, rInSP, rInP, rIsBP, rSlSP, rSlLP, cIsi, tyName, tyn1, tyn2, tyn3, tyn4, tyn5, tyn6, isiB_same, allTxt_map, allTxt_sign, allBl_map, joinL_nil, flat_one, flat_sign, sum_one, sum_sign, all_map_id, any_map_id, List.filterMap_eq_map', List.length_map, Nat.mul_zero, Nat.add_zero, List.length_reverse, List.map_id', isLst, isTxt, isDct, itemsAt, seqAt, strsAt, allTxt, allBl, scal, sSDPut, sSDAdd,
  S_len, S_tl, S_app, S_one, S_inj, List.map_cons, List.map_nil, List.cons_append, List.nil_append, upd_same, Option.map_some, Option.map_none, if_true, if_false, reduceIte, Bool.false_eq_true, Bool.not_true, Bool.not_false, decide_eq_true_eq, exists_eq_left, exists_eq_left', and_true, true_and, V.str.injEq, V.int.injEq, V.bl.injEq, V.ref.injEq, List.length_cons, List.length_nil, Nat.zero_add, lit_dig, lit_gre, lit_lum, lit_tur, lit0, lit1, lit2, lit3, lit4, c_bool1, c_str1, wUNDOS, wUNDOS]
  have hr2 : ∀ c ∈ l.reverse, isStep c = true := fun c hc => List.all_eq_true.mp hs c (by simpa using hc)
  refine ⟨by omega, lc_pure (goes_S _) (fun c => some (.str (S [und c]))) (by simp [sizeLine_eq]; omega) (fun _ _ _ => trivial) (fun D c acc R hD hc r => ?_) fun D hD => ?_⟩
  · simp (maxSteps := 1000000) only [lcTurn, sizeLine_eq, L2.start, Nat.zero_le, List.replicate_succ, List.replicate_zero, Nat.reduceSub, Nat.sub_self, tC, tOp, tUn, tTest, tB, tAnd, tOr, tNot, tIf, tAndV, tOrV, tNotV, tSeq, tNext, tAsg, gName, tRet, tRetN, tIfS, tDrop, tNil, tCons, tCB, tC0, tPar, tMth, tMth0, tFor_at, tLc_at, iStrP, iListP, iSqP, iTupP, iRng1P, iRng2P, tSl, tNoPart, tPart, tChain, tNever, tYes, tLst, tTup, tDNewK, tDisp, tPairs,
  r_v0, r_vS, r_par, r_I, r_I0, r_U, r_test, r_int, st0, stS, wp0, wpS, rAddP, rEqP, rNeP, rItem, rNil, tNil1, tRevS, cLen, cAbs, cInt, cList, cAll, cAny, mAppend, mPop, mExtend, mJoin, mIndex, mUpper, mLower, rWItem, rWIn, rInSP, rInP, rIsBP, rSlSP, rSlLP, cIsi, tyName, tyn1, tyn2, tyn3, tyn4, tyn5, tyn6, isiB_same, allTxt_map, allTxt_sign, allBl_map, joinL_nil, flat_one, flat_sign, sum_one, sum_sign, all_map_id, any_map_id, List.filterMap_eq_map', List.length_map, Nat.mul_zero, Nat.add_zero, List.length_reverse, List.map_id', isLst, isTxt, isDct, itemsAt, seqAt, strsAt, allTxt, allBl, scal, sSDPut, sSDAdd,
  S_len, S_tl, S_app, S_one, S_inj, List.map_cons, List.map_nil, List.cons_append, List.nil_append, upd_same, Option.map_some, Option.map_none, if_true, if_false, reduceIte, Bool.false_eq_true, Bool.not_true, Bool.not_false, decide_eq_true_eq, exists_eq_left, exists_eq_left', and_true, true_and, V.str.injEq, V.int.injEq, V.bl.injEq, V.ref.injEq, List.length_cons, List.length_nil, Nat.zero_add, lit_dig, lit_gre, lit_lum, lit_tur, lit0, lit1, lit2, lit3, lit4, c_bool1, c_str1, wUNDOS, undos_get (hr2 c hc)]
    exact r
  · simp (maxSteps := 1000000) only [lcTurn, sizeLine_eq, L2.start, Nat.zero_le, List.replicate_succ, List.replicate_zero, Nat.reduceSub, Nat.sub_self, tC, tOp, tUn, tTest, tB, tAnd, tOr, tNot, tIf, tAndV, tOrV, tNotV, tSeq, tNext, tAsg, gName, tRet, tRetN, tIfS, tDrop, tNil, tCons, tCB, tC0, tPar, tMth, tMth0, tFor_at, tLc_at, iStrP, iListP, iSqP, iTupP, iRng1P, iRng2P, tSl, tNoPart, tPart, tChain, tNever, tYes, tLst, tTup, tDNewK, tDisp, tPairs,
  r_v0, r_vS, r_par, r_I, r_I0, r_U, r_test, r_int, st0, stS, wp0, wpS, rAddP, rEqP, rNeP, rItem, rNil, tNil1, tRevS, cLen, cAbs, cInt, cList, cAll, cAny, mAppend, mPop, mExtend, mJoin, mIndex, mUpper, mLower, rWItem, rWIn, rInSP, rInP, rIsBP, rSlSP, rSlLP, cIsi, tyName, tyn1, tyn2, tyn3, tyn4, tyn5, tyn6, isiB_same, allTxt_map, allTxt_sign, allBl_map, joinL_nil, flat_one, flat_sign, sum_one, sum_sign, all_map_id, any_map_id, List.filterMap_eq_map', List.length_map, Nat.mul_zero, Nat.add_zero, List.length_reverse, List.map_id', isLst, isTxt, isDct, itemsAt, seqAt, strsAt, allTxt, allBl, scal, sSDPut, sSDAdd,
  S_len, S_tl, S_app, S_one, S_inj, List.map_cons, List.map_nil, List.cons_append, List.nil_append, upd_same, Option.map_some, Option.map_none, if_true, if_false, reduceIte, Bool.false_eq_true, Bool.not_true, Bool.not_false, decide_eq_true_eq, exists_eq_left, exists_eq_left', and_true, true_and, V.str.injEq, V.int.injEq, V.bl.injEq, V.ref.injEq, List.length_cons, List.length_nil, Nat.zero_add, lit_dig, lit_gre, lit_lum, lit_tur, lit0, lit1, lit2, lit3, lit4, c_bool1, c_str1, wUNDOS]
    exact ⟨by omega, q _⟩
theorem sc_has_steps : FnScope ["thing", "step"] ["thing"] (defScope s_has_steps) := ⟨rfl, rfl, rfl, by decide +kernel, rfl, by decide +kernel, by decide +kernel⟩
theorem ok_has_steps {P : Program} {w : World} {K : PySem.W.Frag} {mg : Str → Option Value} {base : Heap} (T : Ctx fa fn wd w K mg) : Cal P w K mg base CX0 1 "has_steps" ["thing"] (spPure (R_bool1 stepsB)) := by
  obtain ⟨fd, F⟩ := T.fun_ d_has_steps 0 rfl
  refine Cal.imp (sp := spFrame (spPure0 (R_bool1 stepsB))) (Cal.frame ⟨_, fd, T.glo "has_steps" 0 rfl, ?_, F.kp, FunD.bindsN F fun _ _ _ _ _ _ us hl => match us, hl with | [_], _ => rfl⟩) fun vs H Q E h => pure_frame vs H Q E h
  refine FunD.ok F sc_has_steps (fun vs H Q E h => (by obtain ⟨_, _, ⟨_, rfl, _⟩, _⟩ := h; rfl)) (fun cdv A outer s H vs Q E hr h => ?_)
  have hu : A.units + 3 + 1 < cLine := Nat.lt_of_le_of_lt (Nat.add_le_add_left (by decide : 1 ≤ 64) _) hr.units
  have hu0 : A.units + 3 < cLine := hr.units0
  obtain ⟨rfl, _, ⟨l, rfl, hl, rfl⟩, q⟩ := h
  refine ⟨_, PSs.nox (pss_one (ps_ret (pe_and (pe_callB call_isiP rfl (T.free "isinstance" 23 rfl) (by decide +kernel) (pa_cons (pv 0) (pa_cons (pe_bltn (v := .ty "str") rfl (T.free "str" 27 rfl) (by decide +kernel) rfl) pa_nil))) (pe_one (pe_callB (call_allP rfl) rfl (T.free "all" 21 rfl) (by decide +kernel) (pa_cons (pe_lc (own := [("step", 1)]) rfl sc_has_steps.nd (pi_strP (pv 0)) (blkOk_by (own := [("step", 1)]) (N := ["thing", "step"]) (sc := defScope s_has_steps) (by decide +kernel)) (fun _ _ _ _ _ => pg_name (i := 1) sc_has_steps.nd rfl (by first | exact Or.inl rfl | exact Or.inr rfl)) (fun _ _ _ _ _ => pts_nil) (fun _ _ _ _ _ => (pe_cmp (pc_wIn (T.wdt w_UNDOS 0 rfl) rfl (T.glo "UNDOS" 29 rfl) (pv 1)) (by rfl)))) pa_nil)))))), ?_⟩
  simp (maxSteps := 1000000) only [lcTurn, sizeLine_eq, L2.start, Nat.zero_le, List.replicate_succ, List.replicate_zero, Nat.reduceSub, Nat.sub_self, tC, tOp, tUn, tTest, tB, tAnd, tOr, tNot, tIf, tAndV, tOrV, tNotV, tSeq, tNext, tAsg, gName, tRet, tRetN, tIfS, tDrop, tNil, tCons, tCB, tC0, tPar, tMth, tMth0, tFor_at, tLc_at, iStrP, iListP, iSqP, iTupP, iRng1P, iRng2P, tSl, tNoPart, tPart, tChain, tNever, tYes, tLst, tTup, tDNewK, tDisp, tPairs,
  r_v0, r_vS, r_par, r_I, r_I0, r_U, r_test, r_int, st0, stS, wp0, wpS, rAddP, rEqP, rNeP, rItem, rNil, tNil1, tRevS, cLen, cAbs, cInt, cList, cAll, cAny, mAppend, mPop, mExtend, mJoin, mIndex, mUpper, mLower, rWItem, rWIn, rInSP, rInP, rIsBP, rSlSP, rSlLP, cIsi, tyName, tyn1, tyn2, tyn3, tyn4, tyn5, tyn6, isiB_same, allTxt_map, allTxt_sign, allBl_map, joinL_nil, flat_one, flat_sign, sum_one, sum_sign, all_map_id, any_map_id, List.filterMap_eq_map', List.length_map, Nat.mul_zero, Nat.add_zero, List.length_reverse, List.map_id', isLst, isTxt, isDct, itemsAt, seqAt, strsAt, allTxt, allBl, scal, sSDPut, sSDAdd,
  S_len, S_tl, S_app, S_one, S_inj, List.map_cons, List.map_nil, List.cons_append, List.nil_append, upd_same, Option.map_some, Option.map_none, if_true, if_false, reduceIte, Bool.false_eq_true, Bool.not_true, Bool.not_false, decide_eq_true_eq, exists_eq_left, exists_eq_left', and_true, true_and, V.str.injEq, V.int.injEq, V.bl.injEq, V.ref.injEq, List.length_cons, List.length_nil, Nat.zero_add, lit_dig, lit_gre, lit_lum, lit_tur, lit0, lit1, lit2, lit3, lit4, c_bool1, c_str1, wUNDOS, wUNDOS]
  refine lc_pure (goes_S _) (fun c => some (.bl (isStep c))) (by simp [sizeLine_eq]; omega) (fun _ _ _ => trivial) (fun D c acc R hD hc r => ?_) fun D hD => ?_
  · simp (maxSteps := 1000000) only [lcTurn, sizeLine_eq, L2.start, Nat.zero_le, List.replicate_succ, List.replicate_zero, Nat.reduceSub, Nat.sub_self, tC, tOp, tUn, tTest, tB, tAnd, tOr, tNot, tIf, tAndV, tOrV, tNotV, tSeq, tNext, tAsg, gName, tRet, tRetN, tIfS, tDrop, tNil, tCons, tCB, tC0, tPar, tMth, tMth0, tFor_at, tLc_at, iStrP, iListP, iSqP, iTupP, iRng1P, iRng2P, tSl, tNoPart, tPart, tChain, tNever, tYes, tLst, tTup, tDNewK, tDisp, tPairs,
  r_v0, r_vS, r_par, r_I, r_I0, r_U, r_test, r_int, st0, stS, wp0, wpS, rAddP, rEqP, rNeP, rItem, rNil, tNil1, tRevS, cLen, cAbs, cInt, cList, cAll, cAny, mAppend, mPop, mExtend, mJoin, mIndex, mUpper, mLower, rWItem, rWIn, rInSP, rInP, rIsBP, rSlSP, rSlLP, cIsi, tyName, tyn1, tyn2, tyn3, tyn4, tyn5, tyn6, isiB_same, allTxt_map, allTxt_sign, allBl_map, joinL_nil, flat_one, flat_sign, sum_one, sum_sign, all_map_id, any_map_id, List.filterMap_eq_map', List.length_map, Nat.mul_zero, Nat.add_zero, List.length_reverse, List.map_id', isLst, isTxt, isDct, itemsAt, seqAt, strsAt, allTxt, allBl, scal, sSDPut, sSDAdd,
  S_len, S_tl, S_app, S_one, S_inj, List.map_cons, List.map_nil, List.cons_append, List.nil_append, upd_same, Option.map_some, Option.map_none, if_true, if_false, reduceIte, Bool.false_eq_true, Bool.not_true, Bool.not_false, decide_eq_true_eq, exists_eq_left, exists_eq_left', and_true, true_and, V.str.injEq, V.int.injEq, V.bl.injEq, V.ref.injEq, List.length_cons, List.length_nil, Nat.zero_add, lit_dig, lit_gre, lit_lum, lit_tur, lit0, lit1, lit2, lit3, lit4, c_bool1, c_str1, wUNDOS, undos_some c]
    exact r
  · simp (maxSteps := 1000000) only [lcTurn, sizeLine_eq, L2.start, Nat.zero_le, List.replicate_succ, List.replicate_zero, Nat.reduceSub, Nat.sub_self, tC, tOp, tUn, tTest, tB, tAnd, tOr, tNot, tIf, tAndV, tOrV, tNotV, tSeq, tNext, tAsg, gName, tRet, tRetN, tIfS, tDrop, tNil, tCons, tCB, tC0, tPar, tMth, tMth0, tFor_at, tLc_at, iStrP, iListP, iSqP, iTupP, iRng1P, iRng2P, tSl, tNoPart, tPart, tChain, tNever, tYes, tLst, tTup, tDNewK, tDisp, tPairs,
  r_v0, r_vS, r_par, r_I, r_I0, r_U, r_test, r_int, st0, stS, wp0, wpS, rAddP, rEqP, rNeP, rItem, rNil, tNil1, tRevS, cLen, cAbs, cInt, cList, cAll, cAny, mAppend, mPop, mExtend, mJoin, mIndex, mUpper, mLower, rWItem, rWIn, rInSP, rInP, rIsBP, rSlSP, rSlLP, cIsi, tyName, tyn1, tyn2, tyn3, tyn4, tyn5, tyn6, isiB_same, allTxt_map, allTxt_sign, allBl_map, joinL_nil, flat_one, flat_sign, sum_one, sum_sign, all_map_id, any_map_id, List.filterMap_eq_map', List.length_map, Nat.mul_zero, Nat.add_zero, List.length_reverse, List.map_id', isLst, isTxt, isDct, itemsAt, seqAt, strsAt, allTxt, allBl, scal, sSDPut, sSDAdd,
  S_len, S_tl, S_app, S_one, S_inj, List.map_cons, List.map_nil, List.cons_append, List.nil_append, upd_same, Option.map_some, Option.map_none, if_true, if_false, reduceIte, Bool.false_eq_true, Bool.not_true, Bool.not_false, decide_eq_true_eq, exists_eq_left, exists_eq_left', and_true, true_and, V.str.injEq, V.int.injEq, V.bl.injEq, V.ref.injEq, List.length_cons, List.length_nil, Nat.zero_add, lit_dig, lit_gre, lit_lum, lit_tur, lit0, lit1, lit2, lit3, lit4, c_bool1, c_str1, wUNDOS]
    exact q _
theorem sc_is_row : FnScope ["thing"] ["thing"] (defScope s_is_row) := ⟨rfl, rfl, rfl, by decide +kernel, rfl, by decide +kernel, by decide +kernel⟩
theorem ok_is_row {P : Program} {w : World} {K : PySem.W.Frag} {mg : Str → Option Value} {base : Heap} (T : Ctx fa fn wd w K mg) : Cal P w K mg base CX0 2 "is_row" ["thing"] (spPure (R_bool1 rowB)) := by
  have c_has_steps := ok_has_steps (P := P) (base := base) T
  obtain ⟨fd, F⟩ := T.fun_ d_is_row 1 rfl
  refine Cal.imp (sp := spFrame (spPure0 (R_bool1 rowB))) (Cal.frame ⟨_, fd, T.glo "is_row" 1 rfl, ?_, F.kp, FunD.bindsN F fun _ _ _ _ _ _ us hl => match us, hl with | [_], _ => rfl⟩) fun vs H Q E h => pure_frame vs H Q E h
  refine FunD.ok F sc_is_row (fun vs H Q E h => (by obtain ⟨_, _, ⟨_, rfl, _⟩, _⟩ := h; rfl)) (fun cdv A outer s H vs Q E hr h => ?_)
  have hu : A.units + 3 + 1 < cLine := Nat.lt_of_le_of_lt (Nat.add_le_add_left (by decide : 1 ≤ 64) _) hr.units
  have hu0 : A.units + 3 < cLine := hr.units0
  obtain ⟨rfl, _, ⟨l, rfl, hl, rfl⟩, q⟩ := h
  refine ⟨_, PSs.nox (pss_one (ps_ret (pe_and (pe_c0 c_has_steps (hr.mono (by decide)) rfl (pa_cons (pv 0) pa_nil)) (pe_one (pe_cmpR op_le (pe_callB call_lenP rfl (T.free "len" 24 rfl) (by decide +kernel) (pa_cons (pv 0) pa_nil)) (pe_gint rfl (T.int "MOST_STEPS" 400 28 rfl)) (nomark _)))))), ?_⟩
  simp (maxSteps := 1000000) only [lcTurn, sizeLine_eq, L2.start, Nat.zero_le, List.replicate_succ, List.replicate_zero, Nat.reduceSub, Nat.sub_self, tC, tOp, tUn, tTest, tB, tAnd, tOr, tNot, tIf, tAndV, tOrV, tNotV, tSeq, tNext, tAsg, gName, tRet, tRetN, tIfS, tDrop, tNil, tCons, tCB, tC0, tPar, tMth, tMth0, tFor_at, tLc_at, iStrP, iListP, iSqP, iTupP, iRng1P, iRng2P, tSl, tNoPart, tPart, tChain, tNever, tYes, tLst, tTup, tDNewK, tDisp, tPairs,
  r_v0, r_vS, r_par, r_I, r_I0, r_U, r_test, r_int, st0, stS, wp0, wpS, rAddP, rEqP, rNeP, rItem, rNil, tNil1, tRevS, cLen, cAbs, cInt, cList, cAll, cAny, mAppend, mPop, mExtend, mJoin, mIndex, mUpper, mLower, rWItem, rWIn, rInSP, rInP, rIsBP, rSlSP, rSlLP, cIsi, tyName, tyn1, tyn2, tyn3, tyn4, tyn5, tyn6, isiB_same, allTxt_map, allTxt_sign, allBl_map, joinL_nil, flat_one, flat_sign, sum_one, sum_sign, all_map_id, any_map_id, List.filterMap_eq_map', List.length_map, Nat.mul_zero, Nat.add_zero, List.length_reverse, List.map_id', isLst, isTxt, isDct, itemsAt, seqAt, strsAt, allTxt, allBl, scal, sSDPut, sSDAdd,
  S_len, S_tl, S_app, S_one, S_inj, List.map_cons, List.map_nil, List.cons_append, List.nil_append, upd_same, Option.map_some, Option.map_none, if_true, if_false, reduceIte, Bool.false_eq_true, Bool.not_true, Bool.not_false, decide_eq_true_eq, exists_eq_left, exists_eq_left', and_true, true_and, V.str.injEq, V.int.injEq, V.bl.injEq, V.ref.injEq, List.length_cons, List.length_nil, Nat.zero_add, lit_dig, lit_gre, lit_lum, lit_tur, lit0, lit1, lit2, lit3, lit4, c_bool1, c_str1, wUNDOS]
  refine ⟨hl, ?_⟩
  have q' := q H0
  unfold rowB at q'
  cases h : stepsB l with
  | true =>
    have h2 : l.all isStep = true := h
    rw [h2, Bool.true_and] at q'
    simp only [if_true]
    refine ⟨by omega, ?_⟩
    have e : decide ((l.length : Int) ≤ 400) = decide (l.length ≤ 400) := by simp; omega
    rw [e]
    exact q'
  | false =>
    have h2 : l.all isStep = false := h
    rw [h2, Bool.false_and] at q'
    simpa using q'
theorem sc_is_short : FnScope ["thing"] ["thing"] (defScope s_is_short) := ⟨rfl, rfl, rfl, by decide +kernel, rfl, by decide +kernel, by decide +kernel⟩
theorem ok_is_short {P : Program} {w : World} {K : PySem.W.Frag} {mg : Str → Option Value} {base : Heap} (T : Ctx fa fn wd w K mg) : Cal P w K mg base CX0 3 "is_short" ["thing"] (spPure (R_bool1 shortB)) := by
  have c_shortened := ok_shortened (P := P) (base := base) T
  have c_is_row := ok_is_row (P := P) (base := base) T
  obtain ⟨fd, F⟩ := T.fun_ d_is_short 2 rfl
  refine Cal.imp (sp := spFrame (spPure0 (R_bool1 shortB))) (Cal.frame ⟨_, fd, T.glo "is_short" 2 rfl, ?_, F.kp, FunD.bindsN F fun _ _ _ _ _ _ us hl => match us, hl with | [_], _ => rfl⟩) fun vs H Q E h => pure_frame vs H Q E h
  refine FunD.ok F sc_is_short (fun vs H Q E h => (by obtain ⟨_, _, ⟨_, rfl, _⟩, _⟩ := h; rfl)) (fun cdv A outer s H vs Q E hr h => ?_)
  have hu : A.units + 3 + 1 < cLine := Nat.lt_of_le_of_lt (Nat.add_le_add_left (by decide : 1 ≤ 64) _) hr.units
  have hu0 : A.units + 3 < cLine := hr.units0
  obtain ⟨rfl, _, ⟨l, rfl, hl, rfl⟩, q⟩ := h
  refine ⟨_, PSs.nox (pss_one (ps_ret (pe_and (pe_c0 c_is_row (hr.mono (by decide)) rfl (pa_cons (pv 0) pa_nil)) (pe_one (pe_cmpR op_eqP (pe_c0 c_shortened (hr.mono (by decide)) rfl (pa_cons (pv 0) pa_nil)) (pv 0) (nomark _)))))), ?_⟩
  simp (maxSteps := 1000000) only [lcTurn, sizeLine_eq, L2.start, Nat.zero_le, List.replicate_succ, List.replicate_zero, Nat.reduceSub, Nat.sub_self, tC, tOp, tUn, tTest, tB, tAnd, tOr, tNot, tIf, tAndV, tOrV, tNotV, tSeq, tNext, tAsg, gName, tRet, tRetN, tIfS, tDrop, tNil, tCons, tCB, tC0, tPar, tMth, tMth0, tFor_at, tLc_at, iStrP, iListP, iSqP, iTupP, iRng1P, iRng2P, tSl, tNoPart, tPart, tChain, tNever, tYes, tLst, tTup, tDNewK, tDisp, tPairs,
  r_v0, r_vS, r_par, r_I, r_I0, r_U, r_test, r_int, st0, stS, wp0, wpS, rAddP, rEqP, rNeP, rItem, rNil, tNil1, tRevS, cLen, cAbs, cInt, cList, cAll, cAny, mAppend, mPop, mExtend, mJoin, mIndex, mUpper, mLower, rWItem, rWIn, rInSP, rInP, rIsBP, rSlSP, rSlLP, cIsi, tyName, tyn1, tyn2, tyn3, tyn4, tyn5, tyn6, isiB_same, allTxt_map, allTxt_sign, allBl_map, joinL_nil, flat_one, flat_sign, sum_one, sum_sign, all_map_id, any_map_id, List.filterMap_eq_map', List.length_map, Nat.mul_zero, Nat.add_zero, List.length_reverse, List.map_id', isLst, isTxt, isDct, itemsAt, seqAt, strsAt, allTxt, allBl, scal, sSDPut, sSDAdd,
  S_len, S_tl, S_app, S_one, S_inj, List.map_cons, List.map_nil, List.cons_append, List.nil_append, upd_same, Option.map_some, Option.map_none, if_true, if_false, reduceIte, Bool.false_eq_true, Bool.not_true, Bool.not_false, decide_eq_true_eq, exists_eq_left, exists_eq_left', and_true, true_and, V.str.injEq, V.int.injEq, V.bl.injEq, V.ref.injEq, List.length_cons, List.length_nil, Nat.zero_add, lit_dig, lit_gre, lit_lum, lit_tur, lit0, lit1, lit2, lit3, lit4, c_bool1, c_str1, wUNDOS]
  refine ⟨hl, ?_⟩
  have q' := q H0
  unfold shortB at q'
  cases h : rowB l with
  | true =>
    have h2 : stepsB l = true := (Bool.and_eq_true_iff.mp h).1
    rw [h, Bool.true_and] at q'
    simp only [if_true]
    exact ⟨⟨h2, hl⟩, q'⟩
  | false =>
    rw [h, Bool.false_and] at q'
    simpa using q'
def R_need (vs : List V) (v : V) : Prop := ∃ l : List Nat, vs = [.str (S l)] ∧ rowB l = true ∧ v = .non
theorem c_need {l : List Nat} {H : Hp} {Q : VK} {E : XK} : spPure R_need [.str (S l)] H Q E = (rowB l = true ∧ Q .non H) := by
  apply propext
  constructor
  · rintro ⟨_, ⟨l', e, h, rfl⟩, q⟩
    have e2 : l = l' := by simpa [S_inj] using e
    subst e2
    exact ⟨h, q⟩
  · rintro ⟨h, q⟩
    exact ⟨_, ⟨l, rfl, h, rfl⟩, q⟩
theorem row_len {l : List Nat} (h : rowB l = true) : l.length ≤ 400 := by
  simpa using (Bool.and_eq_true_iff.mp h).2
theorem row_steps {l : List Nat} (h : rowB l = true) : stepsB l = true := (Bool.and_eq_true_iff.mp h).1
theorem sc_need_row : FnScope ["row"] ["row"] (defScope s_need_row) := ⟨rfl, rfl, rfl, by decide +kernel, rfl, by decide +kernel, by decide +kernel⟩
theorem ok_need_row {P : Program} {w : World} {K : PySem.W.Frag} {mg : Str → Option Value} {base : Heap} (T : Ctx fa fn wd w K mg) : Cal P w K mg base CX0 3 "need_row" ["row"] (spPure R_need) := by
  have c_is_row := ok_is_row (P := P) (base := base) T
  obtain ⟨fd, F⟩ := T.fun_ d_need_row 3 rfl
  refine Cal.imp (sp := spFrame (spPure0 R_need)) (Cal.frame ⟨_, fd, T.glo "need_row" 3 rfl, ?_, F.kp, FunD.bindsN F fun _ _ _ _ _ _ us hl => match us, hl with | [_], _ => rfl⟩) fun vs H Q E h => pure_frame vs H Q E h
  refine FunD.ok F sc_need_row (fun vs H Q E h => (by obtain ⟨_, _, ⟨_, rfl, _⟩, _⟩ := h; rfl)) (fun cdv A outer s H vs Q E hr h => ?_)
  have hu : A.units + 3 + 1 < cLine := Nat.lt_of_le_of_lt (Nat.add_le_add_left (by decide : 1 ≤ 64) _) hr.units
  have hu0 : A.units + 3 < cLine := hr.units0
  obtain ⟨rfl, _, ⟨l, rfl, hl, rfl⟩, q⟩ := h
  have h1 := row_len hl
  refine ⟨_, PSs.nox (pss_one (ps_if (pt_not (pt_val (pe_c0 c_is_row (hr.mono (by decide)) rfl (pa_cons (pv 0) pa_nil)))) (pss_one ps_never) pss_nil)), ?_⟩
  simp (maxSteps := 1000000) only [lcTurn, sizeLine_eq, L2.start, Nat.zero_le, List.replicate_succ, List.replicate_zero, Nat.reduceSub, Nat.sub_self, tC, tOp, tUn, tTest, tB, tAnd, tOr, tNot, tIf, tAndV, tOrV, tNotV, tSeq, tNext, tAsg, gName, tRet, tRetN, tIfS, tDrop, tNil, tCons, tCB, tC0, tPar, tMth, tMth0, tFor_at, tLc_at, iStrP, iListP, iSqP, iTupP, iRng1P, iRng2P, tSl, tNoPart, tPart, tChain, tNever, tYes, tLst, tTup, tDNewK, tDisp, tPairs,
  r_v0, r_vS, r_par, r_I, r_I0, r_U, r_test, r_int, st0, stS, wp0, wpS, rAddP, rEqP, rNeP, rItem, rNil, tNil1, tRevS, cLen, cAbs, cInt, cList, cAll, cAny, mAppend, mPop, mExtend, mJoin, mIndex, mUpper, mLower, rWItem, rWIn, rInSP, rInP, rIsBP, rSlSP, rSlLP, cIsi, tyName, tyn1, tyn2, tyn3, tyn4, tyn5, tyn6, isiB_same, allTxt_map, allTxt_sign, allBl_map, joinL_nil, flat_one, flat_sign, sum_one, sum_sign, all_map_id, any_map_id, List.filterMap_eq_map', List.length_map, Nat.mul_zero, Nat.add_zero, List.length_reverse, List.map_id', isLst, isTxt, isDct, itemsAt, seqAt, strsAt, allTxt, allBl, scal, sSDPut, sSDAdd,
  S_len, S_tl, S_app, S_one, S_inj, List.map_cons, List.map_nil, List.cons_append, List.nil_append, upd_same, Option.map_some, Option.map_none, if_true, if_false, reduceIte, Bool.false_eq_true, Bool.not_true, Bool.not_false, decide_eq_true_eq, exists_eq_left, exists_eq_left', and_true, true_and, V.str.injEq, V.int.injEq, V.bl.injEq, V.ref.injEq, List.length_cons, List.length_nil, Nat.zero_add, lit_dig, lit_gre, lit_lum, lit_tur, lit0, lit1, lit2, lit3, lit4, c_bool1, c_str1, wUNDOS, c_need, hl]
  exact ⟨by omega, q _⟩
theorem sc_undone : FnScope ["row"] ["row"] (defScope s_undone) := ⟨rfl, rfl, rfl, by decide +kernel, rfl, by decide +kernel, by decide +kernel⟩
theorem ok_undone {P : Program} {w : World} {K : PySem.W.Frag} {mg : Str → Option Value} {base : Heap} (T : Ctx fa fn wd w K mg) : Cal P w K mg base CX0 4 "undone" ["row"] (spPure (R_str1 rowB inv)) := by
  have c_need_row := ok_need_row (P := P) (base := base) T
  have c_reversed_steps := ok_reversed_steps (P := P) (base := base) T
  obtain ⟨fd, F⟩ := T.fun_ d_undone 6 rfl
  refine Cal.imp (sp := spFrame (spPure0 (R_str1 rowB inv))) (Cal.frame ⟨_, fd, T.glo "undone" 6 rfl, ?_, F.kp, FunD.bindsN F fun _ _ _ _ _ _ us hl => match us, hl with | [_], _ => rfl⟩) fun vs H Q E h => pure_frame vs H Q E h
  refine FunD.ok F sc_undone (fun vs H Q E h => (by obtain ⟨_, _, ⟨_, rfl, _⟩, _⟩ := h; rfl)) (fun cdv A outer s H vs Q E hr h => ?_)
  have hu : A.units + 3 + 1 < cLine := Nat.lt_of_le_of_lt (Nat.add_le_add_left (by decide : 1 ≤ 64) _) hr.units
  have hu0 : A.units + 3 < cLine := hr.units0
  obtain ⟨rfl, _, ⟨l, rfl, ⟨hs, hl⟩, rfl⟩, q⟩ := h
  refine ⟨_, PSs.nox (pss_cons (ps_expr (pe_c0 c_need_row (hr.mono (by decide)) rfl (pa_cons (pv 0) pa_nil)))
      (pss_one (ps_ret (pe_c0 c_reversed_steps (hr.mono (by decide)) rfl (pa_cons (pv 0) pa_nil))))), ?_⟩
  simp (maxSteps := 1000000) only [lcTurn, sizeLine_eq, L2.start, Nat.zero_le, List.replicate_succ, List.replicate_zero, Nat.reduceSub, Nat.sub_self, tC, tOp, tUn, tTest, tB, tAnd, tOr, tNot, tIf, tAndV, tOrV, tNotV, tSeq, tNext, tAsg, gName, tRet, tRetN, tIfS, tDrop, tNil, tCons, tCB, tC0, tPar, tMth, tMth0, tFor_at, tLc_at, iStrP, iListP, iSqP, iTupP, iRng1P, iRng2P, tSl, tNoPart, tPart, tChain, tNever, tYes, tLst, tTup, tDNewK, tDisp, tPairs,
  r_v0, r_vS, r_par, r_I, r_I0, r_U, r_test, r_int, st0, stS, wp0, wpS, rAddP, rEqP, rNeP, rItem, rNil, tNil1, tRevS, cLen, cAbs, cInt, cList, cAll, cAny, mAppend, mPop, mExtend, mJoin, mIndex, mUpper, mLower, rWItem, rWIn, rInSP, rInP, rIsBP, rSlSP, rSlLP, cIsi, tyName, tyn1, tyn2, tyn3, tyn4, tyn5, tyn6, isiB_same, allTxt_map, allTxt_sign, allBl_map, joinL_nil, flat_one, flat_sign, sum_one, sum_sign, all_map_id, any_map_id, List.filterMap_eq_map', List.length_map, Nat.mul_zero, Nat.add_zero, List.length_reverse, List.map_id', isLst, isTxt, isDct, itemsAt, seqAt, strsAt, allTxt, allBl, scal, sSDPut, sSDAdd,
  S_len, S_tl, S_app, S_one, S_inj, List.map_cons, List.map_nil, List.cons_append, List.nil_append, upd_same, Option.map_some, Option.map_none, if_true, if_false, reduceIte, Bool.false_eq_true, Bool.not_true, Bool.not_false, decide_eq_true_eq, exists_eq_left, exists_eq_left', and_true, true_and, V.str.injEq, V.int.injEq, V.bl.injEq, V.ref.injEq, List.length_cons, List.length_nil, Nat.zero_add, lit_dig, lit_gre, lit_lum, lit_tur, lit0, lit1, lit2, lit3, lit4, c_bool1, c_str1, wUNDOS, c_need]
  exact ⟨hs, ⟨row_steps hs, hl⟩, q _⟩
theorem sc_short : FnScope ["row"] ["row"] (defScope s_short) := ⟨rfl, rfl, rfl, by decide +kernel, rfl, by decide +kernel, by decide +kernel⟩
theorem ok_short {P : Program} {w : World} {K : PySem.W.Frag} {mg : Str → Option Value} {base : Heap} (T : Ctx fa fn wd w K mg) : Cal P w K mg base CX0 4 "short" ["row"] (spPure (R_str1 rowB red)) := by
  have c_need_row := ok_need_row (P := P) (base := base) T
  have c_shortened := ok_shortened (P := P) (base := base) T
  obtain ⟨fd, F⟩ := T.fun_ d_short 7 rfl
  refine Cal.imp (sp := spFrame (spPure0 (R_str1 rowB red))) (Cal.frame ⟨_, fd, T.glo "short" 7 rfl, ?_, F.kp, FunD.bindsN F fun _ _ _ _ _ _ us hl => match us, hl with | [_], _ => rfl⟩) fun vs H Q E h => pure_frame vs H Q E h
  refine FunD.ok F sc_short (fun vs H Q E h => (by obtain ⟨_, _, ⟨_, rfl, _⟩, _⟩ := h; rfl)) (fun cdv A outer s H vs Q E hr h => ?_)
  have hu : A.units + 3 + 1 < cLine := Nat.lt_of_le_of_lt (Nat.add_le_add_left (by decide : 1 ≤ 64) _) hr.units
  have hu0 : A.units + 3 < cLine := hr.units0
  obtain ⟨rfl, _, ⟨l, rfl, ⟨hs, hl⟩, rfl⟩, q⟩ := h
  refine ⟨_, PSs.nox (pss_cons (ps_expr (pe_c0 c_need_row (hr.mono (by decide)) rfl (pa_cons (pv 0) pa_nil)))
      (pss_one (ps_ret (pe_c0 c_shortened (hr.mono (by decide)) rfl (pa_cons (pv 0) pa_nil))))), ?_⟩
  simp (maxSteps := 1000000) only [lcTurn, sizeLine_eq, L2.start, Nat.zero_le, List.replicate_succ, List.replicate_zero, Nat.reduceSub, Nat.sub_self, tC, tOp, tUn, tTest, tB, tAnd, tOr, tNot, tIf, tAndV, tOrV, tNotV, tSeq, tNext, tAsg, gName, tRet, tRetN, tIfS, tDrop, tNil, tCons, tCB, tC0, tPar, tMth, tMth0, tFor_at, tLc_at, iStrP, iListP, iSqP, iTupP, iRng1P, iRng2P, tSl, tNoPart, tPart, tChain, tNever, tYes, tLst, tTup, tDNewK, tDisp, tPairs,
  r_v0, r_vS, r_par, r_I, r_I0, r_U, r_test, r_int, st0, stS, wp0, wpS, rAddP, rEqP, rNeP, rItem, rNil, tNil1, tRevS, cLen, cAbs, cInt, cList, cAll, cAny, mAppend, mPop, mExtend, mJoin, mIndex, mUpper, mLower, rWItem, rWIn, rInSP, rInP, rIsBP, rSlSP, rSlLP, cIsi, tyName, tyn1, tyn2, tyn3, tyn4, tyn5, tyn6, isiB_same, allTxt_map, allTxt_sign, allBl_map, joinL_nil, flat_one, flat_sign, sum_one, sum_sign, all_map_id, any_map_id, List.filterMap_eq_map', List.length_map, Nat.mul_zero, Nat.add_zero, List.length_reverse, List.map_id', isLst, isTxt, isDct, itemsAt, seqAt, strsAt, allTxt, allBl, scal, sSDPut, sSDAdd,
  S_len, S_tl, S_app, S_one, S_inj, List.map_cons, List.map_nil, List.cons_append, List.nil_append, upd_same, Option.map_some, Option.map_none, if_true, if_false, reduceIte, Bool.false_eq_true, Bool.not_true, Bool.not_false, decide_eq_true_eq, exists_eq_left, exists_eq_left', and_true, true_and, V.str.injEq, V.int.injEq, V.bl.injEq, V.ref.injEq, List.length_cons, List.length_nil, Nat.zero_add, lit_dig, lit_gre, lit_lum, lit_tur, lit0, lit1, lit2, lit3, lit4, c_bool1, c_str1, wUNDOS, c_need]
  exact ⟨hs, ⟨row_steps hs, hl⟩, q _⟩
def R_joined (vs : List V) (v : V) : Prop := ∃ l m : List Nat, vs = [.str (S l), .str (S m)] ∧ (rowB l = true ∧ rowB m = true) ∧ v = .str (S (red (l ++ m)))
theorem cq_joined {l m : List Nat} {H : Hp} {Q : VK} {E : XK} : spPure R_joined [.str (S l), .str (S m)] H Q E = ((rowB l = true ∧ rowB m = true) ∧ Q (.str (S (red (l ++ m)))) H) := by
  apply propext
  constructor
  · rintro ⟨_, ⟨l', m', e, h, rfl⟩, q⟩
    have e2 : l = l' ∧ m = m' := by simpa [S_inj] using e
    obtain ⟨rfl, rfl⟩ := e2
    exact ⟨h, q⟩
  · rintro ⟨h, q⟩
    exact ⟨_, ⟨l, m, rfl, h, rfl⟩, q⟩
theorem steps_app {l m : List Nat} : stepsB (l ++ m) = (stepsB l && stepsB m) := by
  unfold stepsB
  rw [List.all_append]
theorem sc_joined : FnScope ["row", "other"] ["row", "other"] (defScope s_joined) := ⟨rfl, rfl, rfl, by decide +kernel, rfl, by decide +kernel, by decide +kernel⟩
theorem ok_joined {P : Program} {w : World} {K : PySem.W.Frag} {mg : Str → Option Value} {base : Heap} (T : Ctx fa fn wd w K mg) : Cal P w K mg base CX0 4 "joined" ["row", "other"] (spPure R_joined) := by
  have c_need_row := ok_need_row (P := P) (base := base) T
  have c_shortened := ok_shortened (P := P) (base := base) T
  obtain ⟨fd, F⟩ := T.fun_ d_joined 8 rfl
  refine Cal.imp (sp := spFrame (spPure0 R_joined)) (Cal.frame ⟨_, fd, T.glo "joined" 8 rfl, ?_, F.kp, FunD.bindsN F fun _ _ _ _ _ _ us hl => match us, hl with | [_, _], _ => rfl⟩) fun vs H Q E h => pure_frame vs H Q E h
  refine FunD.ok F sc_joined (fun vs H Q E h => (by obtain ⟨_, _, ⟨_, _, rfl, _⟩, _⟩ := h; rfl)) (fun cdv A outer s H vs Q E hr h => ?_)
  have hu : A.units + 3 + 1 < cLine := Nat.lt_of_le_of_lt (Nat.add_le_add_left (by decide : 1 ≤ 64) _) hr.units
  have hu0 : A.units + 3 < cLine := hr.units0
  obtain ⟨rfl, _, ⟨l, m, rfl, ⟨hl, hm⟩, rfl⟩, q⟩ := h
  have h1 := row_len hl
  have h2 := row_len hm
  refine ⟨_, PSs.nox (pss_cons (ps_expr (pe_c0 c_need_row (hr.mono (by decide)) rfl (pa_cons (pv 0) pa_nil)))
      (pss_cons (ps_expr (pe_c0 c_need_row (hr.mono (by decide)) rfl (pa_cons (pv 1) pa_nil)))
      (pss_one (ps_ret (pe_c0 c_shortened (hr.mono (by decide)) rfl (pa_cons (pe_op op_addP (pv 0) (pv 1)) pa_nil)))))), ?_⟩
  simp (maxSteps := 1000000) only [lcTurn, sizeLine_eq, L2.start, Nat.zero_le, List.replicate_succ, List.replicate_zero, Nat.reduceSub, Nat.sub_self, tC, tOp, tUn, tTest, tB, tAnd, tOr, tNot, tIf, tAndV, tOrV, tNotV, tSeq, tNext, tAsg, gName, tRet, tRetN, tIfS, tDrop, tNil, tCons, tCB, tC0, tPar, tMth, tMth0, tFor_at, tLc_at, iStrP, iListP, iSqP, iTupP, iRng1P, iRng2P, tSl, tNoPart, tPart, tChain, tNever, tYes, tLst, tTup, tDNewK, tDisp, tPairs,
  r_v0, r_vS, r_par, r_I, r_I0, r_U, r_test, r_int, st0, stS, wp0, wpS, rAddP, rEqP, rNeP, rItem, rNil, tNil1, tRevS, cLen, cAbs, cInt, cList, cAll, cAny, mAppend, mPop, mExtend, mJoin, mIndex, mUpper, mLower, rWItem, rWIn, rInSP, rInP, rIsBP, rSlSP, rSlLP, cIsi, tyName, tyn1, tyn2, tyn3, tyn4, tyn5, tyn6, isiB_same, allTxt_map, allTxt_sign, allBl_map, joinL_nil, flat_one, flat_sign, sum_one, sum_sign, all_map_id, any_map_id, List.filterMap_eq_map', List.length_map, Nat.mul_zero, Nat.add_zero, List.length_reverse, List.map_id', isLst, isTxt, isDct, itemsAt, seqAt, strsAt, allTxt, allBl, scal, sSDPut, sSDAdd,
  S_len, S_tl, S_app, S_one, S_inj, List.map_cons, List.map_nil, List.cons_append, List.nil_append, upd_same, Option.map_some, Option.map_none, if_true, if_false, reduceIte, Bool.false_eq_true, Bool.not_true, Bool.not_false, decide_eq_true_eq, exists_eq_left, exists_eq_left', and_true, true_and, V.str.injEq, V.int.injEq, V.bl.injEq, V.ref.injEq, List.length_cons, List.length_nil, Nat.zero_add, lit_dig, lit_gre, lit_lum, lit_tur, lit0, lit1, lit2, lit3, lit4, c_bool1, c_str1, wUNDOS, c_need, cq_joined]
  exact ⟨hl, hm, by omega, ⟨by rw [steps_app, row_steps hl, row_steps hm] <;> rfl, by rw [List.length_append]; omega⟩, q _⟩

/-! ### the draws -/
def bigs (ns : List Int) : List Int := ns.filterMap fun n => if (1000000000000000000 : Int) ≤ (n.natAbs : Int) then some ((n.natAbs : Int) / 1000000000000000000) else none
def smalls (ns : List Int) : List Int := ns.map fun n => (n.natAbs : Int) % 1000000000000000000
theorem begun_ok (ns : List Int) : Dok ⟨0, bigs ns, smalls ns, 0⟩ := by
  refine ⟨Int.le_refl 0, fun g hg => ?_, fun l hl => ?_, Int.le_refl 0⟩
  · obtain ⟨n, _, e⟩ := List.mem_filterMap.mp hg
    split at e
    · cases e
      omega
    · cases e
  · obtain ⟨n, _, e⟩ := List.mem_map.mp hl
    subst e
    omega
theorem sc__law_begun : FnScope ["_law_script", "_law_great", "_law_lump"] ["_law_script"] (defScope s__law_begun) := ⟨rfl, rfl, rfl, by decide +kernel, rfl, by decide +kernel, by decide +kernel⟩
theorem ok__law_begun {P : Program} {w : World} {K : PySem.W.Frag} {mg : Str → Option Value} {base : Heap} (T : Ctx fa fn wd w K mg) : Cal P w K mg base CX0 1 "_law_begun" ["_law_script"] (spBegun K) := by
  obtain ⟨fd, F⟩ := T.fun_ d__law_begun 9 rfl
  refine Cal.imp (sp := spFrame (spBegun0 K)) (Cal.frame ⟨_, fd, T.glo "_law_begun" 9 rfl, ?_, F.kp, FunD.bindsN F fun _ _ _ _ _ _ us hl => match us, hl with | [_], _ => rfl⟩) fun vs H Q E h => begun_frame vs H Q E h
  refine FunD.ok F sc__law_begun (fun vs H Q E h => (by obtain ⟨_, _, rfl, _⟩ := h; rfl)) (fun cdv A outer s H vs Q E hr h => ?_)
  have hu : A.units + 3 + 1 < cLine := Nat.lt_of_le_of_lt (Nat.add_le_add_left (by decide : 1 ≤ 64) _) hr.units
  have hu0 : A.units + 3 < cLine := hr.units0
  obtain ⟨a, ns, rfl, hs, hl, q⟩ := h
  refine ⟨_, PSs.nox (pss_cons (ps_setLc (i := 1) (own := [("_law_lump", 2)]) rfl sc__law_begun.nd rfl rfl (sw_true rfl rfl rfl (by decide +kernel)) (pi_sqP (pv 0)) (blkOk_by (own := [("_law_lump", 2)]) (N := ["_law_script", "_law_great", "_law_lump"]) (sc := defScope s__law_begun) (by decide +kernel)) (fun _ _ _ _ _ => pg_name (i := 2) sc__law_begun.nd rfl (by first | exact Or.inl rfl | exact Or.inr rfl)) (fun _ _ _ _ _ => pts_one (pt_cmpR op_ge (pe_callB call_absP rfl (T.free "abs" 20 rfl) (by decide +kernel) (pa_cons (pv 2) pa_nil)) (pe_op op_pow pe_int pe_int) (nomark _))) (fun _ _ _ _ _ => (pe_op op_fdivP (pe_callB call_absP rfl (T.free "abs" 20 rfl) (by decide +kernel) (pa_cons (pv 2) pa_nil)) (pe_op op_pow pe_int pe_int))))
      (pss_one (ps_ret (pe_disp (pps_cons pe_str pe_int (pps_cons pe_str (pv 1) (pps_cons pe_str (pe_lc (own := [("_law_lump", 2)]) rfl sc__law_begun.nd (pi_sqP (pv 0)) (blkOk_by (own := [("_law_lump", 2)]) (N := ["_law_script", "_law_great", "_law_lump"]) (sc := defScope s__law_begun) (by decide +kernel)) (fun _ _ _ _ _ => pg_name (i := 2) sc__law_begun.nd rfl (by first | exact Or.inl rfl | exact Or.inr rfl)) (fun _ _ _ _ _ => pts_nil) (fun _ _ _ _ _ => (pe_op op_mod (pe_callTy call_intP rfl (T.free "int" 22 rfl) (by decide +kernel) (pa_cons (pe_callB call_absP rfl (T.free "abs" 20 rfl) (by decide +kernel) (pa_cons (pv 2) pa_nil)) pa_nil)) (pe_op op_pow pe_int pe_int)))) (pps_cons pe_str pe_int pps_nil)))) (by rfl) (by rfl) (fun z => by cases z) (by decide))))), ?_⟩
  have hu1 : (10 : Int) ^ (18 : Int).toNat = 1000000000000000000 := by decide
  have hc1 : CPow 10 18 := by unfold CPow; decide
  have hc2 : ∀ i : Int, CDivP i 1000000000000000000 := fun i => by unfold CDivP; omega
  simp (maxSteps := 1000000) only [lcTurn, sizeLine_eq, L2.start, Nat.zero_le, List.replicate_succ, List.replicate_zero, Nat.reduceSub, Nat.sub_self, tC, tOp, tUn, tTest, tB, tAnd, tOr, tNot, tIf, tAndV, tOrV, tNotV, tSeq, tNext, tAsg, gName, tRet, tRetN, tIfS, tDrop, tNil, tCons, tCB, tC0, tPar, tMth, tMth0, tFor_at, tLc_at, iStrP, iListP, iSqP, iTupP, iRng1P, iRng2P, tSl, tNoPart, tPart, tChain, tNever, tYes, tLst, tTup, tDNewK, tDisp, tPairs,
  r_v0, r_vS, r_par, r_I, r_I0, r_U, r_test, r_int, st0, stS, wp0, wpS, rAddP, rEqP, rNeP, rItem, rNil, tNil1, tRevS, cLen, cAbs, cInt, cList, cAll, cAny, mAppend, mPop, mExtend, mJoin, mIndex, mUpper, mLower, rWItem, rWIn, rInSP, rInP, rIsBP, rSlSP, rSlLP, cIsi, tyName, tyn1, tyn2, tyn3, tyn4, tyn5, tyn6, isiB_same, allTxt_map, allTxt_sign, allBl_map, joinL_nil, flat_one, flat_sign, sum_one, sum_sign, all_map_id, any_map_id, List.filterMap_eq_map', List.length_map, Nat.mul_zero, Nat.add_zero, List.length_reverse, List.map_id', isLst, isTxt, isDct, itemsAt, seqAt, strsAt, allTxt, allBl, scal, sSDPut, sSDAdd,
  S_len, S_tl, S_app, S_one, S_inj, List.map_cons, List.map_nil, List.cons_append, List.nil_append, upd_same, Option.map_some, Option.map_none, if_true, if_false, reduceIte, Bool.false_eq_true, Bool.not_true, Bool.not_false, decide_eq_true_eq, exists_eq_left, exists_eq_left', and_true, true_and, V.str.injEq, V.int.injEq, V.bl.injEq, V.ref.injEq, List.length_cons, List.length_nil, Nat.zero_add, lit_dig, lit_gre, lit_lum, lit_tur, lit0, lit1, lit2, lit3, lit4, c_bool1, c_str1, wUNDOS, c_need, cq_joined]
  refine ⟨⟨_, hs⟩, lc_pure (goes_list a (ns.map V.int)) (fun n => if (1000000000000000000 : Int) ≤ (n.natAbs : Int) then some (.int ((n.natAbs : Int) / 1000000000000000000)) else none) (by rw [sizeLine_eq]; omega) (fun D ys hD => sq_new hs hD) (fun D n acc R hD hn r => ?_) fun G hG => ?_⟩
  · simp (maxSteps := 1000000) only [lcTurn, sizeLine_eq, L2.start, Nat.zero_le, List.replicate_succ, List.replicate_zero, Nat.reduceSub, Nat.sub_self, tC, tOp, tUn, tTest, tB, tAnd, tOr, tNot, tIf, tAndV, tOrV, tNotV, tSeq, tNext, tAsg, gName, tRet, tRetN, tIfS, tDrop, tNil, tCons, tCB, tC0, tPar, tMth, tMth0, tFor_at, tLc_at, iStrP, iListP, iSqP, iTupP, iRng1P, iRng2P, tSl, tNoPart, tPart, tChain, tNever, tYes, tLst, tTup, tDNewK, tDisp, tPairs,
  r_v0, r_vS, r_par, r_I, r_I0, r_U, r_test, r_int, st0, stS, wp0, wpS, rAddP, rEqP, rNeP, rItem, rNil, tNil1, tRevS, cLen, cAbs, cInt, cList, cAll, cAny, mAppend, mPop, mExtend, mJoin, mIndex, mUpper, mLower, rWItem, rWIn, rInSP, rInP, rIsBP, rSlSP, rSlLP, cIsi, tyName, tyn1, tyn2, tyn3, tyn4, tyn5, tyn6, isiB_same, allTxt_map, allTxt_sign, allBl_map, joinL_nil, flat_one, flat_sign, sum_one, sum_sign, all_map_id, any_map_id, List.filterMap_eq_map', List.length_map, Nat.mul_zero, Nat.add_zero, List.length_reverse, List.map_id', isLst, isTxt, isDct, itemsAt, seqAt, strsAt, allTxt, allBl, scal, sSDPut, sSDAdd,
  S_len, S_tl, S_app, S_one, S_inj, List.map_cons, List.map_nil, List.cons_append, List.nil_append, upd_same, Option.map_some, Option.map_none, if_true, if_false, reduceIte, Bool.false_eq_true, Bool.not_true, Bool.not_false, decide_eq_true_eq, exists_eq_left, exists_eq_left', and_true, true_and, V.str.injEq, V.int.injEq, V.bl.injEq, V.ref.injEq, List.length_cons, List.length_nil, Nat.zero_add, lit_dig, lit_gre, lit_lum, lit_tur, lit0, lit1, lit2, lit3, lit4, c_bool1, c_str1, wUNDOS, c_need, cq_joined, hu1, hc1, hc2]
    by_cases hn2 : (1000000000000000000 : Int) ≤ (n.natAbs : Int)
    · rw [if_pos hn2] at r ⊢
      exact r
    · rw [if_neg hn2] at r ⊢
      exact r
  · have hz : ∀ l : List Int, (l.filterMap fun n => if (1000000000000000000 : Int) ≤ (n.natAbs : Int) then some (V.int ((n.natAbs : Int) / 1000000000000000000)) else none) = (bigs l).map V.int := fun l => by
      unfold bigs
      rw [List.map_filterMap]
      congr 1
      funext n
      split <;> rfl
    rw [hz]
    intro D hD
    obtain ⟨dg, hD0⟩ := upd_none hD
    have hs2 := sq_new (o := .dK []) (sq_new (o := .lst ((bigs ns).map V.int)) hs hG) hD
    refine ⟨⟨_, hs2⟩, lc_pure (goes_list a (ns.map V.int)) (fun n => some (.int ((n.natAbs : Int) % 1000000000000000000))) (by rw [sizeLine_eq]; omega) (fun L ys hL => sq_new hs2 hL) (fun L n acc R hD hn r => ?_) fun L hL => ?_⟩
    · have hm : (0 : Int) < 1000000000000000000 := by decide
      simp (maxSteps := 1000000) only [lcTurn, sizeLine_eq, L2.start, Nat.zero_le, List.replicate_succ, List.replicate_zero, Nat.reduceSub, Nat.sub_self, tC, tOp, tUn, tTest, tB, tAnd, tOr, tNot, tIf, tAndV, tOrV, tNotV, tSeq, tNext, tAsg, gName, tRet, tRetN, tIfS, tDrop, tNil, tCons, tCB, tC0, tPar, tMth, tMth0, tFor_at, tLc_at, iStrP, iListP, iSqP, iTupP, iRng1P, iRng2P, tSl, tNoPart, tPart, tChain, tNever, tYes, tLst, tTup, tDNewK, tDisp, tPairs,
  r_v0, r_vS, r_par, r_I, r_I0, r_U, r_test, r_int, st0, stS, wp0, wpS, rAddP, rEqP, rNeP, rItem, rNil, tNil1, tRevS, cLen, cAbs, cInt, cList, cAll, cAny, mAppend, mPop, mExtend, mJoin, mIndex, mUpper, mLower, rWItem, rWIn, rInSP, rInP, rIsBP, rSlSP, rSlLP, cIsi, tyName, tyn1, tyn2, tyn3, tyn4, tyn5, tyn6, isiB_same, allTxt_map, allTxt_sign, allBl_map, joinL_nil, flat_one, flat_sign, sum_one, sum_sign, all_map_id, any_map_id, List.filterMap_eq_map', List.length_map, Nat.mul_zero, Nat.add_zero, List.length_reverse, List.map_id', isLst, isTxt, isDct, itemsAt, seqAt, strsAt, allTxt, allBl, scal, sSDPut, sSDAdd,
  S_len, S_tl, S_app, S_one, S_inj, List.map_cons, List.map_nil, List.cons_append, List.nil_append, upd_same, Option.map_some, Option.map_none, if_true, if_false, reduceIte, Bool.false_eq_true, Bool.not_true, Bool.not_false, decide_eq_true_eq, exists_eq_left, exists_eq_left', and_true, true_and, V.str.injEq, V.int.injEq, V.bl.injEq, V.ref.injEq, List.length_cons, List.length_nil, Nat.zero_add, lit_dig, lit_gre, lit_lum, lit_tur, lit0, lit1, lit2, lit3, lit4, c_bool1, c_str1, wUNDOS, c_need, cq_joined, hu1, hc1, hm]
      exact r
    · obtain ⟨ld, hl1⟩ := upd_none hL
      obtain ⟨lg, hl0⟩ := upd_none hl1
      have ad : Ad D G L := ⟨dg, Ne.symm ld, Ne.symm lg⟩
      have hsm : (ns.map fun n => V.int ((n.natAbs : Int) % 1000000000000000000)) = (smalls ns).map V.int := by
        unfold smalls
        rw [List.map_map] <;> rfl
      simp (maxSteps := 1000000) only [lcTurn, sizeLine_eq, L2.start, Nat.zero_le, List.replicate_succ, List.replicate_zero, Nat.reduceSub, Nat.sub_self, tC, tOp, tUn, tTest, tB, tAnd, tOr, tNot, tIf, tAndV, tOrV, tNotV, tSeq, tNext, tAsg, gName, tRet, tRetN, tIfS, tDrop, tNil, tCons, tCB, tC0, tPar, tMth, tMth0, tFor_at, tLc_at, iStrP, iListP, iSqP, iTupP, iRng1P, iRng2P, tSl, tNoPart, tPart, tChain, tNever, tYes, tLst, tTup, tDNewK, tDisp, tPairs,
  r_v0, r_vS, r_par, r_I, r_I0, r_U, r_test, r_int, st0, stS, wp0, wpS, rAddP, rEqP, rNeP, rItem, rNil, tNil1, tRevS, cLen, cAbs, cInt, cList, cAll, cAny, mAppend, mPop, mExtend, mJoin, mIndex, mUpper, mLower, rWItem, rWIn, rInSP, rInP, rIsBP, rSlSP, rSlLP, cIsi, tyName, tyn1, tyn2, tyn3, tyn4, tyn5, tyn6, isiB_same, allTxt_map, allTxt_sign, allBl_map, joinL_nil, flat_one, flat_sign, sum_one, sum_sign, all_map_id, any_map_id, List.filterMap_eq_map', List.length_map, Nat.mul_zero, Nat.add_zero, List.length_reverse, List.map_id', isLst, isTxt, isDct, itemsAt, seqAt, strsAt, allTxt, allBl, scal, sSDPut, sSDAdd,
  S_len, S_tl, S_app, S_one, S_inj, List.map_cons, List.map_nil, List.cons_append, List.nil_append, upd_same, Option.map_some, Option.map_none, if_true, if_false, reduceIte, Bool.false_eq_true, Bool.not_true, Bool.not_false, decide_eq_true_eq, exists_eq_left, exists_eq_left', and_true, true_and, V.str.injEq, V.int.injEq, V.bl.injEq, V.ref.injEq, List.length_cons, List.length_nil, Nat.zero_add, lit_dig, lit_gre, lit_lum, lit_tur, lit0, lit1, lit2, lit3, lit4, c_bool1, c_str1, wUNDOS, c_need, cq_joined, hsm]
      refine ⟨by rw [upd_ne (Ne.symm ld), upd_same], [(.inr kDig, .int 0), (.inr kGre, .ref G), (.inr kLum, .ref L), (.inr kTur, .int 0)], rfl, show (4 : Nat) ≤ 15 by decide, ?_⟩
      rw [merge_dr (g := bigs ns) (l := smalls ns)]
      refine q D G L ⟨0, bigs ns, smalls ns, 0⟩ _ hD0 hG hl0 ad (begun_ok ns) rfl upd_same ?_ ?_ fun c o hc => ?_
      · rw [upd_ne (Ne.symm dg), upd_ne (Ne.symm lg), upd_ne (Ne.symm dg), upd_same]
      · rw [upd_ne ld, upd_same]
      · rw [upd_ne (ne_of_none hc hD0), upd_ne (ne_of_none hc hl0), upd_ne (ne_of_none hc hD0), upd_ne (ne_of_none hc hG)]
        exact hc
theorem ite_both {c d : Prop} [Decidable c] [Decidable d] {X Y : Prop} (h : ¬ (c ∧ d)) : (if c then (if d then X else Y) else Y) = Y := by
  by_cases hc : c
  · rw [if_pos hc, if_neg fun hd => h ⟨hc, hd⟩]
  · rw [if_neg hc]
def mix (lump turn : Int) : Int := (lump % 2147483629 + 40009 * turn) ^ 3 % 2147483647
theorem sc__law_next : FnScope ["_law_draw", "_law_many", "_law_found", "_law_turn", "_law_lump", "_law_mixed"] ["_law_draw", "_law_many"] (defScope s__law_next) := ⟨rfl, rfl, rfl, by decide +kernel, rfl, by decide +kernel, by decide +kernel⟩
theorem ok__law_next {P : Program} {w : World} {K : PySem.W.Frag} {mg : Str → Option Value} {base : Heap} (T : Ctx fa fn wd w K mg) : Cal P w K mg base CX0 1 "_law_next" ["_law_draw", "_law_many"] (spD preN postN) := by
  obtain ⟨fd, F⟩ := T.fun_ d__law_next 10 rfl
  refine Cal.imp (sp := spFrame (spD0 preN postN)) (Cal.frame ⟨_, fd, T.glo "_law_next" 10 rfl, ?_, F.kp, FunD.bindsN F fun _ _ _ _ _ _ us hl => match us, hl with | [_, _], _ => rfl⟩) fun vs H Q E h => draw_frame vs H Q E h
  refine FunD.ok F sc__law_next (fun vs H Q E h => (by obtain ⟨_, _, _, _, _, rfl, _, _, ⟨_, rfl, _⟩, _⟩ := h; rfl)) (fun cdv A outer s H vs Q E hr h => ?_)
  have hu : A.units + 3 + 1 < cLine := Nat.lt_of_le_of_lt (Nat.add_le_add_left (by decide : 1 ≤ 64) _) hr.units
  have hu0 : A.units + 3 < cLine := hr.units0
  obtain ⟨D, G, L, st, rest, rfl, rfl, ad, ⟨m, rfl, m0, m1, ok, ht⟩, q⟩ := h
  refine ⟨_, PSs.nox (pss_cons (ps_while PassesOwn.never (PW.pt (pw_and (pt_cmpR op_eqP (pe_ix (ix_P hu) (pv 0) pe_str (fun _ _ => rfl)) pe_int (nomark _)) (pw_and1 (pt_cmp (pc_neNil hu0 (pe_ix (ix_P hu) (pv 0) pe_str (fun _ _ => rfl))) (by rfl))))) (pss_one (ps_dputP hu (pv 0) pe_str (pe_mth PySem.F.plainAttrs_list PySem.F.slot_list_pop PySem.F.type_list_pop (fun _ _ z => isLst_ty z) mtr_pop (pe_ix (ix_P hu) (pv 0) pe_str (fun _ _ => rfl)) (pa_cons pe_int pa_nil)) rfl)))
      (pss_cons (ps_if (pt_cmpR op_gt (pe_ix (ix_P hu) (pv 0) pe_str (fun _ _ => rfl)) pe_int (nomark _)) (pss_cons (ps_set (i := 2) sc__law_next.nd rfl (by first | exact Or.inl rfl | exact Or.inr rfl) (pe_op op_mod (pe_callTy call_intP rfl (T.free "int" 22 rfl) (by decide +kernel) (pa_cons (pe_ix (ix_P hu) (pv 0) pe_str (fun _ _ => rfl)) pa_nil)) (pv 1)))
      (pss_cons (ps_dputP hu (pv 0) pe_str (pe_op op_fdivP (pe_ix (ix_P hu) (pv 0) pe_str (fun _ _ => rfl)) (pv 1)) rfl)
      (pss_one (ps_ret (pv 2))))) pss_nil)
      (pss_cons (ps_daddP hu (pv 0) pe_str pe_int (fun _ _ _ => rfl))
      (pss_cons (ps_set (i := 3) sc__law_next.nd rfl (by first | exact Or.inl rfl | exact Or.inr rfl) (pe_ix (ix_P hu) (pv 0) pe_str (fun _ _ => rfl)))
      (pss_cons (ps_set (i := 4) sc__law_next.nd rfl (by first | exact Or.inl rfl | exact Or.inr rfl) pe_int)
      (pss_cons (ps_if (pt_cmp (pc_neNil hu0 (pe_ix (ix_P hu) (pv 0) pe_str (fun _ _ => rfl))) (by rfl)) (pss_one (ps_set (i := 4) sc__law_next.nd rfl (by first | exact Or.inl rfl | exact Or.inr rfl) (pe_ix (ix_P hu) (pe_ix (ix_P hu) (pv 0) pe_str (fun _ _ => rfl)) (pe_op op_mod (pe_callTy call_intP rfl (T.free "int" 22 rfl) (by decide +kernel) (pa_cons (pv 3) pa_nil)) (pe_callB call_lenP rfl (T.free "len" 24 rfl) (by decide +kernel) (pa_cons (pe_ix (ix_P hu) (pv 0) pe_str (fun _ _ => rfl)) pa_nil))) (fun _ _ => rfl)))) pss_nil)
      (pss_cons (ps_set (i := 5) sc__law_next.nd rfl (by first | exact Or.inl rfl | exact Or.inr rfl) (pe_op op_mod (pe_callTy call_intP rfl (T.free "int" 22 rfl) (by decide +kernel) (pa_cons (pe_op op_pow (pe_op op_addP (pe_op op_mod (pe_callTy call_intP rfl (T.free "int" 22 rfl) (by decide +kernel) (pa_cons (pv 4) pa_nil)) pe_int) (pe_op op_mul pe_int (pv 3))) pe_int) pa_nil)) pe_int))
      (pss_one (ps_ret (pe_op op_mod (pe_callTy call_intP rfl (T.free "int" 22 rfl) (by decide +kernel) (pa_cons (pe_op op_fdivP (pe_op op_mod (pe_callTy call_intP rfl (T.free "int" 22 rfl) (by decide +kernel) (pa_cons (pe_op op_pow (pe_op op_addP (pv 5) (pe_op op_mul pe_int (pv 3))) pe_int) pa_nil)) pe_int) pe_int) pa_nil)) (pv 1))))))))))), ?_⟩
  simp only [lcTurn, sizeLine_eq, L2.start, Nat.zero_le, List.replicate_succ, List.replicate_zero, Nat.reduceSub, Nat.sub_self, tC, tOp, tUn, tTest, tB, tAnd, tOr, tNot, tIf, tAndV, tOrV, tNotV, tSeq_then, tNext, tAsg, gName, tRet, tRetN, tIfS, tDrop, tNil, tCons, tCB, tC0, tPar, tMth, tMth0, tFor_at, tLc_at, iStrP, iListP, iSqP, iTupP, iRng1P, iRng2P, tSl, tNoPart, tPart, tChain, tNever, tYes, tLst, tTup, tDNewK, tDisp, tPairs,
  r_v0, r_vS, r_par, r_I, r_I0, r_U, r_test, r_int, st0, stS, wp0, wpS, rAddP, rEqP, rNeP, rItem, rNil, tNil1, tRevS, cLen, cAbs, cInt, cList, cAll, cAny, mAppend, mPop, mExtend, mJoin, mIndex, mUpper, mLower, rWItem, rWIn, rInSP, rInP, rIsBP, rSlSP, rSlLP, cIsi, tyName, tyn1, tyn2, tyn3, tyn4, tyn5, tyn6, isiB_same, allTxt_map, allTxt_sign, allBl_map, joinL_nil, flat_one, flat_sign, sum_one, sum_sign, all_map_id, any_map_id, List.filterMap_eq_map', List.length_map, Nat.mul_zero, Nat.add_zero, List.length_reverse, List.map_id', isLst, isTxt, isDct, itemsAt, seqAt, strsAt, allTxt, allBl, scal, sSDPut, sSDAdd,
  S_len, S_tl, S_app, S_one, S_inj, List.map_cons, List.map_nil, List.cons_append, List.nil_append, upd_same, Option.map_some, Option.map_none, if_true, if_false, reduceIte, Bool.false_eq_true, Bool.not_true, Bool.not_false, decide_eq_true_eq, exists_eq_left, exists_eq_left', and_true, true_and, V.str.injEq, V.int.injEq, V.bl.injEq, V.ref.injEq, List.length_cons, List.length_nil, Nat.zero_add, lit_dig, lit_gre, lit_lum, lit_tur, lit0, lit1, lit2, lit3, lit4, c_bool1, c_str1, wUNDOS, c_need, cq_joined]
  refine ⟨fun k σ H => ∃ st', k = st'.great.length ∧ σ = [some (.ref D), some (.int m), none, none, none, none] ∧ H = dr H0 D G L st' ∧ Dok st' ∧ st'.turn = st.turn ∧ st'.lumps = st.lumps, ⟨_, st, rfl, rfl, rfl, ok, rfl, rfl⟩, ?_⟩
  rintro k σ H ⟨st', rfl, rfl, rfl, ok', et, el⟩
  simp only [lcTurn, sizeLine_eq, L2.start, Nat.zero_le, List.replicate_succ, List.replicate_zero, Nat.reduceSub, Nat.sub_self, tC, tOp, tUn, tTest, tB, tAnd, tOr, tNot, tIf, tAndV, tOrV, tNotV, tSeq_then, tNext, tAsg, gName, tRet, tRetN, tIfS, tDrop, tNil, tCons, tCB, tC0, tPar, tMth, tMth0, tFor_at, tLc_at, iStrP, iListP, iSqP, iTupP, iRng1P, iRng2P, tSl, tNoPart, tPart, tChain, tNever, tYes, tLst, tTup, tDNewK, tDisp, tPairs,
  r_v0, r_vS, r_par, r_I, r_I0, r_U, r_test, r_int, st0, stS, wp0, wpS, rAddP, rEqP, rNeP, rItem, rNil, tNil1, tRevS, cLen, cAbs, cInt, cList, cAll, cAny, mAppend, mPop, mExtend, mJoin, mIndex, mUpper, mLower, rWItem, rWIn, rInSP, rInP, rIsBP, rSlSP, rSlLP, cIsi, tyName, tyn1, tyn2, tyn3, tyn4, tyn5, tyn6, isiB_same, allTxt_map, allTxt_sign, allBl_map, joinL_nil, flat_one, flat_sign, sum_one, sum_sign, all_map_id, any_map_id, List.filterMap_eq_map', List.length_map, Nat.mul_zero, Nat.add_zero, List.length_reverse, List.map_id', isLst, isTxt, isDct, itemsAt, seqAt, strsAt, allTxt, allBl, scal, sSDPut, sSDAdd,
  S_len, S_tl, S_app, S_one, S_inj, List.map_cons, List.map_nil, List.cons_append, List.nil_append, upd_same, Option.map_some, Option.map_none, if_true, if_false, reduceIte, Bool.false_eq_true, Bool.not_true, Bool.not_false, decide_eq_true_eq, exists_eq_left, exists_eq_left', and_true, true_and, V.str.injEq, V.int.injEq, V.bl.injEq, V.ref.injEq, List.length_cons, List.length_nil, Nat.zero_add, lit_dig, lit_gre, lit_lum, lit_tur, lit0, lit1, lit2, lit3, lit4, c_bool1, c_str1, wUNDOS, c_need, cq_joined, dr_D, dv_dig, dv_gre, dr_G ad]
  by_cases hz : st'.digits = 0 ∧ (!(List.map V.int st'.great).isEmpty) = true
  · rw [if_pos hz.1, if_pos hz.2]
    cases eg : st'.great with
    | nil =>
      rw [eg] at hz
      exact absurd hz.2 (by decide)
    | cons g gs =>
      refine ⟨_, fun σ' H' h => h, Int.le_refl 0, ?_⟩
      have hg := ok'.gre
      rw [eg] at hg
      have e1 : dr H0 D G L st' = dr H0 D G L { st' with great := g :: gs } := by rw [← eg]
      simp only [List.map_cons, Int.toNat_zero, List.getElem?_cons_zero, List.eraseIdx_cons_zero, dr_setG ad, dr_D, vK, dp_dig, dr_set, drK_len]
      refine ⟨by decide, gs.length, Nat.lt_succ_self _, { st' with digits := g, great := gs }, rfl, trivial, rfl, ⟨Int.le_of_lt (hg g (List.mem_cons_self ..)), fun x hx => hg x (List.mem_cons_of_mem _ hx), ok'.lum, ok'.tur⟩, et, el⟩
  · rw [ite_both hz]
    have hm2 : CDivP st'.digits m := by unfold CDivP; omega
    simp only [Then]
    simp only [lcTurn, sizeLine_eq, L2.start, Nat.zero_le, List.replicate_succ, List.replicate_zero, Nat.reduceSub, Nat.sub_self, tC, tOp, tUn, tTest, tB, tAnd, tOr, tNot, tIf, tAndV, tOrV, tNotV, tSeq_then, tNext, tAsg, gName, tRet, tRetN, tIfS, tDrop, tNil, tCons, tCB, tC0, tPar, tMth, tMth0, tFor_at, tLc_at, iStrP, iListP, iSqP, iTupP, iRng1P, iRng2P, tSl, tNoPart, tPart, tChain, tNever, tYes, tLst, tTup, tDNewK, tDisp, tPairs,
  r_v0, r_vS, r_par, r_I, r_I0, r_U, r_test, r_int, st0, stS, wp0, wpS, rAddP, rEqP, rNeP, rItem, rNil, tNil1, tRevS, cLen, cAbs, cInt, cList, cAll, cAny, mAppend, mPop, mExtend, mJoin, mIndex, mUpper, mLower, rWItem, rWIn, rInSP, rInP, rIsBP, rSlSP, rSlLP, cIsi, tyName, tyn1, tyn2, tyn3, tyn4, tyn5, tyn6, isiB_same, allTxt_map, allTxt_sign, allBl_map, joinL_nil, flat_one, flat_sign, sum_one, sum_sign, all_map_id, any_map_id, List.filterMap_eq_map', List.length_map, Nat.mul_zero, Nat.add_zero, List.length_reverse, List.map_id', isLst, isTxt, isDct, itemsAt, seqAt, strsAt, allTxt, allBl, scal, sSDPut, sSDAdd,
  S_len, S_tl, S_app, S_one, S_inj, List.map_cons, List.map_nil, List.cons_append, List.nil_append, upd_same, Option.map_some, Option.map_none, if_true, if_false, reduceIte, Bool.false_eq_true, Bool.not_true, Bool.not_false, decide_eq_true_eq, exists_eq_left, exists_eq_left', and_true, true_and, V.str.injEq, V.int.injEq, V.bl.injEq, V.ref.injEq, List.length_cons, List.length_nil, Nat.zero_add, lit_dig, lit_gre, lit_lum, lit_tur, lit0, lit1, lit2, lit3, lit4, c_bool1, c_str1, wUNDOS, c_need, cq_joined, dr_D, dv_dig, m0]
    by_cases hd : 0 < st'.digits
    · rw [if_pos hd]
      simp only [Then]
      simp only [lcTurn, sizeLine_eq, L2.start, Nat.zero_le, List.replicate_succ, List.replicate_zero, Nat.reduceSub, Nat.sub_self, tC, tOp, tUn, tTest, tB, tAnd, tOr, tNot, tIf, tAndV, tOrV, tNotV, tSeq_then, tNext, tAsg, gName, tRet, tRetN, tIfS, tDrop, tNil, tCons, tCB, tC0, tPar, tMth, tMth0, tFor_at, tLc_at, iStrP, iListP, iSqP, iTupP, iRng1P, iRng2P, tSl, tNoPart, tPart, tChain, tNever, tYes, tLst, tTup, tDNewK, tDisp, tPairs,
  r_v0, r_vS, r_par, r_I, r_I0, r_U, r_test, r_int, st0, stS, wp0, wpS, rAddP, rEqP, rNeP, rItem, rNil, tNil1, tRevS, cLen, cAbs, cInt, cList, cAll, cAny, mAppend, mPop, mExtend, mJoin, mIndex, mUpper, mLower, rWItem, rWIn, rInSP, rInP, rIsBP, rSlSP, rSlLP, cIsi, tyName, tyn1, tyn2, tyn3, tyn4, tyn5, tyn6, isiB_same, allTxt_map, allTxt_sign, allBl_map, joinL_nil, flat_one, flat_sign, sum_one, sum_sign, all_map_id, any_map_id, List.filterMap_eq_map', List.length_map, Nat.mul_zero, Nat.add_zero, List.length_reverse, List.map_id', isLst, isTxt, isDct, itemsAt, seqAt, strsAt, allTxt, allBl, scal, sSDPut, sSDAdd,
  S_len, S_tl, S_app, S_one, S_inj, List.map_cons, List.map_nil, List.cons_append, List.nil_append, upd_same, Option.map_some, Option.map_none, if_true, if_false, reduceIte, Bool.false_eq_true, Bool.not_true, Bool.not_false, decide_eq_true_eq, exists_eq_left, exists_eq_left', and_true, true_and, V.str.injEq, V.int.injEq, V.bl.injEq, V.ref.injEq, List.length_cons, List.length_nil, Nat.zero_add, lit_dig, lit_gre, lit_lum, lit_tur, lit0, lit1, lit2, lit3, lit4, c_bool1, c_str1, wUNDOS, c_need, cq_joined, dr_D, dv_dig, vK, dp_dig, dr_set, drK_len, m0, hm2]
      refine ⟨by decide, ?_⟩
      simp only [Then]
      simp only [lcTurn, sizeLine_eq, L2.start, Nat.zero_le, List.replicate_succ, List.replicate_zero, Nat.reduceSub, Nat.sub_self, tC, tOp, tUn, tTest, tB, tAnd, tOr, tNot, tIf, tAndV, tOrV, tNotV, tSeq_then, tNext, tAsg, gName, tRet, tRetN, tIfS, tDrop, tNil, tCons, tCB, tC0, tPar, tMth, tMth0, tFor_at, tLc_at, iStrP, iListP, iSqP, iTupP, iRng1P, iRng2P, tSl, tNoPart, tPart, tChain, tNever, tYes, tLst, tTup, tDNewK, tDisp, tPairs,
  r_v0, r_vS, r_par, r_I, r_I0, r_U, r_test, r_int, st0, stS, wp0, wpS, rAddP, rEqP, rNeP, rItem, rNil, tNil1, tRevS, cLen, cAbs, cInt, cList, cAll, cAny, mAppend, mPop, mExtend, mJoin, mIndex, mUpper, mLower, rWItem, rWIn, rInSP, rInP, rIsBP, rSlSP, rSlLP, cIsi, tyName, tyn1, tyn2, tyn3, tyn4, tyn5, tyn6, isiB_same, allTxt_map, allTxt_sign, allBl_map, joinL_nil, flat_one, flat_sign, sum_one, sum_sign, all_map_id, any_map_id, List.filterMap_eq_map', List.length_map, Nat.mul_zero, Nat.add_zero, List.length_reverse, List.map_id', isLst, isTxt, isDct, itemsAt, seqAt, strsAt, allTxt, allBl, scal, sSDPut, sSDAdd,
  S_len, S_tl, S_app, S_one, S_inj, List.map_cons, List.map_nil, List.cons_append, List.nil_append, upd_same, Option.map_some, Option.map_none, if_true, if_false, reduceIte, Bool.false_eq_true, Bool.not_true, Bool.not_false, decide_eq_true_eq, exists_eq_left, exists_eq_left', and_true, true_and, V.str.injEq, V.int.injEq, V.bl.injEq, V.ref.injEq, List.length_cons, List.length_nil, Nat.zero_add, lit_dig, lit_gre, lit_lum, lit_tur, lit0, lit1, lit2, lit3, lit4, c_bool1, c_str1, wUNDOS, c_need, cq_joined]
      refine q _ { st' with digits := st'.digits / m } _ ⟨m, _, rfl, rfl, Int.emod_nonneg _ (by omega), Int.emod_lt_of_pos _ m0, ⟨Int.ediv_nonneg ok'.dig (by omega), ok'.gre, ok'.lum, ok'.tur⟩, ?_⟩ el dr_D (dr_G ad) (dr_L ad)
      show st'.turn ≤ _
      omega
    · rw [if_neg hd]
      have ht1 : 0 ≤ st'.turn ∧ st'.turn < 1000000000 := ⟨ok'.tur, by omega⟩
      simp only [Then]
      simp only [lcTurn, sizeLine_eq, L2.start, Nat.zero_le, List.replicate_succ, List.replicate_zero, Nat.reduceSub, Nat.sub_self, tC, tOp, tUn, tTest, tB, tAnd, tOr, tNot, tIf, tAndV, tOrV, tNotV, tSeq_then, tNext, tAsg, gName, tRet, tRetN, tIfS, tDrop, tNil, tCons, tCB, tC0, tPar, tMth, tMth0, tFor_at, tLc_at, iStrP, iListP, iSqP, iTupP, iRng1P, iRng2P, tSl, tNoPart, tPart, tChain, tNever, tYes, tLst, tTup, tDNewK, tDisp, tPairs,
  r_v0, r_vS, r_par, r_I, r_I0, r_U, r_test, r_int, st0, stS, wp0, wpS, rAddP, rEqP, rNeP, rItem, rNil, tNil1, tRevS, cLen, cAbs, cInt, cList, cAll, cAny, mAppend, mPop, mExtend, mJoin, mIndex, mUpper, mLower, rWItem, rWIn, rInSP, rInP, rIsBP, rSlSP, rSlLP, cIsi, tyName, tyn1, tyn2, tyn3, tyn4, tyn5, tyn6, isiB_same, allTxt_map, allTxt_sign, allBl_map, joinL_nil, flat_one, flat_sign, sum_one, sum_sign, all_map_id, any_map_id, List.filterMap_eq_map', List.length_map, Nat.mul_zero, Nat.add_zero, List.length_reverse, List.map_id', isLst, isTxt, isDct, itemsAt, seqAt, strsAt, allTxt, allBl, scal, sSDPut, sSDAdd,
  S_len, S_tl, S_app, S_one, S_inj, List.map_cons, List.map_nil, List.cons_append, List.nil_append, upd_same, Option.map_some, Option.map_none, if_true, if_false, reduceIte, Bool.false_eq_true, Bool.not_true, Bool.not_false, decide_eq_true_eq, exists_eq_left, exists_eq_left', and_true, true_and, V.str.injEq, V.int.injEq, V.bl.injEq, V.ref.injEq, List.length_cons, List.length_nil, Nat.zero_add, lit_dig, lit_gre, lit_lum, lit_tur, lit0, lit1, lit2, lit3, lit4, c_bool1, c_str1, wUNDOS, c_need, cq_joined, dr_D, dv_dig, dv_tur, vK, dp_tur, dr_set, drK_len, m0]
      refine ⟨by decide, ?_⟩
      simp only [Then]
      simp only [lcTurn, sizeLine_eq, L2.start, Nat.zero_le, List.replicate_succ, List.replicate_zero, Nat.reduceSub, Nat.sub_self, tC, tOp, tUn, tTest, tB, tAnd, tOr, tNot, tIf, tAndV, tOrV, tNotV, tSeq_then, tNext, tAsg, gName, tRet, tRetN, tIfS, tDrop, tNil, tCons, tCB, tC0, tPar, tMth, tMth0, tFor_at, tLc_at, iStrP, iListP, iSqP, iTupP, iRng1P, iRng2P, tSl, tNoPart, tPart, tChain, tNever, tYes, tLst, tTup, tDNewK, tDisp, tPairs,
  r_v0, r_vS, r_par, r_I, r_I0, r_U, r_test, r_int, st0, stS, wp0, wpS, rAddP, rEqP, rNeP, rItem, rNil, tNil1, tRevS, cLen, cAbs, cInt, cList, cAll, cAny, mAppend, mPop, mExtend, mJoin, mIndex, mUpper, mLower, rWItem, rWIn, rInSP, rInP, rIsBP, rSlSP, rSlLP, cIsi, tyName, tyn1, tyn2, tyn3, tyn4, tyn5, tyn6, isiB_same, allTxt_map, allTxt_sign, allBl_map, joinL_nil, flat_one, flat_sign, sum_one, sum_sign, all_map_id, any_map_id, List.filterMap_eq_map', List.length_map, Nat.mul_zero, Nat.add_zero, List.length_reverse, List.map_id', isLst, isTxt, isDct, itemsAt, seqAt, strsAt, allTxt, allBl, scal, sSDPut, sSDAdd,
  S_len, S_tl, S_app, S_one, S_inj, List.map_cons, List.map_nil, List.cons_append, List.nil_append, upd_same, Option.map_some, Option.map_none, if_true, if_false, reduceIte, Bool.false_eq_true, Bool.not_true, Bool.not_false, decide_eq_true_eq, exists_eq_left, exists_eq_left', and_true, true_and, V.str.injEq, V.int.injEq, V.bl.injEq, V.ref.injEq, List.length_cons, List.length_nil, Nat.zero_add, lit_dig, lit_gre, lit_lum, lit_tur, lit0, lit1, lit2, lit3, lit4, c_bool1, c_str1, wUNDOS, c_need, cq_joined, dr_D, dv_dig, dv_tur]
      simp only [Then]
      simp only [lcTurn, sizeLine_eq, L2.start, Nat.zero_le, List.replicate_succ, List.replicate_zero, Nat.reduceSub, Nat.sub_self, tC, tOp, tUn, tTest, tB, tAnd, tOr, tNot, tIf, tAndV, tOrV, tNotV, tSeq_then, tNext, tAsg, gName, tRet, tRetN, tIfS, tDrop, tNil, tCons, tCB, tC0, tPar, tMth, tMth0, tFor_at, tLc_at, iStrP, iListP, iSqP, iTupP, iRng1P, iRng2P, tSl, tNoPart, tPart, tChain, tNever, tYes, tLst, tTup, tDNewK, tDisp, tPairs,
  r_v0, r_vS, r_par, r_I, r_I0, r_U, r_test, r_int, st0, stS, wp0, wpS, rAddP, rEqP, rNeP, rItem, rNil, tNil1, tRevS, cLen, cAbs, cInt, cList, cAll, cAny, mAppend, mPop, mExtend, mJoin, mIndex, mUpper, mLower, rWItem, rWIn, rInSP, rInP, rIsBP, rSlSP, rSlLP, cIsi, tyName, tyn1, tyn2, tyn3, tyn4, tyn5, tyn6, isiB_same, allTxt_map, allTxt_sign, allBl_map, joinL_nil, flat_one, flat_sign, sum_one, sum_sign, all_map_id, any_map_id, List.filterMap_eq_map', List.length_map, Nat.mul_zero, Nat.add_zero, List.length_reverse, List.map_id', isLst, isTxt, isDct, itemsAt, seqAt, strsAt, allTxt, allBl, scal, sSDPut, sSDAdd,
  S_len, S_tl, S_app, S_one, S_inj, List.map_cons, List.map_nil, List.cons_append, List.nil_append, upd_same, Option.map_some, Option.map_none, if_true, if_false, reduceIte, Bool.false_eq_true, Bool.not_true, Bool.not_false, decide_eq_true_eq, exists_eq_left, exists_eq_left', and_true, true_and, V.str.injEq, V.int.injEq, V.bl.injEq, V.ref.injEq, List.length_cons, List.length_nil, Nat.zero_add, lit_dig, lit_gre, lit_lum, lit_tur, lit0, lit1, lit2, lit3, lit4, c_bool1, c_str1, wUNDOS, c_need, cq_joined, dr_D, dv_dig, dv_tur, dv_lum, dr_L ad]
      simp only [Then]
      simp only [lcTurn, sizeLine_eq, L2.start, Nat.zero_le, List.replicate_succ, List.replicate_zero, Nat.reduceSub, Nat.sub_self, tC, tOp, tUn, tTest, tB, tAnd, tOr, tNot, tIf, tAndV, tOrV, tNotV, tSeq_then, tNext, tAsg, gName, tRet, tRetN, tIfS, tDrop, tNil, tCons, tCB, tC0, tPar, tMth, tMth0, tFor_at, tLc_at, iStrP, iListP, iSqP, iTupP, iRng1P, iRng2P, tSl, tNoPart, tPart, tChain, tNever, tYes, tLst, tTup, tDNewK, tDisp, tPairs,
  r_v0, r_vS, r_par, r_I, r_I0, r_U, r_test, r_int, st0, stS, wp0, wpS, rAddP, rEqP, rNeP, rItem, rNil, tNil1, tRevS, cLen, cAbs, cInt, cList, cAll, cAny, mAppend, mPop, mExtend, mJoin, mIndex, mUpper, mLower, rWItem, rWIn, rInSP, rInP, rIsBP, rSlSP, rSlLP, cIsi, tyName, tyn1, tyn2, tyn3, tyn4, tyn5, tyn6, isiB_same, allTxt_map, allTxt_sign, allBl_map, joinL_nil, flat_one, flat_sign, sum_one, sum_sign, all_map_id, any_map_id, List.filterMap_eq_map', List.length_map, Nat.mul_zero, Nat.add_zero, List.length_reverse, List.map_id', isLst, isTxt, isDct, itemsAt, seqAt, strsAt, allTxt, allBl, scal, sSDPut, sSDAdd,
  S_len, S_tl, S_app, S_one, S_inj, List.map_cons, List.map_nil, List.cons_append, List.nil_append, upd_same, Option.map_some, Option.map_none, if_true, if_false, reduceIte, Bool.false_eq_true, Bool.not_true, Bool.not_false, decide_eq_true_eq, exists_eq_left, exists_eq_left', and_true, true_and, V.str.injEq, V.int.injEq, V.bl.injEq, V.ref.injEq, List.length_cons, List.length_nil, Nat.zero_add, lit_dig, lit_gre, lit_lum, lit_tur, lit0, lit1, lit2, lit3, lit4, c_bool1, c_str1, wUNDOS, c_need, cq_joined, dr_D, dv_dig, dv_tur, dv_lum, dr_L ad]
      refine lump_both (fun hc => ?_) fun l l0 l1 => ?_
      · have hn : 0 < (st'.lumps.length : Int) := by
          cases e : st'.lumps with
          | nil => rw [e] at hc; exact absurd hc (by decide)
          | cons x xs => rw [List.length_cons]; omega
        obtain ⟨x, hx, _, e⟩ := atI_mem (f := V.int) (xs := st'.lumps) (Int.emod_nonneg (st'.turn + 1) (by omega)) (Int.emod_lt_of_pos _ hn)
        exact ⟨hn, x, e, (ok'.lum x hx).1, (ok'.lum x hx).2⟩
      · have a0 := Int.emod_nonneg l (b := 2147483629) (by decide)
        have a1 := Int.emod_lt_of_pos l (b := 2147483629) (by decide)
        have c1 : CMul 40009 (st'.turn + 1) := by unfold CMul; omega
        have c2 : CPow (l % 2147483629 + 40009 * (st'.turn + 1)) 3 := by unfold CPow; omega
        have c3 : CMul 104729 (st'.turn + 1) := by unfold CMul; omega
        have z1 : (0 : Int) < 2147483629 := by decide
        have z2 : (0 : Int) < 2147483647 := by decide
        simp only [Then]
        simp only [lcTurn, sizeLine_eq, L2.start, Nat.zero_le, List.replicate_succ, List.replicate_zero, Nat.reduceSub, Nat.sub_self, tC, tOp, tUn, tTest, tB, tAnd, tOr, tNot, tIf, tAndV, tOrV, tNotV, tSeq_then, tNext, tAsg, gName, tRet, tRetN, tIfS, tDrop, tNil, tCons, tCB, tC0, tPar, tMth, tMth0, tFor_at, tLc_at, iStrP, iListP, iSqP, iTupP, iRng1P, iRng2P, tSl, tNoPart, tPart, tChain, tNever, tYes, tLst, tTup, tDNewK, tDisp, tPairs,
  r_v0, r_vS, r_par, r_I, r_I0, r_U, r_test, r_int, st0, stS, wp0, wpS, rAddP, rEqP, rNeP, rItem, rNil, tNil1, tRevS, cLen, cAbs, cInt, cList, cAll, cAny, mAppend, mPop, mExtend, mJoin, mIndex, mUpper, mLower, rWItem, rWIn, rInSP, rInP, rIsBP, rSlSP, rSlLP, cIsi, tyName, tyn1, tyn2, tyn3, tyn4, tyn5, tyn6, isiB_same, allTxt_map, allTxt_sign, allBl_map, joinL_nil, flat_one, flat_sign, sum_one, sum_sign, all_map_id, any_map_id, List.filterMap_eq_map', List.length_map, Nat.mul_zero, Nat.add_zero, List.length_reverse, List.map_id', isLst, isTxt, isDct, itemsAt, seqAt, strsAt, allTxt, allBl, scal, sSDPut, sSDAdd,
  S_len, S_tl, S_app, S_one, S_inj, List.map_cons, List.map_nil, List.cons_append, List.nil_append, upd_same, Option.map_some, Option.map_none, if_true, if_false, reduceIte, Bool.false_eq_true, Bool.not_true, Bool.not_false, decide_eq_true_eq, exists_eq_left, exists_eq_left', and_true, true_and, V.str.injEq, V.int.injEq, V.bl.injEq, V.ref.injEq, List.length_cons, List.length_nil, Nat.zero_add, lit_dig, lit_gre, lit_lum, lit_tur, lit0, lit1, lit2, lit3, lit4, c_bool1, c_str1, wUNDOS, c_need, cq_joined, c1, c2, z1, z2]
        simp only [Then]
        simp only [lcTurn, sizeLine_eq, L2.start, Nat.zero_le, List.replicate_succ, List.replicate_zero, Nat.reduceSub, Nat.sub_self, tC, tOp, tUn, tTest, tB, tAnd, tOr, tNot, tIf, tAndV, tOrV, tNotV, tSeq_then, tNext, tAsg, gName, tRet, tRetN, tIfS, tDrop, tNil, tCons, tCB, tC0, tPar, tMth, tMth0, tFor_at, tLc_at, iStrP, iListP, iSqP, iTupP, iRng1P, iRng2P, tSl, tNoPart, tPart, tChain, tNever, tYes, tLst, tTup, tDNewK, tDisp, tPairs,
  r_v0, r_vS, r_par, r_I, r_I0, r_U, r_test, r_int, st0, stS, wp0, wpS, rAddP, rEqP, rNeP, rItem, rNil, tNil1, tRevS, cLen, cAbs, cInt, cList, cAll, cAny, mAppend, mPop, mExtend, mJoin, mIndex, mUpper, mLower, rWItem, rWIn, rInSP, rInP, rIsBP, rSlSP, rSlLP, cIsi, tyName, tyn1, tyn2, tyn3, tyn4, tyn5, tyn6, isiB_same, allTxt_map, allTxt_sign, allBl_map, joinL_nil, flat_one, flat_sign, sum_one, sum_sign, all_map_id, any_map_id, List.filterMap_eq_map', List.length_map, Nat.mul_zero, Nat.add_zero, List.length_reverse, List.map_id', isLst, isTxt, isDct, itemsAt, seqAt, strsAt, allTxt, allBl, scal, sSDPut, sSDAdd,
  S_len, S_tl, S_app, S_one, S_inj, List.map_cons, List.map_nil, List.cons_append, List.nil_append, upd_same, Option.map_some, Option.map_none, if_true, if_false, reduceIte, Bool.false_eq_true, Bool.not_true, Bool.not_false, decide_eq_true_eq, exists_eq_left, exists_eq_left', and_true, true_and, V.str.injEq, V.int.injEq, V.bl.injEq, V.ref.injEq, List.length_cons, List.length_nil, Nat.zero_add, lit_dig, lit_gre, lit_lum, lit_tur, lit0, lit1, lit2, lit3, lit4, c_bool1, c_str1, wUNDOS, c_need, cq_joined, c1, c2, c3, z1, z2]
        have b0 := Int.emod_nonneg ((l % 2147483629 + 40009 * (st'.turn + 1)) ^ Int.toNat 3) (b := 2147483647) (by decide)
        have b1 := Int.emod_lt_of_pos ((l % 2147483629 + 40009 * (st'.turn + 1)) ^ Int.toNat 3) (b := 2147483647) (by decide)
        generalize (l % 2147483629 + 40009 * (st'.turn + 1)) ^ Int.toNat 3 % 2147483647 = x at b0 b1 ⊢
        refine ⟨by unfold CPow; omega, by unfold CDivP; omega, m0, ?_⟩
        refine q _ { st' with turn := st'.turn + 1 } _ ⟨m, _, rfl, rfl, Int.emod_nonneg _ (by omega), Int.emod_lt_of_pos _ m0, ⟨ok'.dig, ok'.gre, ok'.lum, ?_⟩, ?_⟩ el dr_D (dr_G ad) (dr_L ad)
        · show 0 ≤ st'.turn + 1
          omega
        · show st'.turn + 1 ≤ _
          omega
/-! ### one of some -/
def bud (n : Nat) (st : Dst) : Prop := Dok st ∧ st.turn + n ≤ 1000000000
def adv (n : Nat) (st st' : Dst) : Prop := Dok st' ∧ st'.turn ≤ st.turn + n
def prePick (rest : List V) (R : Hp) (st : Dst) : Prop := bud 1 st ∧ ((∃ l, rest = [.str (S l)] ∧ l ≠ [] ∧ l.length ≤ 1000000) ∨ ∃ a xs, rest = [.ref a] ∧ R a = some (.lst xs) ∧ xs ≠ [] ∧ xs.length ≤ 1000000)
def postPick (rest : List V) (R : Hp) (st : Dst) (v : V) (st' : Dst) (N : Hp) : Prop := N = H0 ∧ adv 1 st st' ∧ ((∃ l c, rest = [.str (S l)] ∧ c ∈ l ∧ v = .str (S [c])) ∨ ∃ a xs, rest = [.ref a] ∧ R a = some (.lst xs) ∧ v ∈ xs)
theorem prePick_len {rest : List V} {R : Hp} {st : Dst} (h : prePick rest R st) : rest.length = 1 := by
  rcases h.2 with ⟨_, rfl, _⟩ | ⟨_, _, rfl, _⟩ <;> rfl
theorem sc__law_pick : FnScope ["_law_draw", "_law_some_here"] ["_law_draw", "_law_some_here"] (defScope s__law_pick) := ⟨rfl, rfl, rfl, by decide +kernel, rfl, by decide +kernel, by decide +kernel⟩
theorem ok__law_pick {P : Program} {w : World} {K : PySem.W.Frag} {mg : Str → Option Value} {base : Heap} (T : Ctx fa fn wd w K mg) : Cal P w K mg base CX0 2 "_law_pick" ["_law_draw", "_law_some_here"] (spW prePick postPick) := by
  have c__law_next := ok__law_next (P := P) (base := base) T
  obtain ⟨fd, F⟩ := T.fun_ d__law_pick 11 rfl
  refine Cal.imp (sp := spFrame (spW0 prePick postPick)) (Cal.frame ⟨_, fd, T.glo "_law_pick" 11 rfl, ?_, F.kp, FunD.bindsN F fun _ _ _ _ _ _ us hl => match us, hl with | [_, _], _ => rfl⟩) fun vs H Q E h => w_frame vs H Q E h
  refine FunD.ok F sc__law_pick (fun vs H Q E h => (by obtain ⟨_, _, _, _, _, _, rfl, _, _, _, pre, _⟩ := h; exact congrArg Nat.succ (prePick_len pre))) (fun cdv A outer s H vs Q E hr h => ?_)
  have hu : A.units + 3 + 1 < cLine := Nat.lt_of_le_of_lt (Nat.add_le_add_left (by decide : 1 ≤ 64) _) hr.units
  have hu0 : A.units + 3 < cLine := hr.units0
  obtain ⟨D, G, L, st, rest, R, rfl, rfl, ad, rd, ⟨⟨ok, ht⟩, pre⟩, q⟩ := h
  rcases pre with ⟨l, rfl, l0, l1⟩ | ⟨a, xs, rfl, ra, l0, l1⟩
  · skip
    refine ⟨_, PSs.nox (pss_one (ps_ret (pe_ix (ix_P hu) (pv 1) (pe_c0 c__law_next (hr.mono (by decide)) rfl (pa_cons (pv 0) (pa_cons (pe_callB call_lenP rfl (T.free "len" 24 rfl) (by decide +kernel) (pa_cons (pv 1) pa_nil)) pa_nil))) (fun _ _ => rfl)))), ?_⟩
    simp only [lcTurn, sizeLine_eq, L2.start, Nat.zero_le, List.replicate_succ, List.replicate_zero, Nat.reduceSub, Nat.sub_self, tC, tOp, tUn, tTest, tB, tAnd, tOr, tNot, tIf, tAndV, tOrV, tNotV, tSeq_then, tNext, tAsg, gName, tRet, tRetN, tIfS, tDrop, tNil, tCons, tCB, tC0, tPar, tMth, tMth0, tFor_at, tLc_at, iStrP, iListP, iSqP, iTupP, iRng1P, iRng2P, tSl, tNoPart, tPart, tChain, tNever, tYes, tLst, tTup, tDNewK, tDisp, tPairs,
  r_v0, r_vS, r_par, r_I, r_I0, r_U, r_test, r_int, st0, stS, wp0, wpS, rAddP, rEqP, rNeP, rItem, rNil, tNil1, tRevS, cLen, cAbs, cInt, cList, cAll, cAny, mAppend, mPop, mExtend, mJoin, mIndex, mUpper, mLower, rWItem, rWIn, rInSP, rInP, rIsBP, rSlSP, rSlLP, cIsi, tyName, tyn1, tyn2, tyn3, tyn4, tyn5, tyn6, isiB_same, allTxt_map, allTxt_sign, allBl_map, joinL_nil, flat_one, flat_sign, sum_one, sum_sign, all_map_id, any_map_id, List.filterMap_eq_map', List.length_map, Nat.mul_zero, Nat.add_zero, List.length_reverse, List.map_id', isLst, isTxt, isDct, itemsAt, seqAt, strsAt, allTxt, allBl, scal, sSDPut, sSDAdd,
  S_len, S_tl, S_app, S_one, S_inj, List.map_cons, List.map_nil, List.cons_append, List.nil_append, upd_same, Option.map_some, Option.map_none, if_true, if_false, reduceIte, Bool.false_eq_true, Bool.not_true, Bool.not_false, decide_eq_true_eq, exists_eq_left, exists_eq_left', and_true, true_and, V.str.injEq, V.int.injEq, V.bl.injEq, V.ref.injEq, List.length_cons, List.length_nil, Nat.zero_add, lit_dig, lit_gre, lit_lum, lit_tur, lit0, lit1, lit2, lit3, lit4, c_bool1, c_str1, wUNDOS, c_need, cq_joined]
    have hn : 0 < (l.length : Int) := by
      cases l with
      | nil => exact absurd rfl l0
      | cons x xs => rw [List.length_cons]; omega
    refine ⟨by omega, next_i ad ok hn (by omega) (by omega) fun r st' r0 r1 ok' t' el => ?_⟩
    obtain ⟨c, hc, _, e⟩ := atI_mem (f := id) r0 r1
    rw [List.map_id] at e
    have e2 : atI (S l).cps.toList r = some c := e
    simp only [S_len, e2]
    exact ⟨by omega, q _ st' H0 _ n_no ⟨rfl, ⟨ok', t'⟩, .inl ⟨l, c, rfl, hc, rfl⟩⟩ el dr_D (dr_G ad) (dr_L ad) fun b o hb => by rw [dr_ne (rd.at_ b o hb).2.2.1 (rd.at_ b o hb).2.2.2.1 (rd.at_ b o hb).2.2.2.2]; exact hb⟩
  · skip
    refine ⟨_, PSs.nox (pss_one (ps_ret (pe_ix (ix_P hu) (pv 1) (pe_c0 c__law_next (hr.mono (by decide)) rfl (pa_cons (pv 0) (pa_cons (pe_callB call_lenP rfl (T.free "len" 24 rfl) (by decide +kernel) (pa_cons (pv 1) pa_nil)) pa_nil))) (fun _ _ => rfl)))), ?_⟩
    obtain ⟨_, _, n1, n2, n3⟩ := rd.at_ a _ ra
    have hra : ∀ st, dr R D G L st a = some (.lst xs) := fun st => by rw [dr_ne n1 n2 n3]; exact ra
    simp only [lcTurn, sizeLine_eq, L2.start, Nat.zero_le, List.replicate_succ, List.replicate_zero, Nat.reduceSub, Nat.sub_self, tC, tOp, tUn, tTest, tB, tAnd, tOr, tNot, tIf, tAndV, tOrV, tNotV, tSeq_then, tNext, tAsg, gName, tRet, tRetN, tIfS, tDrop, tNil, tCons, tCB, tC0, tPar, tMth, tMth0, tFor_at, tLc_at, iStrP, iListP, iSqP, iTupP, iRng1P, iRng2P, tSl, tNoPart, tPart, tChain, tNever, tYes, tLst, tTup, tDNewK, tDisp, tPairs,
  r_v0, r_vS, r_par, r_I, r_I0, r_U, r_test, r_int, st0, stS, wp0, wpS, rAddP, rEqP, rNeP, rItem, rNil, tNil1, tRevS, cLen, cAbs, cInt, cList, cAll, cAny, mAppend, mPop, mExtend, mJoin, mIndex, mUpper, mLower, rWItem, rWIn, rInSP, rInP, rIsBP, rSlSP, rSlLP, cIsi, tyName, tyn1, tyn2, tyn3, tyn4, tyn5, tyn6, isiB_same, allTxt_map, allTxt_sign, allBl_map, joinL_nil, flat_one, flat_sign, sum_one, sum_sign, all_map_id, any_map_id, List.filterMap_eq_map', List.length_map, Nat.mul_zero, Nat.add_zero, List.length_reverse, List.map_id', isLst, isTxt, isDct, itemsAt, seqAt, strsAt, allTxt, allBl, scal, sSDPut, sSDAdd,
  S_len, S_tl, S_app, S_one, S_inj, List.map_cons, List.map_nil, List.cons_append, List.nil_append, upd_same, Option.map_some, Option.map_none, if_true, if_false, reduceIte, Bool.false_eq_true, Bool.not_true, Bool.not_false, decide_eq_true_eq, exists_eq_left, exists_eq_left', and_true, true_and, V.str.injEq, V.int.injEq, V.bl.injEq, V.ref.injEq, List.length_cons, List.length_nil, Nat.zero_add, lit_dig, lit_gre, lit_lum, lit_tur, lit0, lit1, lit2, lit3, lit4, c_bool1, c_str1, wUNDOS, c_need, cq_joined, hra]
    have hn : 0 < (xs.length : Int) := by
      cases xs with
      | nil => exact absurd rfl l0
      | cons x xs => rw [List.length_cons]; omega
    refine next_i ad ok hn (by omega) (by omega) fun r st' r0 r1 ok' t' el => ?_
    obtain ⟨c, hc, _, e⟩ := atI_mem (f := id) r0 r1
    rw [List.map_id] at e
    simp only [hra, e]
    exact q _ st' H0 _ n_no ⟨rfl, ⟨ok', t'⟩, .inr ⟨a, xs, rfl, ra, hc⟩⟩ el dr_D (dr_G ad) (dr_L ad) fun b o hb => by rw [dr_ne (rd.at_ b o hb).2.2.1 (rd.at_ b o hb).2.2.2.1 (rd.at_ b o hb).2.2.2.2]; exact hb
theorem pick_s {Hb : Hp} {D G L : Addr} {st : Dst} {l : List Nat} {Q : VK} {E : XK} (ad : Ad D G L) (ok : Dok st) (ht : st.turn + 1 ≤ 1000000000) (l0 : l ≠ []) (l1 : l.length ≤ 1000000)
    (q : ∀ c st', c ∈ l → Dok st' → st'.turn ≤ st.turn + 1 → st'.lumps = st.lumps → Q (.str (S [c])) (dr Hb D G L st')) : spW prePick postPick [.ref D, .str (S l)] (dr Hb D G L st) Q E :=
  ⟨Hb, D, G, L, st, [.str (S l)], H0, rfl, rfl, ad, rd0, ⟨⟨ok, ht⟩, .inl ⟨l, rfl, l0, l1⟩⟩, fun v st' N _ ⟨e, ⟨a1, a2⟩, h⟩ el => by
    subst e
    rcases h with ⟨l', c, e, hc, rfl⟩ | ⟨a, xs, e, _⟩
    · have e2 : l = l' := by simpa [S_inj] using e
      subst e2
      exact q c st' hc a1 a2 el
    · cases e⟩
theorem pick_l {Hb : Hp} {D G L a : Addr} {xs : List V} {st : Dst} {Q : VK} {E : XK} (ad : Ad D G L) (ok : Dok st) (ht : st.turn + 1 ≤ 1000000000) (ha : Hb a = some (.lst xs)) (n1 : a ≠ D) (n2 : a ≠ G) (n3 : a ≠ L) (l0 : xs ≠ []) (l1 : xs.length ≤ 1000000)
    (q : ∀ v st', v ∈ xs → Dok st' → st'.turn ≤ st.turn + 1 → st'.lumps = st.lumps → Q v (dr Hb D G L st')) : spW prePick postPick [.ref D, .ref a] (dr Hb D G L st) Q E :=
  ⟨Hb, D, G, L, st, [.ref a], upd H0 a (.lst xs), rfl, rfl, ad, rd_add rd0 ha plain_lst n1 n2 n3, ⟨⟨ok, ht⟩, .inr ⟨a, xs, rfl, upd_same, l0, l1⟩⟩, fun v st' N _ ⟨e, ⟨a1, a2⟩, h⟩ el => by
    subst e
    rcases h with ⟨l', c, e, hc, rfl⟩ | ⟨a', xs', e, ha', hv⟩
    · cases e
    · cases e
      rw [upd_same] at ha'
      cases ha'
      exact q v st' hv a1 a2 el⟩
def preShuf (rest : List V) (R : Hp) (st : Dst) : Prop := ∃ a xs, rest = [.ref a] ∧ R a = some (.lst xs) ∧ xs.length ≤ 1000000 ∧ bud xs.length st
def postShuf (rest : List V) (R : Hp) (st : Dst) (v : V) (st' : Dst) (N : Hp) : Prop := ∃ a xs p ys, rest = [.ref a] ∧ R a = some (.lst xs) ∧ v = .ref p ∧ N = upd H0 p (.lst ys) ∧ ys.Perm xs ∧ adv xs.length st st'
theorem sc__law_shuffled : FnScope ["_law_draw", "_law_some_here", "_law_left", "_law_found"] ["_law_draw", "_law_some_here"] (defScope s__law_shuffled) := ⟨rfl, rfl, rfl, by decide +kernel, rfl, by decide +kernel, by decide +kernel⟩
theorem ok__law_shuffled {P : Program} {w : World} {K : PySem.W.Frag} {mg : Str → Option Value} {base : Heap} (T : Ctx fa fn wd w K mg) : Cal P w K mg base CX0 2 "_law_shuffled" ["_law_draw", "_law_some_here"] (spW preShuf postShuf) := by
  have c__law_next := ok__law_next (P := P) (base := base) T
  obtain ⟨fd, F⟩ := T.fun_ d__law_shuffled 12 rfl
  refine Cal.imp (sp := spFrame (spW0 preShuf postShuf)) (Cal.frame ⟨_, fd, T.glo "_law_shuffled" 12 rfl, ?_, F.kp, FunD.bindsN F fun _ _ _ _ _ _ us hl => match us, hl with | [_, _], _ => rfl⟩) fun vs H Q E h => w_frame vs H Q E h
  refine FunD.ok F sc__law_shuffled (fun vs H Q E h => (by obtain ⟨_, _, _, _, _, _, rfl, _, _, _, ⟨_, _, rfl, _⟩, _⟩ := h; rfl)) (fun cdv A outer s H vs Q E hr h => ?_)
  have hu : A.units + 3 + 1 < cLine := Nat.lt_of_le_of_lt (Nat.add_le_add_left (by decide : 1 ≤ 64) _) hr.units
  have hu0 : A.units + 3 < cLine := hr.units0
  obtain ⟨D, G, L, st, rest, R, rfl, rfl, ad, rd, ⟨a, xs, rfl, ra, hl, ⟨ok, ht⟩⟩, q⟩ := h
  obtain ⟨_, _, n1, n2, n3⟩ := rd.at_ a _ ra
  have hra : ∀ st, dr R D G L st a = some (.lst xs) := fun st => by rw [dr_ne n1 n2 n3]; exact ra
  refine ⟨_, PSs.nox (pss_cons (ps_par (i := 2) (j := 3) (by rfl) sc__law_shuffled.nd rfl rfl (by decide) rfl rfl (pa_cons (pe_callTy (call_listP rfl) rfl (T.free "list" 25 rfl) (by decide +kernel) (pa_cons (pv 1) pa_nil)) (pa_cons (pe_lst pa_nil) pa_nil)) (by rfl))
      (pss_cons (ps_while PassesOwn.never (pt_cmp (pc_neNil hu0 (pv 2)) (by rfl)) (pss_one (ps_expr (pe_mth PySem.F.plainAttrs_list PySem.F.slot_list_append PySem.F.type_list_append (fun _ _ z => isLst_ty z) mtr_append (pv 3) (pa_cons (pe_mth PySem.F.plainAttrs_list PySem.F.slot_list_pop PySem.F.type_list_pop (fun _ _ z => isLst_ty z) mtr_pop (pv 2) (pa_cons (pe_c0 c__law_next (hr.mono (by decide)) rfl (pa_cons (pv 0) (pa_cons (pe_callB call_lenP rfl (T.free "len" 24 rfl) (by decide +kernel) (pa_cons (pv 2) pa_nil)) pa_nil))) pa_nil)) pa_nil)))))
      (pss_one (ps_ret (pv 3))))), ?_⟩
  simp only [lcTurn, sizeLine_eq, L2.start, Nat.zero_le, List.replicate_succ, List.replicate_zero, Nat.reduceSub, Nat.sub_self, tC, tOp, tUn, tTest, tB, tAnd, tOr, tNot, tIf, tAndV, tOrV, tNotV, tSeq_then, tNext, tAsg, gName, tRet, tRetN, tIfS, tDrop, tNil, tCons, tCB, tC0, tPar, tMth, tMth0, tFor_at, tLc_at, iStrP, iListP, iSqP, iTupP, iRng1P, iRng2P, tSl, tNoPart, tPart, tChain, tNever, tYes, tLst, tTup, tDNewK, tDisp, tPairs,
  r_v0, r_vS, r_par, r_I, r_I0, r_U, r_test, r_int, st0, stS, wp0, wpS, rAddP, rEqP, rNeP, rItem, rNil, tNil1, tRevS, cLen, cAbs, cInt, cList, cAll, cAny, mAppend, mPop, mExtend, mJoin, mIndex, mUpper, mLower, rWItem, rWIn, rInSP, rInP, rIsBP, rSlSP, rSlLP, cIsi, tyName, tyn1, tyn2, tyn3, tyn4, tyn5, tyn6, isiB_same, allTxt_map, allTxt_sign, allBl_map, joinL_nil, flat_one, flat_sign, sum_one, sum_sign, all_map_id, any_map_id, List.filterMap_eq_map', List.length_map, Nat.mul_zero, Nat.add_zero, List.length_reverse, List.map_id', isLst, isTxt, isDct, itemsAt, seqAt, strsAt, allTxt, allBl, scal, sSDPut, sSDAdd,
  S_len, S_tl, S_app, S_one, S_inj, List.map_cons, List.map_nil, List.cons_append, List.nil_append, upd_same, Option.map_some, Option.map_none, if_true, if_false, reduceIte, Bool.false_eq_true, Bool.not_true, Bool.not_false, decide_eq_true_eq, exists_eq_left, exists_eq_left', and_true, true_and, V.str.injEq, V.int.injEq, V.bl.injEq, V.ref.injEq, List.length_cons, List.length_nil, Nat.zero_add, lit_dig, lit_gre, lit_lum, lit_tur, lit0, lit1, lit2, lit3, lit4, c_bool1, c_str1, wUNDOS, c_need, cq_joined, hra]
  intro l hl0 p hp0
  obtain ⟨hpl, hp1⟩ := upd_none hp0
  obtain ⟨l1, l2, l3, lR⟩ := dr_free hl0
  obtain ⟨p1, p2, p3, pR⟩ := dr_free hp1
  rw [dr_out' l1 l2 l3, dr_out' p1 p2 p3]
  simp only [Then]
  simp only [lcTurn, sizeLine_eq, L2.start, Nat.zero_le, List.replicate_succ, List.replicate_zero, Nat.reduceSub, Nat.sub_self, tC, tOp, tUn, tTest, tB, tAnd, tOr, tNot, tIf, tAndV, tOrV, tNotV, tSeq_then, tNext, tAsg, gName, tRet, tRetN, tIfS, tDrop, tNil, tCons, tCB, tC0, tPar, tMth, tMth0, tFor_at, tLc_at, iStrP, iListP, iSqP, iTupP, iRng1P, iRng2P, tSl, tNoPart, tPart, tChain, tNever, tYes, tLst, tTup, tDNewK, tDisp, tPairs,
  r_v0, r_vS, r_par, r_I, r_I0, r_U, r_test, r_int, st0, stS, wp0, wpS, rAddP, rEqP, rNeP, rItem, rNil, tNil1, tRevS, cLen, cAbs, cInt, cList, cAll, cAny, mAppend, mPop, mExtend, mJoin, mIndex, mUpper, mLower, rWItem, rWIn, rInSP, rInP, rIsBP, rSlSP, rSlLP, cIsi, tyName, tyn1, tyn2, tyn3, tyn4, tyn5, tyn6, isiB_same, allTxt_map, allTxt_sign, allBl_map, joinL_nil, flat_one, flat_sign, sum_one, sum_sign, all_map_id, any_map_id, List.filterMap_eq_map', List.length_map, Nat.mul_zero, Nat.add_zero, List.length_reverse, List.map_id', isLst, isTxt, isDct, itemsAt, seqAt, strsAt, allTxt, allBl, scal, sSDPut, sSDAdd,
  S_len, S_tl, S_app, S_one, S_inj, List.map_cons, List.map_nil, List.cons_append, List.nil_append, upd_same, Option.map_some, Option.map_none, if_true, if_false, reduceIte, Bool.false_eq_true, Bool.not_true, Bool.not_false, decide_eq_true_eq, exists_eq_left, exists_eq_left', and_true, true_and, V.str.injEq, V.int.injEq, V.bl.injEq, V.ref.injEq, List.length_cons, List.length_nil, Nat.zero_add, lit_dig, lit_gre, lit_lum, lit_tur, lit0, lit1, lit2, lit3, lit4, c_bool1, c_str1, wUNDOS, c_need, cq_joined]
  refine ⟨fun k σ H => ∃ st' ls fs, k = ls.length ∧ σ = [some (.ref D), some (.ref a), some (.ref l), some (.ref p)] ∧ H = dr (upd (upd R l (.lst ls)) p (.lst fs)) D G L st' ∧ (fs ++ ls).Perm xs ∧ Dok st' ∧ st'.turn + ls.length ≤ st.turn + xs.length ∧ st'.lumps = st.lumps,
    ⟨_, st, xs, [], rfl, rfl, rfl, .refl _, ok, Int.le_refl _, rfl⟩, ?_⟩
  rintro k σ H ⟨st', ls, fs, rfl, rfl, rfl, pm, ok', tu, el⟩
  have hL : ∀ R' st, dr (upd (upd R l (.lst ls)) p R') D G L st l = some (.lst ls) := fun R' st => by rw [dr_ne l1 l2 l3, upd_ne (Ne.symm hpl), upd_same]
  simp only [lcTurn, sizeLine_eq, L2.start, Nat.zero_le, List.replicate_succ, List.replicate_zero, Nat.reduceSub, Nat.sub_self, tC, tOp, tUn, tTest, tB, tAnd, tOr, tNot, tIf, tAndV, tOrV, tNotV, tSeq_then, tNext, tAsg, gName, tRet, tRetN, tIfS, tDrop, tNil, tCons, tCB, tC0, tPar, tMth, tMth0, tFor_at, tLc_at, iStrP, iListP, iSqP, iTupP, iRng1P, iRng2P, tSl, tNoPart, tPart, tChain, tNever, tYes, tLst, tTup, tDNewK, tDisp, tPairs,
  r_v0, r_vS, r_par, r_I, r_I0, r_U, r_test, r_int, st0, stS, wp0, wpS, rAddP, rEqP, rNeP, rItem, rNil, tNil1, tRevS, cLen, cAbs, cInt, cList, cAll, cAny, mAppend, mPop, mExtend, mJoin, mIndex, mUpper, mLower, rWItem, rWIn, rInSP, rInP, rIsBP, rSlSP, rSlLP, cIsi, tyName, tyn1, tyn2, tyn3, tyn4, tyn5, tyn6, isiB_same, allTxt_map, allTxt_sign, allBl_map, joinL_nil, flat_one, flat_sign, sum_one, sum_sign, all_map_id, any_map_id, List.filterMap_eq_map', List.length_map, Nat.mul_zero, Nat.add_zero, List.length_reverse, List.map_id', isLst, isTxt, isDct, itemsAt, seqAt, strsAt, allTxt, allBl, scal, sSDPut, sSDAdd,
  S_len, S_tl, S_app, S_one, S_inj, List.map_cons, List.map_nil, List.cons_append, List.nil_append, upd_same, Option.map_some, Option.map_none, if_true, if_false, reduceIte, Bool.false_eq_true, Bool.not_true, Bool.not_false, decide_eq_true_eq, exists_eq_left, exists_eq_left', and_true, true_and, V.str.injEq, V.int.injEq, V.bl.injEq, V.ref.injEq, List.length_cons, List.length_nil, Nat.zero_add, lit_dig, lit_gre, lit_lum, lit_tur, lit0, lit1, lit2, lit3, lit4, c_bool1, c_str1, wUNDOS, c_need, cq_joined, hL]
  have hlen : fs.length + ls.length = xs.length := by rw [← List.length_append]; exact pm.length_eq
  cases ls with
  | nil =>
    rw [if_neg (by decide)]
    simp only [Then]
    simp only [lcTurn, sizeLine_eq, L2.start, Nat.zero_le, List.replicate_succ, List.replicate_zero, Nat.reduceSub, Nat.sub_self, tC, tOp, tUn, tTest, tB, tAnd, tOr, tNot, tIf, tAndV, tOrV, tNotV, tSeq_then, tNext, tAsg, gName, tRet, tRetN, tIfS, tDrop, tNil, tCons, tCB, tC0, tPar, tMth, tMth0, tFor_at, tLc_at, iStrP, iListP, iSqP, iTupP, iRng1P, iRng2P, tSl, tNoPart, tPart, tChain, tNever, tYes, tLst, tTup, tDNewK, tDisp, tPairs,
  r_v0, r_vS, r_par, r_I, r_I0, r_U, r_test, r_int, st0, stS, wp0, wpS, rAddP, rEqP, rNeP, rItem, rNil, tNil1, tRevS, cLen, cAbs, cInt, cList, cAll, cAny, mAppend, mPop, mExtend, mJoin, mIndex, mUpper, mLower, rWItem, rWIn, rInSP, rInP, rIsBP, rSlSP, rSlLP, cIsi, tyName, tyn1, tyn2, tyn3, tyn4, tyn5, tyn6, isiB_same, allTxt_map, allTxt_sign, allBl_map, joinL_nil, flat_one, flat_sign, sum_one, sum_sign, all_map_id, any_map_id, List.filterMap_eq_map', List.length_map, Nat.mul_zero, Nat.add_zero, List.length_reverse, List.map_id', isLst, isTxt, isDct, itemsAt, seqAt, strsAt, allTxt, allBl, scal, sSDPut, sSDAdd,
  S_len, S_tl, S_app, S_one, S_inj, List.map_cons, List.map_nil, List.cons_append, List.nil_append, upd_same, Option.map_some, Option.map_none, if_true, if_false, reduceIte, Bool.false_eq_true, Bool.not_true, Bool.not_false, decide_eq_true_eq, exists_eq_left, exists_eq_left', and_true, true_and, V.str.injEq, V.int.injEq, V.bl.injEq, V.ref.injEq, List.length_cons, List.length_nil, Nat.zero_add, lit_dig, lit_gre, lit_lum, lit_tur, lit0, lit1, lit2, lit3, lit4, c_bool1, c_str1, wUNDOS, c_need, cq_joined]
    refine q _ st' (upd H0 p (.lst fs)) _ (n_one plain_lst hp1 (by rw [dr_ne p1 p2 p3, upd_same])) ⟨a, xs, p, fs, rfl, ra, rfl, rfl, (List.append_nil fs) ▸ pm, ok', ?_⟩ el dr_D (dr_G ad) (dr_L ad) fun b o hb => ?_
    · have t := tu
      rw [List.length_nil] at t
      omega
    · obtain ⟨_, _, b1, b2, b3⟩ := rd.at_ b o hb
      have bp : b ≠ p := fun e => by rw [e, pR] at hb; cases hb
      have bl : b ≠ l := fun e => by rw [e, lR] at hb; cases hb
      rw [dr_ne b1 b2 b3, upd_ne bp, upd_ne bl]
      exact hb
  | cons y ys =>
    rw [if_pos neC]
    refine ⟨_, fun σ' H' h => h, ?_⟩
    have hP : ∀ st, dr (upd (upd R l (.lst (y :: ys))) p (.lst fs)) D G L st p = some (.lst fs) := fun st => by rw [dr_ne p1 p2 p3, upd_same]
    have hpos : 0 < ((y :: ys).length : Int) := by rw [List.length_cons]; omega
    simp only [hP]
    refine ⟨trivial, next_i ad ok' hpos (by omega) (by omega) fun r st2 r0 r1 ok2 t2 el2 => ?_⟩
    obtain ⟨x, _, hx, _⟩ := atI_mem (f := id) r0 r1
    simp only [hL, hx, dr_out' l1 l2 l3, upd_in (Ne.symm hpl)]
    have hP2 : ∀ zs, dr (upd (upd R l (.lst zs)) p (.lst fs)) D G L st2 p = some (.lst fs) := fun zs => by rw [dr_ne p1 p2 p3, upd_same]
    simp only [hP2, dr_out' p1 p2 p3, upd_upd]
    have el3 := erase_len hx
    refine ⟨r0, by omega, _, ?_, st2, (y :: ys).eraseIdx r.toNat, fs ++ [x], rfl, trivial, rfl, move_perm hx pm, ok2, ?_, el2.trans el⟩
    · omega
    · omega
theorem shuf_l {Hb : Hp} {D G L a : Addr} {xs : List V} {st : Dst} {Q : VK} {E : XK} (ad : Ad D G L) (ok : Dok st) (ht : st.turn + xs.length ≤ 1000000000) (ha : Hb a = some (.lst xs)) (n1 : a ≠ D) (n2 : a ≠ G) (n3 : a ≠ L) (l1 : xs.length ≤ 1000000)
    (q : ∀ p ys st', dr Hb D G L st p = none → ys.Perm xs → Dok st' → st'.turn ≤ st.turn + xs.length → st'.lumps = st.lumps → Q (.ref p) (dr (upd Hb p (.lst ys)) D G L st')) : spW preShuf postShuf [.ref D, .ref a] (dr Hb D G L st) Q E :=
  ⟨Hb, D, G, L, st, [.ref a], upd H0 a (.lst xs), rfl, rfl, ad, rd_add rd0 ha plain_lst n1 n2 n3, ⟨a, xs, rfl, upd_same, l1, ok, ht⟩, fun v st' N hN ⟨a', xs', p, ys, e, ha', e2, e3, pm, a1, a2⟩ el => by
    subst e2
    subst e3
    cases e
    rw [upd_same] at ha'
    cases ha'
    rw [ov_upd]
    exact q p ys st' (hN p _ upd_same).2 pm a1 a2 el⟩

/-! ### what is left of a row: plain laws -/
def nf (l : List Nat) : Prop := ∀ a x y b, l = a ++ x :: y :: b → y ≠ und x
theorem nf_nil : nf [] := fun a x y b e => by
  have := congrArg List.length e
  simp at this
theorem nf_pre {l m : List Nat} (h : nf (l ++ m)) : nf l := fun a x y b e => h a x y (b ++ m) (by rw [e]; simp)
theorem nf_drop {l : List Nat} (h : nf l) : nf l.dropLast := by
  by_cases e : l = []
  · subst e
    exact nf_nil
  · have h2 := h
    rw [← List.dropLast_concat_getLast e] at h2
    exact nf_pre h2
theorem steps_mem {l : List Nat} {c : Nat} (h : stepsB l = true) (hc : c ∈ l) : isStep c = true := List.all_eq_true.mp h c hc
theorem steps_cons {l : List Nat} {c : Nat} : stepsB (c :: l) = (isStep c && stepsB l) := rfl
theorem steps_pre {l m : List Nat} (h : stepsB (l ++ m) = true) : stepsB l = true := by
  rw [steps_app] at h
  exact (Bool.and_eq_true_iff.mp h).1
theorem steps_post {l m : List Nat} (h : stepsB (l ++ m) = true) : stepsB m = true := by
  rw [steps_app] at h
  exact (Bool.and_eq_true_iff.mp h).2
theorem steps_both {l m : List Nat} (h : stepsB l = true) (h2 : stepsB m = true) : stepsB (l ++ m) = true := by
  rw [steps_app, h, h2] <;> rfl
theorem steps_drop {l : List Nat} (h : stepsB l = true) : stepsB l.dropLast = true := List.all_eq_true.mpr fun c hc => steps_mem h (List.dropLast_subset l hc)
theorem und_step {c : Nat} (h : isStep c = true) : isStep (und c) = true := by
  rcases step_cases h with rfl | rfl | rfl | rfl | rfl | rfl | rfl | rfl <;> rfl
theorem und_und {c : Nat} (h : isStep c = true) : und (und c) = c := by
  rcases step_cases h with rfl | rfl | rfl | rfl | rfl | rfl | rfl | rfl <;> rfl
theorem redStep_steps {st : List Nat} {c : Nat} (h : stepsB st = true) (hc : isStep c = true) : stepsB (redStep st c) = true := by
  unfold redStep
  split
  · exact steps_drop h
  · exact steps_both h (by rw [steps_cons, hc] <;> rfl)
theorem last_split {l : List Nat} {z : Nat} (h : l.getLast? = some z) : l = l.dropLast ++ [z] := by
  have e : l ≠ [] := fun e => by subst e; cases h
  rw [List.getLast?_eq_some_getLast e] at h
  cases h
  exact (List.dropLast_concat_getLast e).symm
theorem redStep_nf {st : List Nat} {c : Nat} (hs : stepsB st = true) (h : nf st) (hc : isStep c = true) : nf (redStep st c) := by
  unfold redStep
  split
  · exact nf_drop h
  · rename_i hn
    intro a x y b e
    by_cases hb : b = []
    · subst hb
      have e1 : st ++ [c] = (a ++ [x]) ++ [y] := by rw [e]; simp
      obtain ⟨e2, e3⟩ := List.append_inj' e1 rfl
      cases e3
      intro e4
      apply hn
      rw [e2, List.getLast?_concat]
      have hx : isStep x = true := steps_mem hs (by rw [e2]; simp)
      rw [e4, und_und hx]
    · have e1 : st ++ [c] = (a ++ x :: y :: b.dropLast) ++ [b.getLast hb] := by
        rw [e]
        have := List.dropLast_concat_getLast hb
        simp [this]
      obtain ⟨e2, _⟩ := List.append_inj' e1 rfl
      exact h a x y _ e2
theorem fold_inv {l : List Nat} : ∀ {st : List Nat}, stepsB st = true → nf st → stepsB l = true → stepsB (l.foldl redStep st) = true ∧ nf (l.foldl redStep st) := by
  induction l with
  | nil => intro st h1 h2 _; exact ⟨h1, h2⟩
  | cons c l ih =>
    intro st h1 h2 h3
    obtain ⟨hc, hl⟩ := Bool.and_eq_true_iff.mp h3
    exact ih (redStep_steps h1 hc) (redStep_nf h1 h2 hc) hl
theorem red_steps {l : List Nat} (h : stepsB l = true) : stepsB (red l) = true := (fold_inv (st := []) rfl nf_nil h).1
theorem red_nf {l : List Nat} (h : stepsB l = true) : nf (red l) := (fold_inv (st := []) rfl nf_nil h).2
theorem redStep_undo {st : List Nat} {c : Nat} (hs : stepsB st = true) (h : nf st) (hc : isStep c = true) : redStep (redStep st c) (und c) = st := by
  by_cases e : st.getLast? = some (und c)
  · have e1 : redStep st c = st.dropLast := by unfold redStep; rw [if_pos e]
    rw [e1]
    have e2 := last_split e
    unfold redStep
    rw [und_und hc]
    by_cases e3 : st.dropLast.getLast? = some c
    · have e4 := last_split e3
      exact absurd rfl (h st.dropLast.dropLast c (und c) [] (by rw [e4] at e2; rw [e2]; simp))
    · rw [if_neg e3]
      exact e2.symm
  · have e1 : redStep st c = st ++ [c] := by unfold redStep; rw [if_neg e]
    rw [e1]
    unfold redStep
    rw [List.getLast?_concat, und_und hc, if_pos rfl, List.dropLast_concat]
theorem red_app (x y : List Nat) : red (x ++ y) = y.foldl redStep (red x) := by
  unfold red
  rw [List.foldl_append]
theorem red_pair {a b : List Nat} {c : Nat} (ha : stepsB a = true) (hc : isStep c = true) : red (a ++ c :: und c :: b) = red (a ++ b) := by
  rw [red_app, red_app, List.foldl_cons, List.foldl_cons, redStep_undo (red_steps ha) (red_nf ha) hc]
theorem snoc_ind {P : List Nat → Prop} (h0 : P []) (hs : ∀ l c, P l → P (l ++ [c])) (l : List Nat) : P l := by
  have key : ∀ n (l : List Nat), l.length = n → P l := by
    intro n
    induction n with
    | zero => intro l e; rw [List.eq_nil_of_length_eq_zero e]; exact h0
    | succ n ih =>
      intro l e
      have hn : l ≠ [] := fun z => by rw [z] at e; cases e
      rw [← List.dropLast_concat_getLast hn]
      exact hs _ _ (ih _ (by rw [List.length_dropLast, e]; omega))
  exact key _ l rfl
theorem red_id {l : List Nat} : stepsB l = true → nf l → red l = l := by
  refine snoc_ind (P := fun l => stepsB l = true → nf l → red l = l) (fun _ _ => rfl) (fun l c ih hs hn => ?_) l
  rw [red_snoc, ih (steps_pre hs) (nf_pre hn)]
  unfold redStep
  rw [if_neg]
  intro e
  have e2 := last_split e
  have hc : isStep c = true := steps_mem hs (by simp)
  exact hn l.dropLast (und c) c [] (by rw [e2]; simp) (und_und hc).symm
theorem red_red {l : List Nat} (h : stepsB l = true) : red (red l) = red l := red_id (red_steps h) (red_nf h)
theorem red_left {x y : List Nat} (h : stepsB x = true) : red (red x ++ y) = red (x ++ y) := by
  rw [red_app, red_app, red_red h]
theorem fold_red {s y : List Nat} (hs : stepsB s = true) (hn : nf s) : stepsB y = true → (red y).foldl redStep s = y.foldl redStep s := by
  refine snoc_ind (P := fun y => stepsB y = true → (red y).foldl redStep s = y.foldl redStep s) (fun _ => rfl) (fun y c ih h => ?_) y
  have hy := steps_pre h
  have hc : isStep c = true := steps_mem h (by simp)
  rw [red_snoc, List.foldl_append, ← ih hy]
  by_cases e : (red y).getLast? = some (und c)
  · have e1 : redStep (red y) c = (red y).dropLast := by unfold redStep; rw [if_pos e]
    have e2 := last_split e
    have hd := steps_drop (red_steps hy)
    obtain ⟨i1, i2⟩ := fold_inv hs hn hd
    rw [e1]
    generalize hr : (red y).dropLast = r at e2 i1 i2 hd ⊢
    rw [e2, List.foldl_append]
    have e3 := redStep_undo i1 i2 (und_step hc)
    rw [und_und hc] at e3
    exact e3.symm
  · have e1 : redStep (red y) c = red y ++ [c] := by unfold redStep; rw [if_neg e]
    rw [e1, List.foldl_append]
theorem red_right {x y : List Nat} (hx : stepsB x = true) (hy : stepsB y = true) : red (x ++ red y) = red (x ++ y) := by
  rw [red_app, red_app, fold_red (red_steps hx) (red_nf hx) hy]
theorem inv_snoc (l : List Nat) (c : Nat) : inv (l ++ [c]) = und c :: inv l := by
  unfold inv
  rw [List.reverse_append] <;> rfl
theorem inv_len (l : List Nat) : (inv l).length = l.length := by
  unfold inv
  rw [List.length_map, List.length_reverse]
theorem inv_steps {l : List Nat} (h : stepsB l = true) : stepsB (inv l) = true := List.all_eq_true.mpr fun c hc => by
  unfold inv at hc
  obtain ⟨d, hd, rfl⟩ := List.mem_map.mp hc
  exact und_step (steps_mem h (List.mem_reverse.mp hd))
theorem inv_inv {l : List Nat} (h : stepsB l = true) : inv (inv l) = l := by
  unfold inv
  rw [← List.map_reverse, List.reverse_reverse, List.map_map]
  have : ∀ m : List Nat, stepsB m = true → m.map (und ∘ und) = m := by
    intro m
    induction m with
    | nil => intro _; rfl
    | cons c m ih =>
      intro hm
      obtain ⟨hc, h2⟩ := Bool.and_eq_true_iff.mp hm
      rw [List.map_cons, ih h2]
      show und (und c) :: m = _
      rw [und_und hc]
  exact this l h
theorem red_inv {l : List Nat} : stepsB l = true → red (l ++ inv l) = [] := by
  refine snoc_ind (P := fun l => stepsB l = true → red (l ++ inv l) = []) (fun _ => rfl) (fun l c ih h => ?_) l
  have hc : isStep c = true := steps_mem h (by simp)
  rw [inv_snoc, List.append_assoc]
  show red (l ++ c :: und c :: inv l) = []
  rw [red_pair (steps_pre h) hc]
  exact ih (steps_pre h)
theorem red_inv' {l : List Nat} (h : stepsB l = true) : red (inv l ++ l) = [] := by
  have := red_inv (inv_steps h)
  rw [inv_inv h] at this
  exact this
theorem inv_nf {l : List Nat} (hs : stepsB l = true) (h : nf l) : nf (inv l) := by
  intro a x y b e
  have e1 : l = inv b ++ (und y :: und x :: inv a) := by
    rw [← inv_inv hs, e]
    unfold inv
    simp
  intro e2
  have hx : isStep x = true := steps_mem (inv_steps hs) (by rw [e]; simp)
  refine h (inv b) (und y) (und x) (inv a) e1 ?_
  rw [e2, und_und hx]
theorem red_inv_red {l : List Nat} : stepsB l = true → red (inv l) = red (inv (red l)) := by
  refine snoc_ind (P := fun l => stepsB l = true → red (inv l) = red (inv (red l))) (fun _ => rfl) (fun l c ih h => ?_) l
  have hc : isStep c = true := steps_mem h (by simp)
  have hl := steps_pre h
  have hr := red_steps hl
  have h1 : stepsB [und c] = true := by rw [steps_cons, und_step hc] <;> rfl
  have e0 : red (inv (l ++ [c])) = red ([und c] ++ inv (red l)) := by
    rw [inv_snoc]
    show red ([und c] ++ inv l) = _
    rw [← red_right h1 (inv_steps hl), ih hl, red_right h1 (inv_steps hr)]
  rw [e0, red_snoc]
  by_cases e : (red l).getLast? = some (und c)
  · have e1 : redStep (red l) c = (red l).dropLast := by unfold redStep; rw [if_pos e]
    have e2 := last_split e
    rw [e1]
    have e3 : inv (red l) = c :: inv (red l).dropLast := by
      have e4 := congrArg inv e2
      rw [inv_snoc, und_und hc] at e4
      exact e4
    rw [e3]
    have e5 := red_pair (a := []) (b := inv (red l).dropLast) rfl (und_step hc)
    rw [und_und hc] at e5
    exact e5
  · have e1 : redStep (red l) c = red l ++ [c] := by unfold redStep; rw [if_neg e]
    rw [e1, inv_snoc] <;> rfl
theorem inv_red {l : List Nat} (h : stepsB l = true) : inv (red l) = red (inv l) := by
  rw [red_inv_red h, red_id (inv_steps (red_steps h)) (inv_nf (red_steps h) (red_nf h))]
theorem nil_red (l : List Nat) : red ([] ++ l) = red l := rfl

/-! ### rows that the law draws -/
def R_lundo (vs : List V) (v : V) : Prop := ∃ c : Nat, vs = [.str (S [c])] ∧ isStep c = true ∧ v = .str (S [und c])
theorem c_lundo {c : Nat} {H : Hp} {Q : VK} {E : XK} : spPure R_lundo [.str (S [c])] H Q E = (isStep c = true ∧ Q (.str (S [und c])) H) := by
  apply propext
  constructor
  · rintro ⟨_, ⟨l', e, h, rfl⟩, q⟩
    have e2 : c = l' := by simpa [S_inj] using e
    subst e2
    exact ⟨h, q⟩
  · rintro ⟨h, q⟩
    exact ⟨_, ⟨c, rfl, h, rfl⟩, q⟩
theorem sc__law_undo : FnScope ["_law_step"] ["_law_step"] (defScope s__law_undo) := ⟨rfl, rfl, rfl, by decide +kernel, rfl, by decide +kernel, by decide +kernel⟩
theorem ok__law_undo {P : Program} {w : World} {K : PySem.W.Frag} {mg : Str → Option Value} {base : Heap} (T : Ctx fa fn wd w K mg) : Cal P w K mg base CX0 1 "_law_undo" ["_law_step"] (spPure R_lundo) := by
  obtain ⟨fd, F⟩ := T.fun_ d__law_undo 13 rfl
  refine Cal.imp (sp := spFrame (spPure0 R_lundo)) (Cal.frame ⟨_, fd, T.glo "_law_undo" 13 rfl, ?_, F.kp, FunD.bindsN F fun _ _ _ _ _ _ us hl => match us, hl with | [_], _ => rfl⟩) fun vs H Q E h => pure_frame vs H Q E h
  refine FunD.ok F sc__law_undo (fun vs H Q E h => (by obtain ⟨_, _, ⟨_, rfl, _⟩, _⟩ := h; rfl)) (fun cdv A outer s H vs Q E hr h => ?_)
  have hu : A.units + 3 + 1 < cLine := Nat.lt_of_le_of_lt (Nat.add_le_add_left (by decide : 1 ≤ 64) _) hr.units
  have hu0 : A.units + 3 < cLine := hr.units0
  obtain ⟨rfl, _, ⟨c, rfl, hc, rfl⟩, q⟩ := h
  have q' := q H0
  refine ⟨_, PSs.nox (pss_one (ps_ret (pe_ix (ix_P hu) pe_str (pe_mth PySem.F.plainAttrs_str PySem.F.slot_str_index PySem.F.type_str_index (fun _ _ z => isTxt_ty z) mtr_index pe_str (pa_cons (pv 0) pa_nil)) (fun _ _ => rfl)))), ?_⟩
  simp (maxSteps := 1000000) only [lcTurn, sizeLine_eq, L2.start, Nat.zero_le, List.replicate_succ, List.replicate_zero, Nat.reduceSub, Nat.sub_self, tC, tOp, tUn, tTest, tB, tAnd, tOr, tNot, tIf, tAndV, tOrV, tNotV, tSeq, tNext, tAsg, gName, tRet, tRetN, tIfS, tDrop, tNil, tCons, tCB, tC0, tPar, tMth, tMth0, tFor_at, tLc_at, iStrP, iListP, iSqP, iTupP, iRng1P, iRng2P, tSl, tNoPart, tPart, tChain, tNever, tYes, tLst, tTup, tDNewK, tDisp, tPairs,
  r_v0, r_vS, r_par, r_I, r_I0, r_U, r_test, r_int, st0, stS, wp0, wpS, rAddP, rEqP, rNeP, rItem, rNil, tNil1, tRevS, cLen, cAbs, cInt, cList, cAll, cAny, mAppend, mPop, mExtend, mJoin, mIndex, mUpper, mLower, rWItem, rWIn, rInSP, rInP, rIsBP, rSlSP, rSlLP, cIsi, tyName, tyn1, tyn2, tyn3, tyn4, tyn5, tyn6, isiB_same, allTxt_map, allTxt_sign, allBl_map, joinL_nil, flat_one, flat_sign, sum_one, sum_sign, all_map_id, any_map_id, List.filterMap_eq_map', List.length_map, Nat.mul_zero, Nat.add_zero, List.length_reverse, List.map_id', isLst, isTxt, isDct, itemsAt, seqAt, strsAt, allTxt, allBl, scal, sSDPut, sSDAdd,
  S_len, S_tl, S_app, S_one, S_inj, List.map_cons, List.map_nil, List.cons_append, List.nil_append, upd_same, Option.map_some, Option.map_none, if_true, if_false, reduceIte, Bool.false_eq_true, Bool.not_true, Bool.not_false, decide_eq_true_eq, exists_eq_left, exists_eq_left', and_true, true_and, V.str.injEq, V.int.injEq, V.bl.injEq, V.ref.injEq, List.length_cons, List.length_nil, Nat.zero_add, lit_dig, lit_gre, lit_lum, lit_tur, lit0, lit1, lit2, lit3, lit4, c_bool1, c_str1, wUNDOS, c_need, cq_joined, c_lundo]
  rcases step_cases hc with rfl | rfl | rfl | rfl | rfl | rfl | rfl | rfl <;> exact ⟨by decide, by decide, q'⟩
def low (c : Nat) : Bool := 97 ≤ c && c ≤ 100
def lowB (l : List Nat) : Bool := l.all low
theorem low_step {c : Nat} (h : low c = true) : isStep c = true := by
  simp [low] at h
  simp [isStep]
  omega
theorem low_cases {c : Nat} (h : low c = true) : c = 97 ∨ c = 98 ∨ c = 99 ∨ c = 100 := by
  simp [low] at h
  omega
theorem low_asc {l : List Nat} (h : lowB l = true) : (l.all fun c => decide (c < 128)) = true := List.all_eq_true.mpr fun c hc => by
  rcases low_cases (List.all_eq_true.mp h c hc) with rfl | rfl | rfl | rfl <;> rfl
theorem up_mem {l : List Nat} {c : Nat} (h : lowB l = true) (hc : c ∈ l ++ upL l) : isStep c = true := by
  rcases List.mem_append.mp hc with h1 | h1
  · exact low_step (List.all_eq_true.mp h c h1)
  · unfold upL at h1
    obtain ⟨d, hd, e⟩ := List.mem_map.mp h1
    rcases low_cases (List.all_eq_true.mp h d hd) with rfl | rfl | rfl | rfl <;> (subst e; rfl)
theorem steps_snoc {l : List Nat} {c : Nat} (h : stepsB l = true) (hc : isStep c = true) : stepsB (l ++ [c]) = true := by
  unfold stepsB at *
  rw [List.all_append, h]
  simp [hc]
def preRow (rest : List V) (st : Dst) : Prop := ∃ (dl : List Nat) (m : Int), rest = [.str (S dl), .int m] ∧ dl ≠ [] ∧ lowB dl = true ∧ dl.length ≤ 1000 ∧ 0 < m ∧ m ≤ 1000 ∧ bud (2 * m.toNat + 1) st
def postRow (rest : List V) (st : Dst) (v : V) (st' : Dst) : Prop := ∃ (dl : List Nat) (m : Int) (l : List Nat), rest = [.str (S dl), .int m] ∧ v = .str (S l) ∧ stepsB l = true ∧ (l.length : Int) < m ∧ adv (2 * m.toNat + 1) st st'
theorem sc__law_row : FnScope ["_law_draw", "_law_deeds", "_law_many", "_law_found", "_law_turn", "_law_step"] ["_law_draw", "_law_deeds", "_law_many"] (defScope s__law_row) := ⟨rfl, rfl, rfl, by decide +kernel, rfl, by decide +kernel, by decide +kernel⟩
theorem ok__law_row {P : Program} {w : World} {K : PySem.W.Frag} {mg : Str → Option Value} {base : Heap} (T : Ctx fa fn wd w K mg) : Cal P w K mg base CX0 3 "_law_row" ["_law_draw", "_law_deeds", "_law_many"] (spD preRow postRow) := by
  have c__law_next := ok__law_next (P := P) (base := base) T
  have c__law_pick := ok__law_pick (P := P) (base := base) T
  have c__law_undo := ok__law_undo (P := P) (base := base) T
  obtain ⟨fd, F⟩ := T.fun_ d__law_row 15 rfl
  refine Cal.imp (sp := spFrame (spD0 preRow postRow)) (Cal.frame ⟨_, fd, T.glo "_law_row" 15 rfl, ?_, F.kp, FunD.bindsN F fun _ _ _ _ _ _ us hl => match us, hl with | [_, _, _], _ => rfl⟩) fun vs H Q E h => draw_frame vs H Q E h
  refine FunD.ok F sc__law_row (fun vs H Q E h => (by obtain ⟨_, _, _, _, _, rfl, _, _, ⟨_, _, rfl, _⟩, _⟩ := h; rfl)) (fun cdv A outer s H vs Q E hr h => ?_)
  have hu : A.units + 3 + 1 < cLine := Nat.lt_of_le_of_lt (Nat.add_le_add_left (by decide : 1 ≤ 64) _) hr.units
  have hu0 : A.units + 3 < cLine := hr.units0
  obtain ⟨D, G, L, st, rest, rfl, rfl, ad, ⟨dl, m, rfl, d0, dlo, d1, m0, m1, ok, ht⟩, q⟩ := h
  refine ⟨_, PSs.nox (pss_cons (ps_set (i := 3) sc__law_row.nd rfl (by first | exact Or.inl rfl | exact Or.inr rfl) pe_str)
      (pss_cons (ps_for PassesOwn.never rfl (pi_rng1P rfl (T.free "range" 26 rfl) (pa_cons (pe_c0 c__law_next (hr.mono (by decide)) rfl (pa_cons (pv 0) (pa_cons (pv 2) pa_nil))) pa_nil)) (pg_name (i := 4) sc__law_row.nd rfl (by first | exact Or.inl rfl | exact Or.inr rfl)) (pss_cons (ps_set (i := 5) sc__law_row.nd rfl (by first | exact Or.inl rfl | exact Or.inr rfl) (pe_c0 c__law_pick (hr.mono (by decide)) rfl (pa_cons (pv 0) (pa_cons (pe_op op_addP (pv 1) (pe_mth0 PySem.F.plainAttrs_str PySem.F.slot_str_upper PySem.F.type_str_upper (fun _ _ z => isTxt_ty z) mtr_upper (pv 1))) pa_nil))))
      (pss_cons (ps_if (PW.pt (pw_and (pt_cmpR op_neP (pv 3) pe_str (nomark _)) (pw_and1 (pt_cmpR op_eqP (pe_c0 c__law_next (hr.mono (by decide)) rfl (pa_cons (pv 0) (pa_cons pe_int pa_nil))) pe_int (nomark _))))) (pss_one (ps_set (i := 5) sc__law_row.nd rfl (by first | exact Or.inl rfl | exact Or.inr rfl) (pe_c0 c__law_undo (hr.mono (by decide)) rfl (pa_cons (pe_ix (ix_P hu) (pv 3) (pe_un un_neg pe_int) (fun _ _ => rfl)) pa_nil)))) pss_nil)
      (pss_one (ps_set (i := 3) sc__law_row.nd rfl (by first | exact Or.inl rfl | exact Or.inr rfl) (pe_op op_addP (pv 3) (pv 5)))))))
      (pss_one (ps_ret (pv 3))))), ?_⟩
  simp only [lcTurn, sizeLine_eq, L2.start, Nat.zero_le, List.replicate_succ, List.replicate_zero, Nat.reduceSub, Nat.sub_self, tC, tOp, tUn, tTest, tB, tAnd, tOr, tNot, tIf, tAndV, tOrV, tNotV, tSeq_then, tNext, tAsg, gName, tRet, tRetN, tIfS, tDrop, tNil, tCons, tCB, tC0, tPar, tMth, tMth0, tFor_at, tLc_at, iStrP, iListP, iSqP, iTupP, iRng1P, iRng2P, tSl, tNoPart, tPart, tChain, tNever, tYes, tLst, tTup, tDNewK, tDisp, tPairs,
  r_v0, r_vS, r_par, r_I, r_I0, r_U, r_test, r_int, st0, stS, wp0, wpS, rAddP, rEqP, rNeP, rItem, rNil, tNil1, tRevS, cLen, cAbs, cInt, cList, cAll, cAny, mAppend, mPop, mExtend, mJoin, mIndex, mUpper, mLower, rWItem, rWIn, rInSP, rInP, rIsBP, rSlSP, rSlLP, cIsi, tyName, tyn1, tyn2, tyn3, tyn4, tyn5, tyn6, isiB_same, allTxt_map, allTxt_sign, allBl_map, joinL_nil, flat_one, flat_sign, sum_one, sum_sign, all_map_id, any_map_id, List.filterMap_eq_map', List.length_map, Nat.mul_zero, Nat.add_zero, List.length_reverse, List.map_id', isLst, isTxt, isDct, itemsAt, seqAt, strsAt, allTxt, allBl, scal, sSDPut, sSDAdd,
  S_len, S_tl, S_app, S_one, S_inj, List.map_cons, List.map_nil, List.cons_append, List.nil_append, upd_same, Option.map_some, Option.map_none, if_true, if_false, reduceIte, Bool.false_eq_true, Bool.not_true, Bool.not_false, decide_eq_true_eq, exists_eq_left, exists_eq_left', and_true, true_and, V.str.injEq, V.int.injEq, V.bl.injEq, V.ref.injEq, List.length_cons, List.length_nil, Nat.zero_add, lit_dig, lit_gre, lit_lum, lit_tur, lit0, lit1, lit2, lit3, lit4, c_bool1, c_str1, wUNDOS, c_need, cq_joined, c_lundo]
  simp only [Then]
  simp only [lcTurn, sizeLine_eq, L2.start, Nat.zero_le, List.replicate_succ, List.replicate_zero, Nat.reduceSub, Nat.sub_self, tC, tOp, tUn, tTest, tB, tAnd, tOr, tNot, tIf, tAndV, tOrV, tNotV, tSeq_then, tNext, tAsg, gName, tRet, tRetN, tIfS, tDrop, tNil, tCons, tCB, tC0, tPar, tMth, tMth0, tFor_at, tLc_at, iStrP, iListP, iSqP, iTupP, iRng1P, iRng2P, tSl, tNoPart, tPart, tChain, tNever, tYes, tLst, tTup, tDNewK, tDisp, tPairs,
  r_v0, r_vS, r_par, r_I, r_I0, r_U, r_test, r_int, st0, stS, wp0, wpS, rAddP, rEqP, rNeP, rItem, rNil, tNil1, tRevS, cLen, cAbs, cInt, cList, cAll, cAny, mAppend, mPop, mExtend, mJoin, mIndex, mUpper, mLower, rWItem, rWIn, rInSP, rInP, rIsBP, rSlSP, rSlLP, cIsi, tyName, tyn1, tyn2, tyn3, tyn4, tyn5, tyn6, isiB_same, allTxt_map, allTxt_sign, allBl_map, joinL_nil, flat_one, flat_sign, sum_one, sum_sign, all_map_id, any_map_id, List.filterMap_eq_map', List.length_map, Nat.mul_zero, Nat.add_zero, List.length_reverse, List.map_id', isLst, isTxt, isDct, itemsAt, seqAt, strsAt, allTxt, allBl, scal, sSDPut, sSDAdd,
  S_len, S_tl, S_app, S_one, S_inj, List.map_cons, List.map_nil, List.cons_append, List.nil_append, upd_same, Option.map_some, Option.map_none, if_true, if_false, reduceIte, Bool.false_eq_true, Bool.not_true, Bool.not_false, decide_eq_true_eq, exists_eq_left, exists_eq_left', and_true, true_and, V.str.injEq, V.int.injEq, V.bl.injEq, V.ref.injEq, List.length_cons, List.length_nil, Nat.zero_add, lit_dig, lit_gre, lit_lum, lit_tur, lit0, lit1, lit2, lit3, lit4, c_bool1, c_str1, wUNDOS, c_need, cq_joined, c_lundo]
  refine next_i ad ok m0 (by omega) (by omega) fun r st1 r0 r1 ok1 t1 el1 => ?_
  simp only [lcTurn, sizeLine_eq, L2.start, Nat.zero_le, List.replicate_succ, List.replicate_zero, Nat.reduceSub, Nat.sub_self, tC, tOp, tUn, tTest, tB, tAnd, tOr, tNot, tIf, tAndV, tOrV, tNotV, tSeq_then, tNext, tAsg, gName, tRet, tRetN, tIfS, tDrop, tNil, tCons, tCB, tC0, tPar, tMth, tMth0, tFor_at, tLc_at, iStrP, iListP, iSqP, iTupP, iRng1P, iRng2P, tSl, tNoPart, tPart, tChain, tNever, tYes, tLst, tTup, tDNewK, tDisp, tPairs,
  r_v0, r_vS, r_par, r_I, r_I0, r_U, r_test, r_int, st0, stS, wp0, wpS, rAddP, rEqP, rNeP, rItem, rNil, tNil1, tRevS, cLen, cAbs, cInt, cList, cAll, cAny, mAppend, mPop, mExtend, mJoin, mIndex, mUpper, mLower, rWItem, rWIn, rInSP, rInP, rIsBP, rSlSP, rSlLP, cIsi, tyName, tyn1, tyn2, tyn3, tyn4, tyn5, tyn6, isiB_same, allTxt_map, allTxt_sign, allBl_map, joinL_nil, flat_one, flat_sign, sum_one, sum_sign, all_map_id, any_map_id, List.filterMap_eq_map', List.length_map, Nat.mul_zero, Nat.add_zero, List.length_reverse, List.map_id', isLst, isTxt, isDct, itemsAt, seqAt, strsAt, allTxt, allBl, scal, sSDPut, sSDAdd,
  S_len, S_tl, S_app, S_one, S_inj, List.map_cons, List.map_nil, List.cons_append, List.nil_append, upd_same, Option.map_some, Option.map_none, if_true, if_false, reduceIte, Bool.false_eq_true, Bool.not_true, Bool.not_false, decide_eq_true_eq, exists_eq_left, exists_eq_left', and_true, true_and, V.str.injEq, V.int.injEq, V.bl.injEq, V.ref.injEq, List.length_cons, List.length_nil, Nat.zero_add, lit_dig, lit_gre, lit_lum, lit_tur, lit0, lit1, lit2, lit3, lit4, c_bool1, c_str1, wUNDOS, c_need, cq_joined, c_lundo]
  refine ⟨by omega, for_at (goes_range 0 r.toNat) (fun pre σ H => ∃ l st' x y, σ = [some (.ref D), some (.str (S dl)), some (.int m), some (.str (S l)), x, y] ∧ H = dr H0 D G L st' ∧ stepsB l = true ∧ l.length = pre.length ∧ Dok st' ∧ st'.turn ≤ st1.turn + 2 * pre.length ∧ st'.lumps = st.lumps)
    (fun _ _ _ _ => trivial) ⟨[], st1, _, _, rfl, rfl, rfl, rfl, ok1, by omega, el1⟩ ?_ ?_⟩
  · rintro pre k post σ H e ⟨l, st', x, y, rfl, rfl, hl, hlen, ok', tu, el'⟩
    have hpre : pre.length < r.toNat := by
      have h2 := congrArg List.length e
      rw [List.length_range, List.length_append, List.length_cons] at h2
      omega
    simp only [lcTurn, sizeLine_eq, L2.start, Nat.zero_le, List.replicate_succ, List.replicate_zero, Nat.reduceSub, Nat.sub_self, tC, tOp, tUn, tTest, tB, tAnd, tOr, tNot, tIf, tAndV, tOrV, tNotV, tSeq_then, tNext, tAsg, gName, tRet, tRetN, tIfS, tDrop, tNil, tCons, tCB, tC0, tPar, tMth, tMth0, tFor_at, tLc_at, iStrP, iListP, iSqP, iTupP, iRng1P, iRng2P, tSl, tNoPart, tPart, tChain, tNever, tYes, tLst, tTup, tDNewK, tDisp, tPairs,
  r_v0, r_vS, r_par, r_I, r_I0, r_U, r_test, r_int, st0, stS, wp0, wpS, rAddP, rEqP, rNeP, rItem, rNil, tNil1, tRevS, cLen, cAbs, cInt, cList, cAll, cAny, mAppend, mPop, mExtend, mJoin, mIndex, mUpper, mLower, rWItem, rWIn, rInSP, rInP, rIsBP, rSlSP, rSlLP, cIsi, tyName, tyn1, tyn2, tyn3, tyn4, tyn5, tyn6, isiB_same, allTxt_map, allTxt_sign, allBl_map, joinL_nil, flat_one, flat_sign, sum_one, sum_sign, all_map_id, any_map_id, List.filterMap_eq_map', List.length_map, Nat.mul_zero, Nat.add_zero, List.length_reverse, List.map_id', isLst, isTxt, isDct, itemsAt, seqAt, strsAt, allTxt, allBl, scal, sSDPut, sSDAdd,
  S_len, S_tl, S_app, S_one, S_inj, List.map_cons, List.map_nil, List.cons_append, List.nil_append, upd_same, Option.map_some, Option.map_none, if_true, if_false, reduceIte, Bool.false_eq_true, Bool.not_true, Bool.not_false, decide_eq_true_eq, exists_eq_left, exists_eq_left', and_true, true_and, V.str.injEq, V.int.injEq, V.bl.injEq, V.ref.injEq, List.length_cons, List.length_nil, Nat.zero_add, lit_dig, lit_gre, lit_lum, lit_tur, lit0, lit1, lit2, lit3, lit4, c_bool1, c_str1, wUNDOS, c_need, cq_joined, c_lundo]
    have hup : (upL dl).length = dl.length := by unfold upL; rw [List.length_map]
    refine ⟨low_asc dlo, by omega, by omega, pick_s ad ok' (by omega) (fun e => d0 (List.append_eq_nil_iff.mp e).1) (by rw [List.length_append]; omega) fun c st2 hc ok2 t2 el2 => ?_⟩
    have hc2 := up_mem dlo hc
    simp only [Then]
    simp only [lcTurn, sizeLine_eq, L2.start, Nat.zero_le, List.replicate_succ, List.replicate_zero, Nat.reduceSub, Nat.sub_self, tC, tOp, tUn, tTest, tB, tAnd, tOr, tNot, tIf, tAndV, tOrV, tNotV, tSeq_then, tNext, tAsg, gName, tRet, tRetN, tIfS, tDrop, tNil, tCons, tCB, tC0, tPar, tMth, tMth0, tFor_at, tLc_at, iStrP, iListP, iSqP, iTupP, iRng1P, iRng2P, tSl, tNoPart, tPart, tChain, tNever, tYes, tLst, tTup, tDNewK, tDisp, tPairs,
  r_v0, r_vS, r_par, r_I, r_I0, r_U, r_test, r_int, st0, stS, wp0, wpS, rAddP, rEqP, rNeP, rItem, rNil, tNil1, tRevS, cLen, cAbs, cInt, cList, cAll, cAny, mAppend, mPop, mExtend, mJoin, mIndex, mUpper, mLower, rWItem, rWIn, rInSP, rInP, rIsBP, rSlSP, rSlLP, cIsi, tyName, tyn1, tyn2, tyn3, tyn4, tyn5, tyn6, isiB_same, allTxt_map, allTxt_sign, allBl_map, joinL_nil, flat_one, flat_sign, sum_one, sum_sign, all_map_id, any_map_id, List.filterMap_eq_map', List.length_map, Nat.mul_zero, Nat.add_zero, List.length_reverse, List.map_id', isLst, isTxt, isDct, itemsAt, seqAt, strsAt, allTxt, allBl, scal, sSDPut, sSDAdd,
  S_len, S_tl, S_app, S_one, S_inj, List.map_cons, List.map_nil, List.cons_append, List.nil_append, upd_same, Option.map_some, Option.map_none, if_true, if_false, reduceIte, Bool.false_eq_true, Bool.not_true, Bool.not_false, decide_eq_true_eq, exists_eq_left, exists_eq_left', and_true, true_and, V.str.injEq, V.int.injEq, V.bl.injEq, V.ref.injEq, List.length_cons, List.length_nil, Nat.zero_add, lit_dig, lit_gre, lit_lum, lit_tur, lit0, lit1, lit2, lit3, lit4, c_bool1, c_str1, wUNDOS, c_need, cq_joined, c_lundo]
    by_cases hz : l = []
    · rw [if_neg (by simp [hz])]
      simp only [Then]
      simp only [lcTurn, sizeLine_eq, L2.start, Nat.zero_le, List.replicate_succ, List.replicate_zero, Nat.reduceSub, Nat.sub_self, tC, tOp, tUn, tTest, tB, tAnd, tOr, tNot, tIf, tAndV, tOrV, tNotV, tSeq_then, tNext, tAsg, gName, tRet, tRetN, tIfS, tDrop, tNil, tCons, tCB, tC0, tPar, tMth, tMth0, tFor_at, tLc_at, iStrP, iListP, iSqP, iTupP, iRng1P, iRng2P, tSl, tNoPart, tPart, tChain, tNever, tYes, tLst, tTup, tDNewK, tDisp, tPairs,
  r_v0, r_vS, r_par, r_I, r_I0, r_U, r_test, r_int, st0, stS, wp0, wpS, rAddP, rEqP, rNeP, rItem, rNil, tNil1, tRevS, cLen, cAbs, cInt, cList, cAll, cAny, mAppend, mPop, mExtend, mJoin, mIndex, mUpper, mLower, rWItem, rWIn, rInSP, rInP, rIsBP, rSlSP, rSlLP, cIsi, tyName, tyn1, tyn2, tyn3, tyn4, tyn5, tyn6, isiB_same, allTxt_map, allTxt_sign, allBl_map, joinL_nil, flat_one, flat_sign, sum_one, sum_sign, all_map_id, any_map_id, List.filterMap_eq_map', List.length_map, Nat.mul_zero, Nat.add_zero, List.length_reverse, List.map_id', isLst, isTxt, isDct, itemsAt, seqAt, strsAt, allTxt, allBl, scal, sSDPut, sSDAdd,
  S_len, S_tl, S_app, S_one, S_inj, List.map_cons, List.map_nil, List.cons_append, List.nil_append, upd_same, Option.map_some, Option.map_none, if_true, if_false, reduceIte, Bool.false_eq_true, Bool.not_true, Bool.not_false, decide_eq_true_eq, exists_eq_left, exists_eq_left', and_true, true_and, V.str.injEq, V.int.injEq, V.bl.injEq, V.ref.injEq, List.length_cons, List.length_nil, Nat.zero_add, lit_dig, lit_gre, lit_lum, lit_tur, lit0, lit1, lit2, lit3, lit4, c_bool1, c_str1, wUNDOS, c_need, cq_joined, c_lundo]
      refine ⟨by omega, l ++ [c], st2, _, _, rfl, rfl, steps_snoc hl hc2, by rw [List.length_append, List.length_append, hlen] <;> rfl, ok2, ?_, el2.trans el'⟩
      rw [List.length_append, List.length_singleton]
      omega
    · rw [if_pos (by simp [hz])]
      refine next_i ad ok2 (by decide) (by decide) (by omega) fun r3 st3 _ _ ok3 t3 el3 => ?_
      simp only [lcTurn, sizeLine_eq, L2.start, Nat.zero_le, List.replicate_succ, List.replicate_zero, Nat.reduceSub, Nat.sub_self, tC, tOp, tUn, tTest, tB, tAnd, tOr, tNot, tIf, tAndV, tOrV, tNotV, tSeq_then, tNext, tAsg, gName, tRet, tRetN, tIfS, tDrop, tNil, tCons, tCB, tC0, tPar, tMth, tMth0, tFor_at, tLc_at, iStrP, iListP, iSqP, iTupP, iRng1P, iRng2P, tSl, tNoPart, tPart, tChain, tNever, tYes, tLst, tTup, tDNewK, tDisp, tPairs,
  r_v0, r_vS, r_par, r_I, r_I0, r_U, r_test, r_int, st0, stS, wp0, wpS, rAddP, rEqP, rNeP, rItem, rNil, tNil1, tRevS, cLen, cAbs, cInt, cList, cAll, cAny, mAppend, mPop, mExtend, mJoin, mIndex, mUpper, mLower, rWItem, rWIn, rInSP, rInP, rIsBP, rSlSP, rSlLP, cIsi, tyName, tyn1, tyn2, tyn3, tyn4, tyn5, tyn6, isiB_same, allTxt_map, allTxt_sign, allBl_map, joinL_nil, flat_one, flat_sign, sum_one, sum_sign, all_map_id, any_map_id, List.filterMap_eq_map', List.length_map, Nat.mul_zero, Nat.add_zero, List.length_reverse, List.map_id', isLst, isTxt, isDct, itemsAt, seqAt, strsAt, allTxt, allBl, scal, sSDPut, sSDAdd,
  S_len, S_tl, S_app, S_one, S_inj, List.map_cons, List.map_nil, List.cons_append, List.nil_append, upd_same, Option.map_some, Option.map_none, if_true, if_false, reduceIte, Bool.false_eq_true, Bool.not_true, Bool.not_false, decide_eq_true_eq, exists_eq_left, exists_eq_left', and_true, true_and, V.str.injEq, V.int.injEq, V.bl.injEq, V.ref.injEq, List.length_cons, List.length_nil, Nat.zero_add, lit_dig, lit_gre, lit_lum, lit_tur, lit0, lit1, lit2, lit3, lit4, c_bool1, c_str1, wUNDOS, c_need, cq_joined, c_lundo]
      by_cases h3 : r3 = 0
      · rw [if_pos h3]
        obtain ⟨ini, z, ez⟩ : ∃ ini z, l = ini ++ [z] := ⟨l.dropLast, l.getLast hz, (List.dropLast_concat_getLast hz).symm⟩
        have hz2 : isStep z = true := List.all_eq_true.mp hl z (by rw [ez]; simp)
        have ea : atI l (-1) = some z := by rw [ez, atI_last]
        rw [ea]
        refine ⟨by omega, hz2, ?_⟩
        simp only [Then]
        simp only [lcTurn, sizeLine_eq, L2.start, Nat.zero_le, List.replicate_succ, List.replicate_zero, Nat.reduceSub, Nat.sub_self, tC, tOp, tUn, tTest, tB, tAnd, tOr, tNot, tIf, tAndV, tOrV, tNotV, tSeq_then, tNext, tAsg, gName, tRet, tRetN, tIfS, tDrop, tNil, tCons, tCB, tC0, tPar, tMth, tMth0, tFor_at, tLc_at, iStrP, iListP, iSqP, iTupP, iRng1P, iRng2P, tSl, tNoPart, tPart, tChain, tNever, tYes, tLst, tTup, tDNewK, tDisp, tPairs,
  r_v0, r_vS, r_par, r_I, r_I0, r_U, r_test, r_int, st0, stS, wp0, wpS, rAddP, rEqP, rNeP, rItem, rNil, tNil1, tRevS, cLen, cAbs, cInt, cList, cAll, cAny, mAppend, mPop, mExtend, mJoin, mIndex, mUpper, mLower, rWItem, rWIn, rInSP, rInP, rIsBP, rSlSP, rSlLP, cIsi, tyName, tyn1, tyn2, tyn3, tyn4, tyn5, tyn6, isiB_same, allTxt_map, allTxt_sign, allBl_map, joinL_nil, flat_one, flat_sign, sum_one, sum_sign, all_map_id, any_map_id, List.filterMap_eq_map', List.length_map, Nat.mul_zero, Nat.add_zero, List.length_reverse, List.map_id', isLst, isTxt, isDct, itemsAt, seqAt, strsAt, allTxt, allBl, scal, sSDPut, sSDAdd,
  S_len, S_tl, S_app, S_one, S_inj, List.map_cons, List.map_nil, List.cons_append, List.nil_append, upd_same, Option.map_some, Option.map_none, if_true, if_false, reduceIte, Bool.false_eq_true, Bool.not_true, Bool.not_false, decide_eq_true_eq, exists_eq_left, exists_eq_left', and_true, true_and, V.str.injEq, V.int.injEq, V.bl.injEq, V.ref.injEq, List.length_cons, List.length_nil, Nat.zero_add, lit_dig, lit_gre, lit_lum, lit_tur, lit0, lit1, lit2, lit3, lit4, c_bool1, c_str1, wUNDOS, c_need, cq_joined, c_lundo]
        refine ⟨by omega, l ++ [und z], st3, _, _, rfl, rfl, steps_snoc hl (und_step hz2), by rw [List.length_append, List.length_append, hlen] <;> rfl, ok3, ?_, el3.trans (el2.trans el')⟩
        rw [List.length_append, List.length_singleton]
        omega
      · rw [if_neg h3]
        simp only [Then]
        simp only [lcTurn, sizeLine_eq, L2.start, Nat.zero_le, List.replicate_succ, List.replicate_zero, Nat.reduceSub, Nat.sub_self, tC, tOp, tUn, tTest, tB, tAnd, tOr, tNot, tIf, tAndV, tOrV, tNotV, tSeq_then, tNext, tAsg, gName, tRet, tRetN, tIfS, tDrop, tNil, tCons, tCB, tC0, tPar, tMth, tMth0, tFor_at, tLc_at, iStrP, iListP, iSqP, iTupP, iRng1P, iRng2P, tSl, tNoPart, tPart, tChain, tNever, tYes, tLst, tTup, tDNewK, tDisp, tPairs,
  r_v0, r_vS, r_par, r_I, r_I0, r_U, r_test, r_int, st0, stS, wp0, wpS, rAddP, rEqP, rNeP, rItem, rNil, tNil1, tRevS, cLen, cAbs, cInt, cList, cAll, cAny, mAppend, mPop, mExtend, mJoin, mIndex, mUpper, mLower, rWItem, rWIn, rInSP, rInP, rIsBP, rSlSP, rSlLP, cIsi, tyName, tyn1, tyn2, tyn3, tyn4, tyn5, tyn6, isiB_same, allTxt_map, allTxt_sign, allBl_map, joinL_nil, flat_one, flat_sign, sum_one, sum_sign, all_map_id, any_map_id, List.filterMap_eq_map', List.length_map, Nat.mul_zero, Nat.add_zero, List.length_reverse, List.map_id', isLst, isTxt, isDct, itemsAt, seqAt, strsAt, allTxt, allBl, scal, sSDPut, sSDAdd,
  S_len, S_tl, S_app, S_one, S_inj, List.map_cons, List.map_nil, List.cons_append, List.nil_append, upd_same, Option.map_some, Option.map_none, if_true, if_false, reduceIte, Bool.false_eq_true, Bool.not_true, Bool.not_false, decide_eq_true_eq, exists_eq_left, exists_eq_left', and_true, true_and, V.str.injEq, V.int.injEq, V.bl.injEq, V.ref.injEq, List.length_cons, List.length_nil, Nat.zero_add, lit_dig, lit_gre, lit_lum, lit_tur, lit0, lit1, lit2, lit3, lit4, c_bool1, c_str1, wUNDOS, c_need, cq_joined, c_lundo]
        refine ⟨by omega, l ++ [c], st3, _, _, rfl, rfl, steps_snoc hl hc2, by rw [List.length_append, List.length_append, hlen] <;> rfl, ok3, ?_, el3.trans (el2.trans el')⟩
        rw [List.length_append, List.length_singleton]
        omega
  · rintro σ H ⟨l, st', x, y, rfl, rfl, hl, hlen, ok', tu, el'⟩
    rw [List.length_range] at hlen tu
    simp only [Then]
    simp only [lcTurn, sizeLine_eq, L2.start, Nat.zero_le, List.replicate_succ, List.replicate_zero, Nat.reduceSub, Nat.sub_self, tC, tOp, tUn, tTest, tB, tAnd, tOr, tNot, tIf, tAndV, tOrV, tNotV, tSeq_then, tNext, tAsg, gName, tRet, tRetN, tIfS, tDrop, tNil, tCons, tCB, tC0, tPar, tMth, tMth0, tFor_at, tLc_at, iStrP, iListP, iSqP, iTupP, iRng1P, iRng2P, tSl, tNoPart, tPart, tChain, tNever, tYes, tLst, tTup, tDNewK, tDisp, tPairs,
  r_v0, r_vS, r_par, r_I, r_I0, r_U, r_test, r_int, st0, stS, wp0, wpS, rAddP, rEqP, rNeP, rItem, rNil, tNil1, tRevS, cLen, cAbs, cInt, cList, cAll, cAny, mAppend, mPop, mExtend, mJoin, mIndex, mUpper, mLower, rWItem, rWIn, rInSP, rInP, rIsBP, rSlSP, rSlLP, cIsi, tyName, tyn1, tyn2, tyn3, tyn4, tyn5, tyn6, isiB_same, allTxt_map, allTxt_sign, allBl_map, joinL_nil, flat_one, flat_sign, sum_one, sum_sign, all_map_id, any_map_id, List.filterMap_eq_map', List.length_map, Nat.mul_zero, Nat.add_zero, List.length_reverse, List.map_id', isLst, isTxt, isDct, itemsAt, seqAt, strsAt, allTxt, allBl, scal, sSDPut, sSDAdd,
  S_len, S_tl, S_app, S_one, S_inj, List.map_cons, List.map_nil, List.cons_append, List.nil_append, upd_same, Option.map_some, Option.map_none, if_true, if_false, reduceIte, Bool.false_eq_true, Bool.not_true, Bool.not_false, decide_eq_true_eq, exists_eq_left, exists_eq_left', and_true, true_and, V.str.injEq, V.int.injEq, V.bl.injEq, V.ref.injEq, List.length_cons, List.length_nil, Nat.zero_add, lit_dig, lit_gre, lit_lum, lit_tur, lit0, lit1, lit2, lit3, lit4, c_bool1, c_str1, wUNDOS, c_need, cq_joined, c_lundo]
    exact q _ st' _ ⟨dl, m, l, rfl, rfl, hl, by omega, ok', by omega⟩ el' dr_D (dr_G ad) (dr_L ad)
theorem row_go {Hb : Hp} {D G L : Addr} {st : Dst} {dl : List Nat} {m : Int} {Q : VK} {E : XK} (ad : Ad D G L) (ok : Dok st) (ht : st.turn + (2 * m.toNat + 1 : Nat) ≤ 1000000000) (d0 : dl ≠ []) (dlo : lowB dl = true) (d1 : dl.length ≤ 1000) (m0 : 0 < m) (m1 : m ≤ 1000)
    (q : ∀ l st', stepsB l = true → (l.length : Int) < m → Dok st' → st'.turn ≤ st.turn + (2 * m.toNat + 1 : Nat) → st'.lumps = st.lumps → Q (.str (S l)) (dr Hb D G L st')) : spD preRow postRow [.ref D, .str (S dl), .int m] (dr Hb D G L st) Q E :=
  ⟨Hb, D, G, L, st, [.str (S dl), .int m], rfl, rfl, ad, ⟨dl, m, rfl, d0, dlo, d1, m0, m1, ok, ht⟩, fun v st' ⟨dl', m', l, e, e2, hl, hlen, a1, a2⟩ el => by
    subst e2
    have e3 : dl = dl' ∧ m = m' := by simpa [S_inj] using e
    obtain ⟨rfl, rfl⟩ := e3
    exact q l st' hl hlen a1 a2 el⟩

theorem sc__law_back : FnScope ["_law_text", "_law_step"] ["_law_text"] (defScope s__law_back) := ⟨rfl, rfl, rfl, by decide +kernel, rfl, by decide +kernel, by decide +kernel⟩
theorem ok__law_back {P : Program} {w : World} {K : PySem.W.Frag} {mg : Str → Option Value} {base : Heap} (T : Ctx fa fn wd w K mg) : Cal P w K mg base CX0 2 "_law_back" ["_law_text"] (spPure (R_str1 stepsB inv)) := by
  have c__law_undo := ok__law_undo (P := P) (base := base) T
  obtain ⟨fd, F⟩ := T.fun_ d__law_back 14 rfl
  refine Cal.imp (sp := spFrame (spPure0 (R_str1 stepsB inv))) (Cal.frame ⟨_, fd, T.glo "_law_back" 14 rfl, ?_, F.kp, FunD.bindsN F fun _ _ _ _ _ _ us hl => match us, hl with | [_], _ => rfl⟩) fun vs H Q E h => pure_frame vs H Q E h
  refine FunD.ok F sc__law_back (fun vs H Q E h => (by obtain ⟨_, _, ⟨_, rfl, _⟩, _⟩ := h; rfl)) (fun cdv A outer s H vs Q E hr h => ?_)
  have hu : A.units + 3 + 1 < cLine := Nat.lt_of_le_of_lt (Nat.add_le_add_left (by decide : 1 ≤ 64) _) hr.units
  have hu0 : A.units + 3 < cLine := hr.units0
  obtain ⟨rfl, _, ⟨l, rfl, ⟨hs, hl⟩, rfl⟩, q⟩ := h
  refine ⟨_, PSs.nox (pss_one (ps_ret (pe_mth PySem.F.plainAttrs_str PySem.F.slot_str_join PySem.F.type_str_join (fun _ _ z => isTxt_ty z) mtr_join pe_str (pa_cons (pe_lc (own := [("_law_step", 1)]) rfl sc__law_back.nd (pi_strP (pe_revS (pv 0))) (blkOk_by (own := [("_law_step", 1)]) (N := ["_law_text", "_law_step"]) (sc := defScope s__law_back) (by decide +kernel)) (fun _ _ _ _ _ => pg_name (i := 1) sc__law_back.nd rfl (by first | exact Or.inl rfl | exact Or.inr rfl)) (fun _ _ _ _ _ => pts_nil) (fun _ _ _ _ _ => (pe_c0 c__law_undo (hr.mono (by decide)) rfl (pa_cons (pv 1) pa_nil)))) pa_nil)))), ?_⟩
  simp (maxSteps := 1000000) only [lcTurn, sizeLine_eq, L2.start, Nat.zero_le, List.replicate_succ, List.replicate_zero, Nat.reduceSub, Nat.sub_self, tC, tOp, tUn, tTest, tB, tAnd, tOr, tNot, tIf, tAndV, tOrV, tNotV, tSeq, tNext, tAsg, gName, tRet, tRetN, tIfS, tDrop, tNil, tCons, tCB, tC0, tPar, tMth, tMth0, tFor_at, tLc_at, iStrP, iListP, iSqP, iTupP, iRng1P, iRng2P, tSl, tNoPart, tPart, tChain, tNever, tYes, tLst, tTup, tDNewK, tDisp, tPairs,
  r_v0, r_vS, r_par, r_I, r_I0, r_U, r_test, r_int, st0, stS, wp0, wpS, rAddP, rEqP, rNeP, rItem, rNil, tNil1, tRevS, cLen, cAbs, cInt, cList, cAll, cAny, mAppend, mPop, mExtend, mJoin, mIndex, mUpper, mLower, rWItem, rWIn, rInSP, rInP, rIsBP, rSlSP, rSlLP, cIsi, tyName, tyn1, tyn2, tyn3, tyn4, tyn5, tyn6, isiB_same, allTxt_map, allTxt_sign, allBl_map, joinL_nil, flat_one, flat_sign, sum_one, sum_sign, all_map_id, any_map_id, List.filterMap_eq_map', List.length_map, Nat.mul_zero, Nat.add_zero, List.length_reverse, List.map_id', isLst, isTxt, isDct, itemsAt, seqAt, strsAt, allTxt, allBl, scal, sSDPut, sSDAdd,
  S_len, S_tl, S_app, S_one, S_inj, List.map_cons, List.map_nil, List.cons_append, List.nil_append, upd_same, Option.map_some, Option.map_none, if_true, if_false, reduceIte, Bool.false_eq_true, Bool.not_true, Bool.not_false, decide_eq_true_eq, exists_eq_left, exists_eq_left', and_true, true_and, V.str.injEq, V.int.injEq, V.bl.injEq, V.ref.injEq, List.length_cons, List.length_nil, Nat.zero_add, lit_dig, lit_gre, lit_lum, lit_tur, lit0, lit1, lit2, lit3, lit4, c_bool1, c_str1, wUNDOS, c_need, cq_joined, c_lundo]
  have hr2 : ∀ c ∈ l.reverse, isStep c = true := fun c hc => List.all_eq_true.mp hs c (by simpa using hc)
  refine ⟨by omega, lc_pure (goes_S _) (fun c => some (.str (S [und c]))) (by simp [sizeLine_eq]; omega) (fun _ _ _ => trivial) (fun D c acc R hD hc r => ?_) fun D hD => ?_⟩
  · simp (maxSteps := 1000000) only [lcTurn, sizeLine_eq, L2.start, Nat.zero_le, List.replicate_succ, List.replicate_zero, Nat.reduceSub, Nat.sub_self, tC, tOp, tUn, tTest, tB, tAnd, tOr, tNot, tIf, tAndV, tOrV, tNotV, tSeq, tNext, tAsg, gName, tRet, tRetN, tIfS, tDrop, tNil, tCons, tCB, tC0, tPar, tMth, tMth0, tFor_at, tLc_at, iStrP, iListP, iSqP, iTupP, iRng1P, iRng2P, tSl, tNoPart, tPart, tChain, tNever, tYes, tLst, tTup, tDNewK, tDisp, tPairs,
  r_v0, r_vS, r_par, r_I, r_I0, r_U, r_test, r_int, st0, stS, wp0, wpS, rAddP, rEqP, rNeP, rItem, rNil, tNil1, tRevS, cLen, cAbs, cInt, cList, cAll, cAny, mAppend, mPop, mExtend, mJoin, mIndex, mUpper, mLower, rWItem, rWIn, rInSP, rInP, rIsBP, rSlSP, rSlLP, cIsi, tyName, tyn1, tyn2, tyn3, tyn4, tyn5, tyn6, isiB_same, allTxt_map, allTxt_sign, allBl_map, joinL_nil, flat_one, flat_sign, sum_one, sum_sign, all_map_id, any_map_id, List.filterMap_eq_map', List.length_map, Nat.mul_zero, Nat.add_zero, List.length_reverse, List.map_id', isLst, isTxt, isDct, itemsAt, seqAt, strsAt, allTxt, allBl, scal, sSDPut, sSDAdd,
  S_len, S_tl, S_app, S_one, S_inj, List.map_cons, List.map_nil, List.cons_append, List.nil_append, upd_same, Option.map_some, Option.map_none, if_true, if_false, reduceIte, Bool.false_eq_true, Bool.not_true, Bool.not_false, decide_eq_true_eq, exists_eq_left, exists_eq_left', and_true, true_and, V.str.injEq, V.int.injEq, V.bl.injEq, V.ref.injEq, List.length_cons, List.length_nil, Nat.zero_add, lit_dig, lit_gre, lit_lum, lit_tur, lit0, lit1, lit2, lit3, lit4, c_bool1, c_str1, wUNDOS, c_need, cq_joined, c_lundo]
    exact ⟨hr2 c hc, r⟩
  · simp (maxSteps := 1000000) only [lcTurn, sizeLine_eq, L2.start, Nat.zero_le, List.replicate_succ, List.replicate_zero, Nat.reduceSub, Nat.sub_self, tC, tOp, tUn, tTest, tB, tAnd, tOr, tNot, tIf, tAndV, tOrV, tNotV, tSeq, tNext, tAsg, gName, tRet, tRetN, tIfS, tDrop, tNil, tCons, tCB, tC0, tPar, tMth, tMth0, tFor_at, tLc_at, iStrP, iListP, iSqP, iTupP, iRng1P, iRng2P, tSl, tNoPart, tPart, tChain, tNever, tYes, tLst, tTup, tDNewK, tDisp, tPairs,
  r_v0, r_vS, r_par, r_I, r_I0, r_U, r_test, r_int, st0, stS, wp0, wpS, rAddP, rEqP, rNeP, rItem, rNil, tNil1, tRevS, cLen, cAbs, cInt, cList, cAll, cAny, mAppend, mPop, mExtend, mJoin, mIndex, mUpper, mLower, rWItem, rWIn, rInSP, rInP, rIsBP, rSlSP, rSlLP, cIsi, tyName, tyn1, tyn2, tyn3, tyn4, tyn5, tyn6, isiB_same, allTxt_map, allTxt_sign, allBl_map, joinL_nil, flat_one, flat_sign, sum_one, sum_sign, all_map_id, any_map_id, List.filterMap_eq_map', List.length_map, Nat.mul_zero, Nat.add_zero, List.length_reverse, List.map_id', isLst, isTxt, isDct, itemsAt, seqAt, strsAt, allTxt, allBl, scal, sSDPut, sSDAdd,
  S_len, S_tl, S_app, S_one, S_inj, List.map_cons, List.map_nil, List.cons_append, List.nil_append, upd_same, Option.map_some, Option.map_none, if_true, if_false, reduceIte, Bool.false_eq_true, Bool.not_true, Bool.not_false, decide_eq_true_eq, exists_eq_left, exists_eq_left', and_true, true_and, V.str.injEq, V.int.injEq, V.bl.injEq, V.ref.injEq, List.length_cons, List.length_nil, Nat.zero_add, lit_dig, lit_gre, lit_lum, lit_tur, lit0, lit1, lit2, lit3, lit4, c_bool1, c_str1, wUNDOS, c_need, cq_joined, c_lundo]
    exact ⟨by omega, q _⟩
def preSome (rest : List V) (st : Dst) : Prop := rest = [.int 4] ∧ bud 5 st
def postSome (rest : List V) (st : Dst) (v : V) (st' : Dst) : Prop := ∃ l : List Nat, v = .str (S l) ∧ lowB l = true ∧ l ≠ [] ∧ l.length ≤ 4 ∧ adv 5 st st'
theorem sc__law_some : FnScope ["_law_draw", "_law_many"] ["_law_draw", "_law_many"] (defScope s__law_some) := ⟨rfl, rfl, rfl, by decide +kernel, rfl, by decide +kernel, by decide +kernel⟩
theorem ok__law_some {P : Program} {w : World} {K : PySem.W.Frag} {mg : Str → Option Value} {base : Heap} (T : Ctx fa fn wd w K mg) : Cal P w K mg base CX0 3 "_law_some" ["_law_draw", "_law_many"] (spD preSome postSome) := by
  have c__law_shuffled := ok__law_shuffled (P := P) (base := base) T
  have c__law_next := ok__law_next (P := P) (base := base) T
  obtain ⟨fd, F⟩ := T.fun_ d__law_some 16 rfl
  refine Cal.imp (sp := spFrame (spD0 preSome postSome)) (Cal.frame ⟨_, fd, T.glo "_law_some" 16 rfl, ?_, F.kp, FunD.bindsN F fun _ _ _ _ _ _ us hl => match us, hl with | [_, _], _ => rfl⟩) fun vs H Q E h => draw_frame vs H Q E h
  refine FunD.ok F sc__law_some (fun vs H Q E h => (by obtain ⟨_, _, _, _, _, rfl, _, _, ⟨rfl, _⟩, _⟩ := h; rfl)) (fun cdv A outer s H vs Q E hr h => ?_)
  have hu : A.units + 3 + 1 < cLine := Nat.lt_of_le_of_lt (Nat.add_le_add_left (by decide : 1 ≤ 64) _) hr.units
  have hu0 : A.units + 3 < cLine := hr.units0
  obtain ⟨D, G, L, st, rest, rfl, rfl, ad, ⟨rfl, ok, ht⟩, q⟩ := h
  refine ⟨_, PSs.nox (pss_one (ps_ret (pe_mth PySem.F.plainAttrs_str PySem.F.slot_str_join PySem.F.type_str_join (fun _ _ z => isTxt_ty z) mtr_join pe_str (pa_cons (pe_slice sl_listP (pe_c0 c__law_shuffled (hr.mono (by decide)) rfl (pa_cons (pv 0) (pa_cons (pe_callTy (call_listP rfl) rfl (T.free "list" 25 rfl) (by decide +kernel) (pa_cons pe_str pa_nil)) pa_nil))) po_none (po_some (pe_op op_addP pe_int (pe_c0 c__law_next (hr.mono (by decide)) rfl (pa_cons (pv 0) (pa_cons (pv 1) pa_nil)))))) pa_nil)))), ?_⟩
  simp only [lcTurn, sizeLine_eq, L2.start, Nat.zero_le, List.replicate_succ, List.replicate_zero, Nat.reduceSub, Nat.sub_self, tC, tOp, tUn, tTest, tB, tAnd, tOr, tNot, tIf, tAndV, tOrV, tNotV, tSeq_then, tNext, tAsg, gName, tRet, tRetN, tIfS, tDrop, tNil, tCons, tCB, tC0, tPar, tMth, tMth0, tFor_at, tLc_at, iStrP, iListP, iSqP, iTupP, iRng1P, iRng2P, tSl, tNoPart, tPart, tChain, tNever, tYes, tLst, tTup, tDNewK, tDisp, tPairs,
  r_v0, r_vS, r_par, r_I, r_I0, r_U, r_test, r_int, st0, stS, wp0, wpS, rAddP, rEqP, rNeP, rItem, rNil, tNil1, tRevS, cLen, cAbs, cInt, cList, cAll, cAny, mAppend, mPop, mExtend, mJoin, mIndex, mUpper, mLower, rWItem, rWIn, rInSP, rInP, rIsBP, rSlSP, rSlLP, cIsi, tyName, tyn1, tyn2, tyn3, tyn4, tyn5, tyn6, isiB_same, allTxt_map, allTxt_sign, allBl_map, joinL_nil, flat_one, flat_sign, sum_one, sum_sign, all_map_id, any_map_id, List.filterMap_eq_map', List.length_map, Nat.mul_zero, Nat.add_zero, List.length_reverse, List.map_id', isLst, isTxt, isDct, itemsAt, seqAt, strsAt, allTxt, allBl, scal, sSDPut, sSDAdd,
  S_len, S_tl, S_app, S_one, S_inj, List.map_cons, List.map_nil, List.cons_append, List.nil_append, upd_same, Option.map_some, Option.map_none, if_true, if_false, reduceIte, Bool.false_eq_true, Bool.not_true, Bool.not_false, decide_eq_true_eq, exists_eq_left, exists_eq_left', and_true, true_and, V.str.injEq, V.int.injEq, V.bl.injEq, V.ref.injEq, List.length_cons, List.length_nil, Nat.zero_add, lit_dig, lit_gre, lit_lum, lit_tur, lit0, lit1, lit2, lit3, lit4, c_bool1, c_str1, wUNDOS, c_need, cq_joined, c_lundo]
  refine ⟨by decide, fun l hl => ?_⟩
  obtain ⟨l1, l2, l3, _⟩ := dr_free hl
  rw [dr_out' l1 l2 l3]
  refine shuf_l (xs := [V.str (S [97]), V.str (S [98]), V.str (S [99]), V.str (S [100])]) ad ok (by show st.turn + 4 ≤ _; omega) upd_same l1 l2 l3 (by show 4 ≤ _; omega) fun p ys st1 hp pm ok1 t1 el1 => ?_
  have hys : ys.length = 4 := pm.length_eq
  have t1' : st1.turn ≤ st.turn + 4 := t1
  obtain ⟨cs, e, hcs⟩ := lift_list (f := eSign) (P := fun c => low c = true) (ys := ys) fun v hv => by
    have h2 := pm.mem_iff.mp hv
    simp only [List.mem_cons, List.not_mem_nil, or_false] at h2
    rcases h2 with rfl | rfl | rfl | rfl
    · exact ⟨97, rfl, rfl⟩
    · exact ⟨98, rfl, rfl⟩
    · exact ⟨99, rfl, rfl⟩
    · exact ⟨100, rfl, rfl⟩
  subst e
  rw [List.length_map] at hys
  refine next_i ad ok1 (by decide) (by decide) (by omega) fun r st2 r0 r1 ok2 t2 el2 => ?_
  obtain ⟨p1, p2, p3, _⟩ := dr_free hp
  have hP : dr (upd (upd H0 l (.lst [V.str (S [97]), V.str (S [98]), V.str (S [99]), V.str (S [100])])) p (.lst (cs.map eSign))) D G L st2 p = some (.lst (cs.map eSign)) := by rw [dr_ne p1 p2 p3, upd_same]
  simp only [hP]
  intro p2' hp2
  obtain ⟨m1, m2, m3, m4⟩ := dr_free hp2
  have e1 : cutV (cs.map eSign) none (some (1 + r)) = (cs.take (1 + r).toNat).map eSign := by rw [cutV_toI _ (by omega), List.map_take]
  simp only [e1, allTxt_sign, flat_sign, sum_sign]
  have hlen : (cs.take (1 + r).toNat).length = (1 + r).toNat := by rw [List.length_take]; omega
  refine ⟨by omega, q _ st2 _ ⟨_, rfl, List.all_eq_true.mpr fun c hc => hcs c (List.mem_of_mem_take hc), fun e => ?_, by omega, ok2, by omega⟩ (el2.trans el1) ?_ ?_ ?_⟩
  · rw [e] at hlen
    have h0 : (0 : Nat) = (1 + r).toNat := hlen
    omega
  · rw [upd_ne (Ne.symm m1)]
    exact dr_D
  · rw [upd_ne (Ne.symm m2)]
    exact dr_G ad
  · rw [upd_ne (Ne.symm m3)]
    exact dr_L ad
/-- the places at which two neighbours undo one another -/
def isSpot (m : List Nat) (k : Nat) : Bool := decide (m[k + 1]? = (m[k]?).map und)
def spotV (m : List Nat) (k : Nat) : Option V := if isSpot m k = true then some (.int (0 + (k : Int))) else none
theorem spot_at {m : List Nat} (hm : stepsB m = true) {k : Nat} (h : k + 1 < m.length) : ∃ c d, atI m (0 + (k : Int)) = some c ∧ atI m (0 + (k : Int) + 1) = some d ∧ isStep c = true ∧ isSpot m k = decide (d = und c) := by
  have e1 : (0 : Int) + (k : Int) = (k : Int) := by omega
  have e2 : (k : Int) + 1 = ((k + 1 : Nat) : Int) := rfl
  have h1 : m[k]? = some m[k] := List.getElem?_eq_getElem (by omega)
  have h2 : m[k + 1]? = some m[k + 1] := List.getElem?_eq_getElem h
  refine ⟨m[k], m[k + 1], by rw [e1, atI_nat', h1], by rw [e1, e2, atI_nat', h2], steps_mem hm (List.getElem_mem _), ?_⟩
  unfold isSpot
  rw [h1, h2, Option.map_some, Bool.eq_iff_iff, decide_eq_true_iff, decide_eq_true_iff]
  exact Option.some_inj
theorem spots_no {m : List Nat} (h : (List.range (m.length - 1)).filterMap (spotV m) = []) : nf m := by
  intro a x y b e e2
  have hl : m.length = a.length + (b.length + 2) := by rw [e]; simp
  have h1 : m[a.length]? = some x := by rw [e, List.getElem?_append_right (Nat.le_refl _)]; simp
  have h2 : m[a.length + 1]? = some y := by rw [e, List.getElem?_append_right (by omega)]; simp
  have h3 : isSpot m a.length = true := by
    unfold isSpot
    rw [h1, h2, e2]
    simp
  have h4 : V.int (0 + (a.length : Int)) ∈ (List.range (m.length - 1)).filterMap (spotV m) := List.mem_filterMap.mpr ⟨a.length, List.mem_range.mpr (by omega), by unfold spotV; rw [if_pos h3]⟩
  rw [h] at h4
  cases h4
theorem spot_in {m : List Nat} (hm : stepsB m = true) {v : V} (h : v ∈ (List.range (m.length - 1)).filterMap (spotV m)) : ∃ k c, v = .int (0 + ((k : Nat) : Int)) ∧ k + 1 < m.length ∧ isStep c = true ∧ m = m.take k ++ c :: und c :: m.drop (k + 2) := by
  obtain ⟨k, hk, e⟩ := List.mem_filterMap.mp h
  have hk2 : k + 1 < m.length := by
    have := List.mem_range.mp hk
    omega
  unfold spotV at e
  split at e
  · rename_i hsp
    cases e
    unfold isSpot at hsp
    have hsp := of_decide_eq_true hsp
    have h1 : m[k]? = some m[k] := List.getElem?_eq_getElem (by omega)
    have h2 : m[k + 1]? = some m[k + 1] := List.getElem?_eq_getElem hk2
    rw [h1, h2, Option.map_some] at hsp
    have e3 : m[k + 1] = und m[k] := Option.some.inj hsp
    refine ⟨k, m[k], rfl, hk2, steps_mem hm (List.getElem_mem _), ?_⟩
    rw [← e3, List.getElem_cons_drop, List.getElem_cons_drop, List.take_append_drop]
  · cases e
def preThin (rest : List V) (st : Dst) : Prop := ∃ l : List Nat, rest = [.str (S l)] ∧ stepsB l = true ∧ l.length ≤ 1000 ∧ bud l.length st
def postThin (rest : List V) (st : Dst) (v : V) (st' : Dst) : Prop := ∃ l : List Nat, rest = [.str (S l)] ∧ v = .str (S (red l)) ∧ adv l.length st st'
theorem sc__law_thinned : FnScope ["_law_draw", "_law_text", "_law_spots", "_law_at", "_law_k"] ["_law_draw", "_law_text"] (defScope s__law_thinned) := ⟨rfl, rfl, rfl, by decide +kernel, rfl, by decide +kernel, by decide +kernel⟩
theorem ok__law_thinned {P : Program} {w : World} {K : PySem.W.Frag} {mg : Str → Option Value} {base : Heap} (T : Ctx fa fn wd w K mg) : Cal P w K mg base CX0 3 "_law_thinned" ["_law_draw", "_law_text"] (spD preThin postThin) := by
  have c__law_undo := ok__law_undo (P := P) (base := base) T
  have c__law_pick := ok__law_pick (P := P) (base := base) T
  obtain ⟨fd, F⟩ := T.fun_ d__law_thinned 17 rfl
  refine Cal.imp (sp := spFrame (spD0 preThin postThin)) (Cal.frame ⟨_, fd, T.glo "_law_thinned" 17 rfl, ?_, F.kp, FunD.bindsN F fun _ _ _ _ _ _ us hl => match us, hl with | [_, _], _ => rfl⟩) fun vs H Q E h => draw_frame vs H Q E h
  refine FunD.ok F sc__law_thinned (fun vs H Q E h => (by obtain ⟨_, _, _, _, _, rfl, _, _, ⟨_, rfl, _⟩, _⟩ := h; rfl)) (fun cdv A outer s H vs Q E hr h => ?_)
  have hu : A.units + 3 + 1 < cLine := Nat.lt_of_le_of_lt (Nat.add_le_add_left (by decide : 1 ≤ 64) _) hr.units
  have hu0 : A.units + 3 < cLine := hr.units0
  obtain ⟨D, G, L, st, rest, rfl, rfl, ad, ⟨l, rfl, hs, hl, ok, ht⟩, q⟩ := h
  refine ⟨_, PSs.nox (pss_one (ps_while PassesOwn.never (pt_val pe_bl) (pss_cons (ps_setLc (i := 2) (own := [("_law_k", 4)]) rfl sc__law_thinned.nd rfl rfl (sw_true rfl rfl rfl (by decide +kernel)) (pi_rng1P rfl (T.free "range" 26 rfl) (pa_cons (pe_op op_sub (pe_callB call_lenP rfl (T.free "len" 24 rfl) (by decide +kernel) (pa_cons (pv 1) pa_nil)) pe_int) pa_nil)) (blkOk_by (own := [("_law_k", 4)]) (N := ["_law_draw", "_law_text", "_law_spots", "_law_at", "_law_k"]) (sc := defScope s__law_thinned) (by decide +kernel)) (fun _ _ _ _ _ => pg_name (i := 4) sc__law_thinned.nd rfl (by first | exact Or.inl rfl | exact Or.inr rfl)) (fun _ _ _ _ _ => pts_one (pt_cmpR op_eqP (pe_ix (ix_P hu) (pv 1) (pe_op op_addP (pv 4) pe_int) (fun _ _ => rfl)) (pe_c0 c__law_undo (hr.mono (by decide)) rfl (pa_cons (pe_ix (ix_P hu) (pv 1) (pv 4) (fun _ _ => rfl)) pa_nil)) (nomark _))) (fun _ _ _ _ _ => (pv 4)))
      (pss_cons (ps_if (pt_cmp (pc_eqNil hu0 (pv 2)) (by rfl)) (pss_one (ps_ret (pv 1))) pss_nil)
      (pss_cons (ps_set (i := 3) sc__law_thinned.nd rfl (by first | exact Or.inl rfl | exact Or.inr rfl) (pe_c0 c__law_pick (hr.mono (by decide)) rfl (pa_cons (pv 0) (pa_cons (pv 2) pa_nil))))
      (pss_one (ps_set (i := 1) sc__law_thinned.nd rfl (by first | exact Or.inl rfl | exact Or.inr rfl) (pe_op op_addP (pe_slice sl_strP (pv 1) po_none (po_some (pv 3))) (pe_slice sl_strP (pv 1) (po_some (pe_op op_addP (pv 3) pe_int)) po_none))))))))), ?_⟩
  simp only [lcTurn, sizeLine_eq, L2.start, Nat.zero_le, List.replicate_succ, List.replicate_zero, Nat.reduceSub, Nat.sub_self, tC, tOp, tUn, tTest, tB, tAnd, tOr, tNot, tIf, tAndV, tOrV, tNotV, tSeq_then, tNext, tAsg, gName, tRet, tRetN, tIfS, tDrop, tNil, tCons, tCB, tC0, tPar, tMth, tMth0, tFor_at, tLc_at, iStrP, iListP, iSqP, iTupP, iRng1P, iRng2P, tSl, tNoPart, tPart, tChain, tNever, tYes, tLst, tTup, tDNewK, tDisp, tPairs,
  r_v0, r_vS, r_par, r_I, r_I0, r_U, r_test, r_int, st0, stS, wp0, wpS, rAddP, rEqP, rNeP, rItem, rNil, tNil1, tRevS, cLen, cAbs, cInt, cList, cAll, cAny, mAppend, mPop, mExtend, mJoin, mIndex, mUpper, mLower, rWItem, rWIn, rInSP, rInP, rIsBP, rSlSP, rSlLP, cIsi, tyName, tyn1, tyn2, tyn3, tyn4, tyn5, tyn6, isiB_same, allTxt_map, allTxt_sign, allBl_map, joinL_nil, flat_one, flat_sign, sum_one, sum_sign, all_map_id, any_map_id, List.filterMap_eq_map', List.length_map, Nat.mul_zero, Nat.add_zero, List.length_reverse, List.map_id', isLst, isTxt, isDct, itemsAt, seqAt, strsAt, allTxt, allBl, scal, sSDPut, sSDAdd,
  S_len, S_tl, S_app, S_one, S_inj, List.map_cons, List.map_nil, List.cons_append, List.nil_append, upd_same, Option.map_some, Option.map_none, if_true, if_false, reduceIte, Bool.false_eq_true, Bool.not_true, Bool.not_false, decide_eq_true_eq, exists_eq_left, exists_eq_left', and_true, true_and, V.str.injEq, V.int.injEq, V.bl.injEq, V.ref.injEq, List.length_cons, List.length_nil, Nat.zero_add, lit_dig, lit_gre, lit_lum, lit_tur, lit0, lit1, lit2, lit3, lit4, c_bool1, c_str1, wUNDOS, c_need, cq_joined, c_lundo]
  refine ⟨fun k σ H => ∃ m st' B x y z, k = m.length ∧ σ = [some (.ref D), some (.str (S m)), x, y, z] ∧ H = dr B D G L st' ∧ stepsB m = true ∧ red m = red l ∧ m.length ≤ l.length ∧ Dok st' ∧ st'.turn + m.length ≤ st.turn + l.length ∧ st'.lumps = st.lumps,
    ⟨_, l, st, H0, _, _, _, rfl, rfl, rfl, hs, rfl, Nat.le_refl _, ok, Int.le_refl _, rfl⟩, ?_⟩
  rintro k σ H ⟨m, st', B, x, y, z, rfl, rfl, rfl, hm, er, lm, ok', tu, el⟩
  simp only [lcTurn, sizeLine_eq, L2.start, Nat.zero_le, List.replicate_succ, List.replicate_zero, Nat.reduceSub, Nat.sub_self, tC, tOp, tUn, tTest, tB, tAnd, tOr, tNot, tIf, tAndV, tOrV, tNotV, tSeq_then, tNext, tAsg, gName, tRet, tRetN, tIfS, tDrop, tNil, tCons, tCB, tC0, tPar, tMth, tMth0, tFor_at, tLc_at, iStrP, iListP, iSqP, iTupP, iRng1P, iRng2P, tSl, tNoPart, tPart, tChain, tNever, tYes, tLst, tTup, tDNewK, tDisp, tPairs,
  r_v0, r_vS, r_par, r_I, r_I0, r_U, r_test, r_int, st0, stS, wp0, wpS, rAddP, rEqP, rNeP, rItem, rNil, tNil1, tRevS, cLen, cAbs, cInt, cList, cAll, cAny, mAppend, mPop, mExtend, mJoin, mIndex, mUpper, mLower, rWItem, rWIn, rInSP, rInP, rIsBP, rSlSP, rSlLP, cIsi, tyName, tyn1, tyn2, tyn3, tyn4, tyn5, tyn6, isiB_same, allTxt_map, allTxt_sign, allBl_map, joinL_nil, flat_one, flat_sign, sum_one, sum_sign, all_map_id, any_map_id, List.filterMap_eq_map', List.length_map, Nat.mul_zero, Nat.add_zero, List.length_reverse, List.map_id', isLst, isTxt, isDct, itemsAt, seqAt, strsAt, allTxt, allBl, scal, sSDPut, sSDAdd,
  S_len, S_tl, S_app, S_one, S_inj, List.map_cons, List.map_nil, List.cons_append, List.nil_append, upd_same, Option.map_some, Option.map_none, if_true, if_false, reduceIte, Bool.false_eq_true, Bool.not_true, Bool.not_false, decide_eq_true_eq, exists_eq_left, exists_eq_left', and_true, true_and, V.str.injEq, V.int.injEq, V.bl.injEq, V.ref.injEq, List.length_cons, List.length_nil, Nat.zero_add, lit_dig, lit_gre, lit_lum, lit_tur, lit0, lit1, lit2, lit3, lit4, c_bool1, c_str1, wUNDOS, c_need, cq_joined, c_lundo]
  refine ⟨_, fun σ' H' h => h, by omega, by omega, lc_pure (goes_range 0 _) (spotV m) (by rw [List.length_range, sizeLine_eq]; omega) (fun _ _ _ => trivial) (fun P k acc R hP hk r => ?_) fun P hP => ?_⟩
  · have hk2 : k + 1 < m.length := by
      have := List.mem_range.mp hk
      omega
    obtain ⟨c, d, h1, h2, h3, h4⟩ := spot_at hm hk2
    simp only [lcTurn, sizeLine_eq, L2.start, Nat.zero_le, List.replicate_succ, List.replicate_zero, Nat.reduceSub, Nat.sub_self, tC, tOp, tUn, tTest, tB, tAnd, tOr, tNot, tIf, tAndV, tOrV, tNotV, tSeq_then, tNext, tAsg, gName, tRet, tRetN, tIfS, tDrop, tNil, tCons, tCB, tC0, tPar, tMth, tMth0, tFor_at, tLc_at, iStrP, iListP, iSqP, iTupP, iRng1P, iRng2P, tSl, tNoPart, tPart, tChain, tNever, tYes, tLst, tTup, tDNewK, tDisp, tPairs,
  r_v0, r_vS, r_par, r_I, r_I0, r_U, r_test, r_int, st0, stS, wp0, wpS, rAddP, rEqP, rNeP, rItem, rNil, tNil1, tRevS, cLen, cAbs, cInt, cList, cAll, cAny, mAppend, mPop, mExtend, mJoin, mIndex, mUpper, mLower, rWItem, rWIn, rInSP, rInP, rIsBP, rSlSP, rSlLP, cIsi, tyName, tyn1, tyn2, tyn3, tyn4, tyn5, tyn6, isiB_same, allTxt_map, allTxt_sign, allBl_map, joinL_nil, flat_one, flat_sign, sum_one, sum_sign, all_map_id, any_map_id, List.filterMap_eq_map', List.length_map, Nat.mul_zero, Nat.add_zero, List.length_reverse, List.map_id', isLst, isTxt, isDct, itemsAt, seqAt, strsAt, allTxt, allBl, scal, sSDPut, sSDAdd,
  S_len, S_tl, S_app, S_one, S_inj, List.map_cons, List.map_nil, List.cons_append, List.nil_append, upd_same, Option.map_some, Option.map_none, if_true, if_false, reduceIte, Bool.false_eq_true, Bool.not_true, Bool.not_false, decide_eq_true_eq, exists_eq_left, exists_eq_left', and_true, true_and, V.str.injEq, V.int.injEq, V.bl.injEq, V.ref.injEq, List.length_cons, List.length_nil, Nat.zero_add, lit_dig, lit_gre, lit_lum, lit_tur, lit0, lit1, lit2, lit3, lit4, c_bool1, c_str1, wUNDOS, c_need, cq_joined, c_lundo, h1, h2]
    refine ⟨by omega, by omega, h3, ?_⟩
    have r' := r
    unfold spotV at r'
    rw [h4] at r'
    by_cases hd : d = und c
    · rw [if_pos (by rw [hd])]
      rw [if_pos (decide_eq_true hd)] at r'
      exact r'
    · rw [if_neg (fun e => hd (by simpa using e))]
      rw [if_neg (by simp [hd])] at r'
      exact r'
  · simp only [Then]
    simp only [lcTurn, sizeLine_eq, L2.start, Nat.zero_le, List.replicate_succ, List.replicate_zero, Nat.reduceSub, Nat.sub_self, tC, tOp, tUn, tTest, tB, tAnd, tOr, tNot, tIf, tAndV, tOrV, tNotV, tSeq_then, tNext, tAsg, gName, tRet, tRetN, tIfS, tDrop, tNil, tCons, tCB, tC0, tPar, tMth, tMth0, tFor_at, tLc_at, iStrP, iListP, iSqP, iTupP, iRng1P, iRng2P, tSl, tNoPart, tPart, tChain, tNever, tYes, tLst, tTup, tDNewK, tDisp, tPairs,
  r_v0, r_vS, r_par, r_I, r_I0, r_U, r_test, r_int, st0, stS, wp0, wpS, rAddP, rEqP, rNeP, rItem, rNil, tNil1, tRevS, cLen, cAbs, cInt, cList, cAll, cAny, mAppend, mPop, mExtend, mJoin, mIndex, mUpper, mLower, rWItem, rWIn, rInSP, rInP, rIsBP, rSlSP, rSlLP, cIsi, tyName, tyn1, tyn2, tyn3, tyn4, tyn5, tyn6, isiB_same, allTxt_map, allTxt_sign, allBl_map, joinL_nil, flat_one, flat_sign, sum_one, sum_sign, all_map_id, any_map_id, List.filterMap_eq_map', List.length_map, Nat.mul_zero, Nat.add_zero, List.length_reverse, List.map_id', isLst, isTxt, isDct, itemsAt, seqAt, strsAt, allTxt, allBl, scal, sSDPut, sSDAdd,
  S_len, S_tl, S_app, S_one, S_inj, List.map_cons, List.map_nil, List.cons_append, List.nil_append, upd_same, Option.map_some, Option.map_none, if_true, if_false, reduceIte, Bool.false_eq_true, Bool.not_true, Bool.not_false, decide_eq_true_eq, exists_eq_left, exists_eq_left', and_true, true_and, V.str.injEq, V.int.injEq, V.bl.injEq, V.ref.injEq, List.length_cons, List.length_nil, Nat.zero_add, lit_dig, lit_gre, lit_lum, lit_tur, lit0, lit1, lit2, lit3, lit4, c_bool1, c_str1, wUNDOS, c_need, cq_joined, c_lundo]
    have en : ((m.length : Int) - 1).toNat = m.length - 1 := by omega
    rw [en]
    by_cases he : (List.range (m.length - 1)).filterMap (spotV m) = []
    · have hm2 : m = red l := by rw [← er, red_id hm (spots_no he)]
      rw [he, if_pos (show ([] : List V).isEmpty = true from rfl)]
      obtain ⟨p1, p2, p3, _⟩ := dr_free hP
      refine q _ st' _ ⟨l, rfl, by rw [hm2], ok', by omega⟩ el ?_ ?_ ?_
      · rw [upd_ne (Ne.symm p1)]; exact dr_D
      · rw [upd_ne (Ne.symm p2)]; exact dr_G ad
      · rw [upd_ne (Ne.symm p3)]; exact dr_L ad
    · rw [if_neg (by simpa using he)]
      obtain ⟨p1, p2, p3, _⟩ := dr_free hP
      rw [dr_out' p1 p2 p3]
      simp only [Then]
      simp only [lcTurn, sizeLine_eq, L2.start, Nat.zero_le, List.replicate_succ, List.replicate_zero, Nat.reduceSub, Nat.sub_self, tC, tOp, tUn, tTest, tB, tAnd, tOr, tNot, tIf, tAndV, tOrV, tNotV, tSeq_then, tNext, tAsg, gName, tRet, tRetN, tIfS, tDrop, tNil, tCons, tCB, tC0, tPar, tMth, tMth0, tFor_at, tLc_at, iStrP, iListP, iSqP, iTupP, iRng1P, iRng2P, tSl, tNoPart, tPart, tChain, tNever, tYes, tLst, tTup, tDNewK, tDisp, tPairs,
  r_v0, r_vS, r_par, r_I, r_I0, r_U, r_test, r_int, st0, stS, wp0, wpS, rAddP, rEqP, rNeP, rItem, rNil, tNil1, tRevS, cLen, cAbs, cInt, cList, cAll, cAny, mAppend, mPop, mExtend, mJoin, mIndex, mUpper, mLower, rWItem, rWIn, rInSP, rInP, rIsBP, rSlSP, rSlLP, cIsi, tyName, tyn1, tyn2, tyn3, tyn4, tyn5, tyn6, isiB_same, allTxt_map, allTxt_sign, allBl_map, joinL_nil, flat_one, flat_sign, sum_one, sum_sign, all_map_id, any_map_id, List.filterMap_eq_map', List.length_map, Nat.mul_zero, Nat.add_zero, List.length_reverse, List.map_id', isLst, isTxt, isDct, itemsAt, seqAt, strsAt, allTxt, allBl, scal, sSDPut, sSDAdd,
  S_len, S_tl, S_app, S_one, S_inj, List.map_cons, List.map_nil, List.cons_append, List.nil_append, upd_same, Option.map_some, Option.map_none, if_true, if_false, reduceIte, Bool.false_eq_true, Bool.not_true, Bool.not_false, decide_eq_true_eq, exists_eq_left, exists_eq_left', and_true, true_and, V.str.injEq, V.int.injEq, V.bl.injEq, V.ref.injEq, List.length_cons, List.length_nil, Nat.zero_add, lit_dig, lit_gre, lit_lum, lit_tur, lit0, lit1, lit2, lit3, lit4, c_bool1, c_str1, wUNDOS, c_need, cq_joined, c_lundo]
      have hlen : ((List.range (m.length - 1)).filterMap (spotV m)).length ≤ m.length - 1 := by
        have := List.length_filterMap_le (spotV m) (List.range (m.length - 1))
        rw [List.length_range] at this
        exact this
      have hmp : 0 < m.length := by
        cases m with
        | nil => exact absurd rfl he
        | cons _ _ => rw [List.length_cons]; omega
      refine pick_l ad ok' (by omega) upd_same p1 p2 p3 he (by omega) fun v st2 hv ok2 t2 el2 => ?_
      obtain ⟨k, c, rfl, hk, hc, es⟩ := spot_in hm hv
      have e0 : (0 : Int) + (k : Int) = (k : Int) := by omega
      rw [e0]
      simp only [Then]
      simp only [lcTurn, sizeLine_eq, L2.start, Nat.zero_le, List.replicate_succ, List.replicate_zero, Nat.reduceSub, Nat.sub_self, tC, tOp, tUn, tTest, tB, tAnd, tOr, tNot, tIf, tAndV, tOrV, tNotV, tSeq_then, tNext, tAsg, gName, tRet, tRetN, tIfS, tDrop, tNil, tCons, tCB, tC0, tPar, tMth, tMth0, tFor_at, tLc_at, iStrP, iListP, iSqP, iTupP, iRng1P, iRng2P, tSl, tNoPart, tPart, tChain, tNever, tYes, tLst, tTup, tDNewK, tDisp, tPairs,
  r_v0, r_vS, r_par, r_I, r_I0, r_U, r_test, r_int, st0, stS, wp0, wpS, rAddP, rEqP, rNeP, rItem, rNil, tNil1, tRevS, cLen, cAbs, cInt, cList, cAll, cAny, mAppend, mPop, mExtend, mJoin, mIndex, mUpper, mLower, rWItem, rWIn, rInSP, rInP, rIsBP, rSlSP, rSlLP, cIsi, tyName, tyn1, tyn2, tyn3, tyn4, tyn5, tyn6, isiB_same, allTxt_map, allTxt_sign, allBl_map, joinL_nil, flat_one, flat_sign, sum_one, sum_sign, all_map_id, any_map_id, List.filterMap_eq_map', List.length_map, Nat.mul_zero, Nat.add_zero, List.length_reverse, List.map_id', isLst, isTxt, isDct, itemsAt, seqAt, strsAt, allTxt, allBl, scal, sSDPut, sSDAdd,
  S_len, S_tl, S_app, S_one, S_inj, List.map_cons, List.map_nil, List.cons_append, List.nil_append, upd_same, Option.map_some, Option.map_none, if_true, if_false, reduceIte, Bool.false_eq_true, Bool.not_true, Bool.not_false, decide_eq_true_eq, exists_eq_left, exists_eq_left', and_true, true_and, V.str.injEq, V.int.injEq, V.bl.injEq, V.ref.injEq, List.length_cons, List.length_nil, Nat.zero_add, lit_dig, lit_gre, lit_lum, lit_tur, lit0, lit1, lit2, lit3, lit4, c_bool1, c_str1, wUNDOS, c_need, cq_joined, c_lundo]
      have c1 := cut_to m k
      have c2 := cut_from m (k + 2)
      have e2 : ((k + 2 : Nat) : Int) = (k : Int) + 2 := by omega
      rw [e2] at c2
      rw [c1, c2]
      have hl2 : (m.take k ++ m.drop (k + 2)).length + 2 = m.length := by
        have := congrArg List.length es
        simp only [List.length_append, List.length_cons] at this ⊢
        omega
      rw [List.length_append] at hl2
      have hs2 : stepsB (m.take k) = true ∧ stepsB (m.drop (k + 2)) = true := by
        have h := hm
        rw [es] at h
        exact ⟨steps_pre h, steps_post (l := [c, und c]) (steps_post h)⟩
      refine ⟨by omega, by omega, by omega, _, ?_, m.take k ++ m.drop (k + 2), st2, _, _, _, _, rfl, rfl, rfl, steps_both hs2.1 hs2.2, ?_, ?_, ok2, ?_, el2.trans el⟩
      · rw [List.length_append]; omega
      · rw [← er]
        have h := red_pair (b := m.drop (k + 2)) hs2.1 hc
        rw [← es] at h
        exact h.symm
      · rw [List.length_append]; omega
      · rw [List.length_append]; omega
theorem thin_go {Hb : Hp} {D G L : Addr} {st : Dst} {l : List Nat} {Q : VK} {E : XK} (ad : Ad D G L) (ok : Dok st) (ht : st.turn + l.length ≤ 1000000000) (hs : stepsB l = true) (hl : l.length ≤ 1000)
    (q : ∀ st', Dok st' → st'.turn ≤ st.turn + l.length → st'.lumps = st.lumps → Q (.str (S (red l))) (dr Hb D G L st')) : spD preThin postThin [.ref D, .str (S l)] (dr Hb D G L st) Q E :=
  ⟨Hb, D, G, L, st, [.str (S l)], rfl, rfl, ad, ⟨l, rfl, hs, hl, ok, ht⟩, fun v st' ⟨l', e, e2, a1, a2⟩ el => by
    subst e2
    have e3 : l = l' := by simpa [S_inj] using e
    subst e3
    exact q st' a1 a2 el⟩

theorem sc_law : FnScope ["_law_script", "_law_draw", "_law_deeds", "_law_some_here", "_law_text", "_law_due", "_law_first", "_law_second", "_law_third", "_law_k"] ["_law_script"] (defScope s_law) := ⟨rfl, rfl, rfl, by decide +kernel, rfl, by decide +kernel, by decide +kernel⟩
theorem ok_law {P : Program} {w : World} {K : PySem.W.Frag} {mg : Str → Option Value} {base : Heap} {fd : FuncData} (F : FunD K d_law.name d_law.qual d_law.params d_law.body d_law.scope (d_law.dvs K) (d_law.kws K) (He.fAd K d_law.at_) fd) (T : Ctx fa fn wd w K mg) : FnOk P w K mg base CX0 5 (He.ga K "law") fd ["_law_script"] (sp_law K) := by
  have c__law_begun := ok__law_begun (P := P) (base := base) T
  have c__law_some := ok__law_some (P := P) (base := base) T
  have c__law_row := ok__law_row (P := P) (base := base) T
  have c__law_back := ok__law_back (P := P) (base := base) T
  have c_short := ok_short (P := P) (base := base) T
  have c_is_short := ok_is_short (P := P) (base := base) T
  have c__law_thinned := ok__law_thinned (P := P) (base := base) T
  have c_undone := ok_undone (P := P) (base := base) T
  have c_joined := ok_joined (P := P) (base := base) T
  refine FunD.ok F sc_law (fun vs H Q E h => (by obtain ⟨_, _, rfl, _⟩ := h; rfl)) (fun cdv A outer s H vs Q E hr h => ?_)
  have hu : A.units + 3 + 1 < cLine := Nat.lt_of_le_of_lt (Nat.add_le_add_left (by decide : 1 ≤ 64) _) hr.units
  have hu0 : A.units + 3 < cLine := hr.units0
  obtain ⟨scr, ns, rfl, hlen, hscr, q⟩ := h
  refine ⟨_, PSs.nox (pss_cons (ps_set (i := 1) sc_law.nd rfl (by first | exact Or.inl rfl | exact Or.inr rfl) (pe_c0 c__law_begun (hr.mono (by decide)) rfl (pa_cons (pv 0) pa_nil)))
      (pss_cons (ps_set (i := 2) sc_law.nd rfl (by first | exact Or.inl rfl | exact Or.inr rfl) (pe_c0 c__law_some (hr.mono (by decide)) rfl (pa_cons (pv 1) (pa_cons pe_int pa_nil))))
      (pss_cons (ps_setLc (i := 3) (own := [("_law_k", 9)]) rfl sc_law.nd rfl rfl (sw_true rfl rfl rfl (by decide +kernel)) (pi_rng1P rfl (T.free "range" 26 rfl) (pa_cons pe_int pa_nil)) (blkOk_by (own := [("_law_k", 9)]) (N := ["_law_script", "_law_draw", "_law_deeds", "_law_some_here", "_law_text", "_law_due", "_law_first", "_law_second", "_law_third", "_law_k"]) (sc := defScope s_law) (by decide +kernel)) (fun _ _ _ _ _ => pg_name (i := 9) sc_law.nd rfl (by first | exact Or.inl rfl | exact Or.inr rfl)) (fun _ _ _ _ _ => pts_nil) (fun _ _ _ _ _ => (pe_c0 c__law_row (hr.mono (by decide)) rfl (pa_cons (pv 1) (pa_cons (pv 2) (pa_cons pe_int pa_nil))))))
      (pss_cons (ps_for PassesOwn.never rfl (pi_listP (pe_op op_addP (pv 3) (pe_lst (pa_cons (pe_op op_addP (pe_op op_addP (pe_ix (ix_P hu) (pv 3) pe_int (fun _ _ => rfl)) (pe_c0 c__law_back (hr.mono (by decide)) rfl (pa_cons (pe_slice sl_strP (pe_ix (ix_P hu) (pv 3) pe_int (fun _ _ => rfl)) (po_some pe_int) po_none) pa_nil))) (pe_ix (ix_P hu) (pv 3) pe_int (fun _ _ => rfl))) (pa_cons (pe_op op_addP (pe_ix (ix_P hu) (pv 3) pe_int (fun _ _ => rfl)) (pe_ix (ix_P hu) (pv 3) pe_int (fun _ _ => rfl))) pa_nil))))) (pg_name (i := 4) sc_law.nd rfl (by first | exact Or.inl rfl | exact Or.inr rfl)) (pss_cons (ps_set (i := 5) sc_law.nd rfl (by first | exact Or.inl rfl | exact Or.inr rfl) (pe_c0 c_short (hr.mono (by decide)) rfl (pa_cons (pv 4) pa_nil)))
      (pss_cons (ps_if (PW.pt (pw_or (pt_cmpR op_neP (pe_c0 c__law_thinned (hr.mono (by decide)) rfl (pa_cons (pv 1) (pa_cons (pv 4) pa_nil))) (pv 5) (nomark _)) (pw_or (pt_cmpR op_neP (pe_c0 c__law_thinned (hr.mono (by decide)) rfl (pa_cons (pv 1) (pa_cons (pv 4) pa_nil))) (pv 5) (nomark _)) (pw_or1 (pt_cmpR op_notBP (pe_c0 c_is_short (hr.mono (by decide)) rfl (pa_cons (pv 5) pa_nil)) pe_bl (nomark _)))))) (pss_one (ps_ret pe_bl)) pss_nil)
      (pss_cons (ps_if (PW.pt (pw_or (pt_cmpR op_neP (pe_c0 c_short (hr.mono (by decide)) rfl (pa_cons (pv 5) pa_nil)) (pv 5) (nomark _)) (pw_or (pt_cmpR op_neP (pe_c0 c_short (hr.mono (by decide)) rfl (pa_cons (pe_op op_addP (pv 4) (pe_c0 c_undone (hr.mono (by decide)) rfl (pa_cons (pv 4) pa_nil))) pa_nil)) pe_str (nomark _)) (pw_or1 (pt_cmpR op_neP (pe_c0 c_short (hr.mono (by decide)) rfl (pa_cons (pe_op op_addP (pe_c0 c_undone (hr.mono (by decide)) rfl (pa_cons (pv 4) pa_nil)) (pv 4)) pa_nil)) pe_str (nomark _)))))) (pss_one (ps_ret pe_bl)) pss_nil)
      (pss_one (ps_if (PW.pt (pw_or (pt_cmpR op_neP (pe_c0 c_undone (hr.mono (by decide)) rfl (pa_cons (pe_c0 c_undone (hr.mono (by decide)) rfl (pa_cons (pv 4) pa_nil)) pa_nil)) (pv 4) (nomark _)) (pw_or1 (pt_cmpR op_neP (pe_c0 c_undone (hr.mono (by decide)) rfl (pa_cons (pv 5) pa_nil)) (pe_c0 c_short (hr.mono (by decide)) rfl (pa_cons (pe_c0 c_undone (hr.mono (by decide)) rfl (pa_cons (pv 4) pa_nil)) pa_nil)) (nomark _))))) (pss_one (ps_ret pe_bl)) pss_nil))))))
      (pss_cons (ps_asg (pv 3) (pg_unlP (n := 3) (by rfl) (pgs_cons (pg_name (i := 6) sc_law.nd rfl (by first | exact Or.inl rfl | exact Or.inr rfl)) (pgs_cons (pg_name (i := 7) sc_law.nd rfl (by first | exact Or.inl rfl | exact Or.inr rfl)) (pgs_cons (pg_name (i := 8) sc_law.nd rfl (by first | exact Or.inl rfl | exact Or.inr rfl)) pgs_nil)))))
      (pss_cons (ps_if (pt_cmpR op_neP (pe_c0 c_joined (hr.mono (by decide)) rfl (pa_cons (pe_c0 c_joined (hr.mono (by decide)) rfl (pa_cons (pv 6) (pa_cons (pv 7) pa_nil))) (pa_cons (pv 8) pa_nil))) (pe_c0 c_joined (hr.mono (by decide)) rfl (pa_cons (pv 6) (pa_cons (pe_c0 c_joined (hr.mono (by decide)) rfl (pa_cons (pv 7) (pa_cons (pv 8) pa_nil))) pa_nil))) (nomark _)) (pss_one (ps_ret pe_bl)) pss_nil)
      (pss_one (ps_ret (pe_chain op_eqP op_eqP (pe_c0 c_joined (hr.mono (by decide)) rfl (pa_cons (pe_c0 c_short (hr.mono (by decide)) rfl (pa_cons (pv 6) pa_nil)) (pa_cons (pe_c0 c_short (hr.mono (by decide)) rfl (pa_cons (pv 7) pa_nil)) pa_nil))) (pe_c0 c_joined (hr.mono (by decide)) rfl (pa_cons (pv 6) (pa_cons (pv 7) pa_nil))) (pe_c0 c_short (hr.mono (by decide)) rfl (pa_cons (pe_op op_addP (pv 6) (pv 7)) pa_nil))))))))))), ?_⟩
  simp only [↓a_C, ↓a_Op, ↓a_Un, ↓a_Test, ↓a_B, ↓a_And, ↓a_Or, ↓a_Not, ↓a_Yes, ↓a_If, ↓a_AndV, ↓a_OrV, ↓a_NotV, ↓a_Seq, ↓a_Next, ↓a_Asg, ↓a_Name, ↓a_Ret, ↓a_RetN, ↓a_IfS, ↓a_Drop, ↓a_Nil, ↓a_Cons, ↓a_CB, ↓a_C0, ↓a_Par, ↓a_Mth, ↓a_Mth0, ↓a_For, ↓a_Lc, ↓a_lcTurn, ↓a_Sl, ↓a_NoPart, ↓a_Part, ↓a_Chain, ↓a_Lst, ↓a_Tup, ↓a_While, ↓a_addI, ↓a_addS, ↓a_addL, ↓a_eqI, ↓a_eqS, ↓a_eqB, ↓a_neI, ↓a_neS, ↓a_neB, ↓a_itS, ↓a_itR, ↓a_itK, ↓a_nil1, ↓a_nilR, ↓a_revS, ↓a_revT, ↓a_lenS, ↓a_lenR, ↓a_abs, ↓a_int, ↓a_intB, ↓a_listR, ↓a_listS, ↓a_all, ↓a_any, ↓a_append, ↓a_pop, ↓a_popI, ↓a_extend, ↓a_join, ↓a_index, ↓a_upper, ↓a_lower, ↓a_wItem, ↓a_wIn, ↓a_inS, ↓a_inL, ↓a_isB, ↓a_slS, ↓a_slL, ↓a_isi, ↓a_iL, ↓a_iLr, ↓a_iT, ↓a_iTr, ↓a_iS, ↓a_iSs, ↓a_iR1, ↓a_iR1i, ↓a_iR2, ↓a_iR2i, ↓a_isLst, ↓a_isTxt, ↓a_gU, ↓a_gT, ↓a_gCons, ↓a_gNil, ↓callU_pure, ↓onSome_some, ↓r_v0, ↓r_vS, ↓r_par, ↓r_I, ↓r_I0, ↓r_U, ↓r_test, ↓r_int, ↓st0, ↓stS, ↓wp0, ↓wpS, lstO_l, itmO_l, itmO_f, seqO_l, seqO_t, ltO_l, ltO_t, tupO_t, dkO_k, lenO_l, lenO_t, lenO_k, getO_l, getO_t, getO_f, getO_k, getK_k, atI_0, atI_1, atI_2, atI_3, sizeLine_eq, L2.start, Nat.zero_le, List.replicate_succ, List.replicate_zero, Nat.reduceSub, Nat.sub_self,
  decide_true, decide_false, eTxt, tyName, tyn1, tyn2, tyn3, tyn4, tyn5, tyn6, isiB_same, allTxt_map, allTxt_sign, allBl_map, joinL_nil, flat_one, flat_sign, sum_one, sum_sign, all_map_id, any_map_id, List.filterMap_eq_map', List.length_map, Nat.mul_zero, Nat.add_zero, List.length_reverse, List.map_id', allTxt, allBl,
  S_len, S_tl, S_app, S_one, S_inj, List.map_cons, List.map_nil, List.cons_append, List.nil_append, upd_same, Option.map_some, Option.map_none, if_true, if_false, reduceIte, Bool.false_eq_true, Bool.not_true, Bool.not_false, decide_eq_true_eq, exists_eq_left, exists_eq_left', and_true, true_and, V.str.injEq, V.int.injEq, V.bl.injEq, V.ref.injEq, List.length_cons, List.length_nil, Nat.zero_add, lit_dig, lit_gre, lit_lum, lit_tur, ↓lit0, ↓lit1, ↓lit2, ↓lit3, ↓lit4, ↓c_bool1, ↓c_str1, ↓wUNDOS, ↓c_need, ↓cq_joined, ↓c_lundo]
  refine begun_go hscr hlen fun D G L st ad ok t0 => ?_
  simp only [Then]
  simp only [↓a_C, ↓a_Op, ↓a_Un, ↓a_Test, ↓a_B, ↓a_And, ↓a_Or, ↓a_Not, ↓a_Yes, ↓a_If, ↓a_AndV, ↓a_OrV, ↓a_NotV, ↓a_Seq, ↓a_Next, ↓a_Asg, ↓a_Name, ↓a_Ret, ↓a_RetN, ↓a_IfS, ↓a_Drop, ↓a_Nil, ↓a_Cons, ↓a_CB, ↓a_C0, ↓a_Par, ↓a_Mth, ↓a_Mth0, ↓a_For, ↓a_Lc, ↓a_lcTurn, ↓a_Sl, ↓a_NoPart, ↓a_Part, ↓a_Chain, ↓a_Lst, ↓a_Tup, ↓a_While, ↓a_addI, ↓a_addS, ↓a_addL, ↓a_eqI, ↓a_eqS, ↓a_eqB, ↓a_neI, ↓a_neS, ↓a_neB, ↓a_itS, ↓a_itR, ↓a_itK, ↓a_nil1, ↓a_nilR, ↓a_revS, ↓a_revT, ↓a_lenS, ↓a_lenR, ↓a_abs, ↓a_int, ↓a_intB, ↓a_listR, ↓a_listS, ↓a_all, ↓a_any, ↓a_append, ↓a_pop, ↓a_popI, ↓a_extend, ↓a_join, ↓a_index, ↓a_upper, ↓a_lower, ↓a_wItem, ↓a_wIn, ↓a_inS, ↓a_inL, ↓a_isB, ↓a_slS, ↓a_slL, ↓a_isi, ↓a_iL, ↓a_iLr, ↓a_iT, ↓a_iTr, ↓a_iS, ↓a_iSs, ↓a_iR1, ↓a_iR1i, ↓a_iR2, ↓a_iR2i, ↓a_isLst, ↓a_isTxt, ↓a_gU, ↓a_gT, ↓a_gCons, ↓a_gNil, ↓callU_pure, ↓onSome_some, ↓r_v0, ↓r_vS, ↓r_par, ↓r_I, ↓r_I0, ↓r_U, ↓r_test, ↓r_int, ↓st0, ↓stS, ↓wp0, ↓wpS, lstO_l, itmO_l, itmO_f, seqO_l, seqO_t, ltO_l, ltO_t, tupO_t, dkO_k, lenO_l, lenO_t, lenO_k, getO_l, getO_t, getO_f, getO_k, getK_k, atI_0, atI_1, atI_2, atI_3, sizeLine_eq, L2.start, Nat.zero_le, List.replicate_succ, List.replicate_zero, Nat.reduceSub, Nat.sub_self,
  decide_true, decide_false, eTxt, tyName, tyn1, tyn2, tyn3, tyn4, tyn5, tyn6, isiB_same, allTxt_map, allTxt_sign, allBl_map, joinL_nil, flat_one, flat_sign, sum_one, sum_sign, all_map_id, any_map_id, List.filterMap_eq_map', List.length_map, Nat.mul_zero, Nat.add_zero, List.length_reverse, List.map_id', allTxt, allBl,
  S_len, S_tl, S_app, S_one, S_inj, List.map_cons, List.map_nil, List.cons_append, List.nil_append, upd_same, Option.map_some, Option.map_none, if_true, if_false, reduceIte, Bool.false_eq_true, Bool.not_true, Bool.not_false, decide_eq_true_eq, exists_eq_left, exists_eq_left', and_true, true_and, V.str.injEq, V.int.injEq, V.bl.injEq, V.ref.injEq, List.length_cons, List.length_nil, Nat.zero_add, lit_dig, lit_gre, lit_lum, lit_tur, ↓lit0, ↓lit1, ↓lit2, ↓lit3, ↓lit4, ↓c_bool1, ↓c_str1, ↓wUNDOS, ↓c_need, ↓cq_joined, ↓c_lundo]
  refine ⟨H, D, G, L, st, [.int 4], rfl, rfl, ad, ⟨rfl, ok, by rw [t0]; decide⟩, fun v st1 ⟨dl, ev, dlo, d0, d4, ok1, t1⟩ el1 => ?_⟩
  subst ev
  simp only [Then]
  simp only [↓a_C, ↓a_Op, ↓a_Un, ↓a_Test, ↓a_B, ↓a_And, ↓a_Or, ↓a_Not, ↓a_Yes, ↓a_If, ↓a_AndV, ↓a_OrV, ↓a_NotV, ↓a_Seq, ↓a_Next, ↓a_Asg, ↓a_Name, ↓a_Ret, ↓a_RetN, ↓a_IfS, ↓a_Drop, ↓a_Nil, ↓a_Cons, ↓a_CB, ↓a_C0, ↓a_Par, ↓a_Mth, ↓a_Mth0, ↓a_For, ↓a_Lc, ↓a_lcTurn, ↓a_Sl, ↓a_NoPart, ↓a_Part, ↓a_Chain, ↓a_Lst, ↓a_Tup, ↓a_While, ↓a_addI, ↓a_addS, ↓a_addL, ↓a_eqI, ↓a_eqS, ↓a_eqB, ↓a_neI, ↓a_neS, ↓a_neB, ↓a_itS, ↓a_itR, ↓a_itK, ↓a_nil1, ↓a_nilR, ↓a_revS, ↓a_revT, ↓a_lenS, ↓a_lenR, ↓a_abs, ↓a_int, ↓a_intB, ↓a_listR, ↓a_listS, ↓a_all, ↓a_any, ↓a_append, ↓a_pop, ↓a_popI, ↓a_extend, ↓a_join, ↓a_index, ↓a_upper, ↓a_lower, ↓a_wItem, ↓a_wIn, ↓a_inS, ↓a_inL, ↓a_isB, ↓a_slS, ↓a_slL, ↓a_isi, ↓a_iL, ↓a_iLr, ↓a_iT, ↓a_iTr, ↓a_iS, ↓a_iSs, ↓a_iR1, ↓a_iR1i, ↓a_iR2, ↓a_iR2i, ↓a_isLst, ↓a_isTxt, ↓a_gU, ↓a_gT, ↓a_gCons, ↓a_gNil, ↓callU_pure, ↓onSome_some, ↓r_v0, ↓r_vS, ↓r_par, ↓r_I, ↓r_I0, ↓r_U, ↓r_test, ↓r_int, ↓st0, ↓stS, ↓wp0, ↓wpS, lstO_l, itmO_l, itmO_f, seqO_l, seqO_t, ltO_l, ltO_t, tupO_t, dkO_k, lenO_l, lenO_t, lenO_k, getO_l, getO_t, getO_f, getO_k, getK_k, atI_0, atI_1, atI_2, atI_3, sizeLine_eq, L2.start, Nat.zero_le, List.replicate_succ, List.replicate_zero, Nat.reduceSub, Nat.sub_self,
  decide_true, decide_false, eTxt, tyName, tyn1, tyn2, tyn3, tyn4, tyn5, tyn6, isiB_same, allTxt_map, allTxt_sign, allBl_map, joinL_nil, flat_one, flat_sign, sum_one, sum_sign, all_map_id, any_map_id, List.filterMap_eq_map', List.length_map, Nat.mul_zero, Nat.add_zero, List.length_reverse, List.map_id', allTxt, allBl,
  S_len, S_tl, S_app, S_one, S_inj, List.map_cons, List.map_nil, List.cons_append, List.nil_append, upd_same, Option.map_some, Option.map_none, if_true, if_false, reduceIte, Bool.false_eq_true, Bool.not_true, Bool.not_false, decide_eq_true_eq, exists_eq_left, exists_eq_left', and_true, true_and, V.str.injEq, V.int.injEq, V.bl.injEq, V.ref.injEq, List.length_cons, List.length_nil, Nat.zero_add, lit_dig, lit_gre, lit_lum, lit_tur, ↓lit0, ↓lit1, ↓lit2, ↓lit3, ↓lit4, ↓c_bool1, ↓c_str1, ↓wUNDOS, ↓c_need, ↓cq_joined, ↓c_lundo]
  have t1' : st1.turn ≤ st.turn + 5 := t1
  refine ⟨by decide, lc_at (goes_range 0 3) (fun P pre Hc => ∃ (st' : Dst) (rs : List (List Nat)), Hc = dr (upd H P (.lst (rs.map eTxt))) D G L st' ∧ rs.length = pre.length ∧ (∀ l ∈ rs, stepsB l = true ∧ l.length ≤ 30) ∧ Dok st' ∧ st'.turn ≤ 5 + 63 * pre.length) (fun _ _ _ _ _ => trivial)
    (fun P hP => ?_) (fun P pre k post Hc hP ep ⟨st', rs, eh, hlen2, hrs, ok', tu⟩ => ?_) fun P Hc hP ⟨st2, rs, eh, hlen2, hrs, ok2, tu2⟩ => ?_⟩
  · obtain ⟨p1, p2, p3, _⟩ := dr_free hP
    exact ⟨st1, [], by rw [dr_out' p1 p2 p3] <;> rfl, rfl, fun l hl => (by cases hl), ok1, by show st1.turn ≤ 5 + 63 * ((0 : Nat) : Int); omega⟩
  · subst eh
    obtain ⟨p1, p2, p3, _⟩ := dr_free hP
    have hpre : pre.length < 3 := by
      have h2 := congrArg List.length ep
      rw [List.length_range, List.length_append, List.length_cons] at h2
      omega
    simp only [↓a_C, ↓a_Op, ↓a_Un, ↓a_Test, ↓a_B, ↓a_And, ↓a_Or, ↓a_Not, ↓a_Yes, ↓a_If, ↓a_AndV, ↓a_OrV, ↓a_NotV, ↓a_Seq, ↓a_Next, ↓a_Asg, ↓a_Name, ↓a_Ret, ↓a_RetN, ↓a_IfS, ↓a_Drop, ↓a_Nil, ↓a_Cons, ↓a_CB, ↓a_C0, ↓a_Par, ↓a_Mth, ↓a_Mth0, ↓a_For, ↓a_Lc, ↓a_lcTurn, ↓a_Sl, ↓a_NoPart, ↓a_Part, ↓a_Chain, ↓a_Lst, ↓a_Tup, ↓a_While, ↓a_addI, ↓a_addS, ↓a_addL, ↓a_eqI, ↓a_eqS, ↓a_eqB, ↓a_neI, ↓a_neS, ↓a_neB, ↓a_itS, ↓a_itR, ↓a_itK, ↓a_nil1, ↓a_nilR, ↓a_revS, ↓a_revT, ↓a_lenS, ↓a_lenR, ↓a_abs, ↓a_int, ↓a_intB, ↓a_listR, ↓a_listS, ↓a_all, ↓a_any, ↓a_append, ↓a_pop, ↓a_popI, ↓a_extend, ↓a_join, ↓a_index, ↓a_upper, ↓a_lower, ↓a_wItem, ↓a_wIn, ↓a_inS, ↓a_inL, ↓a_isB, ↓a_slS, ↓a_slL, ↓a_isi, ↓a_iL, ↓a_iLr, ↓a_iT, ↓a_iTr, ↓a_iS, ↓a_iSs, ↓a_iR1, ↓a_iR1i, ↓a_iR2, ↓a_iR2i, ↓a_isLst, ↓a_isTxt, ↓a_gU, ↓a_gT, ↓a_gCons, ↓a_gNil, ↓callU_pure, ↓onSome_some, ↓r_v0, ↓r_vS, ↓r_par, ↓r_I, ↓r_I0, ↓r_U, ↓r_test, ↓r_int, ↓st0, ↓stS, ↓wp0, ↓wpS, lstO_l, itmO_l, itmO_f, seqO_l, seqO_t, ltO_l, ltO_t, tupO_t, dkO_k, lenO_l, lenO_t, lenO_k, getO_l, getO_t, getO_f, getO_k, getK_k, atI_0, atI_1, atI_2, atI_3, sizeLine_eq, L2.start, Nat.zero_le, List.replicate_succ, List.replicate_zero, Nat.reduceSub, Nat.sub_self,
  decide_true, decide_false, eTxt, tyName, tyn1, tyn2, tyn3, tyn4, tyn5, tyn6, isiB_same, allTxt_map, allTxt_sign, allBl_map, joinL_nil, flat_one, flat_sign, sum_one, sum_sign, all_map_id, any_map_id, List.filterMap_eq_map', List.length_map, Nat.mul_zero, Nat.add_zero, List.length_reverse, List.map_id', allTxt, allBl,
  S_len, S_tl, S_app, S_one, S_inj, List.map_cons, List.map_nil, List.cons_append, List.nil_append, upd_same, Option.map_some, Option.map_none, if_true, if_false, reduceIte, Bool.false_eq_true, Bool.not_true, Bool.not_false, decide_eq_true_eq, exists_eq_left, exists_eq_left', and_true, true_and, V.str.injEq, V.int.injEq, V.bl.injEq, V.ref.injEq, List.length_cons, List.length_nil, Nat.zero_add, lit_dig, lit_gre, lit_lum, lit_tur, ↓lit0, ↓lit1, ↓lit2, ↓lit3, ↓lit4, ↓c_bool1, ↓c_str1, ↓wUNDOS, ↓c_need, ↓cq_joined, ↓c_lundo]
    refine row_go ad ok' (by show st'.turn + ((63 : Nat) : Int) ≤ _; omega) d0 dlo (by omega) (by decide) (by decide) fun l st3 hl hl2 ok3 t3 el3 => ?_
    have t3' : st3.turn ≤ st'.turn + ((63 : Nat) : Int) := t3
    refine ⟨rs.map eTxt, by rw [dr_ne p1 p2 p3, upd_same], by rw [List.length_map, hlen2, sizeLine_eq]; omega, st3, rs ++ [l], ?_, ?_, ?_, ok3, ?_⟩
    · rw [dr_out' p1 p2 p3, upd_upd, List.map_append] <;> rfl
    · rw [List.length_append, List.length_append, hlen2] <;> rfl
    · intro x hx
      rcases List.mem_append.mp hx with hx | hx
      · exact hrs x hx
      · rw [List.mem_singleton.mp hx]
        exact ⟨hl, by omega⟩
    · rw [List.length_append, List.length_singleton]
      omega
  · subst eh
    obtain ⟨p1, p2, p3, _⟩ := dr_free hP
    rw [List.length_range] at hlen2 tu2
    obtain ⟨ra, rb, rc, rfl⟩ : ∃ a b c, rs = [a, b, c] := by
      match rs, hlen2 with
      | [a, b, c], _ => exact ⟨a, b, c, rfl⟩
    obtain ⟨sa, la⟩ := hrs ra (by simp)
    obtain ⟨sb, lb⟩ := hrs rb (by simp)
    obtain ⟨sc, lc⟩ := hrs rc (by simp)
    have hPl : ∀ st, dr (upd H P (.lst [V.str (S ra), V.str (S rb), V.str (S rc)])) D G L st P = some (.lst [V.str (S ra), V.str (S rb), V.str (S rc)]) := fun st => by rw [dr_ne p1 p2 p3, upd_same]
    simp only [Then, List.map_cons, List.map_nil]
    simp only [↓a_C, ↓a_Op, ↓a_Un, ↓a_Test, ↓a_B, ↓a_And, ↓a_Or, ↓a_Not, ↓a_Yes, ↓a_If, ↓a_AndV, ↓a_OrV, ↓a_NotV, ↓a_Seq, ↓a_Next, ↓a_Asg, ↓a_Name, ↓a_Ret, ↓a_RetN, ↓a_IfS, ↓a_Drop, ↓a_Nil, ↓a_Cons, ↓a_CB, ↓a_C0, ↓a_Par, ↓a_Mth, ↓a_Mth0, ↓a_For, ↓a_Lc, ↓a_lcTurn, ↓a_Sl, ↓a_NoPart, ↓a_Part, ↓a_Chain, ↓a_Lst, ↓a_Tup, ↓a_While, ↓a_addI, ↓a_addS, ↓a_addL, ↓a_eqI, ↓a_eqS, ↓a_eqB, ↓a_neI, ↓a_neS, ↓a_neB, ↓a_itS, ↓a_itR, ↓a_itK, ↓a_nil1, ↓a_nilR, ↓a_revS, ↓a_revT, ↓a_lenS, ↓a_lenR, ↓a_abs, ↓a_int, ↓a_intB, ↓a_listR, ↓a_listS, ↓a_all, ↓a_any, ↓a_append, ↓a_pop, ↓a_popI, ↓a_extend, ↓a_join, ↓a_index, ↓a_upper, ↓a_lower, ↓a_wItem, ↓a_wIn, ↓a_inS, ↓a_inL, ↓a_isB, ↓a_slS, ↓a_slL, ↓a_isi, ↓a_iL, ↓a_iLr, ↓a_iT, ↓a_iTr, ↓a_iS, ↓a_iSs, ↓a_iR1, ↓a_iR1i, ↓a_iR2, ↓a_iR2i, ↓a_isLst, ↓a_isTxt, ↓a_gU, ↓a_gT, ↓a_gCons, ↓a_gNil, ↓callU_pure, ↓onSome_some, ↓r_v0, ↓r_vS, ↓r_par, ↓r_I, ↓r_I0, ↓r_U, ↓r_test, ↓r_int, ↓st0, ↓stS, ↓wp0, ↓wpS, lstO_l, itmO_l, itmO_f, seqO_l, seqO_t, ltO_l, ltO_t, tupO_t, dkO_k, lenO_l, lenO_t, lenO_k, getO_l, getO_t, getO_f, getO_k, getK_k, atI_0, atI_1, atI_2, atI_3, sizeLine_eq, L2.start, Nat.zero_le, List.replicate_succ, List.replicate_zero, Nat.reduceSub, Nat.sub_self,
  decide_true, decide_false, eTxt, tyName, tyn1, tyn2, tyn3, tyn4, tyn5, tyn6, isiB_same, allTxt_map, allTxt_sign, allBl_map, joinL_nil, flat_one, flat_sign, sum_one, sum_sign, all_map_id, any_map_id, List.filterMap_eq_map', List.length_map, Nat.mul_zero, Nat.add_zero, List.length_reverse, List.map_id', allTxt, allBl,
  S_len, S_tl, S_app, S_one, S_inj, List.map_cons, List.map_nil, List.cons_append, List.nil_append, upd_same, Option.map_some, Option.map_none, if_true, if_false, reduceIte, Bool.false_eq_true, Bool.not_true, Bool.not_false, decide_eq_true_eq, exists_eq_left, exists_eq_left', and_true, true_and, V.str.injEq, V.int.injEq, V.bl.injEq, V.ref.injEq, List.length_cons, List.length_nil, Nat.zero_add, lit_dig, lit_gre, lit_lum, lit_tur, ↓lit0, ↓lit1, ↓lit2, ↓lit3, ↓lit4, ↓c_bool1, ↓c_str1, ↓wUNDOS, ↓c_need, ↓cq_joined, ↓c_lundo, hPl, cut_fromI ra (by decide : (0 : Int) ≤ 3)]
    have sd : stepsB (ra.drop 3) = true := List.all_eq_true.mpr fun c hc => steps_mem sa (List.mem_of_mem_drop hc)
    have ld : (ra.drop (Int.toNat 3)).length ≤ 30 := by rw [List.length_drop]; omega
    have li : (inv (ra.drop (Int.toNat 3))).length ≤ 30 := by rw [inv_len]; exact ld
    refine ⟨by omega, ⟨sd, by omega⟩, by omega, by rw [List.length_append]; omega, by omega, by decide, fun p hp => ?_⟩
    obtain ⟨q1, q2, q3, hp0⟩ := dr_free hp
    obtain ⟨pP, hp00⟩ := upd_none hp0
    simp only [↓a_C, ↓a_Op, ↓a_Un, ↓a_Test, ↓a_B, ↓a_And, ↓a_Or, ↓a_Not, ↓a_Yes, ↓a_If, ↓a_AndV, ↓a_OrV, ↓a_NotV, ↓a_Seq, ↓a_Next, ↓a_Asg, ↓a_Name, ↓a_Ret, ↓a_RetN, ↓a_IfS, ↓a_Drop, ↓a_Nil, ↓a_Cons, ↓a_CB, ↓a_C0, ↓a_Par, ↓a_Mth, ↓a_Mth0, ↓a_For, ↓a_Lc, ↓a_lcTurn, ↓a_Sl, ↓a_NoPart, ↓a_Part, ↓a_Chain, ↓a_Lst, ↓a_Tup, ↓a_While, ↓a_addI, ↓a_addS, ↓a_addL, ↓a_eqI, ↓a_eqS, ↓a_eqB, ↓a_neI, ↓a_neS, ↓a_neB, ↓a_itS, ↓a_itR, ↓a_itK, ↓a_nil1, ↓a_nilR, ↓a_revS, ↓a_revT, ↓a_lenS, ↓a_lenR, ↓a_abs, ↓a_int, ↓a_intB, ↓a_listR, ↓a_listS, ↓a_all, ↓a_any, ↓a_append, ↓a_pop, ↓a_popI, ↓a_extend, ↓a_join, ↓a_index, ↓a_upper, ↓a_lower, ↓a_wItem, ↓a_wIn, ↓a_inS, ↓a_inL, ↓a_isB, ↓a_slS, ↓a_slL, ↓a_isi, ↓a_iL, ↓a_iLr, ↓a_iT, ↓a_iTr, ↓a_iS, ↓a_iSs, ↓a_iR1, ↓a_iR1i, ↓a_iR2, ↓a_iR2i, ↓a_isLst, ↓a_isTxt, ↓a_gU, ↓a_gT, ↓a_gCons, ↓a_gNil, ↓callU_pure, ↓onSome_some, ↓r_v0, ↓r_vS, ↓r_par, ↓r_I, ↓r_I0, ↓r_U, ↓r_test, ↓r_int, ↓st0, ↓stS, ↓wp0, ↓wpS, lstO_l, itmO_l, itmO_f, seqO_l, seqO_t, ltO_l, ltO_t, tupO_t, dkO_k, lenO_l, lenO_t, lenO_k, getO_l, getO_t, getO_f, getO_k, getK_k, atI_0, atI_1, atI_2, atI_3, sizeLine_eq, L2.start, Nat.zero_le, List.replicate_succ, List.replicate_zero, Nat.reduceSub, Nat.sub_self,
  decide_true, decide_false, eTxt, tyName, tyn1, tyn2, tyn3, tyn4, tyn5, tyn6, isiB_same, allTxt_map, allTxt_sign, allBl_map, joinL_nil, flat_one, flat_sign, sum_one, sum_sign, all_map_id, any_map_id, List.filterMap_eq_map', List.length_map, Nat.mul_zero, Nat.add_zero, List.length_reverse, List.map_id', allTxt, allBl,
  S_len, S_tl, S_app, S_one, S_inj, List.map_cons, List.map_nil, List.cons_append, List.nil_append, upd_same, Option.map_some, Option.map_none, if_true, if_false, reduceIte, Bool.false_eq_true, Bool.not_true, Bool.not_false, decide_eq_true_eq, exists_eq_left, exists_eq_left', and_true, true_and, V.str.injEq, V.int.injEq, V.bl.injEq, V.ref.injEq, List.length_cons, List.length_nil, Nat.zero_add, lit_dig, lit_gre, lit_lum, lit_tur, ↓lit0, ↓lit1, ↓lit2, ↓lit3, ↓lit4, ↓c_bool1, ↓c_str1, ↓wUNDOS, ↓c_need, ↓cq_joined, ↓c_lundo, upd_ne (Ne.symm pP), dr_ne p1 p2 p3, dr_out' q1 q2 q3, cut_fromI ra (by decide : (0 : Int) ≤ 3)]
    refine ⟨by decide, fun t ht => ?_⟩
    obtain ⟨r1, r2, r3, ht0⟩ := dr_free ht
    obtain ⟨tp, ht1⟩ := upd_none ht0
    obtain ⟨tP, ht2⟩ := upd_none ht1
    have htx : ∀ l ∈ [ra, rb, rc, ra ++ inv (ra.drop (Int.toNat 3)) ++ rb, rc ++ rb], stepsB l = true ∧ l.length ≤ 90 := by
      intro l hl
      have si := inv_steps sd
      have e1 : (ra ++ inv (ra.drop (Int.toNat 3)) ++ rb).length ≤ 90 := by rw [List.length_append, List.length_append]; omega
      have e2 : (rc ++ rb).length ≤ 90 := by rw [List.length_append]; omega
      simp only [List.mem_cons, List.not_mem_nil, or_false] at hl
      rcases hl with rfl | rfl | rfl | rfl | rfl
      · exact ⟨sa, by omega⟩
      · exact ⟨sb, by omega⟩
      · exact ⟨sc, by omega⟩
      · exact ⟨steps_both (steps_both sa si) sb, e1⟩
      · exact ⟨steps_both sc sb, e2⟩
    rw [dr_out' r1 r2 r3]
    generalize ra ++ inv (ra.drop (Int.toNat 3)) ++ rb = rd at htx ⊢
    generalize rc ++ rb = re at htx ⊢
    have tu3 : st2.turn ≤ 194 := by
      have : st2.turn ≤ 5 + 63 * ((3 : Nat) : Int) := tu2
      omega
    refine for_at (emb := eTxt) (ks := [ra, rb, rc, rd, re]) (goes_list t _) (fun pre σ Hc => ∃ (st' : Dst) (B : Hp) (x y : Option V), σ = [some (.ref scr), some (.ref D), some (.str (S dl)), some (.ref P), x, y, none, none, none, none] ∧ Hc = dr B D G L st' ∧
        B P = some (.lst [eTxt ra, eTxt rb, eTxt rc]) ∧ B t = some (.lst ([ra, rb, rc, rd, re].map eTxt)) ∧ Dok st' ∧ st'.turn ≤ 194 + 180 * pre.length) (fun pre σ Hc ⟨st', B, x, y, _, eh, _, bt, _⟩ => ?_)
      ⟨st2, _, _, _, rfl, rfl, ?_, upd_same, ok2, by show st2.turn ≤ 194 + 180 * ((0 : Nat) : Int); omega⟩ ?_ ?_
    · subst eh
      exact .inl (.inl (by rw [dr_ne r1 r2 r3]; exact bt))
    · rw [upd_ne (Ne.symm tP), upd_ne (Ne.symm pP), upd_same]
    · rintro pre l post σ Hc ep ⟨st', B, x, y, rfl, rfl, bP, bt, ok', tu⟩
      obtain ⟨hs, hl⟩ := htx l (by rw [ep]; simp)
      have hpre : pre.length < 5 := by
        have h2 := congrArg List.length ep
        simp only [List.length_append, List.length_cons, List.length_nil] at h2
        omega
      have hR : ∀ m : List Nat, stepsB m = true → m.length ≤ 400 → rowB m = true := fun m h1 h2 => by unfold rowB; rw [show m.all isStep = true from h1, decide_eq_true h2] <;> rfl
      have l1 := red_len l
      have l2 := inv_len l
      have l3 : (l ++ inv l).length ≤ 180 := by rw [List.length_append]; omega
      have l4 : (inv l ++ l).length ≤ 180 := by rw [List.length_append]; omega
      have hi := inv_steps hs
      have hd := red_steps hs
      have f1 := hR l hs (by omega)
      have f2 := hR _ hd (by omega)
      have f3 := hR _ hi (by omega)
      have f4 := hR _ (steps_both hs hi) (by omega)
      have f5 := hR _ (steps_both hi hs) (by omega)
      have g1 : l.length ≤ 100000 := by omega
      have g2 : (red l).length ≤ 100000 := by omega
      have g3 : (inv l).length ≤ 100000 := by omega
      have g4 : (l ++ inv l).length ≤ 100000 := by omega
      have g5 : (inv l ++ l).length ≤ 100000 := by omega
      have g6 : l.length + (inv l).length ≤ 16777216 := by omega
      have g7 : (inv l).length + l.length ≤ 16777216 := by omega
      have m1 := red_red hs
      have m2 := red_inv hs
      have m3 := red_inv' hs
      have m4 := inv_inv hs
      have m5 := inv_red hs
      have m6 : shortB (red l) = true := by unfold shortB; rw [f2, decide_eq_true m1] <;> rfl
      simp only [↓a_C, ↓a_Op, ↓a_Un, ↓a_Test, ↓a_B, ↓a_And, ↓a_Or, ↓a_Not, ↓a_Yes, ↓a_If, ↓a_AndV, ↓a_OrV, ↓a_NotV, ↓a_Seq, ↓a_Next, ↓a_Asg, ↓a_Name, ↓a_Ret, ↓a_RetN, ↓a_IfS, ↓a_Drop, ↓a_Nil, ↓a_Cons, ↓a_CB, ↓a_C0, ↓a_Par, ↓a_Mth, ↓a_Mth0, ↓a_For, ↓a_Lc, ↓a_lcTurn, ↓a_Sl, ↓a_NoPart, ↓a_Part, ↓a_Chain, ↓a_Lst, ↓a_Tup, ↓a_While, ↓a_addI, ↓a_addS, ↓a_addL, ↓a_eqI, ↓a_eqS, ↓a_eqB, ↓a_neI, ↓a_neS, ↓a_neB, ↓a_itS, ↓a_itR, ↓a_itK, ↓a_nil1, ↓a_nilR, ↓a_revS, ↓a_revT, ↓a_lenS, ↓a_lenR, ↓a_abs, ↓a_int, ↓a_intB, ↓a_listR, ↓a_listS, ↓a_all, ↓a_any, ↓a_append, ↓a_pop, ↓a_popI, ↓a_extend, ↓a_join, ↓a_index, ↓a_upper, ↓a_lower, ↓a_wItem, ↓a_wIn, ↓a_inS, ↓a_inL, ↓a_isB, ↓a_slS, ↓a_slL, ↓a_isi, ↓a_iL, ↓a_iLr, ↓a_iT, ↓a_iTr, ↓a_iS, ↓a_iSs, ↓a_iR1, ↓a_iR1i, ↓a_iR2, ↓a_iR2i, ↓a_isLst, ↓a_isTxt, ↓a_gU, ↓a_gT, ↓a_gCons, ↓a_gNil, ↓callU_pure, ↓onSome_some, ↓r_v0, ↓r_vS, ↓r_par, ↓r_I, ↓r_I0, ↓r_U, ↓r_test, ↓r_int, ↓st0, ↓stS, ↓wp0, ↓wpS, lstO_l, itmO_l, itmO_f, seqO_l, seqO_t, ltO_l, ltO_t, tupO_t, dkO_k, lenO_l, lenO_t, lenO_k, getO_l, getO_t, getO_f, getO_k, getK_k, atI_0, atI_1, atI_2, atI_3, sizeLine_eq, L2.start, Nat.zero_le, List.replicate_succ, List.replicate_zero, Nat.reduceSub, Nat.sub_self,
  decide_true, decide_false, eTxt, tyName, tyn1, tyn2, tyn3, tyn4, tyn5, tyn6, isiB_same, allTxt_map, allTxt_sign, allBl_map, joinL_nil, flat_one, flat_sign, sum_one, sum_sign, all_map_id, any_map_id, List.filterMap_eq_map', List.length_map, Nat.mul_zero, Nat.add_zero, List.length_reverse, List.map_id', allTxt, allBl,
  S_len, S_tl, S_app, S_one, S_inj, List.map_cons, List.map_nil, List.cons_append, List.nil_append, upd_same, Option.map_some, Option.map_none, if_true, if_false, reduceIte, Bool.false_eq_true, Bool.not_true, Bool.not_false, decide_eq_true_eq, exists_eq_left, exists_eq_left', and_true, true_and, V.str.injEq, V.int.injEq, V.bl.injEq, V.ref.injEq, List.length_cons, List.length_nil, Nat.zero_add, lit_dig, lit_gre, lit_lum, lit_tur, ↓lit0, ↓lit1, ↓lit2, ↓lit3, ↓lit4, ↓c_bool1, ↓c_str1, ↓wUNDOS, ↓c_need, ↓cq_joined, ↓c_lundo, f1, g1]
      simp only [Then]
      simp only [↓a_C, ↓a_Op, ↓a_Un, ↓a_Test, ↓a_B, ↓a_And, ↓a_Or, ↓a_Not, ↓a_Yes, ↓a_If, ↓a_AndV, ↓a_OrV, ↓a_NotV, ↓a_Seq, ↓a_Next, ↓a_Asg, ↓a_Name, ↓a_Ret, ↓a_RetN, ↓a_IfS, ↓a_Drop, ↓a_Nil, ↓a_Cons, ↓a_CB, ↓a_C0, ↓a_Par, ↓a_Mth, ↓a_Mth0, ↓a_For, ↓a_Lc, ↓a_lcTurn, ↓a_Sl, ↓a_NoPart, ↓a_Part, ↓a_Chain, ↓a_Lst, ↓a_Tup, ↓a_While, ↓a_addI, ↓a_addS, ↓a_addL, ↓a_eqI, ↓a_eqS, ↓a_eqB, ↓a_neI, ↓a_neS, ↓a_neB, ↓a_itS, ↓a_itR, ↓a_itK, ↓a_nil1, ↓a_nilR, ↓a_revS, ↓a_revT, ↓a_lenS, ↓a_lenR, ↓a_abs, ↓a_int, ↓a_intB, ↓a_listR, ↓a_listS, ↓a_all, ↓a_any, ↓a_append, ↓a_pop, ↓a_popI, ↓a_extend, ↓a_join, ↓a_index, ↓a_upper, ↓a_lower, ↓a_wItem, ↓a_wIn, ↓a_inS, ↓a_inL, ↓a_isB, ↓a_slS, ↓a_slL, ↓a_isi, ↓a_iL, ↓a_iLr, ↓a_iT, ↓a_iTr, ↓a_iS, ↓a_iSs, ↓a_iR1, ↓a_iR1i, ↓a_iR2, ↓a_iR2i, ↓a_isLst, ↓a_isTxt, ↓a_gU, ↓a_gT, ↓a_gCons, ↓a_gNil, ↓callU_pure, ↓onSome_some, ↓r_v0, ↓r_vS, ↓r_par, ↓r_I, ↓r_I0, ↓r_U, ↓r_test, ↓r_int, ↓st0, ↓stS, ↓wp0, ↓wpS, lstO_l, itmO_l, itmO_f, seqO_l, seqO_t, ltO_l, ltO_t, tupO_t, dkO_k, lenO_l, lenO_t, lenO_k, getO_l, getO_t, getO_f, getO_k, getK_k, atI_0, atI_1, atI_2, atI_3, sizeLine_eq, L2.start, Nat.zero_le, List.replicate_succ, List.replicate_zero, Nat.reduceSub, Nat.sub_self,
  decide_true, decide_false, eTxt, tyName, tyn1, tyn2, tyn3, tyn4, tyn5, tyn6, isiB_same, allTxt_map, allTxt_sign, allBl_map, joinL_nil, flat_one, flat_sign, sum_one, sum_sign, all_map_id, any_map_id, List.filterMap_eq_map', List.length_map, Nat.mul_zero, Nat.add_zero, List.length_reverse, List.map_id', allTxt, allBl,
  S_len, S_tl, S_app, S_one, S_inj, List.map_cons, List.map_nil, List.cons_append, List.nil_append, upd_same, Option.map_some, Option.map_none, if_true, if_false, reduceIte, Bool.false_eq_true, Bool.not_true, Bool.not_false, decide_eq_true_eq, exists_eq_left, exists_eq_left', and_true, true_and, V.str.injEq, V.int.injEq, V.bl.injEq, V.ref.injEq, List.length_cons, List.length_nil, Nat.zero_add, lit_dig, lit_gre, lit_lum, lit_tur, ↓lit0, ↓lit1, ↓lit2, ↓lit3, ↓lit4, ↓c_bool1, ↓c_str1, ↓wUNDOS, ↓c_need, ↓cq_joined, ↓c_lundo, f1, g1, f2, g2]
      refine thin_go ad ok' (by omega) hs (by omega) fun s1 ok1 u1 _ => ?_
      simp only [↓a_C, ↓a_Op, ↓a_Un, ↓a_Test, ↓a_B, ↓a_And, ↓a_Or, ↓a_Not, ↓a_Yes, ↓a_If, ↓a_AndV, ↓a_OrV, ↓a_NotV, ↓a_Seq, ↓a_Next, ↓a_Asg, ↓a_Name, ↓a_Ret, ↓a_RetN, ↓a_IfS, ↓a_Drop, ↓a_Nil, ↓a_Cons, ↓a_CB, ↓a_C0, ↓a_Par, ↓a_Mth, ↓a_Mth0, ↓a_For, ↓a_Lc, ↓a_lcTurn, ↓a_Sl, ↓a_NoPart, ↓a_Part, ↓a_Chain, ↓a_Lst, ↓a_Tup, ↓a_While, ↓a_addI, ↓a_addS, ↓a_addL, ↓a_eqI, ↓a_eqS, ↓a_eqB, ↓a_neI, ↓a_neS, ↓a_neB, ↓a_itS, ↓a_itR, ↓a_itK, ↓a_nil1, ↓a_nilR, ↓a_revS, ↓a_revT, ↓a_lenS, ↓a_lenR, ↓a_abs, ↓a_int, ↓a_intB, ↓a_listR, ↓a_listS, ↓a_all, ↓a_any, ↓a_append, ↓a_pop, ↓a_popI, ↓a_extend, ↓a_join, ↓a_index, ↓a_upper, ↓a_lower, ↓a_wItem, ↓a_wIn, ↓a_inS, ↓a_inL, ↓a_isB, ↓a_slS, ↓a_slL, ↓a_isi, ↓a_iL, ↓a_iLr, ↓a_iT, ↓a_iTr, ↓a_iS, ↓a_iSs, ↓a_iR1, ↓a_iR1i, ↓a_iR2, ↓a_iR2i, ↓a_isLst, ↓a_isTxt, ↓a_gU, ↓a_gT, ↓a_gCons, ↓a_gNil, ↓callU_pure, ↓onSome_some, ↓r_v0, ↓r_vS, ↓r_par, ↓r_I, ↓r_I0, ↓r_U, ↓r_test, ↓r_int, ↓st0, ↓stS, ↓wp0, ↓wpS, lstO_l, itmO_l, itmO_f, seqO_l, seqO_t, ltO_l, ltO_t, tupO_t, dkO_k, lenO_l, lenO_t, lenO_k, getO_l, getO_t, getO_f, getO_k, getK_k, atI_0, atI_1, atI_2, atI_3, sizeLine_eq, L2.start, Nat.zero_le, List.replicate_succ, List.replicate_zero, Nat.reduceSub, Nat.sub_self,
  decide_true, decide_false, eTxt, tyName, tyn1, tyn2, tyn3, tyn4, tyn5, tyn6, isiB_same, allTxt_map, allTxt_sign, allBl_map, joinL_nil, flat_one, flat_sign, sum_one, sum_sign, all_map_id, any_map_id, List.filterMap_eq_map', List.length_map, Nat.mul_zero, Nat.add_zero, List.length_reverse, List.map_id', allTxt, allBl,
  S_len, S_tl, S_app, S_one, S_inj, List.map_cons, List.map_nil, List.cons_append, List.nil_append, upd_same, Option.map_some, Option.map_none, if_true, if_false, reduceIte, Bool.false_eq_true, Bool.not_true, Bool.not_false, decide_eq_true_eq, exists_eq_left, exists_eq_left', and_true, true_and, V.str.injEq, V.int.injEq, V.bl.injEq, V.ref.injEq, List.length_cons, List.length_nil, Nat.zero_add, lit_dig, lit_gre, lit_lum, lit_tur, ↓lit0, ↓lit1, ↓lit2, ↓lit3, ↓lit4, ↓c_bool1, ↓c_str1, ↓wUNDOS, ↓c_need, ↓cq_joined, ↓c_lundo]
      refine thin_go ad ok1 (by omega) hs (by omega) fun s2 ok2 u2 _ => ?_
      simp only [↓a_C, ↓a_Op, ↓a_Un, ↓a_Test, ↓a_B, ↓a_And, ↓a_Or, ↓a_Not, ↓a_Yes, ↓a_If, ↓a_AndV, ↓a_OrV, ↓a_NotV, ↓a_Seq, ↓a_Next, ↓a_Asg, ↓a_Name, ↓a_Ret, ↓a_RetN, ↓a_IfS, ↓a_Drop, ↓a_Nil, ↓a_Cons, ↓a_CB, ↓a_C0, ↓a_Par, ↓a_Mth, ↓a_Mth0, ↓a_For, ↓a_Lc, ↓a_lcTurn, ↓a_Sl, ↓a_NoPart, ↓a_Part, ↓a_Chain, ↓a_Lst, ↓a_Tup, ↓a_While, ↓a_addI, ↓a_addS, ↓a_addL, ↓a_eqI, ↓a_eqS, ↓a_eqB, ↓a_neI, ↓a_neS, ↓a_neB, ↓a_itS, ↓a_itR, ↓a_itK, ↓a_nil1, ↓a_nilR, ↓a_revS, ↓a_revT, ↓a_lenS, ↓a_lenR, ↓a_abs, ↓a_int, ↓a_intB, ↓a_listR, ↓a_listS, ↓a_all, ↓a_any, ↓a_append, ↓a_pop, ↓a_popI, ↓a_extend, ↓a_join, ↓a_index, ↓a_upper, ↓a_lower, ↓a_wItem, ↓a_wIn, ↓a_inS, ↓a_inL, ↓a_isB, ↓a_slS, ↓a_slL, ↓a_isi, ↓a_iL, ↓a_iLr, ↓a_iT, ↓a_iTr, ↓a_iS, ↓a_iSs, ↓a_iR1, ↓a_iR1i, ↓a_iR2, ↓a_iR2i, ↓a_isLst, ↓a_isTxt, ↓a_gU, ↓a_gT, ↓a_gCons, ↓a_gNil, ↓callU_pure, ↓onSome_some, ↓r_v0, ↓r_vS, ↓r_par, ↓r_I, ↓r_I0, ↓r_U, ↓r_test, ↓r_int, ↓st0, ↓stS, ↓wp0, ↓wpS, lstO_l, itmO_l, itmO_f, seqO_l, seqO_t, ltO_l, ltO_t, tupO_t, dkO_k, lenO_l, lenO_t, lenO_k, getO_l, getO_t, getO_f, getO_k, getK_k, atI_0, atI_1, atI_2, atI_3, sizeLine_eq, L2.start, Nat.zero_le, List.replicate_succ, List.replicate_zero, Nat.reduceSub, Nat.sub_self,
  decide_true, decide_false, eTxt, tyName, tyn1, tyn2, tyn3, tyn4, tyn5, tyn6, isiB_same, allTxt_map, allTxt_sign, allBl_map, joinL_nil, flat_one, flat_sign, sum_one, sum_sign, all_map_id, any_map_id, List.filterMap_eq_map', List.length_map, Nat.mul_zero, Nat.add_zero, List.length_reverse, List.map_id', allTxt, allBl,
  S_len, S_tl, S_app, S_one, S_inj, List.map_cons, List.map_nil, List.cons_append, List.nil_append, upd_same, Option.map_some, Option.map_none, if_true, if_false, reduceIte, Bool.false_eq_true, Bool.not_true, Bool.not_false, decide_eq_true_eq, exists_eq_left, exists_eq_left', and_true, true_and, V.str.injEq, V.int.injEq, V.bl.injEq, V.ref.injEq, List.length_cons, List.length_nil, Nat.zero_add, lit_dig, lit_gre, lit_lum, lit_tur, ↓lit0, ↓lit1, ↓lit2, ↓lit3, ↓lit4, ↓c_bool1, ↓c_str1, ↓wUNDOS, ↓c_need, ↓cq_joined, ↓c_lundo, f1, g1, f2, g2, m6]
      simp only [Then]
      simp only [↓a_C, ↓a_Op, ↓a_Un, ↓a_Test, ↓a_B, ↓a_And, ↓a_Or, ↓a_Not, ↓a_Yes, ↓a_If, ↓a_AndV, ↓a_OrV, ↓a_NotV, ↓a_Seq, ↓a_Next, ↓a_Asg, ↓a_Name, ↓a_Ret, ↓a_RetN, ↓a_IfS, ↓a_Drop, ↓a_Nil, ↓a_Cons, ↓a_CB, ↓a_C0, ↓a_Par, ↓a_Mth, ↓a_Mth0, ↓a_For, ↓a_Lc, ↓a_lcTurn, ↓a_Sl, ↓a_NoPart, ↓a_Part, ↓a_Chain, ↓a_Lst, ↓a_Tup, ↓a_While, ↓a_addI, ↓a_addS, ↓a_addL, ↓a_eqI, ↓a_eqS, ↓a_eqB, ↓a_neI, ↓a_neS, ↓a_neB, ↓a_itS, ↓a_itR, ↓a_itK, ↓a_nil1, ↓a_nilR, ↓a_revS, ↓a_revT, ↓a_lenS, ↓a_lenR, ↓a_abs, ↓a_int, ↓a_intB, ↓a_listR, ↓a_listS, ↓a_all, ↓a_any, ↓a_append, ↓a_pop, ↓a_popI, ↓a_extend, ↓a_join, ↓a_index, ↓a_upper, ↓a_lower, ↓a_wItem, ↓a_wIn, ↓a_inS, ↓a_inL, ↓a_isB, ↓a_slS, ↓a_slL, ↓a_isi, ↓a_iL, ↓a_iLr, ↓a_iT, ↓a_iTr, ↓a_iS, ↓a_iSs, ↓a_iR1, ↓a_iR1i, ↓a_iR2, ↓a_iR2i, ↓a_isLst, ↓a_isTxt, ↓a_gU, ↓a_gT, ↓a_gCons, ↓a_gNil, ↓callU_pure, ↓onSome_some, ↓r_v0, ↓r_vS, ↓r_par, ↓r_I, ↓r_I0, ↓r_U, ↓r_test, ↓r_int, ↓st0, ↓stS, ↓wp0, ↓wpS, lstO_l, itmO_l, itmO_f, seqO_l, seqO_t, ltO_l, ltO_t, tupO_t, dkO_k, lenO_l, lenO_t, lenO_k, getO_l, getO_t, getO_f, getO_k, getK_k, atI_0, atI_1, atI_2, atI_3, sizeLine_eq, L2.start, Nat.zero_le, List.replicate_succ, List.replicate_zero, Nat.reduceSub, Nat.sub_self,
  decide_true, decide_false, eTxt, tyName, tyn1, tyn2, tyn3, tyn4, tyn5, tyn6, isiB_same, allTxt_map, allTxt_sign, allBl_map, joinL_nil, flat_one, flat_sign, sum_one, sum_sign, all_map_id, any_map_id, List.filterMap_eq_map', List.length_map, Nat.mul_zero, Nat.add_zero, List.length_reverse, List.map_id', allTxt, allBl,
  S_len, S_tl, S_app, S_one, S_inj, List.map_cons, List.map_nil, List.cons_append, List.nil_append, upd_same, Option.map_some, Option.map_none, if_true, if_false, reduceIte, Bool.false_eq_true, Bool.not_true, Bool.not_false, decide_eq_true_eq, exists_eq_left, exists_eq_left', and_true, true_and, V.str.injEq, V.int.injEq, V.bl.injEq, V.ref.injEq, List.length_cons, List.length_nil, Nat.zero_add, lit_dig, lit_gre, lit_lum, lit_tur, ↓lit0, ↓lit1, ↓lit2, ↓lit3, ↓lit4, ↓c_bool1, ↓c_str1, ↓wUNDOS, ↓c_need, ↓cq_joined, ↓c_lundo, f1, g1, f2, g2, f3, g3, f4, g4, f5, g5, g6, g7, m1, m2, m3, m4, m5]
      simp only [Then]
      simp only [↓a_C, ↓a_Op, ↓a_Un, ↓a_Test, ↓a_B, ↓a_And, ↓a_Or, ↓a_Not, ↓a_Yes, ↓a_If, ↓a_AndV, ↓a_OrV, ↓a_NotV, ↓a_Seq, ↓a_Next, ↓a_Asg, ↓a_Name, ↓a_Ret, ↓a_RetN, ↓a_IfS, ↓a_Drop, ↓a_Nil, ↓a_Cons, ↓a_CB, ↓a_C0, ↓a_Par, ↓a_Mth, ↓a_Mth0, ↓a_For, ↓a_Lc, ↓a_lcTurn, ↓a_Sl, ↓a_NoPart, ↓a_Part, ↓a_Chain, ↓a_Lst, ↓a_Tup, ↓a_While, ↓a_addI, ↓a_addS, ↓a_addL, ↓a_eqI, ↓a_eqS, ↓a_eqB, ↓a_neI, ↓a_neS, ↓a_neB, ↓a_itS, ↓a_itR, ↓a_itK, ↓a_nil1, ↓a_nilR, ↓a_revS, ↓a_revT, ↓a_lenS, ↓a_lenR, ↓a_abs, ↓a_int, ↓a_intB, ↓a_listR, ↓a_listS, ↓a_all, ↓a_any, ↓a_append, ↓a_pop, ↓a_popI, ↓a_extend, ↓a_join, ↓a_index, ↓a_upper, ↓a_lower, ↓a_wItem, ↓a_wIn, ↓a_inS, ↓a_inL, ↓a_isB, ↓a_slS, ↓a_slL, ↓a_isi, ↓a_iL, ↓a_iLr, ↓a_iT, ↓a_iTr, ↓a_iS, ↓a_iSs, ↓a_iR1, ↓a_iR1i, ↓a_iR2, ↓a_iR2i, ↓a_isLst, ↓a_isTxt, ↓a_gU, ↓a_gT, ↓a_gCons, ↓a_gNil, ↓callU_pure, ↓onSome_some, ↓r_v0, ↓r_vS, ↓r_par, ↓r_I, ↓r_I0, ↓r_U, ↓r_test, ↓r_int, ↓st0, ↓stS, ↓wp0, ↓wpS, lstO_l, itmO_l, itmO_f, seqO_l, seqO_t, ltO_l, ltO_t, tupO_t, dkO_k, lenO_l, lenO_t, lenO_k, getO_l, getO_t, getO_f, getO_k, getK_k, atI_0, atI_1, atI_2, atI_3, sizeLine_eq, L2.start, Nat.zero_le, List.replicate_succ, List.replicate_zero, Nat.reduceSub, Nat.sub_self,
  decide_true, decide_false, eTxt, tyName, tyn1, tyn2, tyn3, tyn4, tyn5, tyn6, isiB_same, allTxt_map, allTxt_sign, allBl_map, joinL_nil, flat_one, flat_sign, sum_one, sum_sign, all_map_id, any_map_id, List.filterMap_eq_map', List.length_map, Nat.mul_zero, Nat.add_zero, List.length_reverse, List.map_id', allTxt, allBl,
  S_len, S_tl, S_app, S_one, S_inj, List.map_cons, List.map_nil, List.cons_append, List.nil_append, upd_same, Option.map_some, Option.map_none, if_true, if_false, reduceIte, Bool.false_eq_true, Bool.not_true, Bool.not_false, decide_eq_true_eq, exists_eq_left, exists_eq_left', and_true, true_and, V.str.injEq, V.int.injEq, V.bl.injEq, V.ref.injEq, List.length_cons, List.length_nil, Nat.zero_add, lit_dig, lit_gre, lit_lum, lit_tur, ↓lit0, ↓lit1, ↓lit2, ↓lit3, ↓lit4, ↓c_bool1, ↓c_str1, ↓wUNDOS, ↓c_need, ↓cq_joined, ↓c_lundo, f1, g1, f2, g2, f3, g3, f4, g4, f5, g5, g6, g7, m1, m2, m3, m4, m5]
      refine ⟨s2, B, _, _, rfl, rfl, bP, bt, ok2, ?_⟩
      rw [List.length_append, List.length_singleton]
      omega
    · rintro σ Hc ⟨st', B, x, y, rfl, rfl, bP, bt, ok', tu⟩
      have hR : ∀ m : List Nat, stepsB m = true → m.length ≤ 400 → rowB m = true := fun m h1 h2 => by unfold rowB; rw [show m.all isStep = true from h1, decide_eq_true h2] <;> rfl
      have la2 := red_len ra
      have lb2 := red_len rb
      have l1 : (red (ra ++ rb)).length ≤ 60 := Nat.le_trans (red_len _) (by rw [List.length_append]; omega)
      have l2 : (red (rb ++ rc)).length ≤ 60 := Nat.le_trans (red_len _) (by rw [List.length_append]; omega)
      have fa := hR _ sa (by omega)
      have fb := hR _ sb (by omega)
      have fc := hR _ sc (by omega)
      have fab := hR _ (red_steps (steps_both sa sb)) (by omega)
      have fbc := hR _ (red_steps (steps_both sb sc)) (by omega)
      have fra := hR _ (red_steps sa) (by omega)
      have frb := hR _ (red_steps sb) (by omega)
      have frab := hR (ra ++ rb) (steps_both sa sb) (by rw [List.length_append]; omega)
      have g1 : ra.length ≤ 100000 := by omega
      have g2 : rb.length ≤ 100000 := by omega
      have g3 : ra.length + rb.length ≤ 16777216 := by omega
      have g4 : (ra ++ rb).length ≤ 100000 := by rw [List.length_append]; omega
      have e1 : red (red (ra ++ rb) ++ rc) = red (ra ++ red (rb ++ rc)) := by rw [red_left (steps_both sa sb), red_right sa (steps_both sb sc), List.append_assoc]
      have e2 : red (red ra ++ red rb) = red (ra ++ rb) := by rw [red_left sa, red_right sa sb]
      simp only [Then]
      simp only [↓a_C, ↓a_Op, ↓a_Un, ↓a_Test, ↓a_B, ↓a_And, ↓a_Or, ↓a_Not, ↓a_Yes, ↓a_If, ↓a_AndV, ↓a_OrV, ↓a_NotV, ↓a_Seq, ↓a_Next, ↓a_Asg, ↓a_Name, ↓a_Ret, ↓a_RetN, ↓a_IfS, ↓a_Drop, ↓a_Nil, ↓a_Cons, ↓a_CB, ↓a_C0, ↓a_Par, ↓a_Mth, ↓a_Mth0, ↓a_For, ↓a_Lc, ↓a_lcTurn, ↓a_Sl, ↓a_NoPart, ↓a_Part, ↓a_Chain, ↓a_Lst, ↓a_Tup, ↓a_While, ↓a_addI, ↓a_addS, ↓a_addL, ↓a_eqI, ↓a_eqS, ↓a_eqB, ↓a_neI, ↓a_neS, ↓a_neB, ↓a_itS, ↓a_itR, ↓a_itK, ↓a_nil1, ↓a_nilR, ↓a_revS, ↓a_revT, ↓a_lenS, ↓a_lenR, ↓a_abs, ↓a_int, ↓a_intB, ↓a_listR, ↓a_listS, ↓a_all, ↓a_any, ↓a_append, ↓a_pop, ↓a_popI, ↓a_extend, ↓a_join, ↓a_index, ↓a_upper, ↓a_lower, ↓a_wItem, ↓a_wIn, ↓a_inS, ↓a_inL, ↓a_isB, ↓a_slS, ↓a_slL, ↓a_isi, ↓a_iL, ↓a_iLr, ↓a_iT, ↓a_iTr, ↓a_iS, ↓a_iSs, ↓a_iR1, ↓a_iR1i, ↓a_iR2, ↓a_iR2i, ↓a_isLst, ↓a_isTxt, ↓a_gU, ↓a_gT, ↓a_gCons, ↓a_gNil, ↓callU_pure, ↓onSome_some, ↓r_v0, ↓r_vS, ↓r_par, ↓r_I, ↓r_I0, ↓r_U, ↓r_test, ↓r_int, ↓st0, ↓stS, ↓wp0, ↓wpS, lstO_l, itmO_l, itmO_f, seqO_l, seqO_t, ltO_l, ltO_t, tupO_t, dkO_k, lenO_l, lenO_t, lenO_k, getO_l, getO_t, getO_f, getO_k, getK_k, atI_0, atI_1, atI_2, atI_3, sizeLine_eq, L2.start, Nat.zero_le, List.replicate_succ, List.replicate_zero, Nat.reduceSub, Nat.sub_self,
  decide_true, decide_false, eTxt, tyName, tyn1, tyn2, tyn3, tyn4, tyn5, tyn6, isiB_same, allTxt_map, allTxt_sign, allBl_map, joinL_nil, flat_one, flat_sign, sum_one, sum_sign, all_map_id, any_map_id, List.filterMap_eq_map', List.length_map, Nat.mul_zero, Nat.add_zero, List.length_reverse, List.map_id', allTxt, allBl,
  S_len, S_tl, S_app, S_one, S_inj, List.map_cons, List.map_nil, List.cons_append, List.nil_append, upd_same, Option.map_some, Option.map_none, if_true, if_false, reduceIte, Bool.false_eq_true, Bool.not_true, Bool.not_false, decide_eq_true_eq, exists_eq_left, exists_eq_left', and_true, true_and, V.str.injEq, V.int.injEq, V.bl.injEq, V.ref.injEq, List.length_cons, List.length_nil, Nat.zero_add, lit_dig, lit_gre, lit_lum, lit_tur, ↓lit0, ↓lit1, ↓lit2, ↓lit3, ↓lit4, ↓c_bool1, ↓c_str1, ↓wUNDOS, ↓c_need, ↓cq_joined, ↓c_lundo, dr_ne p1 p2 p3, bP]
      simp only [Then]
      simp only [↓a_C, ↓a_Op, ↓a_Un, ↓a_Test, ↓a_B, ↓a_And, ↓a_Or, ↓a_Not, ↓a_Yes, ↓a_If, ↓a_AndV, ↓a_OrV, ↓a_NotV, ↓a_Seq, ↓a_Next, ↓a_Asg, ↓a_Name, ↓a_Ret, ↓a_RetN, ↓a_IfS, ↓a_Drop, ↓a_Nil, ↓a_Cons, ↓a_CB, ↓a_C0, ↓a_Par, ↓a_Mth, ↓a_Mth0, ↓a_For, ↓a_Lc, ↓a_lcTurn, ↓a_Sl, ↓a_NoPart, ↓a_Part, ↓a_Chain, ↓a_Lst, ↓a_Tup, ↓a_While, ↓a_addI, ↓a_addS, ↓a_addL, ↓a_eqI, ↓a_eqS, ↓a_eqB, ↓a_neI, ↓a_neS, ↓a_neB, ↓a_itS, ↓a_itR, ↓a_itK, ↓a_nil1, ↓a_nilR, ↓a_revS, ↓a_revT, ↓a_lenS, ↓a_lenR, ↓a_abs, ↓a_int, ↓a_intB, ↓a_listR, ↓a_listS, ↓a_all, ↓a_any, ↓a_append, ↓a_pop, ↓a_popI, ↓a_extend, ↓a_join, ↓a_index, ↓a_upper, ↓a_lower, ↓a_wItem, ↓a_wIn, ↓a_inS, ↓a_inL, ↓a_isB, ↓a_slS, ↓a_slL, ↓a_isi, ↓a_iL, ↓a_iLr, ↓a_iT, ↓a_iTr, ↓a_iS, ↓a_iSs, ↓a_iR1, ↓a_iR1i, ↓a_iR2, ↓a_iR2i, ↓a_isLst, ↓a_isTxt, ↓a_gU, ↓a_gT, ↓a_gCons, ↓a_gNil, ↓callU_pure, ↓onSome_some, ↓r_v0, ↓r_vS, ↓r_par, ↓r_I, ↓r_I0, ↓r_U, ↓r_test, ↓r_int, ↓st0, ↓stS, ↓wp0, ↓wpS, lstO_l, itmO_l, itmO_f, seqO_l, seqO_t, ltO_l, ltO_t, tupO_t, dkO_k, lenO_l, lenO_t, lenO_k, getO_l, getO_t, getO_f, getO_k, getK_k, atI_0, atI_1, atI_2, atI_3, sizeLine_eq, L2.start, Nat.zero_le, List.replicate_succ, List.replicate_zero, Nat.reduceSub, Nat.sub_self,
  decide_true, decide_false, eTxt, tyName, tyn1, tyn2, tyn3, tyn4, tyn5, tyn6, isiB_same, allTxt_map, allTxt_sign, allBl_map, joinL_nil, flat_one, flat_sign, sum_one, sum_sign, all_map_id, any_map_id, List.filterMap_eq_map', List.length_map, Nat.mul_zero, Nat.add_zero, List.length_reverse, List.map_id', allTxt, allBl,
  S_len, S_tl, S_app, S_one, S_inj, List.map_cons, List.map_nil, List.cons_append, List.nil_append, upd_same, Option.map_some, Option.map_none, if_true, if_false, reduceIte, Bool.false_eq_true, Bool.not_true, Bool.not_false, decide_eq_true_eq, exists_eq_left, exists_eq_left', and_true, true_and, V.str.injEq, V.int.injEq, V.bl.injEq, V.ref.injEq, List.length_cons, List.length_nil, Nat.zero_add, lit_dig, lit_gre, lit_lum, lit_tur, ↓lit0, ↓lit1, ↓lit2, ↓lit3, ↓lit4, ↓c_bool1, ↓c_str1, ↓wUNDOS, ↓c_need, ↓cq_joined, ↓c_lundo, fa, fb, fc, fab, fbc, e1]
      simp only [Then]
      simp only [↓a_C, ↓a_Op, ↓a_Un, ↓a_Test, ↓a_B, ↓a_And, ↓a_Or, ↓a_Not, ↓a_Yes, ↓a_If, ↓a_AndV, ↓a_OrV, ↓a_NotV, ↓a_Seq, ↓a_Next, ↓a_Asg, ↓a_Name, ↓a_Ret, ↓a_RetN, ↓a_IfS, ↓a_Drop, ↓a_Nil, ↓a_Cons, ↓a_CB, ↓a_C0, ↓a_Par, ↓a_Mth, ↓a_Mth0, ↓a_For, ↓a_Lc, ↓a_lcTurn, ↓a_Sl, ↓a_NoPart, ↓a_Part, ↓a_Chain, ↓a_Lst, ↓a_Tup, ↓a_While, ↓a_addI, ↓a_addS, ↓a_addL, ↓a_eqI, ↓a_eqS, ↓a_eqB, ↓a_neI, ↓a_neS, ↓a_neB, ↓a_itS, ↓a_itR, ↓a_itK, ↓a_nil1, ↓a_nilR, ↓a_revS, ↓a_revT, ↓a_lenS, ↓a_lenR, ↓a_abs, ↓a_int, ↓a_intB, ↓a_listR, ↓a_listS, ↓a_all, ↓a_any, ↓a_append, ↓a_pop, ↓a_popI, ↓a_extend, ↓a_join, ↓a_index, ↓a_upper, ↓a_lower, ↓a_wItem, ↓a_wIn, ↓a_inS, ↓a_inL, ↓a_isB, ↓a_slS, ↓a_slL, ↓a_isi, ↓a_iL, ↓a_iLr, ↓a_iT, ↓a_iTr, ↓a_iS, ↓a_iSs, ↓a_iR1, ↓a_iR1i, ↓a_iR2, ↓a_iR2i, ↓a_isLst, ↓a_isTxt, ↓a_gU, ↓a_gT, ↓a_gCons, ↓a_gNil, ↓callU_pure, ↓onSome_some, ↓r_v0, ↓r_vS, ↓r_par, ↓r_I, ↓r_I0, ↓r_U, ↓r_test, ↓r_int, ↓st0, ↓stS, ↓wp0, ↓wpS, lstO_l, itmO_l, itmO_f, seqO_l, seqO_t, ltO_l, ltO_t, tupO_t, dkO_k, lenO_l, lenO_t, lenO_k, getO_l, getO_t, getO_f, getO_k, getK_k, atI_0, atI_1, atI_2, atI_3, sizeLine_eq, L2.start, Nat.zero_le, List.replicate_succ, List.replicate_zero, Nat.reduceSub, Nat.sub_self,
  decide_true, decide_false, eTxt, tyName, tyn1, tyn2, tyn3, tyn4, tyn5, tyn6, isiB_same, allTxt_map, allTxt_sign, allBl_map, joinL_nil, flat_one, flat_sign, sum_one, sum_sign, all_map_id, any_map_id, List.filterMap_eq_map', List.length_map, Nat.mul_zero, Nat.add_zero, List.length_reverse, List.map_id', allTxt, allBl,
  S_len, S_tl, S_app, S_one, S_inj, List.map_cons, List.map_nil, List.cons_append, List.nil_append, upd_same, Option.map_some, Option.map_none, if_true, if_false, reduceIte, Bool.false_eq_true, Bool.not_true, Bool.not_false, decide_eq_true_eq, exists_eq_left, exists_eq_left', and_true, true_and, V.str.injEq, V.int.injEq, V.bl.injEq, V.ref.injEq, List.length_cons, List.length_nil, Nat.zero_add, lit_dig, lit_gre, lit_lum, lit_tur, ↓lit0, ↓lit1, ↓lit2, ↓lit3, ↓lit4, ↓c_bool1, ↓c_str1, ↓wUNDOS, ↓c_need, ↓cq_joined, ↓c_lundo, fa, fb, fra, frb, frab, g1, g2, g3, g4, e2]
      exact q _

abbrev R : PySem.W.OpenRow := PySem.W.OpenLaw.row PySem.Challenge.rw_trialrows_k02_left_out_in_any_order
abbrev hk : PySem.W.Hook := He.hookX 6 fa fn (tabsOf wd) [] (exOf wd)
def ob (s : PySem.W.SharedT) : He.AlX := He.obsX 6 fa fn (tabsOf wd) [] (exOf wd) (HandSHeadRun.getT s)
theorem ob_eq (s : PySem.W.SharedT) : ob s = hk.obs s.abs := He.obsX_eq (HandSHeadRun.getT_eq s)
def loose0 : List PySem.Str := ["TrialError", "NoRow", "has_steps", "is_row", "is_short", "need_row", "reversed_steps", "shortened", "undone", "short", "joined", "_law_begun", "_law_next", "_law_pick", "_law_shuffled", "_law_undo", "_law_back", "_law_row", "_law_some", "_law_thinned", "UNDOS", "MOST_STEPS"]
def loose : List PySem.Str := loose0
theorem run (w : World) : HandSHeadRun.RunEq R (PySem.W.view R.prog [25]) hk ob 2000 loose w :=
  PySem.W.byRow2 (P := fun w => HandSHeadRun.RunEq R (PySem.W.view R.prog [25]) hk ob 2000 loose w) "special-get-raises" (fun w os => by kernel_rfl) (fun w os => by kernel_rfl) w
end Z
open PySem PySem.W PySem.Calls PyProof.Rows
theorem PySem.Challenge.cw_trialrows_k02_left_out_in_any_order_holds : PySem.Challenge.rw_trialrows_k02_left_out_in_any_order.Holds := by
  w_on; o_law
  refine HandSHeadRun.head_any (r := Z.R) (q := view Z.R.prog [25]) (H := Z.hk) (ob := Z.ob) (M := 2000) (loose := Z.loose) (d := HandSHeadRun.topDef Z.R.prog 25) (kwd := []) Z.ob_eq
    (by kernel_rfl) (fun s => by kernel_rfl) Z.run (by kernel_rfl) (by kernel_rfl) (by kernel_rfl) (by rfl) (by first | assumption | decide +kernel) (by decide +kernel) ⟨rfl, rfl, rfl, rfl, rfl, by decide +kernel⟩ ?hw ?hc
  case hw => w_witness2
  case hc =>
    refine L2.walk_ofE (l := PySem.Challenge.rw_trialrows_k02_left_out_in_any_order) (n := 63) (k := 5) (x := "_law_script") (CX := L2.CX0) rfl (by decide) (by kernel_rfl) ⟨rfl, by decide, by decide⟩ ?F (fun _ _ _ _ z => z)
    intro w mg fa h Y G hmg0
    obtain ⟨K, KX, c⟩ := Y
    have T := Z.ctx_of KX G c
    have hmg : mg ("law" : PySem.Str) = some (.ref fa) := by
      have e : (HandSHeadRun.topDef Z.R.prog 25).name = ("law" : PySem.Str) := by kernel_rfl
      rw [← e]
      exact hmg0
    obtain ⟨fd, F⟩ := T.fun_ Z.d_law 18 rfl
    have e := hmg.symm.trans (T.glo "law" 18 rfl)
    cases e
    have b := L2.FunD.bindsA (ps := ["_law_script"]) F fun _ _ _ _ _ _ us hl => match us, hl with | [_], _ => rfl
    exact ⟨K, fd, Z.sp_law K, KX, fun s v => b s [v] rfl, fun H a ns hl hO hS => Z.law_sp H a ns hl hO hS, fun base _ _ => Z.ok_law F T⟩
#print axioms PySem.Challenge.cw_trialrows_k02_left_out_in_any_order_holds

